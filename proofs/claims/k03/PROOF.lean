import PyProof.Rows.All
import Wide.All
import OpenK.AllK
import Wide.FinOn
import HandS.ForMost
import HandS.ForExc
import HandS.IsInst
import HandS.TupAny
import HandS.Deep
import HandS.DictComp
import HandS.CallSlots
import HandS.NoneIn
import HandS.Flow
import HandS.RaiseMore
import HandS.Text
import HandS.Small
import HandS.Style
import HandS.Iter
import HandS.Conv
import PySem.Challenge.RW_looseties_k03_whole_terms
set_option Elab.async false
set_option linter.all false
set_option maxRecDepth 100000
set_option maxHeartbeats 4000000
/-! Z0: a deterministic reading of the layer L2: values W, a logical heap (a list of objects), and how both stand for L2's values and heaps. -/
namespace Z
open PySem PySem.Spec PyProof.Rows L2

inductive W where
  | non | bl (b : Bool) | int (i : Int) | str (x : Str) | tup (ws : List W) | ref (n : Nat) | ty (n : String) | cls (c : Nat) | fn (i : Nat) | scr (ns : List Int)
  deriving Inhabited

inductive LO where
  | lst (xs : List W) | dic (kvs : List (Key × W)) | ins (c : Nat) (fs : List (Str × W)) | lck (kvs : List (Key × W))
  deriving Inhabited

abbrev LH := List LO
structure Exn where
  cls : Nat
  fs : List (Str × W)
inductive Res (α : Type) where
  | ok (a : α) (L : LH) | exc (e : Exn) (L : LH) | stk

structure Ctx where
  K : PySem.W.Frag
  cls : Nat → Addr
  fns : Nat → Addr

mutual
inductive RW (Γ : Ctx) (ρ : List Addr) (H : Hp) : W → V → Prop
  | non : RW Γ ρ H .non .non
  | bl (b : Bool) : RW Γ ρ H (.bl b) (.bl b)
  | int (i : Int) : RW Γ ρ H (.int i) (.int i)
  | str (x : Str) : RW Γ ρ H (.str x) (.str x)
  | ty (n : String) : RW Γ ρ H (.ty n) (.ty n)
  | tup {a : Addr} {vs : List V} {ws : List W} : SqT Γ.K H a vs → RWs Γ ρ H ws vs → RW Γ ρ H (.tup ws) (.ref a)
  | ref {n : Nat} {a : Addr} : ρ[n]? = some a → RW Γ ρ H (.ref n) (.ref a)
  | cls (c : Nat) : RW Γ ρ H (.cls c) (.ref (Γ.cls c))
  | fn (i : Nat) : RW Γ ρ H (.fn i) (.ref (Γ.fns i))
  | scr {a : Addr} {ns : List Int} : ((∃ ob, H a = some (.frz ob (.lst (ns.map V.int)))) ∨ SqL Γ.K (fun _ => none) a (ns.map V.int)) → RW Γ ρ H (.scr ns) (.ref a)
inductive RWs (Γ : Ctx) (ρ : List Addr) (H : Hp) : List W → List V → Prop
  | nil : RWs Γ ρ H [] []
  | cons {w : W} {v : V} {ws : List W} {vs : List V} : RW Γ ρ H w v → RWs Γ ρ H ws vs → RWs Γ ρ H (w :: ws) (v :: vs)
end

/-- the tuples and what is locked stay -/
structure Keep (H H' : Hp) : Prop where
  tup : ∀ a xs, H a = some (.tup xs) → H' a = some (.tup xs)
  frz : ∀ a o u, H a = some (.frz o u) → H' a = some (.frz o u)
theorem Keep.refl {H : Hp} : Keep H H := ⟨fun _ _ h => h, fun _ _ _ h => h⟩
theorem Keep.trans {H H1 H2 : Hp} (a : Keep H H1) (b : Keep H1 H2) : Keep H H2 := ⟨fun x y h => b.tup x y (a.tup x y h), fun x y z h => b.frz x y z (a.frz x y z h)⟩
theorem Keep.fresh {H : Hp} {p : Addr} {o : HO} (h : H p = none) : Keep H (upd H p o) :=
  ⟨fun a xs e => by rw [upd_ne (ne_of_none e h)]; exact e, fun a ob u e => by rw [upd_ne (ne_of_none e h)]; exact e⟩
/-- a changed object that is no tuple, not locked -/
def mutHO : HO → Bool
  | .lst _ => true | .dK _ => true | .ins _ _ _ => true | _ => false
theorem Keep.write {H : Hp} {p : Addr} {o o' : HO} (h : H p = some o) (hm : mutHO o = true) : Keep H (upd H p o') := by
  refine ⟨fun a xs e => ?_, fun a ob u e => ?_⟩
  · rw [upd_ne]; · exact e
    rintro rfl; rw [h] at e; cases e; cases hm
  · rw [upd_ne]; · exact e
    rintro rfl; rw [h] at e; cases e; cases hm
theorem Keep.sqT {K : PySem.W.Frag} {H H' : Hp} {a : Addr} {xs : List V} (k : Keep H H') (h : SqT K H a xs) : SqT K H' a xs := by
  rcases h with (h | ⟨o, h⟩) | h
  · exact .inl (.inl (k.tup _ _ h))
  · exact .inl (.inr ⟨o, k.frz _ _ _ h⟩)
  · exact .inr h

section
variable {Γ : Ctx} {ρ ρ' : List Addr} {H H' : Hp}
theorem pre_get {ρ ρ' : List Addr} {n : Nat} {a : Addr} (p : ρ <+: ρ') (h : ρ[n]? = some a) : ρ'[n]? = some a := by
  obtain ⟨t, rfl⟩ := p
  rw [List.getElem?_append_left]; · exact h
  exact (List.getElem?_eq_some_iff.mp h).1
mutual
theorem RW.mono (p : ρ <+: ρ') (k : Keep H H') : ∀ {w : W} {v : V}, RW Γ ρ H w v → RW Γ ρ' H' w v
  | _, _, .non => .non
  | _, _, .bl b => .bl b
  | _, _, .int b => .int b
  | _, _, .str b => .str b
  | _, _, .ty b => .ty b
  | _, _, .tup h r => .tup (k.sqT h) (RWs.mono p k r)
  | _, _, .ref h => .ref (pre_get p h)
  | _, _, .cls c => .cls c
  | _, _, .fn c => .fn c
  | _, _, .scr h => .scr (h.imp (fun ⟨ob, e⟩ => ⟨ob, k.frz _ _ _ e⟩) id)
theorem RWs.mono (p : ρ <+: ρ') (k : Keep H H') : ∀ {ws : List W} {vs : List V}, RWs Γ ρ H ws vs → RWs Γ ρ' H' ws vs
  | _, _, .nil => .nil
  | _, _, .cons r t => .cons (RW.mono p k r) (RWs.mono p k t)
end
theorem RWs.length : ∀ {ws : List W} {vs : List V}, RWs Γ ρ H ws vs → ws.length = vs.length
  | _, _, .nil => rfl
  | _, _, .cons _ t => by rw [List.length_cons, List.length_cons, RWs.length t]
theorem RWs.get : ∀ {ws : List W} {vs : List V} {i : Nat} {w : W}, RWs Γ ρ H ws vs → ws[i]? = some w → ∃ v, vs[i]? = some v ∧ RW Γ ρ H w v
  | _, _, _, _, .nil, e => by simp at e
  | _, _, 0, _, .cons r _, e => by simp at e; subst e; exact ⟨_, rfl, r⟩
  | _, _, i + 1, w, .cons _ t, e => by
    obtain ⟨v, h1, h2⟩ := RWs.get (i := i) (w := w) t (by simpa using e)
    exact ⟨v, by simpa using h1, h2⟩
theorem RWs.append : ∀ {ws ws' : List W} {vs vs' : List V}, RWs Γ ρ H ws vs → RWs Γ ρ H ws' vs' → RWs Γ ρ H (ws ++ ws') (vs ++ vs')
  | _, _, _, _, .nil, s => s
  | _, _, _, _, .cons r t, s => .cons r (RWs.append t s)
theorem RWs.set {x : W} {v : V} (r : RW Γ ρ H x v) : ∀ {ws : List W} {vs : List V} (i : Nat), RWs Γ ρ H ws vs → RWs Γ ρ H (ws.set i x) (vs.set i v)
  | _, _, _, .nil => .nil
  | _, _, 0, .cons _ t => .cons r t
  | _, _, i + 1, .cons q t => .cons q (RWs.set r i t)
theorem RWs.take : ∀ {ws : List W} {vs : List V} (n : Nat), RWs Γ ρ H ws vs → RWs Γ ρ H (ws.take n) (vs.take n)
  | _, _, 0, _ => .nil
  | _, _, _ + 1, .nil => .nil
  | _, _, n + 1, .cons r t => .cons r (RWs.take n t)
theorem RWs.drop : ∀ {ws : List W} {vs : List V} (n : Nat), RWs Γ ρ H ws vs → RWs Γ ρ H (ws.drop n) (vs.drop n)
  | _, _, 0, r => r
  | _, _, _ + 1, .nil => .nil
  | _, _, n + 1, .cons _ t => RWs.drop n t
theorem RWs.one {x : W} {v : V} (r : RW Γ ρ H x v) : RWs Γ ρ H [x] [v] := .cons r .nil

/-- names or keys with values -/
inductive RKs {κ : Type} (Γ : Ctx) (ρ : List Addr) (H : Hp) : List (κ × W) → List (κ × V) → Prop
  | nil : RKs Γ ρ H [] []
  | cons {k : κ} {w : W} {v : V} {ws : List (κ × W)} {vs : List (κ × V)} : RW Γ ρ H w v → RKs Γ ρ H ws vs → RKs Γ ρ H ((k, w) :: ws) ((k, v) :: vs)
theorem RKs.mono {κ : Type} (p : ρ <+: ρ') (k : Keep H H') : ∀ {ws : List (κ × W)} {vs : List (κ × V)}, RKs Γ ρ H ws vs → RKs Γ ρ' H' ws vs
  | _, _, .nil => .nil
  | _, _, .cons r t => .cons (RW.mono p k r) (RKs.mono p k t)
theorem RKs.length {κ : Type} : ∀ {ws : List (κ × W)} {vs : List (κ × V)}, RKs Γ ρ H ws vs → ws.length = vs.length
  | _, _, .nil => rfl
  | _, _, .cons _ t => by rw [List.length_cons, List.length_cons, RKs.length t]
theorem RKs.look {κ : Type} [BEq κ] {x : κ} : ∀ {ws : List (κ × W)} {vs : List (κ × V)}, RKs Γ ρ H ws vs →
    (∀ w, ws.lookup x = some w → ∃ v, vs.lookup x = some v ∧ RW Γ ρ H w v) ∧ (ws.lookup x = none → vs.lookup x = none)
  | _, _, .nil => ⟨fun _ h => by simp at h, fun _ => rfl⟩
  | _, _, .cons (k := k) (w := w) (v := v) (ws := ws) (vs := vs) r t => by
    obtain ⟨h1, h2⟩ := RKs.look (x := x) t
    rw [List.lookup_cons, List.lookup_cons]
    cases x == k with
    | true => exact ⟨fun w' e => by cases e; exact ⟨v, rfl, r⟩, fun e => by cases e⟩
    | false => exact ⟨h1, h2⟩

/-- what stands for an object -/
def RO (Γ : Ctx) (ρ : List Addr) (H : Hp) (a : Addr) : LO → Prop
  | .lst xs => ∃ vs, H a = some (.lst vs) ∧ RWs Γ ρ H xs vs
  | .dic kvs => ∃ vs, H a = some (.dK vs) ∧ RKs Γ ρ H kvs vs
  | .ins c fs => ∃ dx vs, H a = some (.ins (Γ.cls c) dx vs) ∧ RKs Γ ρ H fs vs
  | .lck kvs => ∃ od vs, H a = some (.frz od (.dK vs)) ∧ RKs Γ ρ H kvs vs
/-- an object that may be changed -/
def LO.mutb : LO → Bool
  | .lck _ => false | _ => true

structure RL (Γ : Ctx) (ρ : List Addr) (L : LH) (H : Hp) : Prop where
  len : ρ.length = L.length
  inj : ∀ (n m : Nat) (a : Addr) (o o' : LO), L[n]? = some o → L[m]? = some o' → ρ[n]? = some a → ρ[m]? = some a → n = m
  obj : ∀ (n : Nat) (o : LO), L[n]? = some o → ∃ a, ρ[n]? = some a ∧ RO Γ ρ H a o

theorem sqK {K : PySem.W.Frag} {a : Addr} {vs : List V} (h : SqL K (fun _ => none) a vs) (H : Hp) : SqL K H a vs := by
  rcases h with (h | ⟨o, h⟩) | h
  · cases h
  · cases h
  · exact .inr h
theorem RO.ex {a : Addr} {o : LO} (h : RO Γ ρ H a o) : ∃ ho, H a = some ho := by
  cases o with
  | lst xs => obtain ⟨vs, e, r⟩ := h; exact ⟨_, e⟩
  | dic kvs => obtain ⟨vs, e, r⟩ := h; exact ⟨_, e⟩
  | ins c fs => obtain ⟨dx, vs, e, r⟩ := h; exact ⟨_, e⟩
  | lck fs => obtain ⟨dx, vs, e, r⟩ := h; exact ⟨_, e⟩
theorem RO.mut {a : Addr} {o : LO} (h : RO Γ ρ H a o) (hm : o.mutb = true) : ∃ ho, H a = some ho ∧ mutHO ho = true := by
  cases o with
  | lck fs => cases hm
  | lst xs => obtain ⟨vs, e, r⟩ := h; exact ⟨_, e, rfl⟩
  | dic kvs => obtain ⟨vs, e, r⟩ := h; exact ⟨_, e, rfl⟩
  | ins c fs => obtain ⟨dx, vs, e, r⟩ := h; exact ⟨_, e, rfl⟩
/-- the object's own entry is kept -/
theorem RO.stay {a : Addr} {o : LO} (h : RO Γ ρ H a o) (pr : ρ <+: ρ') (k : Keep H H') (ha : ∀ ho, H a = some ho → H' a = some ho) : RO Γ ρ' H' a o := by
  cases o with
  | lst xs => obtain ⟨vs, e, r⟩ := h; exact ⟨vs, ha _ e, r.mono pr k⟩
  | dic kvs => obtain ⟨vs, e, r⟩ := h; exact ⟨vs, ha _ e, r.mono pr k⟩
  | ins c fs => obtain ⟨dx, vs, e, r⟩ := h; exact ⟨dx, vs, ha _ e, r.mono pr k⟩
  | lck fs => obtain ⟨dx, vs, e, r⟩ := h; exact ⟨dx, vs, ha _ e, r.mono pr k⟩
theorem RO.fresh {a p : Addr} {o : LO} {ho : HO} (h : RO Γ ρ H a o) (hp : H p = none) (pr : ρ <+: ρ') : RO Γ ρ' (upd H p ho) a o :=
  h.stay pr (.fresh hp) fun ho e => by rw [upd_ne (ne_of_none e hp)]; exact e
theorem pre_app (ρ : List Addr) (p : Addr) : ρ <+: ρ ++ [p] := ⟨[p], rfl⟩
/-- a new untold object -/
theorem RL.fresh {L : LH} {p : Addr} {ho : HO} (h : RL Γ ρ L H) (hp : H p = none) : RL Γ ρ L (upd H p ho) :=
  ⟨h.len, h.inj, fun n o e => let ⟨a, e1, r⟩ := h.obj n o e; ⟨a, e1, r.fresh hp (List.prefix_refl _)⟩⟩
/-- a new told object -/
theorem RL.push {L : LH} {p : Addr} {ho : HO} {o : LO} (h : RL Γ ρ L H) (hp : H p = none) (ho' : RO Γ (ρ ++ [p]) (upd H p ho) p o) : RL Γ (ρ ++ [p]) (L ++ [o]) (upd H p ho) := by
  have old : ∀ (n : Nat) (q : LO), L[n]? = some q → ρ[n]? ≠ some p := fun n q e z => by
    obtain ⟨a, e1, r⟩ := h.obj n q e
    obtain ⟨ho2, e2⟩ := r.ex
    rw [z] at e1; cases e1
    rw [hp] at e2; cases e2
  have lt : ∀ {n : Nat}, n < L.length → (L ++ [o])[n]? = L[n]? ∧ (ρ ++ [p])[n]? = ρ[n]? := fun hn =>
    ⟨List.getElem?_append_left hn, List.getElem?_append_left (by rw [h.len]; exact hn)⟩
  have at_ : (L ++ [o])[L.length]? = some o ∧ (ρ ++ [p])[L.length]? = some p := by
    rw [← h.len]
    constructor
    · rw [h.len]; exact List.getElem?_concat_length
    · exact List.getElem?_concat_length
  have cases_ : ∀ {n : Nat} {q : LO}, (L ++ [o])[n]? = some q → n < L.length ∨ n = L.length := fun {n q} e => by
    have := (List.getElem?_eq_some_iff.mp e).1
    rw [List.length_append, List.length_singleton] at this
    omega
  refine ⟨by rw [List.length_append, List.length_append, h.len]; rfl, fun n m a q q' e1 e2 e3 e4 => ?_, fun n q e => ?_⟩
  · rcases cases_ e1 with h1 | rfl <;> rcases cases_ e2 with h2 | rfl
    · rw [(lt h1).1] at e1; rw [(lt h2).1] at e2; rw [(lt h1).2] at e3; rw [(lt h2).2] at e4
      exact h.inj n m a q q' e1 e2 e3 e4
    · rw [(lt h1).1] at e1; rw [(lt h1).2] at e3; rw [at_.2] at e4; cases e4
      exact absurd e3 (old n q e1)
    · rw [(lt h2).1] at e2; rw [(lt h2).2] at e4; rw [at_.2] at e3; cases e3
      exact absurd e4 (old m q' e2)
    · rfl
  · rcases cases_ e with h1 | rfl
    · rw [(lt h1).1] at e
      obtain ⟨a, e1, r⟩ := h.obj n q e
      exact ⟨a, by rw [(lt h1).2]; exact e1, r.fresh hp (pre_app _ _)⟩
    · rw [at_.1] at e; cases e
      exact ⟨p, at_.2, ho'⟩
/-- what is told is tracked -/
theorem RL.there {L : LH} {a : Addr} (h : RL Γ ρ L H) (m : a ∈ ρ) : ∃ ho, H a = some ho := by
  obtain ⟨n, hn, rfl⟩ := List.getElem_of_mem m
  have hl : n < L.length := by rw [← h.len]; exact hn
  obtain ⟨b, eb, r⟩ := h.obj n L[n] (List.getElem?_eq_getElem hl)
  rw [List.getElem?_eq_getElem hn] at eb
  cases eb
  exact r.ex
theorem RL.out {L : LH} {p : Addr} (h : RL Γ ρ L H) (hp : H p = none) : p ∉ ρ := fun m => by
  obtain ⟨ho, e⟩ := h.there m
  rw [hp] at e; cases e
/-- a told object is changed -/
theorem RL.set {L : LH} {a : Addr} {n : Nat} {ho : HO} {o o' : LO} (h : RL Γ ρ L H) (e : L[n]? = some o) (ea : ρ[n]? = some a) (ho' : RO Γ ρ (upd H a ho) a o') (hm : o.mutb = true := by rfl) :
    RL Γ ρ (L.set n o') (upd H a ho) ∧ Keep H (upd H a ho) := by
  obtain ⟨a', ea', r⟩ := h.obj n o e
  rw [ea] at ea'; cases ea'
  obtain ⟨ho2, e2, m2⟩ := r.mut hm
  have k : Keep H (upd H a ho) := .write e2 m2
  have hn : n < L.length := (List.getElem?_eq_some_iff.mp e).1
  refine ⟨⟨by rw [List.length_set]; exact h.len, fun i j b q q' e1 e2 e3 e4 => ?_, fun m q em => ?_⟩, k⟩
  · have back : ∀ {i : Nat} {q : LO}, (L.set n o')[i]? = some q → ∃ q2, L[i]? = some q2 := fun {i q} z => by
      by_cases hi : n = i
      · subst hi; exact ⟨o, e⟩
      · rw [List.getElem?_set_ne hi] at z; exact ⟨q, z⟩
    obtain ⟨q1, f1⟩ := back e1
    obtain ⟨q2, f2⟩ := back e2
    exact h.inj i j b q1 q2 f1 f2 e3 e4
  · by_cases hi : n = m
    · subst hi
      rw [List.getElem?_set_self hn] at em; cases em
      exact ⟨a, ea, ho'⟩
    · rw [List.getElem?_set_ne hi] at em
      obtain ⟨b, eb, rb⟩ := h.obj m q em
      refine ⟨b, eb, rb.stay (List.prefix_refl _) k fun ho3 e3 => ?_⟩
      rw [upd_ne]; · exact e3
      rintro rfl
      exact hi (h.inj n m b o q e em ea eb)
end

/-- the slots -/
abbrev Env := List (Option W)
structure REnv (Γ : Ctx) (ρ : List Addr) (H : Hp) (env : Env) (σ : L2.St) : Prop where
  len : env.length = σ.length
  val : ∀ (i : Nat) (w : W), env[i]? = some (some w) → ∃ v, σ[i]? = some (some v) ∧ RW Γ ρ H w v
theorem REnv.mono {Γ : Ctx} {ρ ρ' : List Addr} {H H' : Hp} {env : Env} {σ : L2.St} (h : REnv Γ ρ H env σ) (p : ρ <+: ρ') (k : Keep H H') : REnv Γ ρ' H' env σ :=
  ⟨h.len, fun i w e => let ⟨v, e1, r⟩ := h.val i w e; ⟨v, e1, r.mono p k⟩⟩
theorem REnv.set {Γ : Ctx} {ρ : List Addr} {H : Hp} {env : Env} {σ : L2.St} {w : W} {v : V} (h : REnv Γ ρ H env σ) (i : Nat) (r : RW Γ ρ H w v) : REnv Γ ρ H (env.set i (some w)) (σ.set i (some v)) := by
  refine ⟨by rw [List.length_set, List.length_set]; exact h.len, fun j w' e => ?_⟩
  by_cases hj : i = j
  · subst hj
    have hi : i < env.length := by
      have := (List.getElem?_eq_some_iff.mp e).1
      rwa [List.length_set] at this
    rw [List.getElem?_set_self hi] at e; cases e
    exact ⟨v, by rw [List.getElem?_set_self (by rw [← h.len]; exact hi)], r⟩
  · rw [List.getElem?_set_ne hj] at e
    obtain ⟨v', e1, r'⟩ := h.val j w' e
    exact ⟨v', by rw [List.getElem?_set_ne hj]; exact e1, r'⟩

/-! ### expressions -/
abbrev Ex := Env → LH → Res W
abbrev ExL := Env → LH → Res (List W)
/-- what an exception is -/
def RExn (Γ : Ctx) (ρ : List Addr) (H : Hp) (e : Exn) (c : Value) (d : Option Addr) : Prop :=
  c = .ref (Γ.cls e.cls) ∧ match e.fs with
    | [] => True
    | fs => ∃ a vs, d = some a ∧ H a = some (.xd vs) ∧ RKs Γ ρ H fs vs
/-- the state behind: what was told is told still, what was not told stands -/
structure Aft (Γ : Ctx) (ρ : List Addr) (H : Hp) (L' : LH) (ρ' : List Addr) (H' : Hp) : Prop where
  pre : ρ <+: ρ'
  kp : Keep H H'
  rl : RL Γ ρ' L' H'
  fr : ∀ a o, H a = some o → a ∉ ρ → H' a = some o
  nw : ∀ a, a ∈ ρ' → a ∉ ρ → H a = none
theorem Aft.trans {Γ : Ctx} {ρ ρ1 ρ2 : List Addr} {H H1 H2 : Hp} {L1 L2 : LH} (a : Aft Γ ρ H L1 ρ1 H1) (b : Aft Γ ρ1 H1 L2 ρ2 H2) : Aft Γ ρ H L2 ρ2 H2 := by
  have out : ∀ x o, H x = some o → x ∉ ρ → x ∉ ρ1 := fun x o e n z => by rw [a.nw x z n] at e; cases e
  refine ⟨a.pre.trans b.pre, a.kp.trans b.kp, b.rl, fun x o e n => b.fr x o (a.fr x o e n) (out x o e n), fun x m n => ?_⟩
  cases e : H x with
  | none => rfl
  | some o =>
    have h1 := b.nw x m (out x o e n)
    rw [a.fr x o e n] at h1; cases h1
theorem Aft.refl {Γ : Ctx} {ρ : List Addr} {H : Hp} {L : LH} (rl : RL Γ ρ L H) : Aft Γ ρ H L ρ H := ⟨List.prefix_refl _, .refl, rl, fun _ _ h _ => h, fun _ m n => absurd m n⟩
/-- a new object that is not told -/
theorem Aft.fresh {Γ : Ctx} {ρ : List Addr} {H : Hp} {L : LH} {p : Addr} {ho : HO} (rl : RL Γ ρ L H) (hp : H p = none) : Aft Γ ρ H L ρ (upd H p ho) :=
  ⟨List.prefix_refl _, .fresh hp, rl.fresh hp, fun a o e _ => by rw [upd_ne (ne_of_none e hp)]; exact e, fun _ m n => absurd m n⟩
/-- a new object that is told -/
theorem Aft.push {Γ : Ctx} {ρ : List Addr} {H : Hp} {L : LH} {p : Addr} {ho : HO} {o : LO} (rl : RL Γ ρ L H) (hp : H p = none) (r : RO Γ (ρ ++ [p]) (upd H p ho) p o) : Aft Γ ρ H (L ++ [o]) (ρ ++ [p]) (upd H p ho) := by
  refine ⟨pre_app _ _, .fresh hp, rl.push hp r, fun a o e _ => by rw [upd_ne (ne_of_none e hp)]; exact e, fun a m n => ?_⟩
  rcases List.mem_append.mp m with m | m
  · exact absurd m n
  · rw [List.mem_singleton.mp m]; exact hp
/-- a told object is changed -/
theorem Aft.set {Γ : Ctx} {ρ : List Addr} {H : Hp} {L : LH} {a : Addr} {n : Nat} {ho : HO} {o o' : LO} (rl : RL Γ ρ L H) (e : L[n]? = some o) (ea : ρ[n]? = some a) (ho' : RO Γ ρ (upd H a ho) a o') (hm : o.mutb = true := by rfl) :
    Aft Γ ρ H (L.set n o') ρ (upd H a ho) := by
  obtain ⟨r, k⟩ := rl.set e ea ho' hm
  refine ⟨List.prefix_refl _, k, r, fun b o e n => ?_, fun _ m n => absurd m n⟩
  rw [upd_ne]; · exact e
  rintro rfl
  exact n (List.mem_of_getElem? ea)
/-- an object that stands, and was not told, is told, and changed -/
theorem RL.adopt {Γ : Ctx} {ρ : List Addr} {H : Hp} {L : LH} {p : Addr} {ho ho1 : HO} {o : LO} (h : RL Γ ρ L H) (hp : H p = some ho1) (hm1 : mutHO ho1 = true) (np : p ∉ ρ) (ho' : RO Γ (ρ ++ [p]) (upd H p ho) p o) :
    RL Γ (ρ ++ [p]) (L ++ [o]) (upd H p ho) := by
  have lt : ∀ {n : Nat}, n < L.length → (L ++ [o])[n]? = L[n]? ∧ (ρ ++ [p])[n]? = ρ[n]? := fun hn =>
    ⟨List.getElem?_append_left hn, List.getElem?_append_left (by rw [h.len]; exact hn)⟩
  have at_ : (L ++ [o])[L.length]? = some o ∧ (ρ ++ [p])[L.length]? = some p := by
    rw [← h.len]
    constructor
    · rw [h.len]; exact List.getElem?_concat_length
    · exact List.getElem?_concat_length
  have cases_ : ∀ {n : Nat} {q : LO}, (L ++ [o])[n]? = some q → n < L.length ∨ n = L.length := fun {n q} e => by
    have := (List.getElem?_eq_some_iff.mp e).1
    rw [List.length_append, List.length_singleton] at this
    omega
  refine ⟨by rw [List.length_append, List.length_append, h.len]; rfl, fun n m a q q' e1 e2 e3 e4 => ?_, fun n q e => ?_⟩
  · rcases cases_ e1 with h1 | rfl <;> rcases cases_ e2 with h2 | rfl
    · rw [(lt h1).1] at e1; rw [(lt h2).1] at e2; rw [(lt h1).2] at e3; rw [(lt h2).2] at e4
      exact h.inj n m a q q' e1 e2 e3 e4
    · rw [(lt h1).2] at e3; rw [at_.2] at e4; cases e4
      exact absurd (List.mem_of_getElem? e3) np
    · rw [(lt h2).2] at e4; rw [at_.2] at e3; cases e3
      exact absurd (List.mem_of_getElem? e4) np
    · rfl
  · rcases cases_ e with h1 | rfl
    · rw [(lt h1).1] at e
      obtain ⟨a, e1, r⟩ := h.obj n q e
      refine ⟨a, by rw [(lt h1).2]; exact e1, r.stay (pre_app _ _) (.write hp hm1) fun h3 e3 => ?_⟩
      rw [upd_ne]; · exact e3
      rintro rfl
      exact np (List.mem_of_getElem? e1)
    · rw [at_.1] at e; cases e
      exact ⟨p, at_.2, ho'⟩
theorem Aft.get {Γ : Ctx} {ρ ρ' : List Addr} {H H' : Hp} {L' : LH} {n : Nat} {a : Addr} (h : Aft Γ ρ H L' ρ' H') (e : ρ[n]? = some a) : ρ'[n]? = some a := pre_get h.pre e
/-- an object that was made ahead, and is told now -/
theorem Aft.adopt {Γ : Ctx} {ρ ρ' : List Addr} {H H' : Hp} {L' : LH} {p : Addr} {ho ho1 : HO} {o : LO} (hp : H p = none) (a : Aft Γ ρ (upd H p ho1) L' ρ' H') (np : p ∉ ρ) (hm1 : mutHO ho1 = true) (ho' : RO Γ (ρ' ++ [p]) (upd H' p ho) p o) :
    Aft Γ ρ H (L' ++ [o]) (ρ' ++ [p]) (upd H' p ho) ∧ H' p = some ho1 := by
  have h1 : H' p = some ho1 := a.fr p ho1 upd_same np
  have np' : p ∉ ρ' := fun m => by
    have := a.nw p m np
    rw [upd_same] at this; cases this
  refine ⟨⟨a.pre.trans (pre_app _ _), (Keep.fresh hp).trans (a.kp.trans (.write h1 hm1)), a.rl.adopt h1 hm1 np' ho', fun b o e n => ?_, fun b m n => ?_⟩, h1⟩
  · have hb : b ≠ p := ne_of_none e hp
    rw [upd_ne hb]
    exact a.fr b o (by rw [upd_ne hb]; exact e) n
  · rcases List.mem_append.mp m with m | m
    · by_cases hb : b = p
      · rw [hb]; exact hp
      · have := a.nw b m n
        rw [upd_ne hb] at this; exact this
    · rw [List.mem_singleton.mp m]; exact hp
/-- an object of one's own, not told, put aside -/
def hide (H : Hp) (D : Addr) : Hp := fun b => if b = D then none else H b
theorem hide_at {H : Hp} {D : Addr} : hide H D D = none := by unfold hide; rw [if_pos rfl]
theorem hide_ne {H : Hp} {D b : Addr} (h : b ≠ D) : hide H D b = H b := by unfold hide; rw [if_neg h]
theorem hide_upd {H : Hp} {D : Addr} {o : HO} (h : H D = some o) : upd (hide H D) D o = H := by
  funext b
  by_cases hb : b = D
  · subst hb; rw [upd_same, h]
  · rw [upd_ne hb, hide_ne hb]
theorem Keep.hide {H H' : Hp} {D : Addr} {o : HO} (k : Keep H H') (h : H' D = some o) (hm : mutHO o = true) : Keep H (hide H' D) := by
  refine ⟨fun a xs e => ?_, fun a ob u e => ?_⟩
  · have := k.tup a xs e
    rw [hide_ne]; · exact this
    rintro rfl; rw [h] at this; cases this; cases hm
  · have := k.frz a ob u e
    rw [hide_ne]; · exact this
    rintro rfl; rw [h] at this; cases this; cases hm
section
variable {Γ : Ctx} {ρ ρ' : List Addr} {H H' : Hp} {D : Addr} {o : HO}
theorem sqT_hide {K : PySem.W.Frag} {a : Addr} {xs : List V} (h : SqT K H a xs) (hD : H D = some o) (hm : mutHO o = true) : SqT K (hide H D) a xs := by
  rcases h with (h | ⟨ob, h⟩) | h
  · refine .inl (.inl ?_); rw [hide_ne]; · exact h
    rintro rfl; rw [hD] at h; cases h; cases hm
  · refine .inl (.inr ⟨ob, ?_⟩); rw [hide_ne]; · exact h
    rintro rfl; rw [hD] at h; cases h; cases hm
  · exact .inr h
mutual
theorem RW.hide (hD : H D = some o) (hm : mutHO o = true) : ∀ {w : W} {v : V}, RW Γ ρ H w v → RW Γ ρ (Z.hide H D) w v
  | _, _, .non => .non
  | _, _, .bl b => .bl b
  | _, _, .int b => .int b
  | _, _, .str b => .str b
  | _, _, .ty b => .ty b
  | _, _, .tup h r => .tup (sqT_hide h hD hm) (RWs.hide hD hm r)
  | _, _, .ref h => .ref h
  | _, _, .cls c => .cls c
  | _, _, .fn c => .fn c
  | _, _, .scr h => .scr (h.imp (fun ⟨ob, e⟩ => ⟨ob, by rw [hide_ne]; · exact e
                                                        rintro rfl; rw [hD] at e; cases e; cases hm⟩) id)
theorem RWs.hide (hD : H D = some o) (hm : mutHO o = true) : ∀ {ws : List W} {vs : List V}, RWs Γ ρ H ws vs → RWs Γ ρ (Z.hide H D) ws vs
  | _, _, .nil => .nil
  | _, _, .cons r t => .cons (RW.hide hD hm r) (RWs.hide hD hm t)
end
theorem RKs.hide {κ : Type} (hD : H D = some o) (hm : mutHO o = true) : ∀ {ws : List (κ × W)} {vs : List (κ × V)}, RKs Γ ρ H ws vs → RKs Γ ρ (Z.hide H D) ws vs
  | _, _, .nil => .nil
  | _, _, .cons r t => .cons (RW.hide hD hm r) (RKs.hide hD hm t)
theorem RL.hide {L : LH} (h : RL Γ ρ L H) (hD : H D = some o) (hm : mutHO o = true) (nD : D ∉ ρ) : RL Γ ρ L (Z.hide H D) := by
  refine ⟨h.len, h.inj, fun n q e => ?_⟩
  obtain ⟨a, ea, r⟩ := h.obj n q e
  have ha : a ≠ D := by rintro rfl; exact nD (List.mem_of_getElem? ea)
  refine ⟨a, ea, ?_⟩
  cases q with
  | lst xs => obtain ⟨vs, e, r⟩ := r; exact ⟨vs, by rw [hide_ne ha]; exact e, r.hide hD hm⟩
  | dic xs => obtain ⟨vs, e, r⟩ := r; exact ⟨vs, by rw [hide_ne ha]; exact e, r.hide hD hm⟩
  | ins c xs => obtain ⟨dx, vs, e, r⟩ := r; exact ⟨dx, vs, by rw [hide_ne ha]; exact e, r.hide hD hm⟩
  | lck xs => obtain ⟨dx, vs, e, r⟩ := r; exact ⟨dx, vs, by rw [hide_ne ha]; exact e, r.hide hD hm⟩
/-- .. while it stood aside -/
theorem Aft.hide {L' : LH} (hD : H D = none) (nD : D ∉ ρ) (hm : mutHO o = true) (a : Aft Γ ρ (upd H D o) L' ρ' H') : Aft Γ ρ H L' ρ' (Z.hide H' D) ∧ H' D = some o ∧ D ∉ ρ' := by
  have h1 : H' D = some o := a.fr D o upd_same nD
  have np' : D ∉ ρ' := fun m => by
    have := a.nw D m nD
    rw [upd_same] at this; cases this
  refine ⟨⟨a.pre, ((Keep.fresh hD).trans a.kp).hide h1 hm, a.rl.hide h1 hm np', fun b ob e n => ?_, fun b m n => ?_⟩, h1, np'⟩
  · have hb : b ≠ D := ne_of_none e hD
    rw [hide_ne hb]
    exact a.fr b ob (by rw [upd_ne hb]; exact e) n
  · have hb : b ≠ D := by rintro rfl; exact np' m
    have := a.nw b m n
    rw [upd_ne hb] at this; exact this
end
/-! ### a dict that was locked is let go -/
section
variable {Γ : Ctx} {ρ ρ' : List Addr} {H H' : Hp} {D : Addr} {od : Obj} {us : List (Key × V)} {o : HO}
theorem sqT_free {K : PySem.W.Frag} {a : Addr} {xs : List V} (h : SqT K H a xs) (hD : H D = some (.frz od (.dK us))) : SqT K (upd H D o) a xs := by
  rcases h with (h | ⟨ob, h⟩) | h
  · refine .inl (.inl ?_); rw [upd_ne]; · exact h
    rintro rfl; rw [hD] at h; cases h
  · refine .inl (.inr ⟨ob, ?_⟩); rw [upd_ne]; · exact h
    rintro rfl; rw [hD] at h; cases h
  · exact .inr h
mutual
theorem RW.free (hD : H D = some (.frz od (.dK us))) : ∀ {w : W} {v : V}, RW Γ ρ H w v → RW Γ ρ (upd H D o) w v
  | _, _, .non => .non
  | _, _, .bl b => .bl b
  | _, _, .int b => .int b
  | _, _, .str b => .str b
  | _, _, .ty b => .ty b
  | _, _, .tup h r => .tup (sqT_free h hD) (RWs.free hD r)
  | _, _, .ref h => .ref h
  | _, _, .cls c => .cls c
  | _, _, .fn c => .fn c
  | _, _, .scr h => .scr (h.imp (fun ⟨ob, e⟩ => ⟨ob, by rw [upd_ne]; · exact e
                                                        rintro rfl; rw [hD] at e; cases e⟩) id)
theorem RWs.free (hD : H D = some (.frz od (.dK us))) : ∀ {ws : List W} {vs : List V}, RWs Γ ρ H ws vs → RWs Γ ρ (upd H D o) ws vs
  | _, _, .nil => .nil
  | _, _, .cons r t => .cons (RW.free hD r) (RWs.free hD t)
end
theorem RKs.free {κ : Type} (hD : H D = some (.frz od (.dK us))) : ∀ {ws : List (κ × W)} {vs : List (κ × V)}, RKs Γ ρ H ws vs → RKs Γ ρ (upd H D o) ws vs
  | _, _, .nil => .nil
  | _, _, .cons r t => .cons (RW.free hD r) (RKs.free hD t)
theorem REnv.free {env : Env} {σ : L2.St} (h : REnv Γ ρ H env σ) (hD : H D = some (.frz od (.dK us))) : REnv Γ ρ (upd H D o) env σ :=
  ⟨h.len, fun i w e => let ⟨v, e1, r⟩ := h.val i w e; ⟨v, e1, r.free hD⟩⟩
theorem RL.free {L : LH} {n : Nat} {o' o0 : LO} (h : RL Γ ρ L H) (e : L[n]? = some o0) (ea : ρ[n]? = some D) (hD : H D = some (.frz od (.dK us))) (ho' : RO Γ ρ (upd H D o) D o') : RL Γ ρ (L.set n o') (upd H D o) := by
  have hn : n < L.length := (List.getElem?_eq_some_iff.mp e).1
  refine ⟨by rw [List.length_set]; exact h.len, fun i j b q q' e1 e2 e3 e4 => ?_, fun m q em => ?_⟩
  · have back : ∀ {i : Nat} {q : LO}, (L.set n o')[i]? = some q → ∃ q2, L[i]? = some q2 := fun {i q} z => by
      by_cases hi : n = i
      · subst hi; exact ⟨o0, e⟩
      · rw [List.getElem?_set_ne hi] at z; exact ⟨q, z⟩
    obtain ⟨q1, f1⟩ := back e1
    obtain ⟨q2, f2⟩ := back e2
    exact h.inj i j b q1 q2 f1 f2 e3 e4
  · by_cases hi : n = m
    · subst hi
      rw [List.getElem?_set_self hn] at em; cases em
      exact ⟨D, ea, ho'⟩
    · rw [List.getElem?_set_ne hi] at em
      obtain ⟨b, eb, rb⟩ := h.obj m q em
      have hb : b ≠ D := by rintro rfl; exact hi (h.inj n m b o0 q e em ea eb)
      refine ⟨b, eb, ?_⟩
      cases q with
      | lst xs => obtain ⟨vs, e, r⟩ := rb; exact ⟨vs, by rw [upd_ne hb]; exact e, r.free hD⟩
      | dic xs => obtain ⟨vs, e, r⟩ := rb; exact ⟨vs, by rw [upd_ne hb]; exact e, r.free hD⟩
      | ins c xs => obtain ⟨dx, vs, e, r⟩ := rb; exact ⟨dx, vs, by rw [upd_ne hb]; exact e, r.free hD⟩
      | lck xs => obtain ⟨dx, vs, e, r⟩ := rb; exact ⟨dx, vs, by rw [upd_ne hb]; exact e, r.free hD⟩
/-- locked at first, let go at the end -/
theorem Aft.free {L' : LH} {n : Nat} {kvs : List (Key × W)} (hD : H D = some (.dK us)) (en : ρ[n]? = some D) (a : Aft Γ ρ (upd H D (.frz od (.dK us))) L' ρ' H') (e : L'[n]? = some (.lck kvs)) :
    Aft Γ ρ H (L'.set n (.dic kvs)) ρ' (upd H' D (.dK us)) ∧ H' D = some (.frz od (.dK us)) := by
  have h1 : H' D = some (.frz od (.dK us)) := a.kp.frz _ _ _ upd_same
  have en' := pre_get a.pre en
  have mem : D ∈ ρ := List.mem_of_getElem? en
  refine ⟨⟨a.pre, ⟨fun b xs q => ?_, fun b ob u q => ?_⟩, a.rl.free e en' h1 ?_, fun b ob q nb => ?_, fun b m nb => ?_⟩, h1⟩
  · have hb : b ≠ D := by rintro rfl; rw [hD] at q; cases q
    rw [upd_ne hb]; exact a.kp.tup b xs (by rw [upd_ne hb]; exact q)
  · have hb : b ≠ D := by rintro rfl; rw [hD] at q; cases q
    rw [upd_ne hb]; exact a.kp.frz b ob u (by rw [upd_ne hb]; exact q)
  · obtain ⟨b, eb, od', vs, q, r⟩ := a.rl.obj n _ e
    rw [en'] at eb; cases eb
    rw [h1] at q; cases q
    exact ⟨us, upd_same, r.free h1⟩
  · have hb : b ≠ D := by rintro rfl; exact nb mem
    rw [upd_ne hb]; exact a.fr b ob (by rw [upd_ne hb]; exact q) nb
  · have := a.nw b m nb
    have hb : b ≠ D := by rintro rfl; exact nb mem
    rw [upd_ne hb] at this; exact this
end
def Out {α β : Type} (R : List Addr → Hp → α → β → Prop) (Γ : Ctx) (Wx : WX) (σ : L2.St) (ρ : List Addr) (H : Hp) (r : Res α) (Q : β → Hp → Prop) : Prop := match r with
  | .ok w L' => ∀ ρ' H' v, Aft Γ ρ H L' ρ' H' → R ρ' H' w v → Q v H'
  | .exc e L' => ∀ ρ' H' c d, Aft Γ ρ H L' ρ' H' → RExn Γ ρ' H' e c d → Wx c d σ H'
  | .stk => False
def tG {α β : Type} (R : List Addr → Hp → α → β → Prop) (Γ : Ctx) (Wx : WX) (f : Env → LH → Res α) : L2.St → Hp → (β → Hp → Prop) → Prop := fun σ H Q =>
  ∃ ρ env L, RL Γ ρ L H ∧ REnv Γ ρ H env σ ∧ Out R Γ Wx σ ρ H (f env L) Q
abbrev tEx (Γ : Ctx) (Wx : WX) (f : Ex) : TE := tG (RW Γ) Γ Wx f
abbrev tExL (Γ : Ctx) (Wx : WX) (f : ExL) : TA := tG (RWs Γ) Γ Wx f
def RB (_ : List Addr) (_ : Hp) (b c : Bool) : Prop := b = c
abbrev tExB (Γ : Ctx) (Wx : WX) (f : Env → LH → Res Bool) : TT := tG RB Γ Wx f

def Res.bind {α β : Type} (r : Res α) (k : α → LH → Res β) : Res β := match r with
  | .ok a L => k a L
  | .exc e L => .exc e L
  | .stk => .stk
theorem Out.rebase {α β : Type} {R : List Addr → Hp → α → β → Prop} {Γ : Ctx} {Wx : WX} {σ : L2.St} {ρ ρ1 : List Addr} {H H1 : Hp} {L1 : LH} {r : Res α} {Q : β → Hp → Prop} (a : Aft Γ ρ H L1 ρ1 H1) (h : Out R Γ Wx σ ρ H r Q) : Out R Γ Wx σ ρ1 H1 r Q := by
  cases r with
  | ok w L' => exact fun ρ' H' v b r => h ρ' H' v (a.trans b) r
  | exc e L' => exact fun ρ' H' c d b r => h ρ' H' c d (a.trans b) r
  | stk => exact h
/-- one part, then the rest -/
theorem tG_bind {α β γ δ : Type} {R : List Addr → Hp → α → β → Prop} {R' : List Addr → Hp → γ → δ → Prop} {Γ : Ctx} {Wx : WX} {σ : L2.St} {ρ : List Addr} {H : Hp} {L : LH} {env : Env} {f : Env → LH → Res α} {k : α → LH → Res γ} {Q : δ → Hp → Prop} {Q1 : β → Hp → Prop}
    (rl : RL Γ ρ L H) (re : REnv Γ ρ H env σ) (h : Out R' Γ Wx σ ρ H ((f env L).bind k) Q)
    (next : ∀ ρ1 H1 w v L1, Aft Γ ρ H L1 ρ1 H1 → REnv Γ ρ1 H1 env σ → R ρ1 H1 w v → Out R' Γ Wx σ ρ1 H1 (k w L1) Q → Q1 v H1) : tG R Γ Wx f σ H Q1 := by
  refine ⟨ρ, env, L, rl, re, ?_⟩
  cases hf : f env L with
  | ok w L1 =>
    rw [hf] at h
    exact fun ρ1 H1 v a r => next ρ1 H1 w v L1 a (re.mono a.pre a.kp) r (Out.rebase a h)
  | exc e L1 => rw [hf] at h; exact h
  | stk => rw [hf] at h; exact h
theorem out_ok {α β : Type} {R : List Addr → Hp → α → β → Prop} {Γ : Ctx} {Wx : WX} {σ : L2.St} {ρ : List Addr} {H : Hp} {w : α} {L : LH} {Q : β → Hp → Prop} {v : β} (h : Out R Γ Wx σ ρ H (.ok w L) Q) (rl : RL Γ ρ L H) (r : R ρ H w v) : Q v H :=
  h ρ H v (.refl rl) r
end Z

/-! Z1: expressions. -/
namespace Z
open PySem PySem.Spec PyProof.Rows L2

/-- the context is one of ours -/
structure Good (X : Cx) (Γ : Ctx) (k : Nat) (Wx : WX) : Prop where
  K : X.K = Γ.K
  calm : X.calm = true
  nd : X.N.Nodup
  room : Room k X.A
  tk : Takes X Wx
  own : PassesOwn (model X.prog X.w) X.A X.env X.xe
section
variable {X : Cx} {Γ : Ctx} {k : Nat} {Wx : WX}
theorem Good.hu (g : Good X Γ k Wx) : X.A.units + 64 < cLine := g.room.units
end
/-- an expression's meaning -/
def DE (X : Cx) (Γ : Ctx) (k : Nat) (Wx : WX) (e : Expr) (f : Ex) : Prop := Good X Γ k Wx → PE X e (tEx Γ Wx f)
def DA (X : Cx) (Γ : Ctx) (k : Nat) (Wx : WX) (es : List Expr) (f : ExL) : Prop := Good X Γ k Wx → PA X es (tExL Γ Wx f)
def DT (X : Cx) (Γ : Ctx) (k : Nat) (Wx : WX) (e : Expr) (f : Env → LH → Res Bool) : Prop := Good X Γ k Wx → PT X e (tExB Γ Wx f)
def DW (X : Cx) (Γ : Ctx) (k : Nat) (Wx : WX) (e : Expr) (f : Env → LH → Res Bool) : Prop := Good X Γ k Wx → PW X e (tExB Γ Wx f)

theorem PE.imp {X : Cx} {e : Expr} {t t' : TE} (h : PE X e t) (i : ∀ σ H Q, t' σ H Q → t σ H Q) : PE X e t' := ⟨fun pins s σ H Q I q => h.run pins s σ H Q I (i σ H Q q)⟩
theorem PT.imp {X : Cx} {e : Expr} {t t' : TT} (h : PT X e t) (i : ∀ σ H Q, t' σ H Q → t σ H Q) : PT X e t' := ⟨fun pins s σ H Q I q => h.run pins s σ H Q I (i σ H Q q)⟩
theorem PW.imp {X : Cx} {e : Expr} {t t' : TT} (h : PW X e t) (i : ∀ σ H Q, t' σ H Q → t σ H Q) : PW X e t' := ⟨fun wh pins s σ H Q I q => h.run wh pins s σ H Q I (i σ H Q q)⟩
theorem PA.imp {X : Cx} {e : List Expr} {t t' : TA} (h : PA X e t) (i : ∀ σ H Q, t' σ H Q → t σ H Q) : PA X e t' := ⟨fun pos pins s σ H Q I q => h.run pos pins s σ H Q I (i σ H Q q)⟩
theorem OpR.imp {X : Cx} {f : Value → Value → Sem Value} {r r' : R2} (h : OpR X f r) (i : ∀ x y H Q, r' x y H Q → r x y H Q) : OpR X f r' := fun pins s σ H x y v u Q I rx ry q => h pins s σ H x y v u Q I rx ry (i _ _ _ _ q)
theorem IxR.imp {X : Cx} {r r' : R2} (h : IxR X r) (i : ∀ x y H Q, r' x y H Q → r x y H Q) : IxR X r' := by
  unfold IxR at h ⊢
  intros
  apply h <;> first | assumption | exact i _ _ _ _ (by assumption)


theorem tG_bindE {α β γ δ : Type} {R : List Addr → Hp → α → β → Prop} {R' : List Addr → Hp → γ → δ → Prop} {Γ : Ctx} {Wx : WX} {σ : L2.St} {ρ : List Addr} {H : Hp} {L : LH} {env : Env} {f : Env → LH → Res α} {k : α → LH → Res γ} {Q : δ → Hp → Prop} {Q1 : β → Hp → Prop}
    (rl : RL Γ ρ L H) (re : REnv Γ ρ H env σ) (h : Out R' Γ Wx σ ρ H ((f env L).bind k) Q)
    (next : ∀ ρ1 H1 w v L1, f env L = .ok w L1 → Aft Γ ρ H L1 ρ1 H1 → REnv Γ ρ1 H1 env σ → R ρ1 H1 w v → Out R' Γ Wx σ ρ1 H1 (k w L1) Q → Q1 v H1) : tG R Γ Wx f σ H Q1 := by
  refine ⟨ρ, env, L, rl, re, ?_⟩
  cases hf : f env L with
  | ok w L1 =>
    rw [hf] at h
    exact fun ρ1 H1 v a r => next ρ1 H1 w v L1 hf a (re.mono a.pre a.kp) r (Out.rebase a h)
  | exc e L1 => rw [hf] at h; exact h
  | stk => rw [hf] at h; exact h
theorem PE.or {X : Cx} {e : Expr} {t t' : TE} (h : PE X e t) (h' : PE X e t') : PE X e (fun σ H Q => t σ H Q ∨ t' σ H Q) := ⟨fun pins s σ H Q I q => q.elim (h.run pins s σ H Q I) (h'.run pins s σ H Q I)⟩
/-- what a value's operation hands back -/
abbrev OV := Option (W × LH)
def OkOut (Γ : Ctx) (ρ : List Addr) (H : Hp) (r : OV) (Q : VK) : Prop := match r with
  | some (w, L') => ∀ ρ' H' v, Aft Γ ρ H L' ρ' H' → RW Γ ρ' H' w v → Q v H'
  | none => False
def ofO {α : Type} (r : Option (α × LH)) : Res α := match r with
  | some (w, L) => .ok w L
  | none => .stk
theorem out_of {Γ : Ctx} {Wx : WX} {σ : L2.St} {ρ : List Addr} {H : Hp} {r : OV} {Q : VK} (h : Out (RW Γ) Γ Wx σ ρ H (ofO r) Q) : OkOut Γ ρ H r Q := by
  cases r with
  | none => exact h
  | some p => exact h

/-- operations by values -/
def v2 (Γ : Ctx) (o : W → W → LH → OV) : R2 := fun x y H Q => ∃ ρ L a b, RL Γ ρ L H ∧ RW Γ ρ H a x ∧ RW Γ ρ H b y ∧ OkOut Γ ρ H (o a b L) Q
def v1 (Γ : Ctx) (o : W → LH → OV) : V → Hp → VK → Prop := fun x H Q => ∃ ρ L a, RL Γ ρ L H ∧ RW Γ ρ H a x ∧ OkOut Γ ρ H (o a L) Q
def vN (Γ : Ctx) (o : List W → LH → OV) : List V → Hp → VK → Prop := fun xs H Q => ∃ ρ L as, RL Γ ρ L H ∧ RWs Γ ρ H as xs ∧ OkOut Γ ρ H (o as L) Q

section
variable {Γ : Ctx} {ρ : List Addr} {H : Hp} {L : LH} {Q : VK}
theorem OkOut.here {w : W} {v : V} (h : OkOut Γ ρ H (some (w, L)) Q) (rl : RL Γ ρ L H) (r : RW Γ ρ H w v) : Q v H := h ρ H v (.refl rl) r
theorem OkOut.lst {ws : List W} {vs : List V} (h : OkOut Γ ρ H (some (.ref L.length, L ++ [.lst ws])) Q) (rl : RL Γ ρ L H) (r : RWs Γ ρ H ws vs) : ∀ p, H p = none → Q (.ref p) (upd H p (.lst vs)) := fun p hp => by
  refine h (ρ ++ [p]) _ _ (.push rl hp ⟨vs, upd_same, r.mono (pre_app _ _) (.fresh hp)⟩) (.ref ?_)
  rw [← rl.len]; exact List.getElem?_concat_length
theorem OkOut.dic {ws : List (Key × W)} {vs : List (Key × V)} (h : OkOut Γ ρ H (some (.ref L.length, L ++ [.dic ws])) Q) (rl : RL Γ ρ L H) (r : RKs Γ ρ H ws vs) : ∀ p, H p = none → Q (.ref p) (upd H p (.dK vs)) := fun p hp => by
  refine h (ρ ++ [p]) _ _ (.push rl hp ⟨vs, upd_same, r.mono (pre_app _ _) (.fresh hp)⟩) (.ref ?_)
  rw [← rl.len]; exact List.getElem?_concat_length
theorem OkOut.tup {ws : List W} {vs : List V} (h : OkOut Γ ρ H (some (.tup ws, L)) Q) (rl : RL Γ ρ L H) (r : RWs Γ ρ H ws vs) : ∀ p, H p = none → Q (.ref p) (upd H p (.tup vs)) := fun p hp =>
  h ρ _ _ (.fresh rl hp) (.tup (.of upd_same) (r.mono (List.prefix_refl _) (.fresh hp)))
end

/-! ### names, constants -/
def cVar (i : Nat) : Ex := fun env L => match env[i]? with
  | some (some w) => .ok w L
  | _ => .stk
def cC (w : W) : Ex := fun _ L => .ok w L
section
variable {X : Cx} {Γ : Ctx} {k : Nat} {Wx : WX} {pos : Pos}
theorem d_var (i : Nat) {x : Str} (hN : X.N[i]? = some x := by rfl) (hv : Vis X.env.scope x := by first | exact Or.inl rfl | exact Or.inr (Or.inl rfl) | exact Or.inr (Or.inr rfl)) (hd : (x == ("__debug__" : Str)) = false := by decide)
    (hcd : (x == ("__classdict__" : Str)) = false := by decide) : DE X Γ k Wx (.Name x pos) (cVar i) := fun g => by
  refine PE.imp (pe_var hN hv hd hcd) fun σ H Q h => ?_
  obtain ⟨ρ, env, L, rl, re, h⟩ := h
  unfold cVar at h
  cases e : env[i]? with
  | none => rw [e] at h; exact h.elim
  | some o =>
    cases o with
    | none => rw [e] at h; exact h.elim
    | some w =>
      rw [e] at h
      obtain ⟨v, e1, r⟩ := re.val i w e
      exact ⟨v, e1, out_ok h rl r⟩
theorem d_const {e : Expr} {v : V} {w : W} (h : PE X e (tC v)) (r : ∀ ρ H, RW Γ ρ H w v) : DE X Γ k Wx e (cC w) := fun g => by
  refine PE.imp h fun σ H Q h => ?_
  obtain ⟨ρ, env, L, rl, re, h⟩ := h
  exact out_ok h rl (r _ _)
theorem d_int {i : Int} {j} : DE X Γ k Wx (.Constant (.int i) j pos) (cC (.int i)) := d_const pe_int fun _ _ => .int i
theorem d_bl {i : Bool} {j} : DE X Γ k Wx (.Constant (.bool i) j pos) (cC (.bl i)) := d_const pe_bl fun _ _ => .bl i
theorem d_non {j} : DE X Γ k Wx (.Constant .none j pos) (cC .non) := d_const pe_non fun _ _ => .non
theorem d_str {i : Str} {j} : DE X Γ k Wx (.Constant (.str i) j pos) (cC (.str i)) := d_const pe_str fun _ _ => .str i
/-- a built-in type by its name -/
theorem d_ty {x : Str} {n : String} (hg : Gl X x := by rfl) (hm : X.mg x = none) (hv : bootBuiltins x = some (.type n) := by decide +kernel) (hn : x ≠ "__name__" := by decide) (hd : (x == ("__debug__" : Str)) = false := by decide) :
    DE X Γ k Wx (.Name x pos) (cC (.ty n)) := d_const (pe_bltn (v := .ty n) hg hm hv rfl hn hd) fun _ _ => .ty n

/-! ### argument lists, displays -/
def cNil : ExL := fun _ L => .ok [] L
def cCons (f : Ex) (g : ExL) : ExL := fun env L => (f env L).bind fun a L1 => (g env L1).bind fun as L2 => .ok (a :: as) L2
theorem da_nil : DA X Γ k Wx [] cNil := fun g => PA.imp pa_nil fun σ H Q h => by
  obtain ⟨ρ, env, L, rl, re, h⟩ := h
  exact out_ok (R := RWs Γ) h rl .nil
theorem da_cons {e : Expr} {es : List Expr} {f : Ex} {fs : ExL} (ha : DE X Γ k Wx e f) (hr : DA X Γ k Wx es fs) (hs : starEach (e :: es) X.env = (false, eval e X.env) :: starEach es X.env := by rfl) : DA X Γ k Wx (e :: es) (cCons f fs) := fun g =>
  PA.imp (pa_cons (ha g) (hr g) hs) fun σ H Q h => by
    obtain ⟨ρ, env, L, rl, re, h⟩ := h
    refine tG_bind rl re h fun ρ1 H1 w v L1 a1 re1 r1 h1 => ?_
    refine tG_bind a1.rl re1 h1 fun ρ2 H2 ws vs L2 a2 re2 r2 h2 => ?_
    exact out_ok (R := RWs Γ) h2 a2.rl (.cons (r1.mono a2.pre a2.kp) r2)
/-- over the arguments' values -/
def cOpL (o : List W → LH → OV) (f : ExL) : Ex := fun env L => (f env L).bind fun as L1 => ofO (o as L1)
def oTup (ws : List W) (L : LH) : OV := if ws.length ≤ 16777216 then some (.tup ws, L) else none
def oLst (ws : List W) (L : LH) : OV := if ws.length ≤ 16777216 then some (.ref L.length, L ++ [.lst ws]) else none
theorem line_eq : sizeLine = 16777216 := sizeLine_eq
theorem d_tup {es : List Expr} {f : ExL} {x1} (h : DA X Γ k Wx es f) : DE X Γ k Wx (.Tuple es x1 pos) (cOpL oTup f) := fun g =>
  PE.imp (pe_tup (h g)) fun σ H Q h => by
    obtain ⟨ρ, env, L, rl, re, h⟩ := h
    refine tG_bind rl re h fun ρ1 H1 ws vs L1 a1 re1 r1 h1 => ?_
    have h1 := out_of h1
    unfold oTup at h1
    split at h1
    · rename_i hz
      exact ⟨by rw [← r1.length, line_eq]; exact hz, h1.tup a1.rl r1⟩
    · exact h1.elim
theorem d_lst {es : List Expr} {f : ExL} (h : DA X Γ k Wx es f) : DE X Γ k Wx (.List es pos) (cOpL oLst f) := fun g =>
  PE.imp (pe_lst (h g)) fun σ H Q h => by
    obtain ⟨ρ, env, L, rl, re, h⟩ := h
    refine tG_bind rl re h fun ρ1 H1 ws vs L1 a1 re1 r1 h1 => ?_
    have h1 := out_of h1
    unfold oLst at h1
    split at h1
    · rename_i hz
      exact ⟨by rw [← r1.length, line_eq]; exact hz, h1.lst a1.rl r1⟩
    · exact h1.elim

/-! ### operators -/
def cOp2 (o : W → W → LH → OV) (f h : Ex) : Ex := fun env L => (f env L).bind fun a L1 => (h env L1).bind fun b L2 => ofO (o a b L2)
def cOp1 (o : W → LH → OV) (f : Ex) : Ex := fun env L => (f env L).bind fun a L1 => ofO (o a L1)
theorem tOp2 {o : W → W → LH → OV} {f h : Ex} {σ : L2.St} {H : Hp} {Q : VK} (q : tEx Γ Wx (cOp2 o f h) σ H Q) : tOp (v2 Γ o) (tEx Γ Wx f) (tEx Γ Wx h) σ H Q := by
  obtain ⟨ρ, env, L, rl, re, h⟩ := q
  refine tG_bind rl re h fun ρ1 H1 a v L1 a1 re1 r1 h1 => ?_
  refine tG_bind a1.rl re1 h1 fun ρ2 H2 b u L2 a2 re2 r2 h2 => ?_
  exact ⟨ρ2, L2, a, b, a2.rl, r1.mono a2.pre a2.kp, r2, out_of h2⟩
theorem tOp1 {o : W → LH → OV} {f : Ex} {σ : L2.St} {H : Hp} {Q : VK} (q : tEx Γ Wx (cOp1 o f) σ H Q) : tUn (v1 Γ o) (tEx Γ Wx f) σ H Q := by
  obtain ⟨ρ, env, L, rl, re, h⟩ := q
  refine tG_bind rl re h fun ρ1 H1 a v L1 a1 re1 r1 h1 => ?_
  exact ⟨ρ1, L1, a, a1.rl, r1, out_of h1⟩
/-- an operation's rule: f behaves as o -/
def O2 (X : Cx) (Γ : Ctx) (k : Nat) (Wx : WX) (f : Value → Value → Sem Value) (o : W → W → LH → OV) : Prop := Good X Γ k Wx → OpR X f (v2 Γ o)
theorem d_op {op : Operator} {o : W → W → LH → OV} {a b : Expr} {f h : Ex} (ho : O2 X Γ k Wx (binaryOp op) o) (ha : DE X Γ k Wx a f) (hb : DE X Γ k Wx b h) : DE X Γ k Wx (.BinOp a op b pos) (cOp2 o f h) := fun g =>
  PE.imp (pe_op (ho g) (ha g) (hb g)) fun σ H Q q => tOp2 q
theorem d_un {op : UnaryOp} {o : W → LH → OV} {a : Expr} {f : Ex} (ho : Good X Γ k Wx → UnR X (unaryOp op) (v1 Γ o)) (ha : DE X Γ k Wx a f) : DE X Γ k Wx (.UnaryOp op a pos) (cOp1 o f) := fun g =>
  PE.imp (pe_un (ho g) (ha g)) fun σ H Q q => tOp1 q

def oAdd : W → W → LH → OV
  | .int i, .int j, L => some (.int (i + j), L)
  | .str x, .str y, L => if x.length + y.length ≤ 16777216 then some (.str (x ++ y), L) else none
  | .tup xs, .tup ys, L => if xs.length + ys.length ≤ 16777216 then some (.tup (xs ++ ys), L) else none
  | .ref n, .ref m, L => match L[n]?, L[m]? with
    | some (.lst xs), some (.lst ys) => if xs.length + ys.length ≤ 16777216 then some (.ref L.length, L ++ [.lst (xs ++ ys)]) else none
    | _, _ => none
  | _, _, _ => none
theorem RW.tup_inv {ρ : List Addr} {H : Hp} {ws : List W} {v : V} (h : RW Γ ρ H (.tup ws) v) : ∃ a vs, v = .ref a ∧ SqT Γ.K H a vs ∧ RWs Γ ρ H ws vs := by
  cases h with
  | tup a b => exact ⟨_, _, rfl, a, b⟩
theorem RL.lst {ρ : List Addr} {H : Hp} {L : LH} {n : Nat} {xs : List W} {v : V} (rl : RL Γ ρ L H) (h : RW Γ ρ H (.ref n) v) (e : L[n]? = some (.lst xs)) : ∃ a vs, v = .ref a ∧ H a = some (.lst vs) ∧ RWs Γ ρ H xs vs ∧ ρ[n]? = some a := by
  cases h with
  | ref h =>
    obtain ⟨a, ea, vs, e1, r⟩ := rl.obj n _ e
    rw [ea] at h; cases h
    exact ⟨_, vs, rfl, e1, r, ea⟩
theorem RL.dic {ρ : List Addr} {H : Hp} {L : LH} {n : Nat} {xs : List (Key × W)} {v : V} (rl : RL Γ ρ L H) (h : RW Γ ρ H (.ref n) v) (e : L[n]? = some (.dic xs)) : ∃ a vs, v = .ref a ∧ H a = some (.dK vs) ∧ RKs Γ ρ H xs vs ∧ ρ[n]? = some a := by
  cases h with
  | ref h =>
    obtain ⟨a, ea, vs, e1, r⟩ := rl.obj n _ e
    rw [ea] at h; cases h
    exact ⟨_, vs, rfl, e1, r, ea⟩
theorem RL.ins {ρ : List Addr} {H : Hp} {L : LH} {n c : Nat} {xs : List (Str × W)} {v : V} (rl : RL Γ ρ L H) (h : RW Γ ρ H (.ref n) v) (e : L[n]? = some (.ins c xs)) : ∃ a dx vs, v = .ref a ∧ H a = some (.ins (Γ.cls c) dx vs) ∧ RKs Γ ρ H xs vs ∧ ρ[n]? = some a := by
  cases h with
  | ref h =>
    obtain ⟨a, ea, dx, vs, e1, r⟩ := rl.obj n _ e
    rw [ea] at h; cases h
    exact ⟨_, dx, vs, rfl, e1, r, ea⟩
/-- a list's items, locked or not -/
def LO.items? : LO → Option (List W)
  | .lst xs => some xs
  | _ => none
def seqL (L : LH) (n : Nat) : Option (List W) := (L[n]?).bind LO.items?
theorem RL.seq {ρ : List Addr} {H : Hp} {L : LH} {n : Nat} {xs : List W} {v : V} (rl : RL Γ ρ L H) (h : RW Γ ρ H (.ref n) v) (e : seqL L n = some xs) : ∃ a vs, v = .ref a ∧ SqL Γ.K H a vs ∧ RWs Γ ρ H xs vs ∧ ρ[n]? = some a := by
  cases h with
  | ref h =>
    unfold seqL at e
    cases eo : L[n]? with
    | none => rw [eo] at e; cases e
    | some o =>
      rw [eo] at e
      obtain ⟨a, ea, r⟩ := rl.obj n _ eo
      rw [ea] at h; cases h
      cases o with
      | lst ys =>
        cases (show some ys = some xs from e)
        obtain ⟨vs, e1, r⟩ := r
        exact ⟨_, vs, rfl, .of e1, r, ea⟩
      | dic ys => cases (show none = some xs from e)
      | ins c ys => cases (show none = some xs from e)
      | lck ys => cases (show none = some xs from e)
theorem o_add : O2 X Γ k Wx (binaryOp .Add) oAdd := fun g => by
  refine OpR.imp (op_add.or (op_add_str.or (op_catA.or op_cat))) fun x y H Q h => ?_
  obtain ⟨ρ, L, a, b, rl, ra, rb, h⟩ := h
  unfold oAdd at h
  split at h
  · cases ra; cases rb
    exact .inl ⟨_, _, rfl, rfl, h.here rl (.int _)⟩
  · split at h
    · rename_i hz
      cases ra; cases rb
      exact .inr (.inl ⟨_, _, rfl, rfl, by rw [line_eq]; exact hz, h.here rl (.str _)⟩)
    · exact h.elim
  · split at h
    · rename_i xs ys hz
      obtain ⟨a, vs, rfl, sa, r1⟩ := ra.tup_inv
      obtain ⟨b, us, rfl, sb, r2⟩ := rb.tup_inv
      rw [← g.K] at sa sb
      refine .inr (.inr (.inl ⟨a, b, vs, us, rfl, rfl, sa, sb, ?_, ?_, ?_, ?_⟩))
      · rw [← r1.length, ← r2.length, line_eq]; exact hz
      · intro z; subst z
        have := r1.length
        cases xs with
        | nil => exact h.here rl rb
        | cons x t => simp at this
      · intro _ z; subst z
        have := r2.length
        cases ys with
        | nil => rw [List.append_nil] at h; exact h.here rl ra
        | cons x t => simp at this
      · intro _ _; exact h.tup rl (r1.append r2)
    · exact h.elim
  · split at h
    · split at h
      · rename_i e1 e2 hz
        obtain ⟨a, vs, rfl, ha, r1, _⟩ := rl.lst ra e1
        obtain ⟨b, us, rfl, hb, r2, _⟩ := rl.lst rb e2
        exact .inr (.inr (.inr ⟨a, b, vs, us, rfl, rfl, ha, hb, by rw [← r1.length, ← r2.length, line_eq]; exact hz, h.lst rl (r1.append r2)⟩))
      · exact h.elim
    · exact h.elim
  · exact h.elim
def oSub : W → W → LH → OV
  | .int i, .int j, L => some (.int (i - j), L)
  | _, _, _ => none
theorem o_sub : O2 X Γ k Wx (binaryOp .Sub) oSub := fun g => by
  refine OpR.imp op_sub fun x y H Q h => ?_
  obtain ⟨ρ, L, a, b, rl, ra, rb, h⟩ := h
  unfold oSub at h
  split at h
  · cases ra; cases rb
    exact ⟨_, _, rfl, rfl, h.here rl (.int _)⟩
  · exact h.elim
def oMul : W → W → LH → OV
  | .int i, .int j, L => if (-(2 ^ 64) < i ∧ i < 2 ^ 64) ∨ (-(2 ^ 64) < j ∧ j < 2 ^ 64) then some (.int (i * j), L) else none
  | _, _, _ => none
theorem o_mul : O2 X Γ k Wx (binaryOp .Mult) oMul := fun g => by
  refine OpR.imp op_mul fun x y H Q h => ?_
  obtain ⟨ρ, L, a, b, rl, ra, rb, h⟩ := h
  unfold oMul at h
  split at h
  · split at h
    · rename_i hz
      cases ra; cases rb
      exact ⟨_, _, rfl, rfl, hz, h.here rl (.int _)⟩
    · exact h.elim
  · exact h.elim
def oMod : W → W → LH → OV
  | .int i, .int j, L => if 0 < j then some (.int (i % j), L) else none
  | _, _, _ => none
theorem o_mod : O2 X Γ k Wx (binaryOp .Mod) oMod := fun g => by
  refine OpR.imp op_mod fun x y H Q h => ?_
  obtain ⟨ρ, L, a, b, rl, ra, rb, h⟩ := h
  unfold oMod at h
  split at h
  · split at h
    · rename_i hz
      cases ra; cases rb
      exact ⟨_, _, rfl, rfl, hz, h.here rl (.int _)⟩
    · exact h.elim
  · exact h.elim
def oDiv : W → W → LH → OV
  | .int i, .int j, L => if 0 < j ∧ j < 1073741824 then some (.int (i / j), L) else none
  | _, _, _ => none
theorem o_div : O2 X Γ k Wx (binaryOp .FloorDiv) oDiv := fun g => by
  refine OpR.imp op_fdiv fun x y H Q h => ?_
  obtain ⟨ρ, L, a, b, rl, ra, rb, h⟩ := h
  unfold oDiv at h
  split at h
  · split at h
    · rename_i hz
      cases ra; cases rb
      exact ⟨_, _, rfl, rfl, hz, h.here rl (.int _)⟩
    · exact h.elim
  · exact h.elim
def oPow : W → W → LH → OV
  | .int i, .int j, L => if 0 ≤ j ∧ j ≤ 1000000 ∧ i.natAbs < 2 ^ 64 then some (.int (i ^ j.toNat), L) else none
  | _, _, _ => none
theorem o_pow : O2 X Γ k Wx (binaryOp .Pow) oPow := fun g => by
  refine OpR.imp op_pow fun x y H Q h => ?_
  obtain ⟨ρ, L, a, b, rl, ra, rb, h⟩ := h
  unfold oPow at h
  split at h
  · split at h
    · rename_i hz
      cases ra; cases rb
      exact ⟨_, _, rfl, rfl, hz, h.here rl (.int _)⟩
    · exact h.elim
  · exact h.elim
def oNeg : W → LH → OV
  | .int i, L => some (.int (-i), L)
  | _, _ => none
theorem d_neg {a : Expr} {f : Ex} (ha : DE X Γ k Wx a f) : DE X Γ k Wx (.UnaryOp .USub a pos) (cOp1 oNeg f) := d_un (fun g pins s σ H x v Q I r h => un_neg pins s σ H x v Q I r (by
  obtain ⟨ρ, L, a, rl, ra, h⟩ := h
  unfold oNeg at h
  split at h
  · cases ra; exact ⟨_, rfl, h.here rl (.int _)⟩
  · exact h.elim)) ha

/-! ### comparisons -/
mutual
def toD (L : LH) : Nat → W → Option PyData
  | _, .non => some .none
  | _, .bl b => some (.bool b)
  | _, .int i => some (.int i)
  | _, .str x => some (.str x)
  | 0, _ => none
  | n + 1, .tup ws => (toDs L n ws).map .tuple
  | n + 1, .ref m => match seqL L m with
    | some xs => (toDs L n xs).map .list
    | none => none
  | _, _ => none
def toDs (L : LH) : Nat → List W → Option (List PyData)
  | _, [] => some []
  | 0, _ => none
  | n + 1, w :: ws => match toD L n w, toDs L (n + 1) ws with
    | some d, some ds => some (d :: ds)
    | _, _ => none
end
mutual
theorem RL.dp {ρ : List Addr} {H : Hp} {L : LH} (rl : RL Γ ρ L H) : ∀ (n : Nat) (w : W) (d : PyData) (v : V), toD L n w = some d → RW Γ ρ H w v → Dp Γ.K H v d
  | n, .non, d, v, e, r => by
    cases r; unfold toD at e; cases e; exact .non
  | n, .bl b, d, v, e, r => by
    cases r; unfold toD at e; cases e; exact .bl _
  | n, .int b, d, v, e, r => by
    cases r; unfold toD at e; cases e; exact .int _
  | n, .str b, d, v, e, r => by
    cases r; unfold toD at e; cases e; exact .str _
  | 0, .tup ws, d, v, e, r => by unfold toD at e; cases e
  | 0, .ref ws, d, v, e, r => by unfold toD at e; cases e
  | n + 1, .tup ws, d, v, e, r => by
    unfold toD at e
    obtain ⟨a, vs, rfl, sa, r1⟩ := r.tup_inv
    cases ed : toDs L n ws with
    | none => rw [ed] at e; cases e
    | some ds => rw [ed] at e; cases e; exact .tup sa (RL.dps rl n ws ds vs ed r1)
  | n + 1, .ref m, d, v, e, r => by
    unfold toD at e
    cases es : seqL L m with
    | none => rw [es] at e; cases e
    | some xs =>
      rw [es] at e
      obtain ⟨a, vs, rfl, sa, r1, _⟩ := rl.seq r es
      cases ed : toDs L n xs with
      | none => simp only [ed] at e; cases e
      | some ds => simp only [ed] at e; cases e; exact .lst sa (RL.dps rl n xs ds vs ed r1)
  | n, .ty m, d, v, e, r => by cases n <;> (unfold toD at e; cases e)
  | n, .cls m, d, v, e, r => by cases n <;> (unfold toD at e; cases e)
  | n, .fn m, d, v, e, r => by cases n <;> (unfold toD at e; cases e)
  | n, .scr m, d, v, e, r => by cases n <;> (unfold toD at e; cases e)
theorem RL.dps {ρ : List Addr} {H : Hp} {L : LH} (rl : RL Γ ρ L H) : ∀ (n : Nat) (ws : List W) (ds : List PyData) (vs : List V), toDs L n ws = some ds → RWs Γ ρ H ws vs → DpAll Γ.K H vs ds
  | n, [], ds, vs, e, r => by
    cases r; cases n <;> (unfold toDs at e; cases e; exact .nil)
  | 0, w :: ws, ds, vs, e, r => by unfold toDs at e; cases e
  | n + 1, w :: ws, ds, vs, e, r => by
    unfold toDs at e
    cases r with
    | cons r1 r2 =>
      cases e1 : toD L n w with
      | none => rw [e1] at e; cases e
      | some d =>
        cases e2 : toDs L (n + 1) ws with
        | none => rw [e1, e2] at e; cases e
        | some ds' => rw [e1, e2] at e; cases e; exact .cons (RL.dp rl n w d _ e1 r1) (RL.dps rl (n + 1) ws ds' _ e2 r2)
end
/-- == of data -/
def eqD (L : LH) (a b : W) : Option Bool := match toD L 40 a, toD L 40 b with
  | some d, some e => if SeqAt.shaped d = true ∧ SeqAt.shaped e = true then some (PyData.eqv d e) else none
  | _, _ => none
def oB (r : Option Bool) (L : LH) : OV := r.map fun b => (.bl b, L)
/-- lists of unlike lengths -/
def lenDiff (L : LH) (a b : W) : Bool := match a, b with
  | .ref n, .ref m => match seqL L n, seqL L m with
    | some xs, some ys => xs.length != ys.length
    | _, _ => false
  | _, _ => false
def eqX (L : LH) (a b : W) : Option Bool := if lenDiff L a b = true then some false else eqD L a b
def oEq (a b : W) (L : LH) : OV := oB (eqX L a b) L
def oNe (a b : W) (L : LH) : OV := oB ((eqX L a b).map not) L
def rLen (K : PySem.W.Frag) (r : Bool) : R2 := fun x y H Q => ∃ a b xs ys, x = .ref a ∧ y = .ref b ∧ SqL K H a xs ∧ SqL K H b ys ∧ xs.length ≠ ys.length ∧ Q (.bl r) H
theorem op_lenEq (hu : X.A.units < cLine) : OpR X (compareOp .Eq) (rLen X.K false) := by
  intro pins s σ H x y v u Q I rx ry h
  obtain ⟨a, b, xs, ys, rfl, rfl, ha, hb, hl, q⟩ := h
  obtain rfl : v = Value.ref a := rx
  obtain rfl : u = Value.ref b := ry
  obtain ⟨us, r1, p1, _⟩ := I.list ha
  obtain ⟨ws, r2, p2, _⟩ := I.list hb
  refine SeqAt.RcAt.lists_lengths p1.isList p2.isList ?_ hu _ _ _ _ ⟨.bl false, H, I, rfl, q⟩
  rw [List.size_toArray, List.size_toArray, ← r1.length, ← r2.length]
  simpa using hl
theorem op_lenNe (hu : X.A.units < cLine) : OpR X (compareOp .NotEq) (rLen X.K true) := by
  intro pins s σ H x y v u Q I rx ry h
  obtain ⟨a, b, xs, ys, rfl, rfl, ha, hb, hl, q⟩ := h
  obtain rfl : v = Value.ref a := rx
  obtain rfl : u = Value.ref b := ry
  obtain ⟨us, r1, p1, _⟩ := I.list ha
  obtain ⟨ws, r2, p2, _⟩ := I.list hb
  refine SeqAt.RcNeAt.lists_lengths p1.isList p2.isList ?_ hu _ _ _ _ ⟨.bl true, H, I, rfl, q⟩
  rw [List.size_toArray, List.size_toArray, ← r1.length, ← r2.length]
  simpa using hl
theorem lenDiff_inv {ρ : List Addr} {H : Hp} {L : LH} {a b : W} {x y : V} (rl : RL Γ ρ L H) (ra : RW Γ ρ H a x) (rb : RW Γ ρ H b y) (h : lenDiff L a b = true) :
    ∃ p q xs ys, x = .ref p ∧ y = .ref q ∧ SqL Γ.K H p xs ∧ SqL Γ.K H q ys ∧ xs.length ≠ ys.length := by
  unfold lenDiff at h
  split at h
  · split at h
    · rename_i xs ys e1 e2
      obtain ⟨p, us, rfl, s1, r1, _⟩ := rl.seq ra e1
      obtain ⟨q, ws, rfl, s2, r2, _⟩ := rl.seq rb e2
      refine ⟨p, q, us, ws, rfl, rfl, s1, s2, ?_⟩
      rw [← r1.length, ← r2.length]
      simpa using h
    · cases h
  · cases h
theorem eqD_inv {ρ : List Addr} {H : Hp} {L : LH} {a b : W} {x y : V} {c : Bool} (rl : RL Γ ρ L H) (ra : RW Γ ρ H a x) (rb : RW Γ ρ H b y) (h : eqD L a b = some c) :
    ∃ d e, Dp Γ.K H x d ∧ Dp Γ.K H y e ∧ SeqAt.shaped d = true ∧ SeqAt.shaped e = true ∧ c = PyData.eqv d e := by
  unfold eqD at h
  split at h
  · rename_i d e h1 h2
    split at h
    · rename_i hs
      cases h
      exact ⟨d, e, rl.dp 40 a d x h1 ra, rl.dp 40 b e y h2 rb, hs.1, hs.2, rfl⟩
    · cases h
  · cases h
theorem o_eq : O2 X Γ k Wx (compareOp .Eq) oEq := fun g => by
  refine OpR.imp ((op_eqD g.hu).or (op_lenEq (Nat.lt_of_le_of_lt (Nat.le_add_right _ _) g.hu))) fun x y H Q h => ?_
  obtain ⟨ρ, L, a, b, rl, ra, rb, h⟩ := h
  unfold oEq oB eqX at h
  split at h
  · rename_i hl
    obtain ⟨p, q, xs, ys, rfl, rfl, s1, s2, hne⟩ := lenDiff_inv rl ra rb hl
    rw [← g.K] at s1 s2
    exact .inr ⟨p, q, xs, ys, rfl, rfl, s1, s2, hne, h.here rl (.bl _)⟩
  cases e : eqD L a b with
  | none => rw [e] at h; exact h.elim
  | some c =>
    rw [e] at h
    obtain ⟨d, e', h1, h2, h3, h4, rfl⟩ := eqD_inv rl ra rb e
    rw [g.K]
    exact .inl ⟨d, e', h1, h2, h3, h4, h.here rl (.bl _)⟩
theorem o_ne : O2 X Γ k Wx (compareOp .NotEq) oNe := fun g => by
  refine OpR.imp ((op_neD g.hu).or (op_lenNe (Nat.lt_of_le_of_lt (Nat.le_add_right _ _) g.hu))) fun x y H Q h => ?_
  obtain ⟨ρ, L, a, b, rl, ra, rb, h⟩ := h
  unfold oNe oB eqX at h
  split at h
  · rename_i hl
    obtain ⟨p, q, xs, ys, rfl, rfl, s1, s2, hne⟩ := lenDiff_inv rl ra rb hl
    rw [← g.K] at s1 s2
    exact .inr ⟨p, q, xs, ys, rfl, rfl, s1, s2, hne, h.here rl (.bl _)⟩
  cases e : eqD L a b with
  | none => rw [e] at h; exact h.elim
  | some c =>
    rw [e] at h
    obtain ⟨d, e', h1, h2, h3, h4, rfl⟩ := eqD_inv rl ra rb e
    rw [g.K]
    exact .inl ⟨d, e', h1, h2, h3, h4, h.here rl (.bl _)⟩
/-- comparisons of ints -/
def oCmp (p : Int → Int → Bool) : W → W → LH → OV
  | .int i, .int j, L => some (.bl (p i j), L)
  | _, _, _ => none
theorem o_cmp {op : CmpOp} {p : Int → Int → Bool} (h : OpR X (compareOp op) (rI0 fun i j => .bl (p i j))) : O2 X Γ k Wx (compareOp op) (oCmp p) := fun g => by
  refine OpR.imp h fun x y H Q h => ?_
  obtain ⟨ρ, L, a, b, rl, ra, rb, h⟩ := h
  unfold oCmp at h
  split at h
  · cases ra; cases rb
    exact ⟨_, _, rfl, rfl, h.here rl (.bl _)⟩
  · exact h.elim
abbrev oLt := oCmp fun i j => decide (i < j)
abbrev oLe := oCmp fun i j => decide (i ≤ j)
abbrev oGt := oCmp fun i j => decide (j < i)
abbrev oGe := oCmp fun i j => decide (j ≤ i)
theorem o_lt : O2 X Γ k Wx (compareOp .Lt) oLt := o_cmp op_lt
theorem o_le : O2 X Γ k Wx (compareOp .LtE) oLe := o_cmp op_le
theorem o_gt : O2 X Γ k Wx (compareOp .Gt) oGt := o_cmp op_gt
theorem o_ge : O2 X Γ k Wx (compareOp .GtE) oGe := o_cmp op_ge
theorem d_cmp {op : CmpOp} {o : W → W → LH → OV} {a b : Expr} {f h : Ex} (ho : O2 X Γ k Wx (compareOp op) o) (ha : DE X Γ k Wx a f) (hb : DE X Γ k Wx b h) (hm : behindInMarks op b = false := by first | exact nomark _ | rfl) : DE X Γ k Wx (.Compare a [op] [b] pos) (cOp2 o f h) := fun g =>
  PE.imp (pe_cmpR (ho g) (ha g) (hb g) hm) fun σ H Q q => tOp2 q
end
end Z

/-! Z2: tests, in, subscripts, slices. -/
namespace Z
open PySem PySem.Spec PyProof.Rows L2

section
variable {Γ : Ctx} {ρ : List Addr} {H : Hp} {L : LH} {Wx : WX} {σ : L2.St}
theorem RWs.isEmpty {ws : List W} {vs : List V} (r : RWs Γ ρ H ws vs) : ws.isEmpty = vs.isEmpty := by cases r <;> rfl
theorem RKs.isEmpty {κ : Type} {ws : List (κ × W)} {vs : List (κ × V)} (r : RKs Γ ρ H ws vs) : ws.isEmpty = vs.isEmpty := by cases r <;> rfl
/-- how an object is read -/
theorem RL.at_ {n : Nat} {v : V} (rl : RL Γ ρ L H) (h : RW Γ ρ H (.ref n) v) {o : LO} (e : L[n]? = some o) : ∃ a, v = .ref a ∧ ρ[n]? = some a ∧ RO Γ ρ H a o := by
  cases h with
  | ref h =>
    obtain ⟨a, ea, r⟩ := rl.obj n _ e
    rw [ea] at h; cases h
    exact ⟨_, rfl, ea, r⟩
theorem sqScr {K : PySem.W.Frag} {a : Addr} {ns : List Int} (h : (∃ ob, H a = some (.frz ob (.lst (ns.map V.int)))) ∨ SqL K (fun _ => none) a (ns.map V.int)) : SqL K H a (ns.map V.int) := by
  rcases h with ⟨ob, h⟩ | h
  · exact .inl (.inr ⟨ob, h⟩)
  · exact sqK h H
theorem RWs.ints (ns : List Int) : RWs Γ ρ H (ns.map W.int) (ns.map V.int) := by
  induction ns with
  | nil => exact .nil
  | cons n r ih => exact .cons (.int n) ih
/-! ### truth -/
def truW : W → LH → Option Bool
  | .non, _ => some false
  | .bl b, _ => some b
  | .int i, _ => some (i != 0)
  | .str y, _ => if y.length ≤ 16777216 then some ((y.length : Int) != 0) else none
  | .tup ws, _ => some (!ws.isEmpty)
  | .scr ns, _ => some (!ns.isEmpty)
  | .ref n, L => match L[n]? with
    | some (.lst xs) => some (!xs.isEmpty)
    | some (.dic kvs) => some (!kvs.isEmpty)
    | _ => none
  | _, _ => none
theorem truW_ok {K : PySem.W.Frag} (hK : K = Γ.K) {w : W} {v : V} {b : Bool} (rl : RL Γ ρ L H) (r : RW Γ ρ H w v) (h : truW w L = some b) : TruV K v H b := by
  subst hK
  cases r with
  | non => cases h; rfl
  | bl b => cases h; rfl
  | int i => cases h; rfl
  | str y =>
    simp only [truW] at h
    split at h
    · rename_i hz; cases h; exact ⟨by rw [line_eq]; exact hz, rfl⟩
    · cases h
  | ty n => cases h
  | tup s r => cases h; exact .inr (.inl ⟨_, s, by rw [r.isEmpty]⟩)
  | cls c => cases h
  | fn c => cases h
  | scr e =>
    cases h
    refine .inl ⟨_, sqScr e, ?_⟩
    rw [List.isEmpty_map]
  | @ref n a e =>
    simp only [truW] at h
    split at h
    · rename_i xs eo
      cases h
      obtain ⟨a', e1, e2, vs, e3, r⟩ := rl.at_ (.ref e) eo
      cases e1
      exact .inl ⟨vs, .of e3, by rw [r.isEmpty]⟩
    · rename_i xs eo
      cases h
      obtain ⟨a', e1, e2, vs, e3, r⟩ := rl.at_ (.ref e) eo
      cases e1
      exact .inr (.inr ⟨vs, e3, by rw [r.isEmpty]⟩)
    · cases h
end
abbrev Bx := Env → LH → Res Bool
def ofOB (b : Option Bool) (L : LH) : Res Bool := match b with
  | some b => .ok b L
  | none => .stk
def bTru (f : Ex) : Bx := fun env L => (f env L).bind fun a L1 => ofOB (truW a L1) L1
def blW : W → Option Bool
  | .bl b => some b
  | _ => none
def bVal (f : Ex) : Bx := fun env L => (f env L).bind fun a L1 => ofOB (blW a) L1
def bNot (t : Bx) : Bx := fun env L => (t env L).bind fun b L1 => .ok (!b) L1
def bAnd (t u : Bx) : Bx := fun env L => (t env L).bind fun b L1 => if b = true then u env L1 else .ok false L1
def bOr (t u : Bx) : Bx := fun env L => (t env L).bind fun b L1 => if b = true then .ok true L1 else u env L1
def cIf (t : Bx) (f h : Ex) : Ex := fun env L => (t env L).bind fun b L1 => if b = true then f env L1 else h env L1
def cOr (f h : Ex) : Ex := fun env L => (f env L).bind fun a L1 => (ofOB (truW a L1) L1).bind fun b L2 => if b = true then .ok a L2 else h env L2
def cAnd (f h : Ex) : Ex := fun env L => (f env L).bind fun a L1 => (ofOB (truW a L1) L1).bind fun b L2 => if b = true then h env L2 else .ok a L2
def cNot (f : Ex) : Ex := fun env L => (f env L).bind fun a L1 => (ofOB (truW a L1) L1).bind fun b L2 => .ok (.bl (!b)) L2
def cChain (o o' : W → W → LH → OV) (f g h : Ex) : Ex := fun env L => (f env L).bind fun a L1 => (g env L1).bind fun b L2 => (ofO (o a b L2)).bind fun z L3 => (ofOB (blW z) L3).bind fun c L4 =>
  if c = true then (h env L4).bind fun y L5 => ofO (o' b y L5) else .ok (.bl false) L4
section
variable {X : Cx} {Γ : Ctx} {k : Nat} {Wx : WX} {pos : Pos}
theorem ofOB_inv {α : Type} {β : Type} {R : List Addr → Hp → α → β → Prop} {σ : L2.St} {ρ : List Addr} {H : Hp} {L : LH} {o : Option Bool} {kk : Bool → LH → Res α} {Q : β → Hp → Prop} (h : Out R Γ Wx σ ρ H ((ofOB o L).bind kk) Q) : ∃ b, o = some b ∧ Out R Γ Wx σ ρ H (kk b L) Q := by
  cases o with
  | none => exact False.elim h
  | some b => exact ⟨b, rfl, h⟩
theorem ofOB_out {σ : L2.St} {ρ : List Addr} {H : Hp} {L : LH} {o : Option Bool} {Q : Bool → Hp → Prop} (rl : RL Γ ρ L H) (h : Out RB Γ Wx σ ρ H (ofOB o L) Q) : ∃ b, o = some b ∧ Q b H := by
  cases o with
  | none => exact False.elim h
  | some b => exact ⟨b, rfl, out_ok (R := RB) h rl rfl⟩
theorem ofO_inv {σ : L2.St} {ρ : List Addr} {H : Hp} {o : OV} {kk : W → LH → Res W} {Q : VK} {Q1 : VK} (h : Out (RW Γ) Γ Wx σ ρ H ((ofO o).bind kk) Q)
    (next : ∀ ρ1 H1 w v L1, Aft Γ ρ H L1 ρ1 H1 → RW Γ ρ1 H1 w v → Out (RW Γ) Γ Wx σ ρ1 H1 (kk w L1) Q → Q1 v H1) : OkOut Γ ρ H o Q1 := by
  cases o with
  | none => exact False.elim h
  | some p => exact fun ρ' H' v a r => next ρ' H' p.1 v p.2 a r (Out.rebase a h)
theorem d_tru {e : Expr} {f : Ex} (ha : DE X Γ k Wx e f) (he : ∀ whole, isTrue e X.env whole = (do let v ← whole; standAt e.pos; holding [v] (truthy v)) := by intro _; rfl) : DT X Γ k Wx e (bTru f) := fun g =>
  PT.imp (pt_truth (ha g) he) fun σ H Q h => by
    obtain ⟨ρ, env, L, rl, re, h⟩ := h
    refine tG_bind rl re h fun ρ1 H1 a v L1 a1 re1 r1 h1 => ?_
    obtain ⟨b, e, q⟩ := ofOB_out a1.rl h1
    exact ⟨b, truW_ok g.K a1.rl r1 e, q⟩
theorem b_cmp {op : CmpOp} {o : W → W → LH → OV} {a b : Expr} {f h : Ex} (ho : O2 X Γ k Wx (compareOp op) o) (ha : DE X Γ k Wx a f) (hb : DE X Γ k Wx b h) (hm : behindInMarks op b = false := by first | exact nomark _ | rfl) : DT X Γ k Wx (.Compare a [op] [b] pos) (bVal (cOp2 o f h)) := fun g =>
  PT.imp (pt_cmpR (ho g) (ha g) (hb g) hm) fun σ H Q q => by
    refine tOp2 (Wx := Wx) ?_
    obtain ⟨ρ, env, L, rl, re, h⟩ := q
    refine tG_bind rl re h fun ρ1 H1 a v L1 a1 re1 r1 h1 => ?_
    obtain ⟨b, e, q⟩ := ofOB_out a1.rl h1
    cases r1 <;> first | (cases e; exact ⟨_, rfl, q⟩) | cases e
theorem b_not {a : Expr} {t : Bx} (ha : DT X Γ k Wx a t) : DT X Γ k Wx (.UnaryOp .Not a pos) (bNot t) := fun g =>
  PT.imp (pt_not (ha g)) fun σ H Q q => by
    obtain ⟨ρ, env, L, rl, re, h⟩ := q
    refine tG_bind rl re h fun ρ1 H1 a v L1 a1 re1 r1 h1 => ?_
    cases r1
    exact out_ok (R := RB) h1 a1.rl rfl
theorem b_w {e : Expr} {t : Bx} (h : DW X Γ k Wx e t) : DT X Γ k Wx e t := fun g => (h g).pt
theorem w_and1 {a : Expr} {t : Bx} (ha : DT X Γ k Wx a t) : DW X Γ k Wx (.BoolOp .And [a] pos) t := fun g => pw_and1 (ha g)
theorem w_or1 {a : Expr} {t : Bx} (ha : DT X Γ k Wx a t) : DW X Γ k Wx (.BoolOp .Or [a] pos) t := fun g => pw_or1 (ha g)
theorem w_and {a b : Expr} {rest : List Expr} {t u : Bx} (ha : DT X Γ k Wx a t) (hb : DW X Γ k Wx (.BoolOp .And (b :: rest) pos) u) : DW X Γ k Wx (.BoolOp .And (a :: b :: rest) pos) (bAnd t u) := fun g =>
  PW.imp (pw_and (ha g) (hb g)) fun σ H Q q => by
    obtain ⟨ρ, env, L, rl, re, h⟩ := q
    refine tG_bind rl re h fun ρ1 H1 a v L1 a1 re1 r1 h1 => ?_
    cases r1
    cases a with
    | true => exact ⟨ρ1, env, L1, a1.rl, re1, h1⟩
    | false => exact out_ok (R := RB) h1 a1.rl rfl
theorem w_or {a b : Expr} {rest : List Expr} {t u : Bx} (ha : DT X Γ k Wx a t) (hb : DW X Γ k Wx (.BoolOp .Or (b :: rest) pos) u) : DW X Γ k Wx (.BoolOp .Or (a :: b :: rest) pos) (bOr t u) := fun g =>
  PW.imp (pw_or (ha g) (hb g)) fun σ H Q q => by
    obtain ⟨ρ, env, L, rl, re, h⟩ := q
    refine tG_bind rl re h fun ρ1 H1 a v L1 a1 re1 r1 h1 => ?_
    cases r1
    cases a with
    | false => exact ⟨ρ1, env, L1, a1.rl, re1, h1⟩
    | true => exact out_ok (R := RB) h1 a1.rl rfl
theorem d_if {c a b : Expr} {t : Bx} {f h : Ex} (hc : DT X Γ k Wx c t) (ha : DE X Γ k Wx a f) (hb : DE X Γ k Wx b h) : DE X Γ k Wx (.IfExp c a b pos) (cIf t f h) := fun g =>
  PE.imp (pe_ifExp (hc g) (ha g) (hb g)) fun σ H Q q => by
    obtain ⟨ρ, env, L, rl, re, h⟩ := q
    refine tG_bind rl re h fun ρ1 H1 a v L1 a1 re1 r1 h1 => ?_
    cases r1
    cases a with
    | true => exact ⟨ρ1, env, L1, a1.rl, re1, h1⟩
    | false => exact ⟨ρ1, env, L1, a1.rl, re1, h1⟩
theorem d_one {op} {a : Expr} {f : Ex} (h : DE X Γ k Wx a f) : DE X Γ k Wx (.BoolOp op [a] pos) f := fun g => pe_one (h g)
theorem d_or {a b : Expr} {rest : List Expr} {f h : Ex} (ha : DE X Γ k Wx a f) (hb : DE X Γ k Wx (.BoolOp .Or (b :: rest) pos) h) : DE X Γ k Wx (.BoolOp .Or (a :: b :: rest) pos) (cOr f h) := fun g =>
  PE.imp (pe_orT (ha g) (hb g)) fun σ H Q q => by
    obtain ⟨ρ, env, L, rl, re, h⟩ := q
    refine tG_bind rl re h fun ρ1 H1 a v L1 a1 re1 r1 h1 => ?_
    obtain ⟨b, e, q⟩ := ofOB_inv h1
    refine ⟨b, truW_ok g.K a1.rl r1 e, ?_⟩
    cases b with
    | true => exact out_ok (R := RW Γ) q a1.rl r1
    | false => exact ⟨ρ1, env, L1, a1.rl, re1, q⟩
theorem d_and {a b : Expr} {rest : List Expr} {f h : Ex} (ha : DE X Γ k Wx a f) (hb : DE X Γ k Wx (.BoolOp .And (b :: rest) pos) h) : DE X Γ k Wx (.BoolOp .And (a :: b :: rest) pos) (cAnd f h) := fun g =>
  PE.imp (pe_andT (ha g) (hb g)) fun σ H Q q => by
    obtain ⟨ρ, env, L, rl, re, h⟩ := q
    refine tG_bind rl re h fun ρ1 H1 a v L1 a1 re1 r1 h1 => ?_
    obtain ⟨b, e, q⟩ := ofOB_inv h1
    refine ⟨b, truW_ok g.K a1.rl r1 e, ?_⟩
    cases b with
    | true => exact ⟨ρ1, env, L1, a1.rl, re1, q⟩
    | false => exact out_ok (R := RW Γ) q a1.rl r1
theorem d_not {a : Expr} {f : Ex} (ha : DE X Γ k Wx a f) : DE X Γ k Wx (.UnaryOp .Not a pos) (cNot f) := fun g =>
  PE.imp (pe_notT (ha g)) fun σ H Q q => by
    obtain ⟨ρ, env, L, rl, re, h⟩ := q
    refine tG_bind rl re h fun ρ1 H1 a v L1 a1 re1 r1 h1 => ?_
    obtain ⟨b, e, q⟩ := ofOB_inv h1
    exact ⟨b, truW_ok g.K a1.rl r1 e, out_ok (R := RW Γ) q a1.rl (.bl _)⟩
theorem tChain2 {o o' : W → W → LH → OV} {f g h : Ex} {σ : L2.St} {H : Hp} {Q : VK} (q : tEx Γ Wx (cChain o o' f g h) σ H Q) : tChain (v2 Γ o) (v2 Γ o') (tEx Γ Wx f) (tEx Γ Wx g) (tEx Γ Wx h) σ H Q := by
  obtain ⟨ρ, env, L, rl, re, h⟩ := q
  refine tG_bind rl re h fun ρ1 H1 a v L1 a1 re1 r1 h1 => ?_
  refine tG_bind a1.rl re1 h1 fun ρ2 H2 b u L2 a2 re2 r2 h2 => ?_
  refine ⟨ρ2, L2, a, b, a2.rl, r1.mono a2.pre a2.kp, r2, ofO_inv h2 fun ρ3 H3 z y L3 a3 r3 h3 => ?_⟩
  obtain ⟨c, e, h3⟩ := ofOB_inv h3
  have ez : y = .bl c := by
    cases r3 <;> first | (cases e; rfl) | cases e
  refine ⟨c, ez, ?_⟩
  cases c with
  | false => exact out_ok (R := RW Γ) h3 a3.rl (.bl _)
  | true =>
    refine tG_bind a3.rl (re2.mono a3.pre a3.kp) h3 fun ρ4 H4 y' v' L4 a4 re4 r4 h4 => ?_
    exact ⟨ρ4, L4, b, y', a4.rl, (r2.mono a3.pre a3.kp).mono a4.pre a4.kp, r4, out_of h4⟩
theorem d_chain {op op' : CmpOp} {o o' : W → W → LH → OV} {a b c : Expr} {f g h : Ex} (ho : O2 X Γ k Wx (compareOp op) o) (ho' : O2 X Γ k Wx (compareOp op') o') (ha : DE X Γ k Wx a f) (hb : DE X Γ k Wx b g) (hc : DE X Γ k Wx c h)
    (hm : lastMarks [op, op'] [b, c] = false := by with_unfolding_all rfl) : DE X Γ k Wx (.Compare a [op, op'] [b, c] pos) (cChain o o' f g h) := fun G =>
  PE.imp (pe_chain (ho G) (ho' G) (ha G) (hb G) (hc G) hm) fun σ H Q q => tChain2 q
theorem b_chain {op op' : CmpOp} {o o' : W → W → LH → OV} {a b c : Expr} {f g h : Ex} (ho : O2 X Γ k Wx (compareOp op) o) (ho' : O2 X Γ k Wx (compareOp op') o') (ha : DE X Γ k Wx a f) (hb : DE X Γ k Wx b g) (hc : DE X Γ k Wx c h)
    (hm : lastMarks [op, op'] [b, c] = false := by with_unfolding_all rfl) : DT X Γ k Wx (.Compare a [op, op'] [b, c] pos) (bVal (cChain o o' f g h)) := fun G =>
  PT.imp (pt_chain (ho G) (ho' G) (ha G) (hb G) (hc G) hm) fun σ H Q q => by
    refine tChain2 (Wx := Wx) ?_
    obtain ⟨ρ, env, L, rl, re, h⟩ := q
    refine tG_bind rl re h fun ρ1 H1 a v L1 a1 re1 r1 h1 => ?_
    obtain ⟨b, e, q⟩ := ofOB_out a1.rl h1
    cases r1 <;> first | (cases e; exact ⟨_, rfl, q⟩) | cases e

/-! ### is None -/
def isNon : W → Bool
  | .non => true
  | _ => false
def oIsN (a b : W) (L : LH) : OV := match b with
  | .non => some (.bl (isNon a), L)
  | _ => none
def oNotN (a b : W) (L : LH) : OV := match b with
  | .non => some (.bl (!isNon a), L)
  | _ => none
theorem RW.non_iff {ρ : List Addr} {H : Hp} {a : W} {x : V} (r : RW Γ ρ H a x) : isNon a = decide (x = .non) := by
  cases r <;> simp [isNon]
theorem o_isN : O2 X Γ k Wx (compareOp .Is) oIsN := fun g => by
  refine OpR.imp op_isN fun x y H Q h => ?_
  obtain ⟨ρ, L, a, b, rl, ra, rb, h⟩ := h
  unfold oIsN at h
  split at h
  · cases rb
    rw [ra.non_iff] at h
    exact ⟨rfl, h.here rl (.bl _)⟩
  · exact h.elim
theorem o_notN : O2 X Γ k Wx (compareOp .IsNot) oNotN := fun g => by
  refine OpR.imp op_notN fun x y H Q h => ?_
  obtain ⟨ρ, L, a, b, rl, ra, rb, h⟩ := h
  unfold oNotN at h
  split at h
  · cases rb
    rw [ra.non_iff] at h
    exact ⟨rfl, h.here rl (.bl _)⟩
  · exact h.elim

/-! ### in -/
def flatW : W → Bool
  | .non => true
  | .bl _ => true
  | .int _ => true
  | .str _ => true
  | _ => false
def eqF : W → W → Bool
  | .non, .non => true
  | .bl a, .bl b => a == b
  | .bl a, .int b => (if a then 1 else 0) == b
  | .int a, .bl b => a == (if b then 1 else 0)
  | .int a, .int b => a == b
  | .str a, .str b => a == b
  | _, _ => false
theorem flatW_ok {ρ : List Addr} {H : Hp} {a : W} {x : V} (r : RW Γ ρ H a x) : flatW a = flatV x ∨ flatW a = false := by cases r <;> simp [flatW, flatV]
theorem eqF_ok {ρ : List Addr} {H : Hp} {a b : W} {x y : V} (r : RW Γ ρ H a x) (s : RW Γ ρ H b y) (h : flatW a = true) (h' : flatW b = true) : eqF a b = eqV x y := by
  cases r <;> cases s <;> first | rfl | cases h | cases h'
theorem flatsW_ok {ρ : List Addr} {H : Hp} : ∀ {as : List W} {xs : List V}, RWs Γ ρ H as xs → as.all flatW = true → xs.all flatV = true
  | _, _, .nil, _ => rfl
  | _, _, .cons r t, h => by
    rw [List.all_cons, Bool.and_eq_true] at h
    rw [List.all_cons, Bool.and_eq_true]
    refine ⟨?_, flatsW_ok t h.2⟩
    rcases flatW_ok r with e | e
    · rw [← e]; exact h.1
    · rw [e] at h; cases h.1
theorem inF_ok {ρ : List Addr} {H : Hp} {a : W} {x : V} (r : RW Γ ρ H a x) (ha : flatW a = true) : ∀ {as : List W} {xs : List V}, RWs Γ ρ H as xs → as.all flatW = true → (as.any fun y => eqF y a) = inV x xs
  | _, _, .nil, _ => rfl
  | _, _, .cons s t, h => by
    rw [List.all_cons, Bool.and_eq_true] at h
    unfold inV
    rw [List.any_cons, List.any_cons, eqF_ok s r h.1 ha, inF_ok r ha t h.2]
    rfl
/-- a in b, by data -/
def inD (L : LH) (a b : W) : Option Bool := match toD L 40 a, toD L 40 b with
  | some d, some (.list ds) => if SeqAt.shaped d = true ∧ SeqAt.shaped (.list ds) = true then some (ds.any fun z => PyData.eqv z d) else none
  | _, _ => none
def strIn (i j : Str) : Bool := !(Builtin.Str.occurrences j i 0 j.length 1).isEmpty
def inW (a b : W) (L : LH) : Option Bool := match b with
  | .tup ws => if flatW a = true ∧ ws.all flatW = true then some (ws.any fun y => eqF y a) else none
  | .str j => match a with
    | .str i => some (strIn i j)
    | _ => none
  | .ref n => match seqL L n with
    | some ws => if flatW a = true ∧ ws.all flatW = true then some (ws.any fun y => eqF y a) else inD L a b
    | none => none
  | _ => none
def oIn (a b : W) (L : LH) : OV := oB (inW a b L) L
def oNotIn (a b : W) (L : LH) : OV := oB ((inW a b L).map not) L
theorem inD_inv {ρ : List Addr} {H : Hp} {L : LH} {a b : W} {x y : V} {c : Bool} (rl : RL Γ ρ L H) (ra : RW Γ ρ H a x) (rb : RW Γ ρ H b y) (h : inD L a b = some c) :
    ∃ d ds, Dp Γ.K H x d ∧ Dp Γ.K H y (.list ds) ∧ SeqAt.shaped d = true ∧ SeqAt.shaped (.list ds) = true ∧ c = ds.any fun z => PyData.eqv z d := by
  unfold inD at h
  split at h
  · rename_i d ds h1 h2
    split at h
    · rename_i hs
      cases h
      exact ⟨d, ds, rl.dp 40 a d x h1 ra, rl.dp 40 b _ y h2 rb, hs.1, hs.2, rfl⟩
    · cases h
  · cases h
theorem inW_ok {neg : Bool} {K : PySem.W.Frag} (hK : K = Γ.K) {ρ : List Addr} {H : Hp} {L : LH} {a b : W} {x y : V} {Q : VK} {c : Bool} (rl : RL Γ ρ L H) (ra : RW Γ ρ H a x) (rb : RW Γ ρ H b y) (h : inW a b L = some c) (q : Q (.bl (if neg then !c else c)) H) :
    rIn K neg x y H Q ∨ ((∃ d ds, Dp K H x d ∧ Dp K H y (.list ds) ∧ SeqAt.shaped d = true ∧ SeqAt.shaped (.list ds) = true ∧ Q (.bl (if neg then !(ds.any fun z => PyData.eqv z d) else ds.any fun z => PyData.eqv z d)) H) ∨
      ∃ i j, x = .str i ∧ y = .str j ∧ Q (.bl (if neg then !(strIn i j) else strIn i j)) H) := by
  subst hK
  have flat : ∀ {ws : List W} {p : Addr} {vs : List V}, flatW a = true ∧ ws.all flatW = true → RWs Γ ρ H ws vs → y = .ref p → (SqL Γ.K H p vs ∨ SqT Γ.K H p vs) → c = (ws.any fun y => eqF y a) → rIn Γ.K neg x y H Q := fun {ws p vs} hf r ey sq ec => by
    refine ⟨p, vs, ey, sq, ?_, flatsW_ok r hf.2, ?_⟩
    · rcases flatW_ok ra with e | e
      · rw [← e]; exact hf.1
      · rw [e] at hf; cases hf.1
    · rw [← inF_ok ra hf.1 r hf.2, ← ec]; exact q
  unfold inW at h
  split at h
  · split at h
    · rename_i ws hf
      cases h
      obtain ⟨p, vs, ey, st, r⟩ := rb.tup_inv
      exact .inl (flat hf r ey (.inr st) rfl)
    · cases h
  · split at h
    · cases h; cases ra; cases rb
      exact .inr (.inr ⟨_, _, rfl, rfl, q⟩)
    · cases h
  · rename_i n
    split at h
    · rename_i ws es
      split at h
      · rename_i hf
        cases h
        obtain ⟨p, vs, ey, st, r, _⟩ := rl.seq rb es
        exact .inl (flat hf r ey (.inl st) rfl)
      · obtain ⟨d, ds, h1, h2, h3, h4, ec⟩ := inD_inv rl ra rb h
        subst ec
        exact .inr (.inl ⟨d, ds, h1, h2, h3, h4, q⟩)
    · cases h
  · cases h
theorem Good.hu65 (g : Good X Γ k Wx) : X.A.units + 65 < cLine := by have := g.room.un; omega
theorem o_in : O2 X Γ k Wx (compareOp .In) oIn := fun g => by
  refine OpR.imp (op_in_seq.or ((op_inD g.hu65).or op_in_str)) fun x y H Q h => ?_
  obtain ⟨ρ, L, a, b, rl, ra, rb, h⟩ := h
  unfold oIn oB at h
  cases e : inW a b L with
  | none => rw [e] at h; exact h.elim
  | some c => rw [e] at h; exact inW_ok (neg := false) g.K rl ra rb e (h.here rl (.bl _))
theorem o_notIn : O2 X Γ k Wx (compareOp .NotIn) oNotIn := fun g => by
  refine OpR.imp (op_notIn_seq.or ((op_notInD g.hu65).or op_notIn_str)) fun x y H Q h => ?_
  obtain ⟨ρ, L, a, b, rl, ra, rb, h⟩ := h
  unfold oNotIn oB at h
  cases e : inW a b L with
  | none => rw [e] at h; exact h.elim
  | some c => rw [e] at h; exact inW_ok (neg := true) g.K rl ra rb e (h.here rl (.bl _))
end
end Z

/-! Z3: subscripts, slices, dicts read, built-in calls. -/
namespace Z
open PySem PySem.Spec PyProof.Rows L2

/-! ### dicts -/
def keyW : W → Option Key
  | .int i => some (.inl i)
  | .str x => some (.inr x)
  | _ => none
def valW {κ : Type} [DecidableEq κ] (kvs : List (κ × W)) (k : κ) : Option W := (kvs.find? fun kv => decide (kv.1 = k)).map (·.2)
def putW {κ : Type} [DecidableEq κ] (kvs : List (κ × W)) (k : κ) (w : W) : List (κ × W) :=
  if (kvs.any fun kv => decide (kv.1 = k)) then kvs.map fun kv => if kv.1 = k then (kv.1, w) else kv else kvs ++ [(k, w)]
section
variable {Γ : Ctx} {ρ : List Addr} {H : Hp} {L : LH} {Wx : WX} {σ : L2.St}
theorem RKs.val {κ : Type} [DecidableEq κ] {k : κ} : ∀ {ws : List (κ × W)} {vs : List (κ × V)}, RKs Γ ρ H ws vs →
    (∀ w, valW ws k = some w → ∃ v, valV vs k = some v ∧ RW Γ ρ H w v) ∧ (valW ws k = none → valV vs k = none)
  | _, _, .nil => ⟨fun _ h => by simp [valW] at h, fun _ => rfl⟩
  | _, _, .cons (k := j) (w := w) (v := v) (ws := ws) (vs := vs) r t => by
    obtain ⟨h1, h2⟩ := RKs.val (k := k) t
    by_cases e : j = k
    · subst e
      have e1 : valW ((j, w) :: ws) j = some w := by simp [valW]
      have e2 : valV ((j, v) :: vs) j = some v := by simp [valV]
      rw [e1, e2]
      exact ⟨fun w' q => by cases q; exact ⟨v, rfl, r⟩, fun q => by cases q⟩
    · have e1 : valW ((j, w) :: ws) k = valW ws k := by simp [valW, List.find?_cons, e]
      have e2 : valV ((j, v) :: vs) k = valV vs k := by simp [valV, List.find?_cons, e]
      rw [e1, e2]
      exact ⟨h1, h2⟩
theorem RKs.any {κ : Type} [DecidableEq κ] {k : κ} : ∀ {ws : List (κ × W)} {vs : List (κ × V)}, RKs Γ ρ H ws vs → (ws.any fun kv => decide (kv.1 = k)) = vs.any fun kv => decide (kv.1 = k)
  | _, _, .nil => rfl
  | _, _, .cons r t => by rw [List.any_cons, List.any_cons, RKs.any t]
theorem RKs.repl {κ : Type} [DecidableEq κ] {k : κ} {w : W} {v : V} (q : RW Γ ρ H w v) : ∀ {ws : List (κ × W)} {vs : List (κ × V)}, RKs Γ ρ H ws vs →
    RKs Γ ρ H (ws.map fun kv => if kv.1 = k then (kv.1, w) else kv) (vs.map fun kv => if kv.1 = k then (kv.1, v) else kv)
  | _, _, .nil => .nil
  | _, _, .cons (k := j) r t => by
    rw [List.map_cons, List.map_cons]
    by_cases e : j = k
    · rw [if_pos e, if_pos e]; exact .cons q (RKs.repl q t)
    · rw [if_neg e, if_neg e]; exact .cons r (RKs.repl q t)
theorem RKs.append {κ : Type} : ∀ {ws ws' : List (κ × W)} {vs vs' : List (κ × V)}, RKs Γ ρ H ws vs → RKs Γ ρ H ws' vs' → RKs Γ ρ H (ws ++ ws') (vs ++ vs')
  | _, _, _, _, .nil, s => s
  | _, _, _, _, .cons r t, s => .cons r (RKs.append t s)
theorem putK_eq {κ : Type} [DecidableEq κ] (vs : List (κ × V)) (k : κ) (v : V) : putK vs k v = if (vs.any fun kv => decide (kv.1 = k)) then vs.map fun kv => if kv.1 = k then (kv.1, v) else kv else vs ++ [(k, v)] := by
  unfold putK; rfl
theorem RKs.put {κ : Type} [DecidableEq κ] {k : κ} {w : W} {v : V} (q : RW Γ ρ H w v) {ws : List (κ × W)} {vs : List (κ × V)} (r : RKs Γ ρ H ws vs) : RKs Γ ρ H (putW ws k w) (putK vs k v) := by
  rw [putK_eq]
  unfold putW
  rw [r.any]
  split
  · exact r.repl q
  · exact r.append (.cons q .nil)
theorem keyW_ok {w : W} {v : V} {kk : Key} (r : RW Γ ρ H w v) (h : keyW w = some kk) : v = kV kk := by
  cases r <;> cases h <;> rfl
end
def dicW : W → LH → Option (List (Key × W))
  | .ref n, L => match L[n]? with
    | some (.dic kvs) => some kvs
    | _ => none
  | _, _ => none
def seqW : W → LH → Option (List W)
  | .tup ws, _ => some ws
  | .ref n, L => seqL L n
  | .scr ns, _ => some (ns.map .int)
  | _, _ => none
/-- a[b] of a sequence, a text -/
def oIxS (a b : W) (L : LH) : OV := match b with
  | .int i => match a with
    | .str z => if z.length ≤ 16777216 then (atI z.cps.toList i).map fun c => (.str ⟨#[c]⟩, L) else none
    | _ => match seqW a L with
      | some ws => (atI ws i).map fun w => (w, L)
      | none => none
  | _ => none
def oIxD (a b : W) (L : LH) : OV := match dicW a L, keyW b with
  | some kvs, some kk => (valW kvs kk).map fun w => (w, L)
  | _, _ => none
def oIx (a b : W) (L : LH) : OV := match dicW a L with
  | some _ => oIxD a b L
  | none => oIxS a b L
section
variable {X : Cx} {Γ : Ctx} {k : Nat} {Wx : WX} {pos : Pos}
theorem dicW_inv {ρ : List Addr} {H : Hp} {L : LH} {a : W} {x : V} {kvs : List (Key × W)} (rl : RL Γ ρ L H) (r : RW Γ ρ H a x) (h : dicW a L = some kvs) : ∃ n p vs, a = .ref n ∧ L[n]? = some (.dic kvs) ∧ x = .ref p ∧ ρ[n]? = some p ∧ H p = some (.dK vs) ∧ RKs Γ ρ H kvs vs := by
  cases r with
  | @ref n p e =>
    simp only [dicW] at h
    split at h
    · rename_i ks eo
      cases h
      obtain ⟨p', e1, e2, vs, e3, r⟩ := rl.at_ (.ref e) eo
      cases e1
      exact ⟨n, _, vs, rfl, eo, rfl, e2, e3, r⟩
    · cases h
  | _ => cases h
theorem seqW_inv {ρ : List Addr} {H : Hp} {L : LH} {a : W} {x : V} {ws : List W} (rl : RL Γ ρ L H) (r : RW Γ ρ H a x) (h : seqW a L = some ws) : ∃ p vs, x = .ref p ∧ (SqL Γ.K H p vs ∨ SqT Γ.K H p vs) ∧ RWs Γ ρ H ws vs := by
  cases r with
  | ref e =>
    obtain ⟨p, vs, e1, s, r, _⟩ := rl.seq (.ref e) h
    exact ⟨p, vs, e1, .inl s, r⟩
  | tup s r => cases h; exact ⟨_, _, rfl, .inr s, r⟩
  | scr e => cases h; exact ⟨_, _, rfl, .inl (sqScr e), RWs.ints _⟩
  | _ => cases h
theorem atI_ok {ρ : List Addr} {H : Hp} {ws : List W} {vs : List V} {i : Int} {w : W} (r : RWs Γ ρ H ws vs) (h : atI ws i = some w) : ∃ v, atI vs i = some v ∧ RW Γ ρ H w v := by
  unfold atI at h ⊢
  rw [← r.length]
  cases e : ixN ws.length i with
  | none => rw [e] at h; cases h
  | some j => rw [e] at h; exact r.get h
theorem o_ixS (g : Good X Γ k Wx) : IxR X (v2 Γ oIxS) := by
  refine IxR.imp ix_seq fun x y H Q h => ?_
  obtain ⟨ρ, L, a, b, rl, ra, rb, h⟩ := h
  unfold oIxS at h
  split at h
  · cases rb
    split at h
    · split at h
      · rename_i z hz
        cases ra
        cases e : atI z.cps.toList _ with
        | none => rw [e] at h; exact h.elim
        | some c =>
          rw [e] at h
          exact .inr (.inr ⟨z, _, c, rfl, rfl, by rw [line_eq]; exact hz, e, h.here rl (.str _)⟩)
      · exact h.elim
    · split at h
      · rename_i ws es
        obtain ⟨p, vs, rfl, s, r⟩ := seqW_inv rl ra es
        cases e : atI ws _ with
        | none => rw [e] at h; exact h.elim
        | some c =>
          rw [e] at h
          obtain ⟨v, e1, r1⟩ := atI_ok r e
          rw [← g.K] at s
          rcases s with s | s
          · exact .inl ⟨p, vs, _, v, rfl, rfl, s, e1, h.here rl r1⟩
          · exact .inr (.inl ⟨p, vs, _, v, rfl, rfl, s, e1, h.here rl r1⟩)
      · exact h.elim
  · exact h.elim
theorem d_ix {a b : Expr} {f h : Ex} (ha : DE X Γ k Wx a f) (hb : DE X Γ k Wx b h) (hs : PlainIx b := by exact fun _ _ => rfl) : DE X Γ k Wx (.Subscript a b pos) (cOp2 oIx f h) := fun g => by
  refine PE.imp (PE.or (pe_ix (o_ixS g) (ha g) (hb g) hs) (pe_dget (Nat.lt_of_le_of_lt (Nat.add_le_add_left (by decide : 1 ≤ 64) _) g.hu) (ha g) (hb g) hs)) fun σ H Q q => ?_
  obtain ⟨ρ, env, L, rl, re, q⟩ := q
  by_cases hd : ∃ a L1 b L2 kvs, f env L = .ok a L1 ∧ h env L1 = .ok b L2 ∧ dicW a L2 = some kvs
  · obtain ⟨a, L1, b, L2, kvs, e1, e2, e3⟩ := hd
    refine .inr (tG_bindE rl re q fun ρ1 H1 a' v L1' ea a1 re1 r1 h1 => ?_)
    rw [e1] at ea; cases ea
    refine tG_bindE a1.rl re1 h1 fun ρ2 H2 b' u L2' eb a2 re2 r2 h2 => ?_
    rw [e2] at eb; cases eb
    have hx := out_of h2
    unfold oIx at hx
    rw [e3] at hx
    simp only at hx
    unfold oIxD at hx
    rw [e3] at hx
    cases ek : keyW b with
    | none => simp only [ek] at hx; exact hx.elim
    | some kk =>
      simp only [ek] at hx
      obtain ⟨n, p, vs, rfl, eo, rfl, ep, eh, rk⟩ := dicW_inv a2.rl (r1.mono a2.pre a2.kp) e3
      cases ev : valW kvs kk with
      | none => rw [ev] at hx; exact hx.elim
      | some w =>
        rw [ev] at hx
        obtain ⟨v, e4, r4⟩ := (rk.val (k := kk)).1 w ev
        have := keyW_ok r2 ek
        subst this
        exact ⟨p, v, rfl, by rw [← e4]; exact .k eh, hx.here a2.rl r4⟩
  · refine .inl (tG_bindE rl re q fun ρ1 H1 a' v L1' ea a1 re1 r1 h1 => ?_)
    refine tG_bindE a1.rl re1 h1 fun ρ2 H2 b' u L2' eb a2 re2 r2 h2 => ?_
    have h2 := out_of h2
    unfold oIx at h2
    split at h2
    · rename_i ks e; exact absurd ⟨a', L1', b', L2', ks, ea, eb, e⟩ hd
    · exact ⟨ρ2, L2', a', b', a2.rl, r1.mono a2.pre a2.kp, r2, h2⟩
/-! ### k in d -/
def oInD (a b : W) (L : LH) : OV := match dicW b L with
  | some kvs => match keyW a with
    | some kk => some (.bl (valW kvs kk).isSome, L)
    | none => none
  | none => oIn a b L
def oNotInD (a b : W) (L : LH) : OV := match dicW b L with
  | some kvs => match keyW a with
    | some kk => some (.bl (!(valW kvs kk).isSome), L)
    | none => none
  | none => oNotIn a b L
theorem d_inG {neg : Bool} {a b : Expr} {f h : Ex} {op : CmpOp} {o o' : W → W → LH → OV} (ho : O2 X Γ k Wx (compareOp op) o) (ha : DE X Γ k Wx a f) (hb : DE X Γ k Wx b h) (hm : behindInMarks op b = false)
    (hd : ∀ {td ty : TE}, PE X a ty → PE X b td → PC X op a b (fun σ H Q => ty σ H fun y H1 => td σ H1 fun x H2 => ∃ p o, x = .ref p ∧ DGet H2 p y o ∧ Q (.bl (if neg then !o.isSome else o.isSome)) H2))
    (e1 : ∀ a b L kvs, dicW b L = some kvs → o' a b L = match keyW a with | some kk => some (.bl (if neg then !(valW kvs kk).isSome else (valW kvs kk).isSome), L) | none => none)
    (e2 : ∀ a b L, dicW b L = none → o' a b L = o a b L) : DE X Γ k Wx (.Compare a [op] [b] pos) (cOp2 o' f h) := fun g => by
  refine PE.imp (PE.or (pe_cmpR (ho g) (ha g) (hb g) hm) (pe_cmp (hd (ha g) (hb g)) hm)) fun σ H Q q => ?_
  obtain ⟨ρ, env, L, rl, re, q⟩ := q
  by_cases hd : ∃ a L1 b L2 kvs, f env L = .ok a L1 ∧ h env L1 = .ok b L2 ∧ dicW b L2 = some kvs
  · obtain ⟨a, L1, b, L2, kvs, f1, f2, f3⟩ := hd
    refine .inr (tG_bindE rl re q fun ρ1 H1 a' v L1' ea a1 re1 r1 h1 => ?_)
    rw [f1] at ea; cases ea
    refine tG_bindE a1.rl re1 h1 fun ρ2 H2 b' u L2' eb a2 re2 r2 h2 => ?_
    rw [f2] at eb; cases eb
    have hx := out_of h2
    rw [e1 _ _ _ _ f3] at hx
    cases ek : keyW a with
    | none => rw [ek] at hx; exact hx.elim
    | some kk =>
      simp only [ek] at hx
      obtain ⟨n, p, vs, rfl, eo, rfl, ep, eh, rk⟩ := dicW_inv a2.rl r2 f3
      have hk := keyW_ok (r1.mono a2.pre a2.kp) ek
      subst hk
      have es : (valW kvs kk).isSome = (valV vs kk).isSome := by
        cases ev : valW kvs kk with
        | none => rw [(rk.val (k := kk)).2 ev]; rfl
        | some w => obtain ⟨v, e4, _⟩ := (rk.val (k := kk)).1 w ev; rw [e4]; rfl
      rw [es] at hx
      exact ⟨p, _, rfl, .k eh, hx.here a2.rl (.bl _)⟩
  · refine .inl (tG_bindE rl re q fun ρ1 H1 a' v L1' ea a1 re1 r1 h1 => ?_)
    refine tG_bindE a1.rl re1 h1 fun ρ2 H2 b' u L2' eb a2 re2 r2 h2 => ?_
    have h2 := out_of h2
    cases e : dicW b' L2' with
    | some ks => exact absurd ⟨a', L1', b', L2', ks, ea, eb, e⟩ hd
    | none =>
      rw [e2 _ _ _ e] at h2
      exact ⟨ρ2, L2', a', b', a2.rl, r1.mono a2.pre a2.kp, r2, h2⟩
theorem hu1 (g : Good X Γ k Wx) : X.A.units + 1 < cLine := Nat.lt_of_le_of_lt (Nat.add_le_add_left (by decide : 1 ≤ 64) _) g.hu
theorem d_in {a b : Expr} {f h : Ex} (ha : DE X Γ k Wx a f) (hb : DE X Γ k Wx b h) (hm : behindInMarks .In b = false := by rfl) : DE X Γ k Wx (.Compare a [.In] [b] pos) (cOp2 oInD f h) := fun g =>
  d_inG (neg := false) o_in ha hb hm (fun p q => pc_din (hu1 g) p q) (fun a b L kvs e => by unfold oInD; rw [e]; rfl) (fun a b L e => by unfold oInD; rw [e]) g
theorem d_notIn {a b : Expr} {f h : Ex} (ha : DE X Γ k Wx a f) (hb : DE X Γ k Wx b h) (hm : behindInMarks .NotIn b = false := by rfl) : DE X Γ k Wx (.Compare a [.NotIn] [b] pos) (cOp2 oNotInD f h) := fun g =>
  d_inG (neg := true) o_notIn ha hb hm (fun p q => pc_dnotin (hu1 g) p q) (fun a b L kvs e => by unfold oNotInD; rw [e]; rfl) (fun a b L e => by unfold oNotInD; rw [e]) g
end
end Z

/-! Z4: slices, built-in calls. -/
namespace Z
open PySem PySem.Spec PyProof.Rows L2

def cutW (xs : List W) (lo hi : Option Int) : List W := (xs.drop (HT.sIx xs.length 0 lo)).take (HT.sIx xs.length xs.length hi - HT.sIx xs.length 0 lo)
def oSl (a : W) (lo hi : Option Int) (L : LH) : OV := match a with
  | .tup ws => some (.tup (cutW ws lo hi), L)
  | .str z => if z.length ≤ 16777216 then some (.str (cutS z lo hi), L) else none
  | a => match seqW a L with
    | some ws => some (.ref L.length, L ++ [.lst (cutW ws lo hi)])
    | none => none
def cPart (f : Option Ex) : Env → LH → Res (Option Int) := fun env L => match f with
  | none => .ok none L
  | some f => (f env L).bind fun a L1 => match a with
    | .int i => .ok (some i) L1
    | _ => .stk
def cSl (f : Ex) (lo hi : Option Ex) : Ex := fun env L => (f env L).bind fun a L1 => (cPart lo env L1).bind fun l L2 => (cPart hi env L2).bind fun h L3 => ofO (oSl a l h L3)
section
variable {X : Cx} {Γ : Ctx} {k : Nat} {Wx : WX} {pos : Pos} {ρ : List Addr} {H : Hp}
theorem cutW_ok {ws : List W} {vs : List V} {lo hi : Option Int} (r : RWs Γ ρ H ws vs) : RWs Γ ρ H (cutW ws lo hi) (cutV vs lo hi) := by
  unfold cutW cutV
  rw [r.length]
  exact (r.drop _).take _
def ROp (_ : List Addr) (_ : Hp) (b c : Option Int) : Prop := b = c
def DO (X : Cx) (Γ : Ctx) (k : Nat) (Wx : WX) (e : Option Expr) (f : Option Ex) : Prop := Good X Γ k Wx → PO X e (tG ROp Γ Wx (cPart f))
theorem PO.imp {e : Option Expr} {t t' : TO} (h : PO X e t) (i : ∀ σ H Q, t' σ H Q → t σ H Q) : PO X e t' := by
  obtain ⟨h⟩ := h
  constructor
  intros
  apply h <;> first | assumption | exact i _ _ _ (by assumption)
theorem do_none : DO X Γ k Wx none none := fun g => PO.imp po_none fun σ H Q h => by
  obtain ⟨ρ, env, L, rl, re, h⟩ := h
  exact out_ok (R := ROp) h rl rfl
theorem do_some {e : Expr} {f : Ex} (h : DE X Γ k Wx e f) : DO X Γ k Wx (some e) (some f) := fun g => PO.imp (po_some (h g)) fun σ H Q h => by
  obtain ⟨ρ, env, L, rl, re, h⟩ := h
  refine tG_bind rl re h fun ρ1 H1 a v L1 a1 re1 r1 h1 => ?_
  split at h1
  · cases r1; exact ⟨_, rfl, out_ok (R := ROp) h1 a1.rl rfl⟩
  · exact h1.elim
theorem SlR.imp {r r' : V → Option Int → Option Int → Hp → VK → Prop} (h : SlR X r) (i : ∀ x l u H Q, r' x l u H Q → r x l u H Q) : SlR X r' := by
  intro pins s σ H x v vl vu lo hi sl Q I rx hs pl pu q
  exact h pins s σ H x v vl vu lo hi sl Q I rx hs pl pu (i _ _ _ _ _ q)
def vSl (Γ : Ctx) : V → Option Int → Option Int → Hp → VK → Prop := fun x lo hi H Q => ∃ ρ L a, RL Γ ρ L H ∧ RW Γ ρ H a x ∧ OkOut Γ ρ H (oSl a lo hi L) Q
theorem s_all (g : Good X Γ k Wx) : SlR X (vSl Γ) := by
  refine SlR.imp (sl_tupA.or (sl_str.or sl_list)) fun x lo hi H Q h => ?_
  obtain ⟨ρ, L, a, rl, ra, h⟩ := h
  unfold oSl at h
  split at h
  · rename_i ws
    obtain ⟨p, vs, rfl, s, r⟩ := ra.tup_inv
    refine .inl ⟨p, vs, rfl, by rw [g.K]; exact s, fun hw => ?_, fun hw q hq => ?_⟩
    · have e : cutW ws lo hi = ws := by
        unfold cutW
        rw [r.length, hw.1, hw.2, List.drop_zero, Nat.sub_zero, ← r.length, List.take_length]
      rw [e] at h
      exact h.here rl ra
    · exact h.tup rl (cutW_ok r) q hq
  · split at h
    · rename_i hz; cases ra; exact .inr (.inl ⟨_, rfl, by rw [line_eq]; exact hz, h.here rl (.str _)⟩)
    · exact h.elim
  · split at h
    · rename_i nt _ _ ws es
      obtain ⟨p, vs, rfl, s, r⟩ := seqW_inv rl ra es
      rcases s with s | s
      · exact .inr (.inr ⟨p, vs, rfl, by rw [g.K]; exact s, h.lst rl (cutW_ok r)⟩)
      · cases ra with
        | tup _ _ => exact absurd rfl (nt _)
        | ref e =>
          obtain ⟨p', vs', e1, s', r', _⟩ := rl.seq (.ref e) es
          cases e1
          exact .inr (.inr ⟨p, vs', rfl, by rw [g.K]; exact s', h.lst rl (cutW_ok r')⟩)
        | scr e =>
          cases es
          exact .inr (.inr ⟨p, _, rfl, by rw [g.K]; exact sqScr e, h.lst rl (cutW_ok (RWs.ints _))⟩)
        | cls c => cases es
        | fn c => cases es
    · exact h.elim
theorem d_sl {e : Expr} {lo hi : Option Expr} {f : Ex} {fl fh : Option Ex} {p2 : Pos} (he : DE X Γ k Wx e f) (hl : DO X Γ k Wx lo fl) (hh : DO X Γ k Wx hi fh) : DE X Γ k Wx (.Subscript e (.Slice lo hi none p2) pos) (cSl f fl fh) := fun g =>
  PE.imp (pe_slice (s_all g) (he g) (hl g) (hh g)) fun σ H Q q => by
    obtain ⟨ρ, env, L, rl, re, h⟩ := q
    refine tG_bind rl re h fun ρ1 H1 a v L1 a1 re1 r1 h1 => ?_
    refine tG_bind a1.rl re1 h1 fun ρ2 H2 l u L2 a2 re2 r2 h2 => ?_
    cases r2
    refine tG_bind a2.rl re2 h2 fun ρ3 H3 l u L3 a3 re3 r3 h3 => ?_
    cases r3
    exact ⟨ρ3, L3, a, a3.rl, (r1.mono a2.pre a2.kp).mono a3.pre a3.kp, out_of h3⟩

/-! ### built-in calls -/
theorem CallR.imp {f : Value} {r r' : List V → Hp → VK → Prop} (h : CallR X f r) (i : ∀ xs H Q, r' xs H Q → r xs H Q) : CallR X f r' := fun pins s σ H xs us Q I rs q => h pins s σ H xs us Q I rs (i _ _ _ q)
theorem tCBN {o : List W → LH → OV} {f : ExL} {σ : L2.St} {H : Hp} {Q : VK} (q : tEx Γ Wx (cOpL o f) σ H Q) : tCB (vN Γ o) (tExL Γ Wx f) σ H Q := by
  obtain ⟨ρ, env, L, rl, re, h⟩ := q
  refine tG_bind rl re h fun ρ1 H1 a v L1 a1 re1 r1 h1 => ?_
  exact ⟨ρ1, L1, a, a1.rl, r1, out_of h1⟩
theorem d_callB {id : String} {x : Str} {o : List W → LH → OV} {p : Pos} {e : Expr} {es : List Expr} {f : ExL} (hc : Good X Γ k Wx → CallR X (.builtin id) (vN Γ o)) (hv : bootBuiltins x = some (.builtin id)) (hn : x ≠ "__name__") (hdb : (x == ("__debug__" : Str)) = false)
    (hm : X.mg x = none) (ha : DA X Γ k Wx (e :: es) f) (hg : Gl X x) (he : starEach (e :: es) X.env = (false, eval e X.env) :: starEach es X.env) (hpl : (backTo pos (starEach es X.env)).any (·.1) = false) : DE X Γ k Wx (.Call (.Name x p) (e :: es) [] pos) (cOpL o f) := fun g =>
  PE.imp (pe_callB (hc g) hg hm hv (ha g) hn hdb he hpl) fun σ H Q q => tCBN q
theorem d_callT {id : String} {x : Str} {o : List W → LH → OV} {p : Pos} {e : Expr} {es : List Expr} {f : ExL} (hc : Good X Γ k Wx → CallR X (.type id) (vN Γ o)) (hv : bootBuiltins x = some (.type id)) (hn : x ≠ "__name__") (hdb : (x == ("__debug__" : Str)) = false)
    (hm : X.mg x = none) (ha : DA X Γ k Wx (e :: es) f) (hg : Gl X x) (he : starEach (e :: es) X.env = (false, eval e X.env) :: starEach es X.env) (hpl : (backTo pos (starEach es X.env)).any (·.1) = false) : DE X Γ k Wx (.Call (.Name x p) (e :: es) [] pos) (cOpL o f) := fun g =>
  PE.imp (pe_callTy (hc g) hg hm hv (ha g) hn hdb he hpl) fun σ H Q q => tCBN q
theorem RWs.one_inv {a : W} {xs : List V} (r : RWs Γ ρ H [a] xs) : ∃ x, xs = [x] ∧ RW Γ ρ H a x := by
  cases r with
  | cons r t => cases t; exact ⟨_, rfl, r⟩
theorem RWs.two_inv {a b : W} {xs : List V} (r : RWs Γ ρ H [a, b] xs) : ∃ x y, xs = [x, y] ∧ RW Γ ρ H a x ∧ RW Γ ρ H b y := by
  cases r with
  | cons r t => obtain ⟨y, rfl, s⟩ := t.one_inv; exact ⟨_, _, rfl, r, s⟩

/-- len -/
def lenW (a : W) (L : LH) : Option Nat := match a with
  | .str y => if y.length ≤ 16777216 then some y.length else none
  | _ => match dicW a L with
    | some kvs => some kvs.length
    | none => (seqW a L).map List.length
def oLen : List W → LH → OV
  | [a], L => (lenW a L).map fun n => (.int n, L)
  | _, _ => none
theorem c_len (g : Good X Γ k Wx) : CallR X (.builtin "len") (vN Γ oLen) := by
  refine CallR.imp (call_len.or call_lenD) fun xs H Q h => ?_
  obtain ⟨ρ, L, as, rl, ra, h⟩ := h
  unfold oLen at h
  split at h
  · rename_i a
    replace ra := ra.one_inv; obtain ⟨x, rfl, ra⟩ := ra
    cases e : lenW a L with
    | none => rw [e] at h; exact h.elim
    | some n =>
      rw [e] at h
      have q := h.here rl (.int _)
      unfold lenW at e
      split at e
      · split at e
        · rename_i hz; cases e; cases ra; exact .inl ⟨_, _, rfl, ⟨by rw [line_eq]; exact hz, rfl⟩, q⟩
        · cases e
      · split at e
        · rename_i kvs ed
          cases e
          obtain ⟨m, p, vs, rfl, eo, rfl, ep, eh, rk⟩ := dicW_inv rl ra ed
          rw [rk.length] at q
          exact .inr ⟨p, vs, rfl, eh, q⟩
        · cases es : seqW a L with
          | none => rw [es] at e; cases e
          | some ws =>
            rw [es] at e; cases e
            obtain ⟨p, vs, rfl, s, r⟩ := seqW_inv rl ra es
            rw [← g.K] at s
            refine .inl ⟨_, _, rfl, ?_, q⟩
            rcases s with s | s
            · exact .inl ⟨vs, s, r.length⟩
            · exact .inr ⟨vs, s, r.length⟩
  · exact h.elim
theorem d_len {p : Pos} {e : Expr} {es : List Expr} {f : ExL} (hm : X.mg "len" = none) (ha : DA X Γ k Wx (e :: es) f) (hg : Gl X "len" := by rfl) (he : starEach (e :: es) X.env = (false, eval e X.env) :: starEach es X.env := by rfl) (hpl : (backTo pos (starEach es X.env)).any (·.1) = false := by rfl) : DE X Γ k Wx (.Call (.Name "len" p) (e :: es) [] pos) (cOpL oLen f) :=
  d_callB c_len PySem.boot_len (by decide) (by decide) hm ha hg he hpl
/-- int -/
def oInt : List W → LH → OV
  | [.int i], L => some (.int i, L)
  | [.bl b], L => some (.int (if b then 1 else 0), L)
  | _, _ => none
theorem c_int (g : Good X Γ k Wx) : CallR X (.type "int") (vN Γ oInt) := by
  refine CallR.imp call_int1 fun xs H Q h => ?_
  obtain ⟨ρ, L, as, rl, ra, h⟩ := h
  unfold oInt at h
  split at h
  · replace ra := ra.one_inv; obtain ⟨x, rfl, ra⟩ := ra; cases ra; exact .inl ⟨_, rfl, h.here rl (.int _)⟩
  · replace ra := ra.one_inv; obtain ⟨x, rfl, ra⟩ := ra; cases ra; exact .inr ⟨_, rfl, h.here rl (.int _)⟩
  · exact h.elim
theorem boot_int_ : bootBuiltins "int" = some (.type "int") := by decide +kernel
theorem d_intC {p : Pos} {e : Expr} {es : List Expr} {f : ExL} (hm : X.mg "int" = none) (ha : DA X Γ k Wx (e :: es) f) (hg : Gl X "int" := by rfl) (he : starEach (e :: es) X.env = (false, eval e X.env) :: starEach es X.env := by rfl) (hpl : (backTo pos (starEach es X.env)).any (·.1) = false := by rfl) : DE X Γ k Wx (.Call (.Name "int" p) (e :: es) [] pos) (cOpL oInt f) :=
  d_callT c_int boot_int_ (by decide) (by decide) hm ha hg he hpl
/-- str -/
def oStr : List W → LH → OV
  | [.int i], L => if i.natAbs.log2 < 1920 then some (.str (toString i), L) else none
  | [.str x], L => some (.str x, L)
  | _, _ => none
theorem c_str (g : Good X Γ k Wx) : CallR X (.type "str") (vN Γ oStr) := by
  refine CallR.imp (call_str_int.or SkE.call_str_str) fun xs H Q h => ?_
  obtain ⟨ρ, L, as, rl, ra, h⟩ := h
  unfold oStr at h
  split at h
  · split at h
    · rename_i hz; replace ra := ra.one_inv; obtain ⟨x, rfl, ra⟩ := ra; cases ra; exact .inl ⟨_, rfl, hz, h.here rl (.str _)⟩
    · exact h.elim
  · replace ra := ra.one_inv; obtain ⟨x, rfl, ra⟩ := ra; cases ra; exact .inr ⟨_, rfl, h.here rl (.str _)⟩
  · exact h.elim
theorem boot_str_ : bootBuiltins "str" = some (.type "str") := by decide +kernel
theorem d_strC {p : Pos} {e : Expr} {es : List Expr} {f : ExL} (hm : X.mg "str" = none) (ha : DA X Γ k Wx (e :: es) f) (hg : Gl X "str" := by rfl) (he : starEach (e :: es) X.env = (false, eval e X.env) :: starEach es X.env := by rfl) (hpl : (backTo pos (starEach es X.env)).any (·.1) = false := by rfl) : DE X Γ k Wx (.Call (.Name "str" p) (e :: es) [] pos) (cOpL oStr f) :=
  d_callT c_str boot_str_ (by decide) (by decide) hm ha hg he hpl
/-- abs -/
def oAbs : List W → LH → OV
  | [.int i], L => some (.int (if i < 0 then -i else i), L)
  | _, _ => none
theorem c_abs (g : Good X Γ k Wx) : CallR X (.builtin "abs") (vN Γ oAbs) := by
  refine CallR.imp call_abs fun xs H Q h => ?_
  obtain ⟨ρ, L, as, rl, ra, h⟩ := h
  unfold oAbs at h
  split at h
  · replace ra := ra.one_inv; obtain ⟨x, rfl, ra⟩ := ra; cases ra; exact ⟨_, rfl, h.here rl (.int _)⟩
  · exact h.elim
theorem boot_abs_ : bootBuiltins "abs" = some (.builtin "abs") := by decide +kernel
theorem d_abs {p : Pos} {e : Expr} {es : List Expr} {f : ExL} (hm : X.mg "abs" = none) (ha : DA X Γ k Wx (e :: es) f) (hg : Gl X "abs" := by rfl) (he : starEach (e :: es) X.env = (false, eval e X.env) :: starEach es X.env := by rfl) (hpl : (backTo pos (starEach es X.env)).any (·.1) = false := by rfl) : DE X Γ k Wx (.Call (.Name "abs" p) (e :: es) [] pos) (cOpL oAbs f) :=
  d_callB c_abs boot_abs_ (by decide) (by decide) hm ha hg he hpl
/-- lists of one kind -/
def intsW : List W → Option (List Int)
  | [] => some []
  | .int i :: r => (intsW r).map (i :: ·)
  | _ => none
def blsW : List W → Option (List Bool)
  | [] => some []
  | .bl i :: r => (blsW r).map (i :: ·)
  | _ => none
def strsW : List W → Option (List Str)
  | [] => some []
  | .str i :: r => (strsW r).map (i :: ·)
  | _ => none
theorem intsW_ok : ∀ {ws : List W} {vs : List V} {ns : List Int}, RWs Γ ρ H ws vs → intsW ws = some ns → vs = ns.map V.int
  | _, _, _, .nil, e => by cases e; rfl
  | .int i :: ws, _, _, .cons r t, e => by
    unfold intsW at e
    cases e1 : intsW ws with
    | none => rw [e1] at e; cases e
    | some ns => rw [e1] at e; cases e; cases r; rw [intsW_ok t e1]; rfl
  | .non :: _, _, _, .cons _ _, e => by cases e
  | .bl _ :: _, _, _, .cons _ _, e => by cases e
  | .str _ :: _, _, _, .cons _ _, e => by cases e
  | .tup _ :: _, _, _, .cons _ _, e => by cases e
  | .ref _ :: _, _, _, .cons _ _, e => by cases e
  | .ty _ :: _, _, _, .cons _ _, e => by cases e
  | .cls _ :: _, _, _, .cons _ _, e => by cases e
  | .fn _ :: _, _, _, .cons _ _, e => by cases e
  | .scr _ :: _, _, _, .cons _ _, e => by cases e
theorem blsW_ok : ∀ {ws : List W} {vs : List V} {ns : List Bool}, RWs Γ ρ H ws vs → blsW ws = some ns → vs = ns.map V.bl
  | _, _, _, .nil, e => by cases e; rfl
  | .bl i :: ws, _, _, .cons r t, e => by
    unfold blsW at e
    cases e1 : blsW ws with
    | none => rw [e1] at e; cases e
    | some ns => rw [e1] at e; cases e; cases r; rw [blsW_ok t e1]; rfl
  | .non :: _, _, _, .cons _ _, e => by cases e
  | .int _ :: _, _, _, .cons _ _, e => by cases e
  | .str _ :: _, _, _, .cons _ _, e => by cases e
  | .tup _ :: _, _, _, .cons _ _, e => by cases e
  | .ref _ :: _, _, _, .cons _ _, e => by cases e
  | .ty _ :: _, _, _, .cons _ _, e => by cases e
  | .cls _ :: _, _, _, .cons _ _, e => by cases e
  | .fn _ :: _, _, _, .cons _ _, e => by cases e
  | .scr _ :: _, _, _, .cons _ _, e => by cases e
theorem strsW_ok : ∀ {ws : List W} {vs : List V} {ns : List Str}, RWs Γ ρ H ws vs → strsW ws = some ns → vs = ns.map V.str
  | _, _, _, .nil, e => by cases e; rfl
  | .str i :: ws, _, _, .cons r t, e => by
    unfold strsW at e
    cases e1 : strsW ws with
    | none => rw [e1] at e; cases e
    | some ns => rw [e1] at e; cases e; cases r; rw [strsW_ok t e1]; rfl
  | .non :: _, _, _, .cons _ _, e => by cases e
  | .int _ :: _, _, _, .cons _ _, e => by cases e
  | .bl _ :: _, _, _, .cons _ _, e => by cases e
  | .tup _ :: _, _, _, .cons _ _, e => by cases e
  | .ref _ :: _, _, _, .cons _ _, e => by cases e
  | .ty _ :: _, _, _, .cons _ _, e => by cases e
  | .cls _ :: _, _, _, .cons _ _, e => by cases e
  | .fn _ :: _, _, _, .cons _ _, e => by cases e
  | .scr _ :: _, _, _, .cons _ _, e => by cases e
/-- a list's items of one kind -/
def lstOf {α : Type} (f : List W → Option (List α)) (L : LH) : List W → Option (List α)
  | [.ref n] => (seqL L n).bind f
  | [.scr ns] => f (ns.map .int)
  | _ => none
theorem lstOf_inv {α : Type} {f : List W → Option (List α)} {h : α → V} (hf : ∀ {ws : List W} {vs : List V} {ns : List α}, RWs Γ ρ H ws vs → f ws = some ns → vs = ns.map h) {L : LH} {as : List W} {xs : List V} {ns : List α} (rl : RL Γ ρ L H) (ra : RWs Γ ρ H as xs)
    (e : lstOf f L as = some ns) : ∃ a, xs = [V.ref a] ∧ SqL Γ.K H a (ns.map h) := by
  unfold lstOf at e
  split at e
  · replace ra := ra.one_inv; obtain ⟨x, rfl, ra⟩ := ra
    rename_i n
    cases es : seqL L n with
    | none => rw [es] at e; cases e
    | some ws =>
      rw [es] at e
      obtain ⟨p, vs, rfl, s, r, _⟩ := rl.seq ra es
      rw [hf r e] at s
      exact ⟨p, rfl, s⟩
  · replace ra := ra.one_inv; obtain ⟨x, rfl, ra⟩ := ra
    rename_i ms
    cases ra with
    | scr q =>
      have s := sqScr (H := H) q
      rw [hf (RWs.ints (ρ := ρ) (H := H) (Γ := Γ) ms) e] at s
      exact ⟨_, rfl, s⟩
  · cases e
def oSum (as : List W) (L : LH) : OV := (lstOf intsW L as).map fun ns => (.int ns.sum, L)
theorem c_sum (g : Good X Γ k Wx) : CallR X (.builtin "sum") (vN Γ oSum) := by
  refine CallR.imp (cr_sum g.calm) fun xs H Q h => ?_
  obtain ⟨ρ, L, as, rl, ra, h⟩ := h
  unfold oSum at h
  cases e : lstOf intsW L as with
  | none => rw [e] at h; exact h.elim
  | some ns =>
    rw [e] at h
    obtain ⟨a, rfl, s⟩ := lstOf_inv intsW_ok rl ra e
    exact ⟨a, ns, rfl, by rw [g.K]; exact s, h.here rl (.int _)⟩
theorem boot_sum_ : bootBuiltins "sum" = some (.builtin "sum") := by decide +kernel
theorem d_sum {p : Pos} {e : Expr} {es : List Expr} {f : ExL} (hm : X.mg "sum" = none) (ha : DA X Γ k Wx (e :: es) f) (hg : Gl X "sum" := by rfl) (he : starEach (e :: es) X.env = (false, eval e X.env) :: starEach es X.env := by rfl) (hpl : (backTo pos (starEach es X.env)).any (·.1) = false := by rfl) : DE X Γ k Wx (.Call (.Name "sum" p) (e :: es) [] pos) (cOpL oSum f) :=
  d_callB c_sum boot_sum_ (by decide) (by decide) hm ha hg he hpl
def oAny (as : List W) (L : LH) : OV := (lstOf blsW L as).map fun ns => (.bl (ns.any id), L)
def oAll (as : List W) (L : LH) : OV := (lstOf blsW L as).map fun ns => (.bl (ns.all id), L)
theorem c_any (g : Good X Γ k Wx) : CallR X (.builtin "any") (vN Γ oAny) := by
  refine CallR.imp (cr_any g.calm) fun xs H Q h => ?_
  obtain ⟨ρ, L, as, rl, ra, h⟩ := h
  unfold oAny at h
  cases e : lstOf blsW L as with
  | none => rw [e] at h; exact h.elim
  | some ns =>
    rw [e] at h
    obtain ⟨a, rfl, s⟩ := lstOf_inv blsW_ok rl ra e
    exact ⟨a, ns, rfl, by rw [g.K]; exact s, h.here rl (.bl _)⟩
theorem c_all (g : Good X Γ k Wx) : CallR X (.builtin "all") (vN Γ oAll) := by
  refine CallR.imp (cr_all g.calm) fun xs H Q h => ?_
  obtain ⟨ρ, L, as, rl, ra, h⟩ := h
  unfold oAll at h
  cases e : lstOf blsW L as with
  | none => rw [e] at h; exact h.elim
  | some ns =>
    rw [e] at h
    obtain ⟨a, rfl, s⟩ := lstOf_inv blsW_ok rl ra e
    exact ⟨a, ns, rfl, by rw [g.K]; exact s, h.here rl (.bl _)⟩
theorem boot_any_ : bootBuiltins "any" = some (.builtin "any") := by decide +kernel
theorem boot_all_ : bootBuiltins "all" = some (.builtin "all") := by decide +kernel
theorem d_any {p : Pos} {e : Expr} {es : List Expr} {f : ExL} (hm : X.mg "any" = none) (ha : DA X Γ k Wx (e :: es) f) (hg : Gl X "any" := by rfl) (he : starEach (e :: es) X.env = (false, eval e X.env) :: starEach es X.env := by rfl) (hpl : (backTo pos (starEach es X.env)).any (·.1) = false := by rfl) : DE X Γ k Wx (.Call (.Name "any" p) (e :: es) [] pos) (cOpL oAny f) :=
  d_callB c_any boot_any_ (by decide) (by decide) hm ha hg he hpl
theorem d_all {p : Pos} {e : Expr} {es : List Expr} {f : ExL} (hm : X.mg "all" = none) (ha : DA X Γ k Wx (e :: es) f) (hg : Gl X "all" := by rfl) (he : starEach (e :: es) X.env = (false, eval e X.env) :: starEach es X.env := by rfl) (hpl : (backTo pos (starEach es X.env)).any (·.1) = false := by rfl) : DE X Γ k Wx (.Call (.Name "all" p) (e :: es) [] pos) (cOpL oAll f) :=
  d_callB c_all boot_all_ (by decide) (by decide) hm ha hg he hpl
/-- max, min -/
def maxI : List Int → Int
  | [] => 0
  | [a] => a
  | a :: r => let m := maxI r; if m > a then m else a
def minI : List Int → Int
  | [] => 0
  | [a] => a
  | a :: r => let m := minI r; if m < a then m else a
theorem maxI_is : ∀ {ns : List Int} {m : Int}, m ∈ ns → (∀ y, y ∈ ns → y ≤ m) → m = maxI ns
  | [a], m, h, _ => by simp at h; exact h
  | a :: b :: r, m, h, hm => by
    have h1 : m = maxI (b :: r) ∨ (m = a ∧ maxI (b :: r) ≤ m) := by
      by_cases hb : m ∈ b :: r
      · exact .inl (maxI_is hb fun y hy => hm y (List.mem_cons_of_mem _ hy))
      · have ea : m = a := by
          rcases List.mem_cons.mp h with e | e
          · exact e
          · exact absurd e hb
        refine .inr ⟨ea, ?_⟩
        have mem : ∀ (l : List Int), l ≠ [] → maxI l ∈ l := by
          intro l
          induction l with
          | nil => intro z; exact absurd rfl z
          | cons x t ih =>
            intro _
            cases t with
            | nil => simp [maxI]
            | cons y u =>
              have := ih (by simp)
              show (if maxI (y :: u) > x then maxI (y :: u) else x) ∈ _
              split
              · exact List.mem_cons_of_mem _ this
              · exact List.mem_cons_self
        exact hm _ (List.mem_cons_of_mem _ (mem _ (by simp)))
    have h2 : a ≤ m := hm a List.mem_cons_self
    show m = if maxI (b :: r) > a then maxI (b :: r) else a
    split <;> omega
theorem minI_is : ∀ {ns : List Int} {m : Int}, m ∈ ns → (∀ y, y ∈ ns → m ≤ y) → m = minI ns
  | [a], m, h, _ => by simp at h; exact h
  | a :: b :: r, m, h, hm => by
    have h1 : m = minI (b :: r) ∨ (m = a ∧ m ≤ minI (b :: r)) := by
      by_cases hb : m ∈ b :: r
      · exact .inl (minI_is hb fun y hy => hm y (List.mem_cons_of_mem _ hy))
      · have ea : m = a := by
          rcases List.mem_cons.mp h with e | e
          · exact e
          · exact absurd e hb
        refine .inr ⟨ea, ?_⟩
        have mem : ∀ (l : List Int), l ≠ [] → minI l ∈ l := by
          intro l
          induction l with
          | nil => intro z; exact absurd rfl z
          | cons x t ih =>
            intro _
            cases t with
            | nil => simp [minI]
            | cons y u =>
              have := ih (by simp)
              show (if minI (y :: u) < x then minI (y :: u) else x) ∈ _
              split
              · exact List.mem_cons_of_mem _ this
              · exact List.mem_cons_self
        exact hm _ (List.mem_cons_of_mem _ (mem _ (by simp)))
    have h2 : m ≤ a := hm a List.mem_cons_self
    show m = if minI (b :: r) < a then minI (b :: r) else a
    split <;> omega
def oMax : List W → LH → OV
  | [.int i, .int j], L => some (.int (if j > i then j else i), L)
  | as, L => match lstOf intsW L as with
    | some ns => if 0 < ns.length then some (.int (maxI ns), L) else none
    | none => none
def oMin : List W → LH → OV
  | [.int i, .int j], L => some (.int (if j < i then j else i), L)
  | as, L => match lstOf intsW L as with
    | some ns => if 0 < ns.length then some (.int (minI ns), L) else none
    | none => none
theorem c_max (g : Good X Γ k Wx) : CallR X (.builtin "max") (vN Γ oMax) := by
  refine CallR.imp ((call_max2 g.calm).or (cr_max g.calm)) fun xs H Q h => ?_
  obtain ⟨ρ, L, as, rl, ra, h⟩ := h
  unfold oMax at h
  split at h
  · obtain ⟨x, y, rfl, r1, r2⟩ := ra.two_inv
    cases r1; cases r2
    exact .inl ⟨_, _, rfl, h.here rl (.int _)⟩
  · split at h
    · rename_i ns e
      split at h
      · rename_i hz
        obtain ⟨a, rfl, s⟩ := lstOf_inv intsW_ok rl ra e
        refine .inr ⟨a, ns, rfl, by rw [g.K]; exact s, hz, fun m h1 h2 => ?_⟩
        rw [maxI_is h1 h2]
        exact h.here rl (.int _)
      · exact h.elim
    · exact h.elim
theorem c_min (g : Good X Γ k Wx) : CallR X (.builtin "min") (vN Γ oMin) := by
  refine CallR.imp ((call_min2 g.calm).or (cr_min g.calm)) fun xs H Q h => ?_
  obtain ⟨ρ, L, as, rl, ra, h⟩ := h
  unfold oMin at h
  split at h
  · obtain ⟨x, y, rfl, r1, r2⟩ := ra.two_inv
    cases r1; cases r2
    exact .inl ⟨_, _, rfl, h.here rl (.int _)⟩
  · split at h
    · rename_i ns e
      split at h
      · rename_i hz
        obtain ⟨a, rfl, s⟩ := lstOf_inv intsW_ok rl ra e
        refine .inr ⟨a, ns, rfl, by rw [g.K]; exact s, hz, fun m h1 h2 => ?_⟩
        rw [minI_is h1 h2]
        exact h.here rl (.int _)
      · exact h.elim
    · exact h.elim
theorem boot_max_ : bootBuiltins "max" = some (.builtin "max") := by decide +kernel
theorem boot_min_ : bootBuiltins "min" = some (.builtin "min") := by decide +kernel
theorem d_max {p : Pos} {e : Expr} {es : List Expr} {f : ExL} (hm : X.mg "max" = none) (ha : DA X Γ k Wx (e :: es) f) (hg : Gl X "max" := by rfl) (he : starEach (e :: es) X.env = (false, eval e X.env) :: starEach es X.env := by rfl) (hpl : (backTo pos (starEach es X.env)).any (·.1) = false := by rfl) : DE X Γ k Wx (.Call (.Name "max" p) (e :: es) [] pos) (cOpL oMax f) :=
  d_callB c_max boot_max_ (by decide) (by decide) hm ha hg he hpl
theorem d_min {p : Pos} {e : Expr} {es : List Expr} {f : ExL} (hm : X.mg "min" = none) (ha : DA X Γ k Wx (e :: es) f) (hg : Gl X "min" := by rfl) (he : starEach (e :: es) X.env = (false, eval e X.env) :: starEach es X.env := by rfl) (hpl : (backTo pos (starEach es X.env)).any (·.1) = false := by rfl) : DE X Γ k Wx (.Call (.Name "min" p) (e :: es) [] pos) (cOpL oMin f) :=
  d_callB c_min boot_min_ (by decide) (by decide) hm ha hg he hpl
/-- list, tuple -/
def oList : List W → LH → OV
  | [a], L => match seqW a L with
    | some ws => some (.ref L.length, L ++ [.lst ws])
    | none => none
  | _, _ => none
theorem c_list (g : Good X Γ k Wx) : CallR X (.type "list") (vN Γ oList) := by
  refine CallR.imp call_list_of fun xs H Q h => ?_
  obtain ⟨ρ, L, as, rl, ra, h⟩ := h
  unfold oList at h
  split at h
  · replace ra := ra.one_inv; obtain ⟨x, rfl, ra⟩ := ra
    split at h
    · rename_i ws es
      obtain ⟨p, vs, rfl, s, r⟩ := seqW_inv rl ra es
      exact ⟨p, vs, rfl, by rw [g.K]; exact s, h.lst rl r⟩
    · exact h.elim
  · exact h.elim
theorem boot_list_ : bootBuiltins "list" = some (.type "list") := by decide +kernel
theorem d_list {p : Pos} {e : Expr} {es : List Expr} {f : ExL} (hm : X.mg "list" = none) (ha : DA X Γ k Wx (e :: es) f) (hg : Gl X "list" := by rfl) (he : starEach (e :: es) X.env = (false, eval e X.env) :: starEach es X.env := by rfl) (hpl : (backTo pos (starEach es X.env)).any (·.1) = false := by rfl) : DE X Γ k Wx (.Call (.Name "list" p) (e :: es) [] pos) (cOpL oList f) :=
  d_callT c_list boot_list_ (by decide) (by decide) hm ha hg he hpl
def oTuple : List W → LH → OV
  | [.tup ws], L => some (.tup ws, L)
  | [.ref n], L => match seqL L n with
    | some ws => some (.tup ws, L)
    | none => none
  | _, _ => none
theorem c_tuple (g : Good X Γ k Wx) : CallR X (.type "tuple") (vN Γ oTuple) := by
  refine CallR.imp call_tuple_of fun xs H Q h => ?_
  obtain ⟨ρ, L, as, rl, ra, h⟩ := h
  unfold oTuple at h
  split at h
  · replace ra := ra.one_inv; obtain ⟨x, rfl, ra⟩ := ra
    obtain ⟨p, vs, rfl, s, r⟩ := ra.tup_inv
    exact ⟨p, vs, rfl, .inr ⟨by rw [g.K]; exact s, h.here rl ra⟩⟩
  · replace ra := ra.one_inv; obtain ⟨x, rfl, ra⟩ := ra
    split at h
    · rename_i ws es
      obtain ⟨p, vs, rfl, s, r, _⟩ := rl.seq ra es
      exact ⟨p, vs, rfl, .inl ⟨by rw [g.K]; exact s, h.tup rl r⟩⟩
    · exact h.elim
  · exact h.elim
theorem boot_tuple_ : bootBuiltins "tuple" = some (.type "tuple") := by decide +kernel
theorem d_tupleC {p : Pos} {e : Expr} {es : List Expr} {f : ExL} (hm : X.mg "tuple" = none) (ha : DA X Γ k Wx (e :: es) f) (hg : Gl X "tuple" := by rfl) (he : starEach (e :: es) X.env = (false, eval e X.env) :: starEach es X.env := by rfl) (hpl : (backTo pos (starEach es X.env)).any (·.1) = false := by rfl) : DE X Γ k Wx (.Call (.Name "tuple" p) (e :: es) [] pos) (cOpL oTuple f) :=
  d_callT c_tuple boot_tuple_ (by decide) (by decide) hm ha hg he hpl
end
end Z

/-! Z5: statements, targets, loops. -/
namespace Z
open PySem PySem.Spec PyProof.Rows L2

inductive SRes where
  | nx (env : Env) (L : LH) | rt (w : W) (L : LH) | bk (env : Env) (L : LH) | ct (env : Env) (L : LH) | exc (e : Exn) (env : Env) (L : LH) | stk
abbrev Sx := Env → LH → SRes
def SOut (Γ : Ctx) (Wx : WX) (ρ : List Addr) (H : Hp) (r : SRes) (D : Ends) : Prop := match r with
  | .nx env' L' => ∀ ρ' H' σ', Aft Γ ρ H L' ρ' H' → REnv Γ ρ' H' env' σ' → D.nx σ' H'
  | .rt w L' => ∀ ρ' H' v, Aft Γ ρ H L' ρ' H' → RW Γ ρ' H' w v → D.rt v H'
  | .bk env' L' => ∀ ρ' H' σ', Aft Γ ρ H L' ρ' H' → REnv Γ ρ' H' env' σ' → D.bk σ' H'
  | .ct env' L' => ∀ ρ' H' σ', Aft Γ ρ H L' ρ' H' → REnv Γ ρ' H' env' σ' → D.ct σ' H'
  | .exc e env' L' => ∀ ρ' H' σ' c d, Aft Γ ρ H L' ρ' H' → REnv Γ ρ' H' env' σ' → RExn Γ ρ' H' e c d → Wx c d σ' H'
  | .stk => False
def tSx (Γ : Ctx) (Wx : WX) (f : Sx) : TS := fun D σ H => ∃ ρ env L, RL Γ ρ L H ∧ REnv Γ ρ H env σ ∧ SOut Γ Wx ρ H (f env L) D
def DS (X : Cx) (Γ : Ctx) (k : Nat) (Wx : WX) (st : Stmt) (f : Sx) : Prop := Good X Γ k Wx → PS X st (tSx Γ Wx f)
def DSs (X : Cx) (Γ : Ctx) (k : Nat) (Wx : WX) (st : List Stmt) (f : Sx) : Prop := Good X Γ k Wx → PSs X st (tSx Γ Wx f)
theorem PS.imp {X : Cx} {st : Stmt} {t t' : TS} (h : PS X st t) (i : ∀ D σ H, t' D σ H → t D σ H) : PS X st t' := ⟨fun pins s σ H D I q => h.run pins s σ H D I (i D σ H q)⟩
theorem PSs.imp {X : Cx} {st : List Stmt} {t t' : TS} (h : PSs X st t) (i : ∀ D σ H, t' D σ H → t D σ H) : PSs X st t' := ⟨fun pins s σ H D I q => h.run pins s σ H D I (i D σ H q)⟩
theorem SOut.rebase {Γ : Ctx} {Wx : WX} {ρ ρ1 : List Addr} {H H1 : Hp} {L1 : LH} {r : SRes} {D : Ends} (a : Aft Γ ρ H L1 ρ1 H1) (h : SOut Γ Wx ρ H r D) : SOut Γ Wx ρ1 H1 r D := by
  cases r with
  | nx env' L' => exact fun ρ' H' v b r => h ρ' H' v (a.trans b) r
  | rt env' L' => exact fun ρ' H' v b r => h ρ' H' v (a.trans b) r
  | bk env' L' => exact fun ρ' H' v b r => h ρ' H' v (a.trans b) r
  | ct env' L' => exact fun ρ' H' v b r => h ρ' H' v (a.trans b) r
  | exc e env' L' => exact fun ρ' H' v c d b r => h ρ' H' v c d (a.trans b) r
  | stk => exact h
/-- an expression within a statement -/
def Res.toS {α : Type} (r : Res α) (env : Env) (k : α → LH → SRes) : SRes := match r with
  | .ok a L => k a L
  | .exc e L => .exc e env L
  | .stk => .stk
theorem tG_toS {α β : Type} {R : List Addr → Hp → α → β → Prop} {Γ : Ctx} {Wx : WX} {σ : L2.St} {ρ : List Addr} {H : Hp} {L : LH} {env : Env} {f : Env → LH → Res α} {k : α → LH → SRes} {D : Ends} {Q1 : β → Hp → Prop}
    (rl : RL Γ ρ L H) (re : REnv Γ ρ H env σ) (h : SOut Γ Wx ρ H ((f env L).toS env k) D)
    (next : ∀ ρ1 H1 w v L1, f env L = .ok w L1 → Aft Γ ρ H L1 ρ1 H1 → REnv Γ ρ1 H1 env σ → R ρ1 H1 w v → SOut Γ Wx ρ1 H1 (k w L1) D → Q1 v H1) : tG R Γ Wx f σ H Q1 := by
  refine ⟨ρ, env, L, rl, re, ?_⟩
  cases hf : f env L with
  | ok w L1 =>
    rw [hf] at h
    exact fun ρ1 H1 v a r => next ρ1 H1 w v L1 hf a (re.mono a.pre a.kp) r (h.rebase a)
  | exc e L1 =>
    rw [hf] at h
    exact fun ρ1 H1 c d a r => h ρ1 H1 σ c d a (re.mono a.pre a.kp) r
  | stk => rw [hf] at h; exact h
section
variable {X : Cx} {Γ : Ctx} {k : Nat} {Wx : WX} {pos : Pos}
def sSkip : Sx := fun env L => .nx env L
def sStk : Sx := fun _ _ => .stk
def sSeq (a b : Sx) : Sx := fun env L => match a env L with
  | .nx env' L' => b env' L'
  | r => r
theorem dss_nil : DSs X Γ k Wx [] sSkip := fun g => PSs.imp pss_nil fun D σ H h => by
  obtain ⟨ρ, env, L, rl, re, h⟩ := h
  exact h ρ H σ (.refl rl) re
theorem SOut.seq {ρ : List Addr} {H : Hp} {a b : Sx} {env : Env} {L : LH} {D : Ends} (h : SOut Γ Wx ρ H (sSeq a b env L) D) : SOut Γ Wx ρ H (a env L) { D with nx := tSx Γ Wx b D } := by
  unfold sSeq at h
  cases e : a env L with
  | nx env' L' => rw [e] at h; exact fun ρ' H' σ' af re => ⟨ρ', env', L', af.rl, re, h.rebase af⟩
  | rt w L' => rw [e] at h; exact h
  | bk w L' => rw [e] at h; exact h
  | ct w L' => rw [e] at h; exact h
  | exc e w L' => rw [e] at h; exact h
  | stk => rw [e] at h; exact h
theorem dss_cons {st : Stmt} {rest : List Stmt} {a b : Sx} (h1 : DS X Γ k Wx st a) (h2 : DSs X Γ k Wx rest b) : DSs X Γ k Wx (st :: rest) (sSeq a b) := fun g =>
  PSs.imp (pss_cons (h1 g) (h2 g)) fun D σ H h => by
    obtain ⟨ρ, env, L, rl, re, h⟩ := h
    exact ⟨ρ, env, L, rl, re, h.seq⟩
theorem dss_one {st : Stmt} {a : Sx} (h1 : DS X Γ k Wx st a) : DSs X Γ k Wx [st] a := fun g => pss_one (h1 g)
/-- what is never reached -/
theorem ds_stk {st : Stmt} : DS X Γ k Wx st sStk := fun g => PS.imp ps_never fun D σ H h => by
  obtain ⟨ρ, env, L, rl, re, h⟩ := h
  exact h
theorem dss_stk {st : List Stmt} : DSs X Γ k Wx st sStk := fun g => PSs.imp pss_never fun D σ H h => by
  obtain ⟨ρ, env, L, rl, re, h⟩ := h
  exact h
theorem ds_pass : DS X Γ k Wx (.Pass pos) sSkip := fun g => PS.imp ps_pass fun D σ H h => by
  obtain ⟨ρ, env, L, rl, re, h⟩ := h
  exact h ρ H σ (.refl rl) re
def sBrk : Sx := fun env L => .bk env L
def sCnt : Sx := fun env L => .ct env L
theorem ds_brk : DS X Γ k Wx (.Break pos) sBrk := fun g => PS.imp ps_break fun D σ H h => by
  obtain ⟨ρ, env, L, rl, re, h⟩ := h
  exact h ρ H σ (.refl rl) re
theorem ds_cnt : DS X Γ k Wx (.Continue pos) sCnt := fun g => PS.imp ps_continue fun D σ H h => by
  obtain ⟨ρ, env, L, rl, re, h⟩ := h
  exact h ρ H σ (.refl rl) re
def sExpr (f : Ex) : Sx := fun env L => (f env L).toS env fun _ L1 => .nx env L1
theorem ds_expr {e : Expr} {f : Ex} (he : DE X Γ k Wx e f) (hs : swapsWith e none pos.line X.env = pure false := by rfl) : DS X Γ k Wx (.Expr e pos) (sExpr f) := fun g =>
  PS.imp (ps_expr (he g) hs) fun D σ H h => by
    obtain ⟨ρ, env, L, rl, re, h⟩ := h
    exact tG_toS rl re h fun ρ1 H1 a v L1 _ a1 re1 r1 h1 => h1 ρ1 H1 σ (.refl a1.rl) re1
def sRet (f : Ex) : Sx := fun env L => (f env L).toS env fun w L1 => .rt w L1
theorem ds_ret {e : Expr} {f : Ex} (he : DE X Γ k Wx e f) : DS X Γ k Wx (.Return (some e) pos) (sRet f) := fun g =>
  PS.imp (ps_ret (he g)) fun D σ H h => by
    obtain ⟨ρ, env, L, rl, re, h⟩ := h
    exact tG_toS rl re h fun ρ1 H1 a v L1 _ a1 re1 r1 h1 => h1 ρ1 H1 v (.refl a1.rl) r1
def sRetN : Sx := fun env L => .rt .non L
theorem ds_retN : DS X Γ k Wx (.Return none pos) sRetN := fun g => PS.imp ps_retN fun D σ H h => by
  obtain ⟨ρ, env, L, rl, re, h⟩ := h
  exact h ρ H _ (.refl rl) .non
def sIf (t : Bx) (a b : Sx) : Sx := fun env L => (t env L).toS env fun c L1 => if c = true then a env L1 else b env L1
theorem ds_if {c : Expr} {a b : List Stmt} {t : Bx} {f h : Sx} (hc : DT X Γ k Wx c t) (ha : DSs X Γ k Wx a f) (hb : DSs X Γ k Wx b h) : DS X Γ k Wx (.If c a b pos) (sIf t f h) := fun g =>
  PS.imp (ps_if (hc g) (ha g) (hb g)) fun D σ H q => by
    obtain ⟨ρ, env, L, rl, re, q⟩ := q
    refine tG_toS (R := RB) rl re q fun ρ1 H1 a v L1 _ a1 re1 r1 h1 => ?_
    cases r1
    cases a with
    | true => exact ⟨ρ1, env, L1, a1.rl, re1, h1⟩
    | false => exact ⟨ρ1, env, L1, a1.rl, re1, h1⟩

/-! ### targets -/
abbrev Tx := W → Env → LH → Res Env
def TOut (Γ : Ctx) (Wx : WX) (σ : L2.St) (ρ : List Addr) (H : Hp) (r : Res Env) (Q : L2.St → Hp → Prop) : Prop := match r with
  | .ok env' L' => ∀ ρ' H' σ', Aft Γ ρ H L' ρ' H' → REnv Γ ρ' H' env' σ' → Q σ' H'
  | .exc e L' => False
  | .stk => False
def tTx (Γ : Ctx) (Wx : WX) (t : Tx) : TG := fun v σ H Q => ∃ ρ env L w, RL Γ ρ L H ∧ REnv Γ ρ H env σ ∧ RW Γ ρ H w v ∧ TOut Γ Wx σ ρ H (t w env L) Q
def tTxs (Γ : Ctx) (Wx : WX) (t : List W → Env → LH → Res Env) : TGs := fun vs σ H Q => ∃ ρ env L ws, RL Γ ρ L H ∧ REnv Γ ρ H env σ ∧ RWs Γ ρ H ws vs ∧ TOut Γ Wx σ ρ H (t ws env L) Q
def DG (X : Cx) (Γ : Ctx) (k : Nat) (Wx : WX) (e : Expr) (t : Tx) : Prop := Good X Γ k Wx → PG X e (tTx Γ Wx t)
def DGs (X : Cx) (Γ : Ctx) (k : Nat) (Wx : WX) (e : List Expr) (t : List W → Env → LH → Res Env) : Prop := Good X Γ k Wx → PGs X e (tTxs Γ Wx t)
theorem PG.imp {e : Expr} {t t' : TG} (h : PG X e t) (i : ∀ v σ H Q, t' v σ H Q → t v σ H Q) : PG X e t' := by
  obtain ⟨h⟩ := h
  constructor
  intros
  apply h <;> first | assumption | exact i _ _ _ _ (by assumption)
theorem PGs.imp {e : List Expr} {t t' : TGs} (h : PGs X e t) (i : ∀ v σ H Q, t' v σ H Q → t v σ H Q) : PGs X e t' := by
  obtain ⟨h⟩ := h
  constructor
  intros
  apply h <;> first | assumption | exact i _ _ _ _ (by assumption)
theorem TOut.rebase {σ : L2.St} {ρ ρ1 : List Addr} {H H1 : Hp} {L1 : LH} {r : Res Env} {Q : L2.St → Hp → Prop} (a : Aft Γ ρ H L1 ρ1 H1) (h : TOut Γ Wx σ ρ H r Q) : TOut Γ Wx σ ρ1 H1 r Q := by
  cases r with
  | ok w L' => exact fun ρ' H' v b r => h ρ' H' v (a.trans b) r
  | exc e L' => exact h
  | stk => exact h
def gN (i : Nat) : Tx := fun w env L => .ok (env.set i (some w)) L
theorem dg_name (i : Nat) {x : Str} (hi : X.N[i]? = some x := by rfl) (hx : Loc X.env.scope x := by first | exact Or.inl rfl | exact Or.inr rfl) (hf : X.fn x = true ∨ X.env.scope.names.lookup x = some .local := by first | exact .inl rfl | exact .inr rfl) :
    DG X Γ k Wx (.Name x pos) (gN i) := fun g => PG.imp (pg_name g.nd hi hx hf) fun v σ H Q h => by
  obtain ⟨ρ, env, L, w, rl, re, r, h⟩ := h
  exact h ρ H _ (.refl rl) (re.set i r)
def gsNil : List W → Env → LH → Res Env := fun ws env L => match ws with
  | [] => .ok env L
  | _ => .stk
def gsCons (t : Tx) (u : List W → Env → LH → Res Env) : List W → Env → LH → Res Env := fun ws env L => match ws with
  | w :: r => (t w env L).bind fun env' L' => u r env' L'
  | [] => .stk
theorem dgs_nil : DGs X Γ k Wx [] gsNil := fun g => PGs.imp pgs_nil fun v σ H Q h => by
  obtain ⟨ρ, env, L, ws, rl, re, r, h⟩ := h
  unfold gsNil at h
  split at h
  · cases r; exact ⟨rfl, h ρ H _ (.refl rl) re⟩
  · exact h.elim
theorem dgs_cons {e : Expr} {es : List Expr} {t : Tx} {u : List W → Env → LH → Res Env} (h1 : DG X Γ k Wx e t) (h2 : DGs X Γ k Wx es u)
    (hs : (assignEach (e :: es) X.env).map (·.2) = assign e X.env :: (assignEach es X.env).map (·.2) := by rfl) : DGs X Γ k Wx (e :: es) (gsCons t u) := fun g => PGs.imp (pgs_cons (h1 g) (h2 g) hs) fun v σ H Q h => by
  obtain ⟨ρ, env, L, ws, rl, re, r, h⟩ := h
  unfold gsCons at h
  split at h
  · rename_i w r'
    cases r with
    | cons r1 r2 =>
      refine ⟨_, _, rfl, ρ, env, L, w, rl, re, r1, ?_⟩
      cases e : t w env L with
      | ok env' L' =>
        rw [e] at h
        exact fun ρ' H' σ' a re' => ⟨ρ', env', L', r', a.rl, re', r2.mono a.pre a.kp, TOut.rebase a h⟩
      | exc e' L' => rw [e] at h; exact h.elim
      | stk => rw [e] at h; exact h.elim
  · exact h.elim
/-- a, b, .. = a tuple -/
def gTupW (n : Nat) (u : List W → Env → LH → Res Env) : Tx := fun w env L => match w with
  | .tup ws => if ws.length = n then u ws env L else .stk
  | _ => .stk
theorem dg_tup {es : List Expr} {n : Nat} {j : Nat} {u : List W → Env → LH → Res Env} (h : DGs X Γ k Wx es u) (hn : (assignEach es X.env).length = n := by rfl) (hst : (assignEach es X.env).findIdx? (·.1) = none := by rfl) :
    DG X Γ k Wx (.Tuple es j pos) (gTupW n u) := fun g => PG.imp (pg_tup g.calm (h g) hn hst) fun v σ H Q h => by
  obtain ⟨ρ, env, L, w, rl, re, r, h⟩ := h
  unfold gTupW at h
  split at h
  · split at h
    · rename_i hl
      obtain ⟨a, vs, rfl, s, r⟩ := r.tup_inv
      exact ⟨a, vs, rfl, by rw [g.K]; exact s, by rw [← r.length]; exact hl, ρ, env, L, _, rl, re, r, h⟩
    · exact h.elim
  · exact h.elim
/-- o[i] = v -/
def oPut (o i v : W) (L : LH) : Option LH := match o with
  | .ref n => match L[n]? with
    | some (.lst xs) => match i with
      | .int j => match ixN xs.length j with
        | some m => some (L.set n (.lst (xs.set m v)))
        | none => none
      | _ => none
    | some (.dic kvs) => match keyW i with
      | some kk => if kvs.length < 16777216 then some (L.set n (.dic (putW kvs kk v))) else none
      | none => none
    | _ => none
  | _ => none
def gIx (f h : Ex) : Tx := fun w env L => (f env L).bind fun o L1 => (h env L1).bind fun i L2 => match oPut o i w L2 with
  | some L3 => .ok env L3
  | none => .stk
def sPut (f h v : Ex) : Sx := fun env L => (v env L).toS env fun w L1 => (gIx f h w env L1).toS env fun env' L2 => .nx env' L2
theorem PSet.or {t t' : TSet} (h : PSet X t) (h' : PSet X t') : PSet X (fun o i v H Q => t o i v H Q ∨ t' o i v H Q) := by
  unfold PSet at h h' ⊢
  intros
  rename_i hq
  rcases hq with hq | hq
  · apply h <;> first | assumption | exact hq
  · apply h' <;> first | assumption | exact hq
theorem PSet.imp {t t' : TSet} (h : PSet X t) (i : ∀ o i v H Q, t' o i v H Q → t o i v H Q) : PSet X t' := by
  unfold PSet at h ⊢
  intros
  apply h <;> first | assumption | exact i _ _ _ _ _ (by assumption)
end
end Z

/-! Z6: assignments, loops. -/
namespace Z
open PySem PySem.Spec PyProof.Rows L2
section
variable {X : Cx} {Γ : Ctx} {k : Nat} {Wx : WX} {pos : Pos}
def vSet (Γ : Ctx) : TSet := fun o i v H Q => ∃ ρ L a b w, RL Γ ρ L H ∧ RW Γ ρ H a o ∧ RW Γ ρ H b i ∧ RW Γ ρ H w v ∧ match oPut a b w L with
  | some L' => ∀ ρ' H', Aft Γ ρ H L' ρ' H' → Q H'
  | none => False
theorem set_all (g : Good X Γ k Wx) : PSet X (vSet Γ) := by
  refine PSet.imp (PSet.or set_list (set_dict (hu1 g))) fun o i v H Q h => ?_
  obtain ⟨ρ, L, a, b, w, rl, ra, rb, rw_, h⟩ := h
  unfold oPut at h
  split at h
  rotate_left
  · exact h.elim
  rename_i L' e
  split at e
  rotate_left
  · cases e
  rename_i n
  split at e
  · rename_i xs eo
    split at e
    rotate_left
    · cases e
    rename_i j
    split at e
    rotate_left
    · cases e
    rename_i m em
    cases e
    obtain ⟨p, vs, rfl, hp, r, ep⟩ := rl.lst ra eo
    cases rb
    refine .inl ⟨p, vs, j, m, rfl, rfl, hp, by rw [← r.length]; exact em, ?_⟩
    refine h ρ _ (.set rl eo ep ⟨_, upd_same, ?_⟩)
    exact (RWs.set rw_ m r).mono (List.prefix_refl _) (.write hp rfl)
  · rename_i kvs eo
    split at e
    rotate_left
    · cases e
    rename_i kk ek
    split at e
    rotate_left
    · cases e
    rename_i hz
    cases e
    obtain ⟨p, vs, rfl, hp, r, ep⟩ := rl.dic ra eo
    have := keyW_ok rb ek
    subst this
    refine .inr ⟨p, _, rfl, .k hp (by rw [← r.length, line_eq]; exact hz), ?_⟩
    refine h ρ _ (.set rl eo ep ⟨_, upd_same, ?_⟩)
    exact (RKs.put rw_ r).mono (List.prefix_refl _) (.write hp rfl)
  · cases e
theorem dg_sub {o i : Expr} {f h : Ex} (ho : DE X Γ k (fun _ _ _ _ => False) o f) (hi : DE X Γ k (fun _ _ _ _ => False) i h)
    (ha : ∀ v, assign (.Subscript o i pos) X.env v = (do
      let ov ← holding [v] (eval o X.env)
      let iv ← holding [v, ov] (eval i X.env)
      standAt pos
      holding [v, ov, iv] (setItem ov iv v)
      release [v, ov, iv] []) := by intro _; rfl) : DG X Γ k Wx (.Subscript o i pos) (gIx f h) := fun g => by
  have g0 : Good X Γ k (fun _ _ _ _ => False) := ⟨g.K, g.calm, g.nd, g.room, takes0, g.own⟩
  refine PG.imp (pg_sub (ho g0) (hi g0) (set_all g) ha) fun v σ H Q q => ?_
  obtain ⟨ρ, env, L, w, rl, re, r, q⟩ := q
  refine ⟨ρ, env, L, rl, re, ?_⟩
  unfold gIx at q
  cases e1 : f env L with
  | exc e L1 => rw [e1] at q; exact q.elim
  | stk => rw [e1] at q; exact q.elim
  | ok a L1 =>
    rw [e1] at q
    intro ρ1 H1 ov a1 r1
    refine ⟨ρ1, env, L1, a1.rl, re.mono a1.pre a1.kp, ?_⟩
    simp only [Res.bind] at q
    cases e2 : h env L1 with
    | exc e L1 => rw [e2] at q; exact q.elim
    | stk => rw [e2] at q; exact q.elim
    | ok b L2 =>
      rw [e2] at q
      intro ρ2 H2 iv a2 r2
      refine ⟨ρ2, L2, a, b, w, a2.rl, r1.mono a2.pre a2.kp, r2, (r.mono a1.pre a1.kp).mono a2.pre a2.kp, ?_⟩
      simp only at q
      cases e3 : oPut a b w L2 with
      | none => rw [e3] at q; exact q.elim
      | some L3 =>
        rw [e3] at q
        exact fun ρ3 H3 a3 => q ρ3 H3 σ ((a1.trans a2).trans a3) (((re.mono a1.pre a1.kp).mono a2.pre a2.kp).mono a3.pre a3.kp)
/-- what a target makes -/
def tgt (r : Res Env) : SRes := match r with
  | .ok env' L2 => .nx env' L2
  | _ => .stk
theorem tout_of {σ : L2.St} {ρ : List Addr} {H : Hp} {r : Res Env} {D : Ends} (h : SOut Γ Wx ρ H (tgt r) D) : TOut Γ Wx σ ρ H r D.nx := by
  cases r with
  | ok env' L' => exact h
  | exc e L' => exact h
  | stk => exact h
def sAs (v : Ex) (t : Tx) : Sx := fun env L => (v env L).toS env fun w L1 => tgt (t w env L1)
theorem ds_asg {tg e : Expr} {f : Ex} {t : Tx} (he : DE X Γ k Wx e f) (hg : DG X Γ k Wx tg t) (hs : swapsWithSole [tg] e pos.line X.env = pure false := by rfl) (hw : swappedStores [tg] e X.env = pure none := by rfl)
    (h1 : (assignEach [tg] X.env).map (·.2) = [assign tg X.env] := by rfl) : DS X Γ k Wx (.Assign [tg] e pos) (sAs f t) := fun g =>
  PS.imp (ps_asg (he g) (hg g) hs hw h1) fun D σ H q => by
    obtain ⟨ρ, env, L, rl, re, q⟩ := q
    exact tG_toS rl re q fun ρ1 H1 w v L1 _ a1 re1 r1 h1 => ⟨ρ1, env, L1, w, a1.rl, re1, r1, tout_of h1⟩
def sSet (i : Nat) (v : Ex) : Sx := fun env L => (v env L).toS env fun w L1 => .nx (env.set i (some w)) L1
theorem ds_set (i : Nat) {x : Str} {e : Expr} {f : Ex} {pos' : Pos} (he : DE X Γ k Wx e f) (hi : X.N[i]? = some x := by rfl) (hx : Loc X.env.scope x := by first | exact Or.inl rfl | exact Or.inr rfl)
    (hs : swapsWith e (some (.Name x pos')) pos.line X.env = pure false := by rfl) (hf : X.fn x = true ∨ X.env.scope.names.lookup x = some .local := by first | exact .inl rfl | exact .inr rfl) : DS X Γ k Wx (.Assign [.Name x pos'] e pos) (sSet i f) := fun g =>
  PS.imp (ps_set g.nd hi hx (he g) hs hf) fun D σ H q => by
    obtain ⟨ρ, env, L, rl, re, q⟩ := q
    exact tG_toS rl re q fun ρ1 H1 w v L1 _ a1 re1 r1 h1 => h1 ρ1 H1 _ (.refl a1.rl) (re1.set i r1)
def sPar (i j : Nat) (f : ExL) : Sx := fun env L => (f env L).toS env fun ws L1 => match ws with
  | [a, b] => .nx ((env.set i (some a)).set j (some b)) L1
  | _ => .stk
theorem ds_par (i j : Nat) {x y : Str} {a b : Expr} {f : ExL} {px py pt : Pos} {kt k2 pt2} (ha : DA X Γ k Wx [a, b] f) (hi : X.N[i]? = some x := by rfl) (hj : X.N[j]? = some y := by rfl) (hij : i ≠ j := by decide)
    (hx : X.env.scope.names.lookup x = some .local := by rfl) (hy : X.env.scope.names.lookup y = some .local := by rfl)
    (hw : swappedStores [.Tuple [.Name x px, .Name y py] kt pt] (.Tuple [a, b] k2 pt2) X.env = pure (some [x, y]) := by rfl)
    (hs : swapsWithSole [.Tuple [.Name x px, .Name y py] kt pt] (.Tuple [a, b] k2 pt2) pos.line X.env = pure false := by rfl) :
    DS X Γ k Wx (.Assign [.Tuple [.Name x px, .Name y py] kt pt] (.Tuple [a, b] k2 pt2) pos) (sPar i j f) := fun g =>
  PS.imp (ps_par g.calm g.nd hi hj hij hx hy (ha g) hw hs) fun D σ H q => by
    obtain ⟨ρ, env, L, rl, re, q⟩ := q
    refine tG_toS rl re q fun ρ1 H1 w v L1 _ a1 re1 r1 h1 => ?_
    split at h1
    · obtain ⟨x, y, rfl, r2, r3⟩ := r1.two_inv
      exact ⟨x, y, rfl, h1 ρ1 H1 _ (.refl a1.rl) ((re1.set i r2).set j r3)⟩
    · exact h1.elim
theorem RWs.three_inv {ρ : List Addr} {H : Hp} {a b c : W} {xs : List V} (r : RWs Γ ρ H [a, b, c] xs) : ∃ x y z, xs = [x, y, z] ∧ RW Γ ρ H a x ∧ RW Γ ρ H b y ∧ RW Γ ρ H c z := by
  cases r with
  | cons r t => obtain ⟨y, z, rfl, s, u⟩ := t.two_inv; exact ⟨_, _, _, rfl, r, s, u⟩
def sPar3 (i j l : Nat) (f : ExL) : Sx := fun env L => (f env L).toS env fun ws L1 => match ws with
  | [a, b, c] => .nx (((env.set i (some a)).set j (some b)).set l (some c)) L1
  | _ => .stk
theorem ds_par3 (i j l : Nat) {x y z : Str} {a b c : Expr} {f : ExL} {px py pz pt : Pos} {kt k2 pt2} (ha : DA X Γ k Wx [a, b, c] f) (hi : X.N[i]? = some x := by rfl) (hj : X.N[j]? = some y := by rfl) (hl : X.N[l]? = some z := by rfl) (hij : i ≠ j := by decide) (hil : i ≠ l := by decide) (hjl : j ≠ l := by decide)
    (hx : X.env.scope.names.lookup x = some .local := by rfl) (hy : X.env.scope.names.lookup y = some .local := by rfl) (hz : X.env.scope.names.lookup z = some .local := by rfl)
    (hw : swappedStores [.Tuple [.Name x px, .Name y py, .Name z pz] kt pt] (.Tuple [a, b, c] k2 pt2) X.env = pure (some [x, y, z]) := by rfl)
    (hs : swapsWithSole [.Tuple [.Name x px, .Name y py, .Name z pz] kt pt] (.Tuple [a, b, c] k2 pt2) pos.line X.env = pure false := by rfl) :
    DS X Γ k Wx (.Assign [.Tuple [.Name x px, .Name y py, .Name z pz] kt pt] (.Tuple [a, b, c] k2 pt2) pos) (sPar3 i j l f) := fun g =>
  PS.imp (ps_par3 g.calm g.nd hi hj hl hij hil hjl hx hy hz (ha g) hw hs) fun D σ H q => by
    obtain ⟨ρ, env, L, rl, re, q⟩ := q
    refine tG_toS rl re q fun ρ1 H1 w v L1 _ a1 re1 r1 h1 => ?_
    split at h1
    · obtain ⟨x, y, z, rfl, r2, r3, r4⟩ := r1.three_inv
      exact ⟨x, y, z, rfl, h1 ρ1 H1 _ (.refl a1.rl) (((re1.set i r2).set j r3).set l r4)⟩
    · exact h1.elim
/-- name op= e, ints, texts -/
def IP (X : Cx) (Γ : Ctx) (op : Operator) (o : W → W → LH → OV) : Prop := PIp X op (v2 Γ o)
theorem ip_of {op : Operator} {o : W → W → LH → OV} (h : OpR X (inplaceOp op) (v2 Γ o)) : IP X Γ op o := fun pins s σ H x y v u Q I r1 r2 q => h pins s σ H x y v u Q I r1 r2 q
def oAug (op : W → W → LH → OV) (a b : W) (L : LH) : OV := match a with
  | .int _ => op a b L
  | _ => none
theorem ip_addI : IP X Γ .Add (oAug oAdd) := ip_of (OpR.imp iop_add fun x y H Q h => by
  obtain ⟨ρ, L, a, b, rl, ra, rb, h⟩ := h
  unfold oAug at h
  split at h
  · unfold oAdd at h
    split at h <;> first | exact h.elim | (rename_i e; first | cases e | skip)
    · cases ra; cases rb; exact ⟨_, _, rfl, rfl, h.here rl (.int _)⟩
  · exact h.elim)
def sAug (i : Nat) (o : W → W → LH → OV) (v : Ex) : Sx := fun env L => match env[i]? with
  | some (some a) => (v env L).toS env fun w L1 => (ofO (o a w L1)).toS env fun z L2 => .nx (env.set i (some z)) L2
  | _ => .stk
theorem ds_aug (i : Nat) {x : Str} {e : Expr} {f : Ex} {op : Operator} {o : W → W → LH → OV} {pos' : Pos} (ho : IP X Γ op o) (he : DE X Γ k Wx e f) (hi : X.N[i]? = some x := by rfl) (hx : Loc X.env.scope x := by first | exact Or.inl rfl | exact Or.inr rfl)
    (hf : X.fn x = true ∨ X.env.scope.names.lookup x = some .local := by first | exact .inl rfl | exact .inr rfl) : DS X Γ k Wx (.AugAssign (.Name x pos') op e pos) (sAug i o f) := fun g =>
  PS.imp (ps_aug g.nd hi hx (he g) ho hf) fun D σ H q => by
    obtain ⟨ρ, env, L, rl, re, q⟩ := q
    unfold sAug at q
    split at q
    · rename_i a ea
      obtain ⟨v, ev, rv⟩ := re.val i a ea
      refine ⟨v, ev, tG_toS rl re q fun ρ1 H1 w y L1 _ a1 re1 r1 h1 => ?_⟩
      refine ⟨ρ1, L1, a, w, a1.rl, rv.mono a1.pre a1.kp, r1, ?_⟩
      cases eo : o a w L1 with
      | none => rw [eo] at h1; exact h1.elim
      | some p =>
        rw [eo] at h1
        exact fun ρ2 H2 z a2 r2 => h1 ρ2 H2 _ a2 ((re1.mono a2.pre a2.kp).set i r2)
    · exact q.elim

/-! ### what is walked -/
structure Src where
  len : Nat
  get : LH → Nat → Option (Option W)
def RSrc (Γ : Ctx) (ρ : List Addr) (H : Hp) (S : Src) (J : It) : Prop := ∀ ρ' H' L', ρ <+: ρ' → Keep H H' → RL Γ ρ' L' H' → ∀ i,
  (∀ w, S.get L' i = some (some w) → J.go i H' ∧ ∀ x H2, J.yld i H' x H2 → Aft Γ ρ' H' L' ρ' H2 ∧ RW Γ ρ' H2 w x) ∧ (S.get L' i = some none → J.stop i H')
abbrev Ix := Env → LH → Res Src
def DI (X : Cx) (Γ : Ctx) (k : Nat) (Wx : WX) (tg iter : Expr) (f : Ix) : Prop := Good X Γ k Wx → PI X tg iter (tG (RSrc Γ) Γ Wx f)
theorem PI.imp {tg iter : Expr} {t t' : TI} (h : PI X tg iter t) (i : ∀ σ H Q, t' σ H Q → t σ H Q) : PI X tg iter t' := ⟨fun pins s σ H R I q => h.run pins s σ H R I (i σ H R q)⟩
theorem PI.or {tg iter : Expr} {t t' : TI} (h : PI X tg iter t) (h' : PI X tg iter t') : PI X tg iter (fun σ H Q => t σ H Q ∨ t' σ H Q) := ⟨fun pins s σ H R I q => q.elim (h.run pins s σ H R I) (h'.run pins s σ H R I)⟩
/-- a list or a tuple -/
def srcOf (a : W) (L : LH) : Option Src := match a with
  | .tup ws => some ⟨ws.length, fun _ i => some ws[i]?⟩
  | .ref n => match seqL L n with
    | some ws => some ⟨ws.length, fun L' i => (seqL L' n).map fun ws => ws[i]?⟩
    | none => none
  | .scr ns => some ⟨ns.length, fun _ i => some (ns.map W.int)[i]?⟩
  | .str x => some ⟨x.cps.size, fun _ i => some ((x.cps[i]?).map fun c => .str ⟨#[c]⟩)⟩
  | _ => none
def iSeq (f : Ex) : Ix := fun env L => (f env L).bind fun a L1 => match srcOf a L1 with
  | some S => .ok S L1
  | none => .stk
theorem src_list {ρ : List Addr} {H : Hp} {n : Nat} {a : Addr} (e : ρ[n]? = some a) (m : Nat) (K : PySem.W.Frag) (hK : K = Γ.K) : RSrc Γ ρ H ⟨m, fun L' i => (seqL L' n).map fun ws => ws[i]?⟩ (Itl K a) := by
  subst hK
  intro ρ' H' L' pr kp rl i
  have e' := pre_get pr e
  refine ⟨fun w h => ?_, fun h => ?_⟩
  · cases es : seqL L' n with
    | none => simp only [es] at h; cases h
    | some ws =>
      simp only [es] at h
      obtain ⟨p, vs, ep, s, r, _⟩ := rl.seq (.ref e') es
      cases ep
      have hw : ws[i]? = some w := Option.some.inj h
      obtain ⟨v, ev, rv⟩ := r.get hw
      refine ⟨⟨vs, v, s, ev⟩, fun x H2 y => ?_⟩
      obtain ⟨rfl, y⟩ := y
      have := y vs s
      rw [ev] at this; cases this
      exact ⟨.refl rl, rv⟩
  · cases es : seqL L' n with
    | none => simp only [es] at h; cases h
    | some ws =>
      simp only [es] at h
      obtain ⟨p, vs, ep, s, r, _⟩ := rl.seq (.ref e') es
      cases ep
      have hw : ws[i]? = none := Option.some.inj h
      exact ⟨vs, s, by rw [← r.length]; exact List.getElem?_eq_none_iff.mp hw⟩
theorem src_tup {ρ : List Addr} {H : Hp} {ws : List W} {a : Addr} {vs : List V} (K : PySem.W.Frag) (hK : K = Γ.K) (s : SqT K H a vs) (r : RWs Γ ρ H ws vs) (m : Nat) : RSrc Γ ρ H ⟨m, fun _ i => some ws[i]?⟩ (Itt K a) := by
  subst hK
  intro ρ' H' L' pr kp rl i
  refine ⟨fun w h => ?_, fun h => ?_⟩
  · have hw : ws[i]? = some w := Option.some.inj h
    obtain ⟨v, ev, rv⟩ := (r.mono pr kp).get hw
    refine ⟨⟨vs, v, kp.sqT s, ev⟩, fun x H2 y => ?_⟩
    obtain ⟨rfl, y⟩ := y
    have := y vs (kp.sqT s)
    rw [ev] at this; cases this
    exact ⟨.refl rl, rv⟩
  · have hw : ws[i]? = none := Option.some.inj h
    exact ⟨vs, kp.sqT s, by rw [← r.length]; exact List.getElem?_eq_none_iff.mp hw⟩
end
end Z

/-! Z7: for loops, comprehensions. -/
namespace Z
open PySem PySem.Spec PyProof.Rows L2
section
variable {X : Cx} {Γ : Ctx} {k : Nat} {Wx : WX} {pos : Pos}
theorem di_seq {tg l : Expr} {f : Ex} (hl : DE X Γ k Wx l f) : DI X Γ k Wx tg l (iSeq f) := fun g => by
  refine PI.imp (PI.or (PI.or (pi_list (hl g)) (pi_tup (hl g))) (pi_str (hl g))) fun σ H R q => ?_
  obtain ⟨ρ, env, L, rl, re, q⟩ := q
  by_cases hz : ∃ z L1, f env L = .ok (.str z) L1
  · obtain ⟨z, L1, e1⟩ := hz
    refine .inr (tG_bindE rl re q fun ρ1 H1 a' v L1' ea a1 re1 r1 h1 => ?_)
    rw [e1] at ea; cases ea
    cases r1
    refine ⟨z, rfl, out_ok (R := RSrc Γ) h1 a1.rl ?_⟩
    intro ρ' H' L' pr kp rl' i
    refine ⟨fun w h => ?_, fun h => ?_⟩
    · have hw : ((z.cps[i]?).map fun c => W.str ⟨#[c]⟩) = some w := Option.some.inj h
      cases ec : z.cps[i]? with
      | none => rw [ec] at hw; cases hw
      | some c =>
        rw [ec] at hw; cases hw
        refine ⟨(Array.getElem?_eq_some_iff.mp ec).1, fun x H2 y => ?_⟩
        obtain ⟨rfl, c', e', rfl⟩ := y
        rw [ec] at e'; cases e'
        exact ⟨.refl rl', .str _⟩
    · have hw : ((z.cps[i]?).map fun c => W.str ⟨#[c]⟩) = none := Option.some.inj h
      cases ec : z.cps[i]? with
      | none => exact Array.getElem?_eq_none_iff.mp ec
      | some c => rw [ec] at hw; cases hw
  refine .inl ?_
  by_cases ht : ∃ ws L1, f env L = .ok (.tup ws) L1
  · obtain ⟨ws, L1, e1⟩ := ht
    refine .inr (tG_bindE rl re q fun ρ1 H1 a' v L1' ea a1 re1 r1 h1 => ?_)
    rw [e1] at ea; cases ea
    obtain ⟨p, vs, rfl, s, r⟩ := r1.tup_inv
    refine ⟨p, rfl, ⟨vs, by rw [g.K]; exact s⟩, ?_⟩
    refine out_ok (R := RSrc Γ) h1 a1.rl ?_
    exact src_tup X.K g.K (by rw [g.K]; exact s) r _
  · refine .inl (tG_bindE rl re q fun ρ1 H1 a' v L1' ea a1 re1 r1 h1 => ?_)
    cases r1 with
    | tup s r => exact absurd ⟨_, _, ea⟩ ht
    | str z => exact absurd ⟨_, _, ea⟩ hz
    | ref e =>
      simp only [srcOf] at h1
      rename_i n p
      cases es : seqL L1' n with
      | none => simp only [es] at h1; exact h1.elim
      | some ws =>
        simp only [es] at h1
        obtain ⟨p', vs, e2, s, r, _⟩ := a1.rl.seq (.ref e) es
        cases e2
        refine ⟨_, rfl, ⟨vs, by rw [g.K]; exact s⟩, ?_⟩
        exact out_ok (R := RSrc Γ) h1 a1.rl (src_list e _ X.K g.K)
    | scr e =>
      simp only [srcOf] at h1
      have s : ∀ H', Keep H1 H' → SqL Γ.K H' _ _ := fun H' k => sqScr (e.imp (fun ⟨ob, e⟩ => ⟨ob, k.frz _ _ _ e⟩) id)
      refine ⟨_, rfl, ⟨_, by rw [g.K]; exact s H1 .refl⟩, ?_⟩
      refine out_ok (R := RSrc Γ) h1 a1.rl ?_
      rw [g.K]
      intro ρ' H' L' pr kp rl' i
      refine ⟨fun w h => ?_, fun h => ?_⟩
      · have hw := Option.some.inj h
        obtain ⟨v, ev, rv⟩ := (RWs.ints (Γ := Γ) (ρ := ρ') (H := H') _).get hw
        refine ⟨⟨_, v, s H' kp, ev⟩, fun x H2 y => ?_⟩
        obtain ⟨rfl, y⟩ := y
        have := y _ (s _ kp)
        rw [ev] at this; cases this
        exact ⟨.refl rl', rv⟩
      · have hw := Option.some.inj h
        refine ⟨_, s H' kp, ?_⟩
        rw [List.getElem?_eq_none_iff, List.length_map] at hw
        rw [List.length_map]; exact hw
    | _ => exact h1.elim
/-- range(n), range(a, b) -/
def srcR (lo : Int) (n : Nat) : Src := ⟨n, fun _ i => some (if i < n then some (.int (lo + i)) else none)⟩
def iRng1 (f : ExL) : Ix := fun env L => (f env L).bind fun as L1 => match as with
  | [.int j] => if -(2 ^ 62) ≤ j ∧ j < 2 ^ 62 then .ok (srcR 0 j.toNat) L1 else .stk
  | _ => .stk
def iRng2 (f : ExL) : Ix := fun env L => (f env L).bind fun as L1 => match as with
  | [.int i, .int j] => if -(2 ^ 62) ≤ i ∧ i < 2 ^ 62 ∧ -(2 ^ 62) ≤ j ∧ j < 2 ^ 62 then .ok (srcR i (j - i).toNat) L1 else .stk
  | _ => .stk
theorem src_rng {ρ : List Addr} {H : Hp} (lo : Int) (n : Nat) : RSrc Γ ρ H (srcR lo n) (Itr lo n) := by
  intro ρ' H' L' pr kp rl i
  refine ⟨fun w h => ?_, fun h => ?_⟩
  · have hw : (if i < n then some (W.int (lo + i)) else none) = some w := Option.some.inj h
    split at hw
    · rename_i hi
      cases hw
      exact ⟨hi, fun x H2 y => by obtain ⟨rfl, rfl⟩ := y; exact ⟨.refl rl, .int _⟩⟩
    · cases hw
  · have hw : (if i < n then some (W.int (lo + i)) else none) = none := Option.some.inj h
    split at hw
    · cases hw
    · rename_i hi; exact Nat.le_of_not_lt hi
theorem di_rng1 {tg a : Expr} {f : ExL} {p : Pos} (hm : X.mg "range" = none) (ha : DA X Γ k Wx [a] f) (hg : Gl X "range" := by rfl) (hs : starEach [a] X.env = [(false, eval a X.env)] := by rfl) : DI X Γ k Wx tg (.Call (.Name "range" p) [a] [] pos) (iRng1 f) := fun g =>
  PI.imp (pi_range1 hg hm (ha g) hs) fun σ H R q => by
    obtain ⟨ρ, env, L, rl, re, q⟩ := q
    refine tG_bindE rl re q fun ρ1 H1 ws v L1 ea a1 re1 r1 h1 => ?_
    split at h1
    · split at h1
      · rename_i hz
        obtain ⟨x, rfl, r⟩ := r1.one_inv
        cases r
        exact ⟨_, rfl, hz.1, hz.2, out_ok (R := RSrc Γ) h1 a1.rl (src_rng _ _)⟩
      · exact h1.elim
    · exact h1.elim
theorem di_rng2 {tg a b : Expr} {f : ExL} {p : Pos} (hm : X.mg "range" = none) (ha : DA X Γ k Wx [a, b] f) (hg : Gl X "range" := by rfl) (hs : starEach [a, b] X.env = [(false, eval a X.env), (false, eval b X.env)] := by rfl) (hs2 : starEach [b] X.env = [(false, eval b X.env)] := by rfl) : DI X Γ k Wx tg (.Call (.Name "range" p) [a, b] [] pos) (iRng2 f) := fun g =>
  PI.imp (pi_range2 hg hm (ha g) hs hs2) fun σ H R q => by
    obtain ⟨ρ, env, L, rl, re, q⟩ := q
    refine tG_bindE rl re q fun ρ1 H1 ws v L1 ea a1 re1 r1 h1 => ?_
    split at h1
    · split at h1
      · rename_i hz
        obtain ⟨x, y, rfl, r, r'⟩ := r1.two_inv
        cases r; cases r'
        exact ⟨_, _, rfl, hz, out_ok (R := RSrc Γ) h1 a1.rl (src_rng _ _)⟩
      · exact h1.elim
    · exact h1.elim

/-! ### for -/
def forLoop (S : Src) (t : Tx) (b : Sx) : Nat → Nat → Env → LH → SRes
  | 0, _, _, _ => .stk
  | f + 1, i, env, L => match S.get L i with
    | none => .stk
    | some none => .nx env L
    | some (some w) => match t w env L with
      | .ok env1 L1 => match b env1 L1 with
        | .nx env2 L2 => forLoop S t b f (i + 1) env2 L2
        | .ct env2 L2 => forLoop S t b f (i + 1) env2 L2
        | .bk env2 L2 => .nx env2 L2
        | r => r
      | _ => .stk
def sFor (it : Ix) (t : Tx) (b : Sx) : Sx := fun env L => (it env L).toS env fun S L1 => forLoop S t b (S.len + 1) 0 env L1
theorem ds_for {tg iter : Expr} {body : List Stmt} {fi : Ix} {t : Tx} {b : Sx} (hi : DI X Γ k Wx tg iter fi) (hg : DG X Γ k Wx tg t) (hb : DSs X Γ k Wx body b)
    (hs : ∀ x, foldedSetIterable iter X.env x = pure x := by intro _; rfl) : DS X Γ k Wx (.For tg iter body [] pos) (sFor fi t b) := fun g =>
  PS.imp (ps_for g.own g.calm (hi g) (hg g) (hb g) hs) fun D σ H q => by
    obtain ⟨ρ, env, L, rl, re, q⟩ := q
    refine tG_toS rl re q fun ρ1 H1 S J L1 _ a1 re1 hS h1 => ?_
    refine ⟨fun i m σ H => ∃ ρ env L, ρ1 <+: ρ ∧ Keep H1 H ∧ RL Γ ρ L H ∧ REnv Γ ρ H env σ ∧ SOut Γ Wx ρ H (forLoop S t b m i env L) D, ⟨S.len + 1, ρ1, env, L1, List.prefix_refl _, .refl, a1.rl, re1, h1⟩, ?_⟩
    rintro i m σ H ⟨ρ, env, L, pr, kp, rl, re, h⟩
    cases m with
    | zero => exact h.elim
    | succ f =>
      unfold forLoop at h
      have hJ := hS ρ H L pr kp rl i
      cases eg : S.get L i with
      | none => rw [eg] at h; exact h.elim
      | some o =>
        cases o with
        | none =>
          rw [eg] at h
          exact .inl ⟨hJ.2 eg, h ρ H σ (.refl rl) re⟩
        | some w =>
          rw [eg] at h
          simp only at h
          obtain ⟨hgo, hy⟩ := hJ.1 w eg
          refine .inr ⟨hgo, fun σ' H' => ∃ ρ env L, ρ1 <+: ρ ∧ Keep H1 H' ∧ RL Γ ρ L H' ∧ REnv Γ ρ H' env σ' ∧ SOut Γ Wx ρ H' (forLoop S t b f (i + 1) env L) D, fun σ' H' hN => ⟨f, Nat.lt_succ_self _, hN⟩, fun x H' y => ?_⟩
          obtain ⟨a2, r2⟩ := hy x H' y
          refine ⟨ρ, env, L, w, a2.rl, re.mono a2.pre a2.kp, r2, ?_⟩
          cases et : t w env L with
          | exc e L' => rw [et] at h; exact h.elim
          | stk => rw [et] at h; exact h.elim
          | ok env1 L1 =>
            rw [et] at h
            simp only at h
            intro ρ3 H3 σ3 a3 re3
            refine ⟨ρ3, env1, L1, a3.rl, re3, ?_⟩
            have a23 := a2.trans a3
            cases eb : b env1 L1 with
            | nx env2 L2 =>
              rw [eb] at h
              exact fun ρ4 H4 σ4 a4 re4 => ⟨ρ4, env2, L2, pr.trans ((a23.trans a4).pre), kp.trans ((a23.trans a4).kp), a4.rl, re4, h.rebase (a23.trans a4)⟩
            | ct env2 L2 =>
              rw [eb] at h
              exact fun ρ4 H4 σ4 a4 re4 => ⟨ρ4, env2, L2, pr.trans ((a23.trans a4).pre), kp.trans ((a23.trans a4).kp), a4.rl, re4, h.rebase (a23.trans a4)⟩
            | bk env2 L2 => rw [eb] at h; exact SOut.rebase (r := .nx env2 L2) a23 h
            | rt w2 L2 => rw [eb] at h; exact SOut.rebase (r := .rt w2 L2) a23 h
            | exc e env2 L2 => rw [eb] at h; exact SOut.rebase (r := .exc e env2 L2) a23 h
            | stk => rw [eb] at h; exact h.elim

/-! ### comprehensions -/
/-- a comprehension's target: a name, or names -/
inductive CT where
  | one (i : Nat)
  | many (is : List Nat)
def CT.slots : CT → List Nat
  | .one i => [i]
  | .many is => is
def setAll : List Nat → List W → Env → Option Env
  | [], [], env => some env
  | i :: is, w :: ws, env => setAll is ws (env.set i (some w))
  | _, _, _ => none
def CT.set (c : CT) (w : W) (env : Env) : Option Env := match c with
  | .one i => some (env.set i (some w))
  | .many is => match w with
    | .tup ws => setAll is ws env
    | _ => none
def gNames : List Nat → TGs
  | [] => gNil
  | i :: is => gCons (gName i) (gNames is)
def CT.tg (K : PySem.W.Frag) : CT → TG
  | .one i => gName i
  | .many is => gTup K is.length (gNames is)
def wipeE (env : Env) : List Nat → Env
  | [] => env
  | v :: vs => (wipeE env vs).set v none
theorem wipe_get (σ : L2.St) : ∀ (vs : List Nat) (j : Nat), (wipe σ vs)[j]? = if j ∈ vs then (σ[j]?).map fun _ => none else σ[j]?
  | [], j => by simp [wipe]
  | v :: vs, j => by
    show ((wipe σ vs).set v none)[j]? = _
    by_cases hj : v = j
    · subst hj
      by_cases hv : v < (wipe σ vs).length
      · rw [List.getElem?_set_self hv, if_pos List.mem_cons_self]
        rw [wipe_length] at hv
        rw [List.getElem?_eq_getElem hv]; rfl
      · rw [List.getElem?_eq_none (by rw [List.length_set]; exact Nat.le_of_not_lt hv), if_pos List.mem_cons_self]
        rw [wipe_length] at hv
        rw [List.getElem?_eq_none (Nat.le_of_not_lt hv)]; rfl
    · rw [List.getElem?_set_ne hj, wipe_get σ vs j]
      by_cases hm : j ∈ vs
      · rw [if_pos hm, if_pos (List.mem_cons_of_mem _ hm)]
      · rw [if_neg hm, if_neg (fun z => (List.mem_cons.mp z).elim (fun e => hj e.symm) hm)]
theorem wipe_set {σ : L2.St} {i : Nat} {v : Option V} {vs : List Nat} (h : i ∈ vs) : wipe (σ.set i v) vs = wipe σ vs := by
  apply List.ext_getElem?
  intro j
  rw [wipe_get, wipe_get]
  by_cases hj : j ∈ vs
  · rw [if_pos hj, if_pos hj]
    by_cases e : i = j
    · subst e
      by_cases hi : i < σ.length
      · rw [List.getElem?_set_self hi, List.getElem?_eq_getElem hi]; rfl
      · rw [List.getElem?_eq_none (by rw [List.length_set]; exact Nat.le_of_not_lt hi), List.getElem?_eq_none (Nat.le_of_not_lt hi)]
    · rw [List.getElem?_set_ne e]
  · rw [if_neg hj, if_neg hj]
    have e : i ≠ j := fun z => hj (z ▸ h)
    rw [List.getElem?_set_ne e]
theorem wipe_idem (σ : L2.St) (vs : List Nat) : wipe (wipe σ vs) vs = wipe σ vs := by
  apply List.ext_getElem?
  intro j
  rw [wipe_get, wipe_get]
  by_cases hj : j ∈ vs
  · rw [if_pos hj, if_pos hj]
    cases σ[j]? <;> rfl
  · rw [if_neg hj, if_neg hj]
theorem REnv.wipe {ρ : List Addr} {H : Hp} {env : Env} {σ : L2.St} (h : REnv Γ ρ H env σ) : ∀ vs : List Nat, REnv Γ ρ H (wipeE env vs) (L2.wipe σ vs)
  | [] => h
  | v :: vs => by
    have ih := REnv.wipe h vs
    refine ⟨by show ((wipeE env vs).set v none).length = ((L2.wipe σ vs).set v none).length; rw [List.length_set, List.length_set]; exact ih.len, fun j w e => ?_⟩
    show ∃ x, ((L2.wipe σ vs).set v none)[j]? = some (some x) ∧ _
    replace e : ((wipeE env vs).set v none)[j]? = some (some w) := e
    by_cases hj : v = j
    · subst hj
      by_cases hv : v < (wipeE env vs).length
      · rw [List.getElem?_set_self hv] at e; cases e
      · rw [List.getElem?_eq_none (by rw [List.length_set]; exact Nat.le_of_not_lt hv)] at e; cases e
    · rw [List.getElem?_set_ne hj] at e ⊢
      exact ih.val j w e
theorem setAll_ok {ρ : List Addr} {H : Hp} {vs : List Nat} : ∀ {is : List Nat} {ws : List W} {xs : List V} {env env' : Env} {σ : L2.St} {Q : L2.St → Hp → Prop}, REnv Γ ρ H env σ → RWs Γ ρ H ws xs → setAll is ws env = some env' → (∀ i ∈ is, i ∈ vs) →
    (∀ σ', REnv Γ ρ H env' σ' → wipe σ' vs = wipe σ vs → Q σ' H) → gNames is xs σ H Q
  | [], [], _, env, env', σ, Q, re, .nil, e, hv, q => by
    cases e; exact ⟨rfl, q σ re rfl⟩
  | i :: is, w :: ws, _, env, env', σ, Q, re, .cons r t, e, hv, q => by
    refine ⟨_, _, rfl, ?_⟩
    show gNames is _ (σ.set i (some _)) H Q
    refine setAll_ok (re.set i r) t e (fun j hj => hv j (List.mem_cons_of_mem _ hj)) fun σ' re' hw => q σ' re' ?_
    rw [hw, wipe_set (hv i List.mem_cons_self)]
  | [], w :: ws, _, env, env', σ, Q, re, _, e, hv, q => by cases e
  | i :: is, [], _, env, env', σ, Q, re, _, e, hv, q => by cases e
theorem CT.ok {ρ : List Addr} {H : Hp} {vs : List Nat} {c : CT} {w : W} {x : V} {env env' : Env} {σ : L2.St} {Q : L2.St → Hp → Prop} (K : PySem.W.Frag) (hK : K = Γ.K) (re : REnv Γ ρ H env σ) (r : RW Γ ρ H w x) (e : c.set w env = some env') (hv : ∀ i ∈ c.slots, i ∈ vs)
    (q : ∀ σ', REnv Γ ρ H env' σ' → wipe σ' vs = wipe σ vs → Q σ' H) : c.tg K x σ H Q := by
  subst hK
  cases c with
  | one i =>
    cases e
    exact q _ (re.set i r) (wipe_set (hv i (List.mem_singleton.mpr rfl)))
  | many is =>
    cases r with
    | tup s rs =>
      refine ⟨_, _, rfl, s, ?_, setAll_ok re rs e hv q⟩
      rw [← rs.length]
      have : ∀ {is : List Nat} {ws : List W} {env env' : Env}, setAll is ws env = some env' → ws.length = is.length := by
        intro is
        induction is with
        | nil => intro ws env env' e; cases ws with
          | nil => rfl
          | cons _ _ => cases e
        | cons i is ih => intro ws env env' e; cases ws with
          | nil => cases e
          | cons w ws => rw [List.length_cons, List.length_cons, ih e]
      exact this e
    | _ => cases e
/-- no exception -/
def Res.only {α : Type} (r : Res α) : Res α := match r with
  | .ok a L => .ok a L
  | _ => .stk
/-- the turns of [e for c in S if t] -/
def lcLoop (S : Src) (c : CT) (t : Bx) (e : Ex) (env : Env) : Nat → Nat → LH → List W → Res (List W)
  | 0, _, _, _ => .stk
  | f + 1, i, L, acc => match S.get L i with
    | none => .stk
    | some none => .ok acc L
    | some (some w) => match c.set w env with
      | none => .stk
      | some env1 => (t env1 L).only.bind fun b L1 => if b = true then (e env1 L1).only.bind fun y L2 => if acc.length < 16777216 then lcLoop S c t e env f (i + 1) L2 (acc ++ [y]) else .stk
        else lcLoop S c t e env f (i + 1) L1 acc
def bYes : Bx := fun _ L => .ok true L
/-- the list is made last -/
def cLc (vs : List Nat) (it : Ix) (c : CT) (t : Bx) (e : Ex) : Ex := fun env L => (it env L).bind fun S L1 => (lcLoop S c t e (wipeE env vs) (S.len + 1) 0 L1 []).bind fun acc L2 => .ok (.ref L2.length) (L2 ++ [.lst acc])
def DTs (X : Cx) (Γ : Ctx) (k : Nat) (Wx : WX) (ifs : List Expr) (t : Bx) : Prop := Good X Γ k Wx → PTs X ifs (tExB Γ Wx t)
theorem PTs.imp {ifs : List Expr} {t t' : TT} (h : PTs X ifs t) (i : ∀ σ H Q, t' σ H Q → t σ H Q) : PTs X ifs t' := by
  obtain ⟨h⟩ := h
  constructor
  intros
  apply h <;> first | assumption | exact i _ _ _ (by assumption)
theorem dts_nil : DTs X Γ k Wx [] bYes := fun g => PTs.imp pts_nil fun σ H Q h => by
  obtain ⟨ρ, env, L, rl, re, h⟩ := h
  exact out_ok (R := RB) h rl rfl
theorem dts_one {c : Expr} {t : Bx} (h : DT X Γ k Wx c t) : DTs X Γ k Wx [c] t := fun g => pts_one (h g)
abbrev W0 : WX := fun _ _ _ _ => False
/-- what stands within the block of a comprehension -/
abbrev Cx.bk (X : Cx) (scope : Scope) (s : Shared) (H : Hp) (C : Addr) (cl : List (Str × Addr)) (fp : List Addr) : Cx := X.blk s H scope (compEnvC scope cl C X.env) fp
theorem Good.blk (g : Good X Γ k Wx) (scope : Scope) (s : Shared) (H : Hp) (C : Addr) (cl : List (Str × Addr)) (fp : List Addr) : Good (Cx.bk X scope s H C cl fp) Γ k W0 :=
  ⟨g.K, g.calm, g.nd, g.room, takes0, .never⟩
theorem lc_read {S : Src} {J : It} {c : CT} {t : Bx} {e : Ex} {vs : List Nat} {σ : L2.St} {Q : VK} {K : PySem.W.Frag} (hK : K = Γ.K) (hv : ∀ i ∈ c.slots, i ∈ vs) {ρ1 : List Addr} {H1 : Hp} {L1 : LH} {env : Env}
    (rl1 : RL Γ ρ1 L1 H1) (re1 : REnv Γ ρ1 H1 env σ) (hS : RSrc Γ ρ1 H1 S J)
    (h : Out (RW Γ) Γ Wx σ ρ1 H1 ((lcLoop S c t e (wipeE env vs) (S.len + 1) 0 L1 []).bind fun acc L2 => .ok (.ref L2.length) (L2 ++ [.lst acc])) Q) (D : Addr) (hD : H1 D = none) :
    ∃ W : Nat → Nat → Hp → Prop, (∃ m, W 0 m (upd H1 D (.lst []))) ∧ ∀ i m H, W i m H →
      (J.stop i H ∧ Q (.ref D) H) ∨ (J.go i H ∧ ∃ Nx : Hp → Prop, (∀ H', Nx H' → ∃ m', m' < m ∧ W (i + 1) m' H') ∧ ∀ x H', J.yld i H x H' → (c.tg K) x (wipe σ vs) H' fun σ2 H2 => wipe σ2 vs = wipe σ vs ∧ tExB Γ W0 t σ2 H2 fun b H3 =>
        if b = true then tEx Γ W0 e σ2 H3 fun y H4 => ∃ acc, H4 D = some (.lst acc) ∧ acc.length < sizeLine ∧ Nx (upd H4 D (.lst (acc ++ [y]))) else Nx H3) := by
  refine ⟨fun i m H => ∃ ρ L acc xs H0, H = upd H0 D (.lst xs) ∧ H0 D = none ∧ Aft Γ ρ1 H1 L ρ H0 ∧ RWs Γ ρ H0 acc xs ∧
    Out (RW Γ) Γ Wx σ ρ H0 ((lcLoop S c t e (wipeE env vs) m i L acc).bind fun acc L2 => .ok (.ref L2.length) (L2 ++ [.lst acc])) Q, ⟨S.len + 1, ρ1, L1, [], [], H1, rfl, hD, .refl rl1, .nil, h⟩, ?_⟩
  rintro i m H ⟨ρ, L, acc, xs, H0, rfl, h0, af, ra, h⟩
  have rl := af.rl
  have nD : D ∉ ρ := rl.out h0
  have rlD : RL Γ ρ L (upd H0 D (.lst xs)) := rl.fresh h0
  have kpD : Keep H1 (upd H0 D (.lst xs)) := af.kp.trans (.fresh h0)
  have reD : REnv Γ ρ (upd H0 D (.lst xs)) (wipeE env vs) (wipe σ vs) := (re1.mono af.pre kpD).wipe vs
  cases m with
  | zero => exact h.elim
  | succ f =>
    unfold lcLoop at h
    have hJ := hS ρ _ L af.pre kpD rlD i
    cases eg : S.get L i with
    | none => rw [eg] at h; exact h.elim
    | some o =>
      cases o with
      | none =>
        rw [eg] at h
        refine .inl ⟨hJ.2 eg, ?_⟩
        have h : Out (RW Γ) Γ Wx σ ρ H0 (.ok (.ref L.length) (L ++ [.lst acc])) Q := h
        refine h (ρ ++ [D]) _ _ (.push rl h0 ⟨xs, upd_same, ra.mono (pre_app _ _) (.fresh h0)⟩) (.ref ?_)
        rw [← rl.len]; exact List.getElem?_concat_length
      | some w =>
        rw [eg] at h
        simp only at h
        obtain ⟨hgo, hy⟩ := hJ.1 w eg
        refine .inr ⟨hgo, fun H' => ∃ ρ L acc xs H0, H' = upd H0 D (.lst xs) ∧ H0 D = none ∧ Aft Γ ρ1 H1 L ρ H0 ∧ RWs Γ ρ H0 acc xs ∧
          Out (RW Γ) Γ Wx σ ρ H0 ((lcLoop S c t e (wipeE env vs) f (i + 1) L acc).bind fun acc L2 => .ok (.ref L2.length) (L2 ++ [.lst acc])) Q, fun H' hN => ⟨f, Nat.lt_succ_self _, hN⟩, fun x H' y => ?_⟩
        obtain ⟨a2, r2⟩ := hy x H' y
        cases ec : c.set w (wipeE env vs) with
        | none => rw [ec] at h; exact h.elim
        | some env1 =>
          rw [ec] at h
          simp only at h
          refine CT.ok K hK (reD.mono a2.pre a2.kp) r2 ec hv fun σ2 re2 hw => ⟨by rw [hw, wipe_idem], ?_⟩
          refine ⟨ρ, env1, L, a2.rl, re2, ?_⟩
          cases et : t env1 L with
          | exc e' L' => rw [et] at h; exact h.elim
          | stk => rw [et] at h; exact h.elim
          | ok b L3 =>
            rw [et] at h
            simp only [Res.only, Res.bind] at h
            intro ρ3 H3 b' a3 eb
            cases eb
            have a23 := a2.trans a3
            cases b with
            | false =>
              obtain ⟨a4, h4, _⟩ := Aft.hide h0 nD rfl a23
              exact ⟨ρ3, L3, acc, xs, hide H3 D, (hide_upd h4).symm, hide_at, af.trans a4, ra.mono a4.pre a4.kp, Out.rebase a4 h⟩
            | true =>
              refine ⟨ρ3, env1, L3, a3.rl, re2.mono a3.pre a3.kp, ?_⟩
              simp only [if_true] at h
              cases ee : e env1 L3 with
              | exc e' L' => rw [ee] at h; exact h.elim
              | stk => rw [ee] at h; exact h.elim
              | ok y L4 =>
                rw [ee] at h
                simp only at h
                intro ρ4 H4 z a5 r5
                obtain ⟨a4, h4, _⟩ := Aft.hide h0 nD rfl (a23.trans a5)
                by_cases hz : acc.length < 16777216
                · rw [if_pos hz] at h
                  refine ⟨xs, h4, by rw [← ra.length, line_eq]; exact hz, ρ4, L4, acc ++ [y], xs ++ [z], hide H4 D, ?_, hide_at, af.trans a4, ?_, Out.rebase a4 h⟩
                  · rw [← hide_upd h4, upd_upd]
                    rw [hide_upd h4]
                  · exact (ra.mono a4.pre a4.kp).append (.one (r5.hide h4 rfl))
                · rw [if_neg hz] at h; exact h.elim
theorem d_lc {elt tg iter : Expr} {ifs : List Expr} {scope : Scope} {own : List (Str × Nat)} {fi : Ix} {c : CT} {t : Bx} {e : Ex} (hi : DI X Γ k Wx tg iter fi) (ok : BlkOk X.N X.env.scope scope own) (hv : ∀ i ∈ c.slots, i ∈ own.map (·.2))
    (hg : ∀ (s : Shared) (H : Hp) (C : Addr) (cl : List (Str × Addr)) (fp : List Addr), (Cx.bk X scope s H C cl fp).N.Nodup → (Cx.bk X scope s H C cl fp).calm = true → PG (Cx.bk X scope s H C cl fp) tg (c.tg X.K))
    (ht : ∀ (s : Shared) (H : Hp) (C : Addr) (cl : List (Str × Addr)) (fp : List Addr), DTs (Cx.bk X scope s H C cl fp) Γ k W0 ifs t)
    (he : ∀ (s : Shared) (H : Hp) (C : Addr) (cl : List (Str × Addr)) (fp : List Addr), DE (Cx.bk X scope s H C cl fp) Γ k W0 elt e) (hs : ∀ x, foldedSetIterable iter X.env x = pure x := by intro _; rfl) :
    DE X Γ k Wx (.ListComp elt [⟨tg, iter, ifs, 0⟩] scope pos) (cLc (own.map (·.2)) fi c t e) := fun g =>
  PE.imp (pe_lc g.calm g.nd (hi g) ok (fun s H C cl fp => hg s H C cl fp g.nd g.calm) (fun s H C cl fp => ht s H C cl fp (g.blk scope s H C cl fp)) (fun s H C cl fp => he s H C cl fp (g.blk scope s H C cl fp)) hs) fun σ H Q q => by
    obtain ⟨ρ, env, L, rl, re, q⟩ := q
    refine tG_bindE rl re q fun ρ1 H1 S J L1 ea a1 re1 hS h1 => ?_
    intro D hD
    exact lc_read g.K hv a1.rl re1 hS h1 D hD
/-- name = [..] on one line -/
theorem ds_setLc (i : Nat) {y : Str} {py spos : Pos} {elt tg iter : Expr} {ifs : List Expr} {scope : Scope} {own : List (Str × Nat)} {fi : Ix} {c : CT} {t : Bx} {e : Ex} (hi : DI X Γ k Wx tg iter fi) (ok : BlkOk X.N X.env.scope scope own) (hv : ∀ i ∈ c.slots, i ∈ own.map (·.2))
    (hg : ∀ (s : Shared) (H : Hp) (C : Addr) (cl : List (Str × Addr)) (fp : List Addr), (Cx.bk X scope s H C cl fp).N.Nodup → (Cx.bk X scope s H C cl fp).calm = true → PG (Cx.bk X scope s H C cl fp) tg (c.tg X.K))
    (ht : ∀ (s : Shared) (H : Hp) (C : Addr) (cl : List (Str × Addr)) (fp : List Addr), DTs (Cx.bk X scope s H C cl fp) Γ k W0 ifs t)
    (he : ∀ (s : Shared) (H : Hp) (C : Addr) (cl : List (Str × Addr)) (fp : List Addr), DE (Cx.bk X scope s H C cl fp) Γ k W0 elt e)
    (hsw : swapsWith (.ListComp elt [⟨tg, iter, ifs, 0⟩] scope pos) (some (.Name y py)) spos.line X.env = pure true)
    (hy : X.N[i]? = some y := by rfl) (hyl : X.env.scope.names.lookup y = some .local := by rfl) (hs : ∀ x, foldedSetIterable iter X.env x = pure x := by intro _; rfl) :
    DS X Γ k Wx (.Assign [.Name y py] (.ListComp elt [⟨tg, iter, ifs, 0⟩] scope pos) spos) (sSet i (cLc (own.map (·.2)) fi c t e)) := fun g =>
  PS.imp (ps_setLc g.calm g.nd hy hyl hsw (hi g) ok (fun s H C cl fp => hg s H C cl fp g.nd g.calm) (fun s H C cl fp => ht s H C cl fp (g.blk scope s H C cl fp)) (fun s H C cl fp => he s H C cl fp (g.blk scope s H C cl fp)) hs) fun D' σ H q => by
    obtain ⟨ρ, env, L, rl, re, q⟩ := q
    have q2 : tEx Γ Wx (cLc (own.map (·.2)) fi c t e) σ H (fun x H1 => gName i x σ H1 D'.nx) := tG_toS rl re q fun ρ1 H1 w v L1 _ a1 re1 r1 h1 => h1 ρ1 H1 _ (.refl a1.rl) (re1.set i r1)
    obtain ⟨ρ, env, L, rl, re, q⟩ := q2
    refine tG_bindE rl re q fun ρ1 H1 S J L1 ea a1 re1 hS h1 => ?_
    intro D hD
    exact lc_read g.K hv a1.rl re1 hS h1 D hD
end
end Z

/-! Z8: calls, defs. -/
namespace Z
open PySem PySem.Spec PyProof.Rows L2
abbrev Fn := List W → LH → Res W
/-- a def's promise by its meaning -/
def spG (Γ : Ctx) (g : Fn) : Sp := fun vs H Q E => ∃ ρ L ws, RL Γ ρ L H ∧ RWs Γ ρ H ws vs ∧ Out (RW Γ) Γ (fun c d _ H' => E c d H') [] ρ H (g ws L) Q
/-- all defs of the text at a level -/
abbrev Tab := Nat → Fn
/-- a def as callers see it: its number, its parameters, its defaults -/
structure FnS (P : Program) (w : World) (K : PySem.W.Frag) (mg : Str → Option Value) (base : Heap) (Γ : Ctx) (k : Nat) (f : Addr) (ps : List Str) (dws : List W) (g : Fn) : Prop where
  ex : ∃ fd ds dvs, FnOk P w K mg base (L2.CX P w) k f fd ps (spG Γ g) ∧ Binds K fd ps ds ∧ Vals dvs ds ∧ ∀ ρ H, RWs Γ ρ H dws dvs
  kp : PySem.W.keepIn K (.ref f) = true
section
variable {X : Cx} {Γ : Ctx} {k : Nat} {Wx : WX} {pos : Pos}
def cCall (g : Fn) (dws : List W) (fs : ExL) : Ex := fun env L => (fs env L).bind fun as L1 => g (as ++ dws) L1
theorem RWs.nil_inv {ρ : List Addr} {H : Hp} {xs : List V} (r : RWs Γ ρ H [] xs) : xs = [] := by cases r; rfl
theorem call_read {g : Fn} {ws : List W} {vs : List V} {σ : L2.St} {ρ : List Addr} {H : Hp} {L : LH} {Q : VK} (rl : RL Γ ρ L H) (r : RWs Γ ρ H ws vs) (h : Out (RW Γ) Γ Wx σ ρ H (g ws L) Q) : spG Γ g vs H Q (L2.WE Wx σ) := by
  refine ⟨ρ, L, ws, rl, r, ?_⟩
  cases e : g ws L with
  | ok w L' => rw [e] at h; exact h
  | exc e L' => rw [e] at h; exact h
  | stk => rw [e] at h; exact h
theorem d_call {f : Addr} {ps : List Str} {dws : List W} {g : Fn} {x : Str} {p : Pos} {e : Expr} {es : List Expr} {fs : ExL} (S : FnS X.prog X.w X.K X.mg X.base Γ k f ps dws g) (hm : X.mg x = some (.ref f)) (ha : DA X Γ k Wx (e :: es) fs) (hg : Gl X x := by rfl)
    (hdb : (x == ("__debug__" : Str)) = false := by decide) (he : starEach (e :: es) X.env = (false, eval e X.env) :: starEach es X.env := by rfl) (hpl : (backTo pos (starEach es X.env)).any (·.1) = false := by rfl) :
    DE X Γ k Wx (.Call (.Name x p) (e :: es) [] pos) (cCall g dws fs) := fun G => by
  obtain ⟨fd, ds, dvs, F, B, D, rd⟩ := S.ex
  refine PE.imp (pe_callSD F G.room hg hm S.kp B D (fun σ => L2.passAt G.tk σ) (ha G) hdb he hpl) fun σ H Q q => ?_
  obtain ⟨ρ, env, L, rl, re, q⟩ := q
  refine tG_bind rl re q fun ρ1 H1 as vs L1 a1 re1 r1 h1 => ?_
  exact call_read a1.rl (r1.append (rd _ _)) h1
theorem d_call0 {f : Addr} {ps : List Str} {g : Fn} {x : Str} {p : Pos} {dws : List W} (S : FnS X.prog X.w X.K X.mg X.base Γ k f ps dws g) (hm : X.mg x = some (.ref f)) (hg : Gl X x := by rfl)
    (hdb : (x == ("__debug__" : Str)) = false := by decide) :
    DE X Γ k Wx (.Call (.Name x p) [] [] pos) (cCall g dws cNil) := fun G => by
  obtain ⟨fd, ds, dvs, F, B, D, rd⟩ := S.ex
  constructor
  intro pins s σ H Q I h
  obtain ⟨ρ, env, L, rl, re, q⟩ := h
  refine wpAny_Call_Name_kw (ld_glob I hg hm ?_ hdb)
  refine PySem.W.callWith_K0 I.kIn S.kp ?_
  have h2 : spG Γ g ([] ++ dvs) H Q (L2.WE Wx σ) := call_read rl (rd _ _) q
  have r2 : Vals ([] ++ dvs) ([] ++ ds) := D
  have hl : ([] ++ ds).length = ps.length := by rw [← r2.length]; exact F.len _ _ _ _ h2
  refine wpAny_call (codeAny_mono (F.run X.A X.stack s H ⟨[], []⟩ ([] ++ ds) ([] ++ dvs) Q _ G.room I.env0 (B s [] I.kIn hl) r2 h2) fun r s' hq => ?_)
  cases r with
  | error e => exact L2.passAt G.tk σ pins H s e s' I hq
  | ok fl =>
    cases fl with
    | ret u => exact I.after hq
    | next => exact False.elim hq
    | brk => exact False.elim hq
    | cont => exact False.elim hq
end
/-- a def's meaning: n slots, m parameters -/
def defF (n m : Nat) (b : Sx) : Fn := fun args L => if args.length = m then match b (args.map some ++ List.replicate (n - m) none) L with
    | .rt w L' => .ok w L'
    | .nx _ L' => .ok .non L'
    | .exc e _ L' => .exc e L'
    | _ => .stk
  else .stk
section
variable {P : Program} {w : World} {K : PySem.W.Frag} {mg : Str → Option Value} {base : Heap} {Γ : Ctx}
/-- the context of a def's body -/
abbrev CxD (P : Program) (w : World) (K : PySem.W.Frag) (mg : Str → Option Value) (base : Heap) (N : List Str) (qual : Str) (sc : Scope) (f : Addr) (cd : Value) (A : Around) (outer : List PySem.Env) (s : Shared) (H : Hp) (E : XK) : Cx :=
  cxOf (L2.CX P w) P w K mg base N qual sc f cd A outer s H E
abbrev WxD (E : XK) : WX := fun c d _ H => E c d H
theorem start_ok {ρ : List Addr} {H : Hp} {N : List Str} {m : Nat} {ws : List W} {vs : List V} (r : RWs Γ ρ H ws vs) (hm : ws.length = m) : REnv Γ ρ H (ws.map some ++ List.replicate (N.length - m) none) (L2.start N vs) := by
  subst hm
  refine ⟨?_, fun i w e => ?_⟩
  · unfold L2.start
    rw [List.length_append, List.length_append, List.length_map, List.length_map, List.length_replicate, List.length_replicate, r.length]
  · unfold L2.start
    by_cases hi : i < ws.length
    · rw [List.getElem?_append_left (by rw [List.length_map]; exact hi), List.getElem?_map] at e
      rw [List.getElem?_append_left (by rw [List.length_map, ← r.length]; exact hi), List.getElem?_map]
      cases ew : ws[i]? with
      | none => rw [ew] at e; cases e
      | some w' =>
        rw [ew] at e
        cases e
        obtain ⟨v, ev, rv⟩ := r.get ew
        exact ⟨v, by rw [ev]; rfl, rv⟩
    · rw [List.getElem?_append_right (by rw [List.length_map]; exact Nat.le_of_not_lt hi)] at e
      have := List.mem_of_getElem? e
      rw [List.mem_replicate] at this
      cases this.2
theorem fn_ok {x qual : Str} {st : Stmt} {f : Addr} {fd : FuncData} {N ps : List Str} {k : Nat} {b : Sx} (F : Fun K x qual st f fd) (S : FnScope N ps (defScope st)) (hK : Γ.K = K)
    (hb : ∀ (cdv : Value) (A : Around) (outer : List PySem.Env) (s : Shared) (H : Hp) (E : XK), DSs (CxD P w K mg base N qual (defScope st) f cdv A outer s H E) Γ k (WxD E) (defBody st) b) :
    FnOk P w K mg base (L2.CX P w) (k + 1) f fd ps (spG Γ (defF N.length ps.length b)) := by
  refine F.okX S (fun vs H Q E h => ?_) (fun cdv A outer s H vs Q E hr h => ⟨tSx Γ (WxD E) b, hb cdv A outer s H E ⟨hK.symm, rfl, S.nd, hr, takes_of rfl rfl rfl rfl, passes_of rfl⟩, ?_⟩)
  · obtain ⟨ρ, L, ws, rl, r, h⟩ := h
    unfold defF at h
    split at h
    · rename_i hl; rw [← r.length]; exact hl
    · exact h.elim
  · obtain ⟨ρ, L, ws, rl, r, h⟩ := h
    unfold defF at h
    split at h
    · rename_i hl
      refine ⟨ρ, _, L, rl, start_ok r hl, ?_⟩
      cases e : b (ws.map some ++ List.replicate (N.length - ps.length) none) L with
      | nx env' L' => rw [e] at h; exact fun ρ' H' σ' a _ => h ρ' H' _ a .non
      | rt w L' => rw [e] at h; exact h
      | bk env' L' => rw [e] at h; exact h.elim
      | ct env' L' => rw [e] at h; exact h.elim
      | exc e' env' L' => rw [e] at h; exact fun ρ' H' σ' c d a _ r => h ρ' H' c d a r
      | stk => rw [e] at h; exact h.elim
    · exact h.elim
/-- what is stuck promises nothing -/
theorem fn_stk {f : Addr} {fd : FuncData} {k : Nat} {ps : List Str} : FnOk P w K mg base (L2.CX P w) k f fd ps (spG Γ fun _ _ => .stk) :=
  ⟨fun vs H Q E h => by obtain ⟨_, _, _, _, _, h⟩ := h; exact h.elim, fun A outer s H args us vs Q E hr he hb hv h => by obtain ⟨_, _, _, _, _, h⟩ := h; exact h.elim⟩
/-- the law holds by its meaning: the promise at the end -/
theorem law_end {g : Fn} {H : Hp} {a : Addr} {ns : List Int} (hK : Γ.K = K) (hO : Only H) (hS : SqL K H a (ns.map V.int)) (h : ∃ L', g [.scr ns] [] = .ok (.bl true) L') : spG Γ g [.ref a] H (fun v _ => v = .bl true) fun _ _ _ => False := by
  subst hK
  obtain ⟨L', h⟩ := h
  refine ⟨[], [], [.scr ns], ⟨rfl, fun n m a o o' e => by simp at e, fun n o e => by simp at e⟩, .cons (.scr ?_) .nil, ?_⟩
  · rcases hS with (h | h) | h
    · rcases hO a with e | ⟨o, xs, e⟩
      · rw [e] at h; cases h
      · rw [e] at h; cases h
    · exact .inl h
    · exact .inr (.inr h)
  · rw [h]
    intro ρ' H' v _ r
    cases r; rfl
theorem law_end2 {g : Fn} {H : Hp} {a : Addr} {ns : List Int} {Q : VK} {E : XK} (hK : Γ.K = K) (hO : Only H) (hS : SqL K H a (ns.map V.int)) (h : ∃ L', g [.scr ns] [] = .ok (.bl true) L') (hQ : ∀ H', Q (.bl true) H') : spG Γ g [.ref a] H Q E := by
  subst hK
  obtain ⟨L', h⟩ := h
  refine ⟨[], [], [.scr ns], ⟨rfl, fun n m a o o' e => by simp at e, fun n o e => by simp at e⟩, .cons (.scr ?_) .nil, ?_⟩
  · rcases hS with (h | h) | h
    · rcases hO a with e | ⟨o, xs, e⟩
      · rw [e] at h; cases h
      · rw [e] at h; cases h
    · exact .inl h
    · exact .inr (.inr h)
  · rw [h]
    intro ρ' H' v _ r
    cases r; exact hQ _
end
end Z

/-! Z9: dict displays, methods of built-in types, isinstance, sorted, further comprehensions. -/
namespace Z
open PySem PySem.Spec PyProof.Rows L2
section
variable {X : Cx} {Γ : Ctx} {k : Nat} {Wx : WX} {pos : Pos}
/-! ### {k: v, ..} -/
def cPairs : List (Ex × Ex) → Env → LH → Res (List (W × W))
  | [], _, L => .ok [] L
  | (f, h) :: r, env, L => (f env L).bind fun a L1 => (h env L1).bind fun b L2 => (cPairs r env L2).bind fun ps L3 => .ok ((a, b) :: ps) L3
def keysW : List (W × W) → Option (List (Key × W))
  | [] => some []
  | (a, b) :: r => match keyW a, keysW r with
    | some kk, some ks => some ((kk, b) :: ks)
    | _, _ => none
def mergeW (acc more : List (Key × W)) : List (Key × W) := more.foldl (fun acc kv => putW acc kv.1 kv.2) acc
def cDict (fs : List (Ex × Ex)) : Ex := fun env L => (cPairs fs env L).bind fun ps L1 => match keysW ps with
  | some kvs => if kvs.length ≤ 15 then .ok (.ref L1.length) (L1 ++ [.dic (mergeW [] kvs)]) else .stk
  | none => .stk
inductive RPs (Γ : Ctx) (ρ : List Addr) (H : Hp) : List (W × W) → List (V × V) → Prop
  | nil : RPs Γ ρ H [] []
  | cons {a b : W} {x y : V} {ps : List (W × W)} {vs : List (V × V)} : RW Γ ρ H a x → RW Γ ρ H b y → RPs Γ ρ H ps vs → RPs Γ ρ H ((a, b) :: ps) ((x, y) :: vs)
def DPs (X : Cx) (Γ : Ctx) (k : Nat) (Wx : WX) (pos : Pos) (keys : List (Option Expr)) (values : List Expr) (fs : List (Ex × Ex)) : Prop := Good X Γ k Wx → PPs X pos keys values (fs.map fun p => (tEx Γ Wx p.1, tEx Γ Wx p.2))
theorem dps_nil : DPs X Γ k Wx pos [] [] [] := fun g => pps_nil
theorem dps_cons {e v : Expr} {ks : List (Option Expr)} {vs : List Expr} {f h : Ex} {fs : List (Ex × Ex)} (he : DE X Γ k Wx e f) (hv : DE X Γ k Wx v h) (hr : DPs X Γ k Wx pos ks vs fs) : DPs X Γ k Wx pos (some e :: ks) (v :: vs) ((f, h) :: fs) := fun g =>
  pps_cons (he g) (hv g) (hr g)
theorem pairs_ok {env : Env} {σ : L2.St} : ∀ {fs : List (Ex × Ex)} {ρ : List Addr} {H : Hp} {L : LH} {Q : List (V × V) → Hp → Prop}, RL Γ ρ L H → REnv Γ ρ H env σ →
    (∀ ps L1, cPairs fs env L = .ok ps L1 → ∀ ρ1 H1 vs, Aft Γ ρ H L1 ρ1 H1 → RPs Γ ρ1 H1 ps vs → Q vs H1) → (∀ e L1, cPairs fs env L = .exc e L1 → ∀ ρ1 H1 c d, Aft Γ ρ H L1 ρ1 H1 → RExn Γ ρ1 H1 e c d → Wx c d σ H1) → cPairs fs env L ≠ .stk →
    tPairs (fs.map fun p => (tEx Γ Wx p.1, tEx Γ Wx p.2)) σ H Q
  | [], ρ, H, L, Q, rl, re, h1, h2, h3 => h1 [] L rfl ρ H [] (.refl rl) .nil
  | (f, h) :: r, ρ, H, L, Q, rl, re, h1, h2, h3 => by
    refine ⟨ρ, env, L, rl, re, ?_⟩
    show Out (RW Γ) Γ Wx σ ρ H (f env L) _
    cases ef : f env L with
    | exc e L1 => exact h2 e L1 (by unfold cPairs; rw [ef]; rfl)
    | stk => exact absurd (by unfold cPairs; rw [ef]; rfl) h3
    | ok a L1 =>
      intro ρ1 H1 x a1 r1
      refine ⟨ρ1, env, L1, a1.rl, re.mono a1.pre a1.kp, ?_⟩
      show Out (RW Γ) Γ Wx σ ρ1 H1 (h env L1) _
      cases eh : h env L1 with
      | exc e L2 => exact fun ρ2 H2 c d a2 => h2 e L2 (by unfold cPairs; rw [ef]; simp only [Res.bind]; rw [eh]) ρ2 H2 c d (a1.trans a2)
      | stk => exact absurd (by unfold cPairs; rw [ef]; simp only [Res.bind]; rw [eh]) h3
      | ok b L2 =>
        intro ρ2 H2 y a2 r2
        have eq : cPairs ((f, h) :: r) env L = (cPairs r env L2).bind fun ps L3 => .ok ((a, b) :: ps) L3 := by
          show (f env L).bind _ = _
          rw [ef]; simp only [Res.bind]; rw [eh]
        refine pairs_ok a2.rl ((re.mono a1.pre a1.kp).mono a2.pre a2.kp) (fun ps L3 e ρ3 H3 vs a3 r3 => ?_) (fun e' L3 e ρ3 H3 c d a3 => ?_) (fun z => h3 (by rw [eq, z]; rfl))
        · exact h1 ((a, b) :: ps) L3 (by rw [eq, e]; rfl) ρ3 H3 ((x, y) :: vs) ((a1.trans a2).trans a3) (.cons ((r1.mono a2.pre a2.kp).mono a3.pre a3.kp) (r2.mono a3.pre a3.kp) r3)
        · exact h2 e' L3 (by rw [eq, e]; rfl) ρ3 H3 c d ((a1.trans a2).trans a3)
theorem keysW_ok {ρ : List Addr} {H : Hp} : ∀ {ps : List (W × W)} {vs : List (V × V)} {kvs : List (Key × W)}, RPs Γ ρ H ps vs → keysW ps = some kvs → ∃ ks, vs = ks.map (fun kv => (kV kv.1, kv.2)) ∧ RKs Γ ρ H kvs ks
  | _, _, _, .nil, e => by cases e; exact ⟨[], rfl, .nil⟩
  | _, _, _, .cons (a := a) (b := b) (ps := ps) r1 r2 t, e => by
    unfold keysW at e
    split at e
    · rename_i kk ks e1 e2
      cases e
      obtain ⟨ks', rfl, r⟩ := keysW_ok t e2
      exact ⟨(kk, _) :: ks', by rw [keyW_ok r1 e1]; rfl, .cons r2 r⟩
    · cases e
theorem RKs.merge {ρ : List Addr} {H : Hp} : ∀ {more : List (Key × W)} {vs : List (Key × V)} {acc : List (Key × W)} {bs : List (Key × V)}, RKs Γ ρ H more vs → RKs Γ ρ H acc bs → RKs Γ ρ H (mergeW acc more) (mergeK bs vs)
  | _, _, _, _, .nil, q => q
  | _, _, acc, bs, .cons (k := kk) (w := w) (v := v) (ws := ws) (vs := vs) r t, q => by
    show RKs Γ ρ H (mergeW (putW acc kk w) ws) (mergeK (putK bs kk v) vs)
    exact RKs.merge t (RKs.put r q)
theorem d_dict {keys : List (Option Expr)} {values : List Expr} {fs : List (Ex × Ex)} (h : DPs X Γ k Wx pos keys values fs) (hall : keys.all (·.isSome) = true := by rfl) (hl : keys.length = values.length := by rfl) (h0 : keys ≠ [] := by intro z; cases z)
    (h15 : keys.length ≤ 15 := by decide) : DE X Γ k Wx (.Dict keys values pos) (cDict fs) := fun g =>
  PE.imp (pe_disp (h g) hall hl h0 h15) fun σ H Q q => by
    obtain ⟨ρ, env, L, rl, re, q⟩ := q
    intro p hp
    have af : Aft Γ ρ H L ρ (upd H p (.dK [])) := .fresh rl hp
    have np : p ∉ ρ := rl.out hp
    unfold cDict at q
    refine pairs_ok af.rl (re.mono af.pre af.kp) (fun ps L1 e ρ1 H1 vs a1 r1 => ?_) (fun e L1 ee ρ1 H1 c d a1 r => ?_) (fun z => ?_)
    · rw [e] at q
      simp only [Res.bind] at q
      cases ek : keysW ps with
      | none => rw [ek] at q; exact q.elim
      | some kvs =>
        rw [ek] at q
        simp only at q
        split at q
        · rename_i hz
          obtain ⟨ks, rfl, rk⟩ := keysW_ok r1 ek
          obtain ⟨_, h1⟩ := Aft.adopt (o := .dic []) (ho := .dK []) hp a1 np rfl ⟨[], upd_same, .nil⟩
          refine ⟨h1, ks, rfl, by rw [← rk.length]; exact hz, ?_⟩
          have k2 : Keep H1 (upd H1 p (.dK (mergeK [] ks))) := .write h1 rfl
          obtain ⟨a2, _⟩ := Aft.adopt (o := .dic (mergeW [] kvs)) (ho := .dK (mergeK [] ks)) hp a1 np rfl ⟨_, upd_same, (RKs.merge rk .nil).mono (pre_app _ _) k2⟩
          refine q _ _ _ a2 (.ref ?_)
          rw [← a1.rl.len]; exact List.getElem?_concat_length
        · exact q.elim
    · rw [ee] at q
      exact q ρ1 H1 c d (af.trans a1) r
    · rw [z] at q; exact q
def cDict0 : Ex := fun _ L => .ok (.ref L.length) (L ++ [.dic []])
theorem d_dict0 : DE X Γ k Wx (.Dict [] [] pos) cDict0 := fun g => PE.imp pe_dnewK fun σ H Q q => by
  obtain ⟨ρ, env, L, rl, re, q⟩ := q
  exact OkOut.dic (q : OkOut Γ ρ H (some (.ref L.length, L ++ [.dic []])) Q) rl .nil

/-! ### methods of built-in types -/
def cMth (chk : W → LH → Bool) (o : W → List W → LH → OV) (f : Ex) (fs : ExL) : Ex := fun env L => (f env L).bind fun a L1 => if chk a L1 = true then (fs env L1).bind fun as L2 => ofO (o a as L2) else .stk
def isLst (a : W) (L : LH) : Bool := match a with
  | .ref n => match L[n]? with
    | some (.lst _) => true
    | _ => false
  | _ => false
def isStr (a : W) (_ : LH) : Bool := match a with
  | .str _ => true
  | _ => false
def isDic (a : W) (L : LH) : Bool := (dicW a L).isSome
theorem isLst_ok {ρ : List Addr} {H : Hp} {L : LH} {a : W} {v : V} {K : PySem.W.Frag} (rl : RL Γ ρ L H) (r : RW Γ ρ H a v) (h : isLst a L = true) : tyV K "list" v H := by
  unfold isLst at h
  split at h
  · split at h
    · rename_i e
      obtain ⟨p, vs, rfl, hp, _⟩ := rl.lst r e
      exact .inl ⟨rfl, vs, .of hp⟩
    · cases h
  · cases h
theorem isStr_ok {ρ : List Addr} {H : Hp} {L : LH} {a : W} {v : V} {K : PySem.W.Frag} (rl : RL Γ ρ L H) (r : RW Γ ρ H a v) (h : isStr a L = true) : tyV K "str" v H := by
  unfold isStr at h
  split at h
  · cases r; rfl
  · cases h
theorem isDic_ok {ρ : List Addr} {H : Hp} {L : LH} {a : W} {v : V} {K : PySem.W.Frag} (rl : RL Γ ρ L H) (r : RW Γ ρ H a v) (h : isDic a L = true) : tyV K "dict" v H := by
  unfold isDic at h
  cases e : dicW a L with
  | none => rw [e] at h; cases h
  | some kvs =>
    obtain ⟨n, p, vs, rfl, eo, rfl, ep, hp, _⟩ := dicW_inv rl r e
    exact .inr (.inr (.inl ⟨rfl, .inl ⟨vs, hp⟩⟩))
def vM (Γ : Ctx) (o : W → List W → LH → OV) : V → List V → Hp → VK → Prop := fun x xs H Q => ∃ ρ L a as, RL Γ ρ L H ∧ RW Γ ρ H a x ∧ RWs Γ ρ H as xs ∧ OkOut Γ ρ H (o a as L) Q
theorem MtR.imp {id : String} {r r' : V → List V → Hp → VK → Prop} (h : MtR X id r) (i : ∀ x xs H Q, r' x xs H Q → r x xs H Q) : MtR X id r' := fun pins s σ H x xs v us Q I rx rs q => h pins s σ H x xs v us Q I rx rs (i _ _ _ _ q)
theorem d_bm {T id : String} {name : Str} {apos : Pos} {chk : W → LH → Bool} {o : W → List W → LH → OV} {ob e : Expr} {es : List Expr} {f : Ex} {fs : ExL} (hchk : ∀ {ρ : List Addr} {H : Hp} {L : LH} {a : W} {v : V}, RL Γ ρ L H → RW Γ ρ H a v → chk a L = true → tyV X.K T v H)
    (pa : PlainAttrs T) (slot : Slot T name id) (hty : typeOf (.builtin id) = pure (.type "method_descriptor")) (hm : Good X Γ k Wx → MtR X id (vM Γ o)) (ho : DE X Γ k Wx ob f) (ha : DA X Γ k Wx (e :: es) fs)
    (hbase : attributeBase ob name X.env (eval ob X.env) = eval ob X.env)
    (hfew : ((backTo pos (starEach (e :: es) X.env)).all (fun x => !x.1) && (backToKw pos (keywordEach [] X.env)).all (fun x => x.1.isSome)
      && decide ((e :: es).length + ([] : List Keyword).length + (if ([] : List Keyword).isEmpty then 0 else 1) < 30)) = true)
    (hline : (apos.endLine == pos.line) = true) (hs : starEach (e :: es) X.env = (false, eval e X.env) :: starEach es X.env) (hplain : (backTo pos (starEach es X.env)).any (·.1) = false) :
    DE X Γ k Wx (.Call (.Attribute ob name apos) (e :: es) [] pos) (cMth chk o f fs) := fun g =>
  PE.imp (pe_bm pa slot hty (hm g) (ho g) (ha g) hbase hfew hline hs hplain) fun σ H Q q => by
    obtain ⟨ρ, env, L, rl, re, q⟩ := q
    refine tG_bind rl re q fun ρ1 H1 a v L1 a1 re1 r1 h1 => ?_
    split at h1
    · rename_i hc
      refine ⟨hchk a1.rl r1 hc, tG_bind a1.rl re1 h1 fun ρ2 H2 as vs L2 a2 re2 r2 h2 => ?_⟩
      exact ⟨ρ2, L2, a, as, a2.rl, r1.mono a2.pre a2.kp, r2, out_of h2⟩
    · exact h1.elim
def oAppend (a : W) (as : List W) (L : LH) : OV := match a, as with
  | .ref n, [w] => match L[n]? with
    | some (.lst xs) => if xs.length < 16777216 then some (.non, L.set n (.lst (xs ++ [w]))) else none
    | _ => none
  | _, _ => none
theorem m_append (g : Good X Γ k Wx) : MtR X "list.append" (vM Γ oAppend) := by
  refine MtR.imp mt_append fun x xs H Q h => ?_
  obtain ⟨ρ, L, a, as, rl, ra, rs, h⟩ := h
  unfold oAppend at h
  split at h
  · rename_i n w
    split at h
    · rename_i ys eo
      split at h
      · rename_i hz
        obtain ⟨p, vs, rfl, hp, r, ep⟩ := rl.lst ra eo
        replace rs := rs.one_inv
        obtain ⟨y, rfl, ry⟩ := rs
        refine ⟨p, vs, y, rfl, rfl, hp, by rw [← r.length, line_eq]; exact hz, ?_⟩
        refine h ρ _ _ (.set rl eo ep ⟨_, upd_same, ?_⟩) .non
        exact ((r.append (.one ry)).mono (List.prefix_refl _) (.write hp rfl))
      · exact h.elim
    · exact h.elim
  · exact h.elim
theorem d_append {apos : Pos} {ob e : Expr} {es : List Expr} {f : Ex} {fs : ExL} (ho : DE X Γ k Wx ob f) (ha : DA X Γ k Wx (e :: es) fs)
    (hbase : attributeBase ob "append" X.env (eval ob X.env) = eval ob X.env := by rfl)
    (hfew : ((backTo pos (starEach (e :: es) X.env)).all (fun x => !x.1) && (backToKw pos (keywordEach [] X.env)).all (fun x => x.1.isSome)
      && decide ((e :: es).length + ([] : List Keyword).length + (if ([] : List Keyword).isEmpty then 0 else 1) < 30)) = true := by rfl)
    (hline : (apos.endLine == pos.line) = true := by rfl) (hs : starEach (e :: es) X.env = (false, eval e X.env) :: starEach es X.env := by rfl) (hplain : (backTo pos (starEach es X.env)).any (·.1) = false := by rfl) :
    DE X Γ k Wx (.Call (.Attribute ob "append" apos) (e :: es) [] pos) (cMth isLst oAppend f fs) :=
  d_bm isLst_ok PySem.F.plainAttrs_list PySem.F.slot_list_append PySem.F.type_list_append m_append ho ha hbase hfew hline hs hplain
def oExtend (a : W) (as : List W) (L : LH) : OV := match a, as with
  | .ref n, [.ref m] => match L[n]?, L[m]? with
    | some (.lst xs), some (.lst ys) => if xs.length + ys.length ≤ 16777216 then some (.non, L.set n (.lst (xs ++ ys))) else none
    | _, _ => none
  | _, _ => none
theorem m_extend (g : Good X Γ k Wx) : MtR X "list.extend" (vM Γ oExtend) := by
  refine MtR.imp mt_extend fun x xs H Q h => ?_
  obtain ⟨ρ, L, a, as, rl, ra, rs, h⟩ := h
  unfold oExtend at h
  split at h
  · rename_i n m
    split at h
    · rename_i ys zs eo eo2
      split at h
      · rename_i hz
        obtain ⟨p, vs, rfl, hp, r, ep⟩ := rl.lst ra eo
        replace rs := rs.one_inv
        obtain ⟨y, rfl, ry⟩ := rs
        obtain ⟨q, us, rfl, hq, r2, eq⟩ := rl.lst ry eo2
        refine ⟨p, q, vs, us, rfl, rfl, hp, hq, by rw [← r.length, ← r2.length, line_eq]; exact hz, ?_⟩
        refine h ρ _ _ (.set rl eo ep ⟨_, upd_same, ?_⟩) .non
        exact ((r.append r2).mono (List.prefix_refl _) (.write hp rfl))
      · exact h.elim
    · exact h.elim
  · exact h.elim
theorem d_extend {apos : Pos} {ob e : Expr} {es : List Expr} {f : Ex} {fs : ExL} (ho : DE X Γ k Wx ob f) (ha : DA X Γ k Wx (e :: es) fs)
    (hbase : attributeBase ob "extend" X.env (eval ob X.env) = eval ob X.env := by rfl)
    (hfew : ((backTo pos (starEach (e :: es) X.env)).all (fun x => !x.1) && (backToKw pos (keywordEach [] X.env)).all (fun x => x.1.isSome)
      && decide ((e :: es).length + ([] : List Keyword).length + (if ([] : List Keyword).isEmpty then 0 else 1) < 30)) = true := by rfl)
    (hline : (apos.endLine == pos.line) = true := by rfl) (hs : starEach (e :: es) X.env = (false, eval e X.env) :: starEach es X.env := by rfl) (hplain : (backTo pos (starEach es X.env)).any (·.1) = false := by rfl) :
    DE X Γ k Wx (.Call (.Attribute ob "extend" apos) (e :: es) [] pos) (cMth isLst oExtend f fs) :=
  d_bm isLst_ok PySem.F.plainAttrs_list PySem.F.slot_list_extend PySem.F.type_list_extend m_extend ho ha hbase hfew hline hs hplain

/-! ### is, is not: bools, None -/
def oIs (a b : W) (L : LH) : OV := match a, b with
  | .bl x, .bl y => some (.bl (decide (x = y)), L)
  | a, b => oIsN a b L
def oIsNot (a b : W) (L : LH) : OV := match a, b with
  | .bl x, .bl y => some (.bl (!decide (x = y)), L)
  | a, b => oNotN a b L
theorem o_is : O2 X Γ k Wx (compareOp .Is) oIs := fun g => by
  refine OpR.imp (op_isBl.or op_isN) fun x y H Q h => ?_
  obtain ⟨ρ, L, a, b, rl, ra, rb, h⟩ := h
  unfold oIs at h
  split at h
  · cases ra; cases rb; exact .inl ⟨_, _, rfl, rfl, h.here rl (.bl _)⟩
  · unfold oIsN at h
    split at h
    · cases rb
      rw [ra.non_iff] at h
      exact .inr ⟨rfl, h.here rl (.bl _)⟩
    · exact h.elim
theorem o_isNot : O2 X Γ k Wx (compareOp .IsNot) oIsNot := fun g => by
  refine OpR.imp (op_notBl.or op_notN) fun x y H Q h => ?_
  obtain ⟨ρ, L, a, b, rl, ra, rb, h⟩ := h
  unfold oIsNot at h
  split at h
  · cases ra; cases rb; exact .inl ⟨_, _, rfl, rfl, h.here rl (.bl _)⟩
  · unfold oNotN at h
    split at h
    · cases rb
      rw [ra.non_iff] at h
      exact .inr ⟨rfl, h.here rl (.bl _)⟩
    · exact h.elim

/-! ### isinstance with built-in types -/
def tyName (a : W) (L : LH) : Option String := match a with
  | .non => some "NoneType"
  | .bl _ => some "bool"
  | .int _ => some "int"
  | .str _ => some "str"
  | .tup _ => some "tuple"
  | .ref n => match L[n]? with
    | some (.lst _) => some "list"
    | some (.dic _) => some "dict"
    | _ => none
  | _ => none
def isiT (t : String) : W → Option Bool
  | .ty n => kitB t n
  | _ => none
def isiTs (t : String) : List W → Option Bool
  | [] => some false
  | c :: r => match isiT t c with
    | some true => match isiTs t r with
      | some _ => some true
      | none => none
    | some false => isiTs t r
    | none => none
def oIsi (as : List W) (L : LH) : OV := match as with
  | [a, .ty n] => match tyName a L with
    | some t => (kitB t n).map fun b => (.bl b, L)
    | none => none
  | _ => none
theorem tyName_ok {ρ : List Addr} {H : Hp} {L : LH} {a : W} {x : V} {t : String} {K : PySem.W.Frag} (hK : K = Γ.K) (rl : RL Γ ρ L H) (r : RW Γ ρ H a x) (h : tyName a L = some t) : TyX K H x (.type t) := by
  subst hK
  cases r with
  | non => cases h; exact .base .non
  | bl b => cases h; exact .base (.bl b)
  | int i => cases h; exact .base (.int i)
  | str y => cases h; exact .base (.str y)
  | tup s r =>
    cases h
    rcases s with (s | ⟨o, s⟩) | ⟨o, its, n, e, c, _⟩
    · exact .base (.tup s)
    · exact .fTuple s
    · exact .kTuple e c
  | ref e =>
    simp only [tyName] at h
    split at h
    · rename_i eo
      cases h
      obtain ⟨p, vs, e1, hp, _⟩ := rl.lst (.ref e) eo
      cases e1; exact .base (.lst hp)
    · rename_i eo
      cases h
      obtain ⟨p, vs, e1, hp, _⟩ := rl.dic (.ref e) eo
      cases e1; exact .base (.dK hp)
    · cases h
  | _ => cases h
theorem isiTs_ok {ρ : List Addr} {H : Hp} {K : PySem.W.Frag} {t : String} : ∀ {cs : List W} {vs : List V} {b : Bool}, RWs Γ ρ H cs vs → isiTs t cs = some b → ∃ us, Paired ClsV vs us ∧ PySem.W.kitAny K (.type t) us = some b
  | _, _, _, .nil, e => by cases e; exact ⟨[], .nil, kitAny_nil⟩
  | _, _, b, .cons (w := c) (ws := cs) r rs, e => by
    unfold isiTs at e
    cases c with
    | ty n =>
      cases r
      simp only [isiT] at e
      cases ek : kitB t n with
      | none => rw [ek] at e; cases e
      | some x =>
        rw [ek] at e
        cases x with
        | true =>
          simp only at e
          cases er : isiTs t cs with
          | none => rw [er] at e; cases e
          | some y =>
            rw [er] at e; cases e
            obtain ⟨us, p, q⟩ := isiTs_ok (K := K) rs er
            exact ⟨.type n :: us, .cons (.ty n) p, kitAny_cons (kit_ty ek) (fun z => nomatch z) (fun _ => rfl)⟩
        | false =>
          simp only at e
          obtain ⟨us, p, q⟩ := isiTs_ok (K := K) rs e
          exact ⟨.type n :: us, .cons (.ty n) p, kitAny_cons (kit_ty ek) (fun _ => q) (fun z => nomatch z)⟩
    | _ => cases e
theorem c_isi (g : Good X Γ k Wx) : CallR X (.builtin "isinstance") (vN Γ oIsi) := by
  refine CallR.imp call_isi fun xs H Q h => ?_
  obtain ⟨ρ, L, as, rl, ra, h⟩ := h
  unfold oIsi at h
  split at h
  · rename_i a n
    replace ra := ra.two_inv
    obtain ⟨x, y, rfl, r1, r2⟩ := ra
    cases r2
    split at h
    · rename_i t et
      cases ek : kitB t n with
      | none => rw [ek] at h; exact h.elim
      | some b =>
        rw [ek] at h
        exact ⟨x, _, _, _, b, rfl, .ty n, tyName_ok g.K rl r1 et, kit_ty ek, h.here rl (.bl _)⟩
    · exact h.elim
  · exact h.elim
theorem boot_isi_ : bootBuiltins "isinstance" = some (.builtin "isinstance") := by decide +kernel
theorem d_isi {p : Pos} {e : Expr} {es : List Expr} {f : ExL} (hm : X.mg "isinstance" = none) (ha : DA X Γ k Wx (e :: es) f) (hg : Gl X "isinstance" := by rfl) (he : starEach (e :: es) X.env = (false, eval e X.env) :: starEach es X.env := by rfl) (hpl : (backTo pos (starEach es X.env)).any (·.1) = false := by rfl) : DE X Γ k Wx (.Call (.Name "isinstance" p) (e :: es) [] pos) (cOpL oIsi f) :=
  d_callB c_isi boot_isi_ (by decide) (by decide) hm ha hg he hpl
/-- isinstance(x, (T1, T2, ..)) -/
def cIsiT (f : Ex) (fs : ExL) : Ex := fun env L => (f env L).bind fun a L1 => (fs env L1).bind fun cs L2 => if cs.length ≤ 16777216 then (match tyName a L2 with
    | some t => match isiTs t cs with
      | some b => .ok (.bl b) L2
      | none => .stk
    | none => .stk) else .stk
theorem tyX_fresh {H : Hp} {K : PySem.W.Frag} {x : V} {t : Value} {p : Addr} {o : HO} (h : TyX K H x t) (hp : H p = none) : TyX K (upd H p o) x t := by
  have st : ∀ {a : Addr} {u : HO}, H a = some u → upd H p o a = some u := fun {a u} e => by rw [upd_ne (ne_of_none e hp)]; exact e
  cases h with
  | base h =>
    cases h with
    | non => exact .base .non
    | bl x => exact .base (.bl x)
    | int x => exact .base (.int x)
    | str x => exact .base (.str x)
    | flt x => exact .base (.flt x)
    | lst e => exact .base (.lst (st e))
    | frz e => exact .base (.frz (st e))
    | tup e => exact .base (.tup (st e))
    | dK e => exact .base (.dK (st e))
    | dT e => exact .base (.dT (st e))
    | ins e a b c d f => exact .base (.ins (st e) a b c d f)
  | byt b => exact .byt b
  | set e => exact .set (st e)
  | kList e c => exact .kList e c
  | kTuple e c => exact .kTuple e c
  | kDict e c => exact .kDict e c
  | fTuple e => exact .fTuple (st e)
  | fDict e => exact .fDict (st e)
theorem d_isiT {p p2 : Pos} {e : Expr} {ts : List Expr} {f : Ex} {fs : ExL} {x1} (hm : X.mg "isinstance" = none) (ha : DE X Γ k Wx e f) (ht : DA X Γ k Wx ts fs) (hg : Gl X "isinstance" := by rfl) (he : starEach [e, .Tuple ts x1 p2] X.env = (false, eval e X.env) :: starEach [.Tuple ts x1 p2] X.env := by rfl)
    (he2 : starEach [.Tuple ts x1 p2] X.env = (false, eval (.Tuple ts x1 p2) X.env) :: starEach [] X.env := by rfl) (hpl : (backTo pos (starEach [.Tuple ts x1 p2] X.env)).any (·.1) = false := by rfl) : DE X Γ k Wx (.Call (.Name "isinstance" p) [e, .Tuple ts x1 p2] [] pos) (cIsiT f fs) := fun g =>
  PE.imp (pe_callB call_isiT hg hm boot_isi_ (pa_cons (ha g) (pa_cons (pe_tup (ht g)) pa_nil he2) he) (by decide) (by decide) he hpl) fun σ H Q q => by
    obtain ⟨ρ, env, L, rl, re, q⟩ := q
    refine tG_bind rl re q fun ρ1 H1 a x L1 a1 re1 r1 h1 => ?_
    refine tG_bind a1.rl re1 h1 fun ρ2 H2 cs vs L2 a2 re2 r2 h2 => ?_
    split at h2
    · rename_i hz
      refine ⟨by rw [← r2.length, line_eq]; exact hz, fun tp hp => ?_⟩
      cases et : tyName a L2 with
      | none => rw [et] at h2; exact h2.elim
      | some t =>
        rw [et] at h2
        simp only at h2
        cases ek : isiTs t cs with
        | none => rw [ek] at h2; exact h2.elim
        | some b =>
          rw [ek] at h2
          obtain ⟨us, pq, qq⟩ := isiTs_ok (K := X.K) r2 ek
          refine ⟨x, tp, vs, _, us, b, rfl, upd_same, pq, tyX_fresh (tyName_ok g.K a2.rl (r1.mono a2.pre a2.kp) et) hp, qq, ?_⟩
          exact h2 ρ2 _ _ (.fresh a2.rl hp) (.bl _)
    · exact h2.elim
end
end Z

/-! Z10: sorted, comprehensions of two clauses, dict comprehensions. -/
namespace Z
open PySem PySem.Spec PyProof.Rows L2
/-! ### sorted, texts -/
def insS (x : Str) : List Str → List Str
  | [] => [x]
  | y :: r => if ltCps y.cps.toList x.cps.toList = true then y :: insS x r else x :: y :: r
def srtS : List Str → List Str
  | [] => []
  | x :: r => insS x (srtS r)
theorem insS_perm (x : Str) : ∀ l, (insS x l).Perm (x :: l)
  | [] => .refl _
  | y :: r => by
    unfold insS
    split
    · exact ((insS_perm x r).cons y).trans (.swap _ _ _)
    · exact .refl _
theorem srtS_perm : ∀ l, (srtS l).Perm l
  | [] => .refl _
  | x :: r => (insS_perm x _).trans ((srtS_perm r).cons x)
theorem ltC_cons (x y : Nat) (r t : List Nat) : ltCps (x :: r) (y :: t) = (decide (x < y) || (x == y && ltCps r t)) := rfl
theorem ltC_anti : ∀ a b : List Nat, ltCps a b = false → ltCps b a = false → a = b
  | [], [], _, _ => rfl
  | [], _ :: _, h, _ => by cases h
  | _ :: _, [], _, h => by cases h
  | x :: r, y :: t, h1, h2 => by
    rw [ltC_cons, Bool.or_eq_false_iff, decide_eq_false_iff_not] at h1 h2
    have e : x = y := by omega
    subst e
    rw [beq_self_eq_true, Bool.true_and] at h1 h2
    rw [ltC_anti r t h1.2 h2.2]
theorem ltC_trans : ∀ a b c : List Nat, ltCps b a = false → ltCps c b = false → ltCps c a = false
  | [], _, [], _, _ => rfl
  | [], [], _ :: _, _, _ => rfl
  | [], _ :: _, _ :: _, _, _ => rfl
  | _ :: _, [], _, h, _ => by cases h
  | _ :: _, _ :: _, [], _, h => by cases h
  | x :: r, y :: t, z :: u, h1, h2 => by
    rw [ltC_cons, Bool.or_eq_false_iff, decide_eq_false_iff_not] at h1 h2
    rw [ltC_cons, Bool.or_eq_false_iff, decide_eq_false_iff_not]
    refine ⟨by omega, ?_⟩
    by_cases e : z = x
    · have e1 : y = x := by omega
      subst e1; subst e
      rw [beq_self_eq_true, Bool.true_and] at h1 h2 ⊢
      exact ltC_trans r t u h1.2 h2.2
    · rw [beq_eq_false_iff_ne.mpr e]; rfl
theorem ltC_total : ∀ a b : List Nat, ltCps a b = true → ltCps b a = false
  | [], _ :: _, _ => rfl
  | x :: r, y :: t, h => by
    rw [ltC_cons, Bool.or_eq_true, decide_eq_true_eq, Bool.and_eq_true, beq_iff_eq] at h
    rw [ltC_cons, Bool.or_eq_false_iff, decide_eq_false_iff_not]
    rcases h with h | ⟨e, h⟩
    · exact ⟨by omega, by rw [beq_eq_false_iff_ne.mpr (by omega)]; rfl⟩
    · subst e
      exact ⟨by omega, by rw [beq_self_eq_true, Bool.true_and]; exact ltC_total r t h⟩
  | [], [], h => by cases h
  | _ :: _, [], h => by cases h
abbrev leS (a b : Str) : Prop := ltCps b.cps.toList a.cps.toList = false
theorem risingS_pair : ∀ (l : List Str) (p : Str), PyProof.Rows.risingS p l = true → (p :: l).Pairwise leS
  | [], p, _ => by simp
  | x :: r, p, h => by
    unfold PyProof.Rows.risingS at h
    rw [Bool.and_eq_true, Bool.not_eq_true'] at h
    have ih := risingS_pair r x h.2
    refine List.pairwise_cons.mpr ⟨fun y hy => ?_, ih⟩
    rcases List.mem_cons.mp hy with rfl | hy
    · exact h.1
    · exact ltC_trans _ _ _ h.1 ((List.pairwise_cons.mp ih).1 y hy)
theorem sortedS_pair {l : List Str} (h : PyProof.Rows.sortedS l = true) : l.Pairwise leS := by
  cases l with
  | nil => exact .nil
  | cons x r => exact risingS_pair r x h
theorem insS_pair (x : Str) : ∀ {l : List Str}, l.Pairwise leS → (insS x l).Pairwise leS
  | [], _ => by simp [insS]
  | y :: r, h => by
    have h1 := List.pairwise_cons.mp h
    unfold insS
    split
    · rename_i hl
      refine List.pairwise_cons.mpr ⟨fun z hz => ?_, insS_pair x h1.2⟩
      rcases List.mem_cons.mp ((insS_perm x r).mem_iff.mp hz) with rfl | hz
      · exact ltC_total _ _ hl
      · exact h1.1 z hz
    · rename_i hl
      have hl' : leS x y := by
        cases e : ltCps y.cps.toList x.cps.toList with
        | true => exact absurd e hl
        | false => exact e
      refine List.pairwise_cons.mpr ⟨fun z hz => ?_, h⟩
      rcases List.mem_cons.mp hz with rfl | hz
      · exact hl'
      · exact ltC_trans _ _ _ hl' (h1.1 z hz)
theorem srtS_pair : ∀ l : List Str, (srtS l).Pairwise leS
  | [] => .nil
  | x :: r => insS_pair x (srtS_pair r)
theorem leS_anti {a b : Str} (h1 : leS a b) (h2 : leS b a) : a = b := by
  have := ltC_anti _ _ h2 h1
  cases a; cases b
  congr 1
  exact Array.toList_inj.mp this
theorem srtS_unique {l ys : List Str} (hp : ys.Perm l) (h : ys.Pairwise leS) : ys = srtS l :=
  (hp.trans (srtS_perm l).symm).eq_of_pairwise (fun x y _ _ h1 h2 => leS_anti h1 h2) h (srtS_pair l)
section
variable {X : Cx} {Γ : Ctx} {k : Nat} {Wx : WX} {pos : Pos}
def oSortedS (as : List W) (L : LH) : OV := match lstOf strsW L as with
  | some xs => if xs.length < 64 then some (.ref L.length, L ++ [.lst ((srtS xs).map .str)]) else none
  | none => none
theorem RWs.strs {ρ : List Addr} {H : Hp} (ns : List Str) : RWs Γ ρ H (ns.map W.str) (ns.map V.str) := by
  induction ns with
  | nil => exact .nil
  | cons n r ih => exact .cons (.str n) ih
theorem c_sortedS (g : Good X Γ k Wx) : CallR X (.builtin "sorted") (vN Γ oSortedS) := by
  refine CallR.imp cr_sortedS fun xs H Q h => ?_
  obtain ⟨ρ, L, as, rl, ra, h⟩ := h
  unfold oSortedS at h
  split at h
  · rename_i ns e
    split at h
    · rename_i hz
      obtain ⟨a, rfl, s⟩ := lstOf_inv strsW_ok rl ra e
      refine ⟨a, ns, rfl, by rw [g.K]; exact s, hz, fun ys p hp hs hn => ?_⟩
      rw [srtS_unique hp (sortedS_pair hs)]
      exact h.lst rl (RWs.strs _) p hn
    · exact h.elim
  · exact h.elim
theorem boot_sorted_ : bootBuiltins "sorted" = some (.builtin "sorted") := by decide +kernel
theorem d_sortedS {p : Pos} {e : Expr} {es : List Expr} {f : ExL} (hm : X.mg "sorted" = none) (ha : DA X Γ k Wx (e :: es) f) (hg : Gl X "sorted" := by rfl) (he : starEach (e :: es) X.env = (false, eval e X.env) :: starEach es X.env := by rfl) (hpl : (backTo pos (starEach es X.env)).any (·.1) = false := by rfl) : DE X Γ k Wx (.Call (.Name "sorted" p) (e :: es) [] pos) (cOpL oSortedS f) :=
  d_callB c_sortedS boot_sorted_ (by decide) (by decide) hm ha hg he hpl

/-! ### [e for .. for ..] -/
def lc2In (S : Src) (c : CT) (t : Bx) (e : Ex) (env : Env) : Nat → Nat → LH → List W → Res (List W)
  | 0, _, _, _ => .stk
  | f + 1, i, L, acc => match S.get L i with
    | none => .stk
    | some none => .ok acc L
    | some (some w) => match c.set w env with
      | none => .stk
      | some env1 => (t env1 L).only.bind fun b L1 => if b = true then (e env1 L1).only.bind fun y L2 => if acc.length < 16777216 then lc2In S c t e env f (i + 1) L2 (acc ++ [y]) else .stk
        else lc2In S c t e env f (i + 1) L1 acc
def lc2Loop (S : Src) (c : CT) (t : Bx) (it1 : Ix) (vs1 : List Nat) (c1 : CT) (t1 : Bx) (e : Ex) (env : Env) : Nat → Nat → LH → List W → Res (List W)
  | 0, _, _, _ => .stk
  | f + 1, i, L, acc => match S.get L i with
    | none => .stk
    | some none => .ok acc L
    | some (some w) => match c.set w env with
      | none => .stk
      | some env1 => (t env1 L).only.bind fun b L1 => if b = true then (it1 env1 L1).only.bind fun S1 L2 => (lc2In S1 c1 t1 e (wipeE env1 vs1) (S1.len + 1) 0 L2 acc).bind fun acc' L3 => lc2Loop S c t it1 vs1 c1 t1 e env f (i + 1) L3 acc'
        else lc2Loop S c t it1 vs1 c1 t1 e env f (i + 1) L1 acc
def cLc2 (vs vs1 : List Nat) (it : Ix) (c : CT) (t : Bx) (it1 : Ix) (c1 : CT) (t1 : Bx) (e : Ex) : Ex := fun env L => (it env L).bind fun S L1 => (lc2Loop S c t it1 vs1 c1 t1 e (wipeE env vs) (S.len + 1) 0 L1 []).bind fun acc L2 => .ok (.ref L2.length) (L2 ++ [.lst acc])
theorem lc2_read {S : Src} {J : It} {c c1 : CT} {t t1 : Bx} {it1 : Ix} {e : Ex} {vs vs1 : List Nat} {σ : L2.St} {Q : VK} {K : PySem.W.Frag} (hK : K = Γ.K) (hv : ∀ i ∈ c.slots, i ∈ vs) (hv1 : ∀ i ∈ c1.slots, i ∈ vs1) {ρ1 : List Addr} {H1 : Hp} {L1 : LH} {env : Env}
    (rl1 : RL Γ ρ1 L1 H1) (re1 : REnv Γ ρ1 H1 env σ) (hS : RSrc Γ ρ1 H1 S J)
    (h : Out (RW Γ) Γ Wx σ ρ1 H1 ((lc2Loop S c t it1 vs1 c1 t1 e (wipeE env vs) (S.len + 1) 0 L1 []).bind fun acc L2 => .ok (.ref L2.length) (L2 ++ [.lst acc])) Q) (D : Addr) (hD : H1 D = none) :
    ∃ W : Nat → Nat → Hp → Prop, (∃ m, W 0 m (upd H1 D (.lst []))) ∧ ∀ i m H, W i m H →
      (J.stop i H ∧ Q (.ref D) H) ∨ (J.go i H ∧ ∃ Nx : Hp → Prop, (∀ H', Nx H' → ∃ m', m' < m ∧ W (i + 1) m' H') ∧ ∀ x H', J.yld i H x H' → (c.tg K) x (wipe σ vs) H' fun σ2 H2 => wipe σ2 vs = wipe σ vs ∧ tExB Γ W0 t σ2 H2 fun b H3 =>
        if b = true then tG (RSrc Γ) Γ W0 it1 σ2 H3 fun J1 H4 => ∃ W1 : Nat → Nat → Hp → Prop, (∃ m, W1 0 m H4) ∧ ∀ j k H, W1 j k H →
          (J1.stop j H ∧ Nx H) ∨ (J1.go j H ∧ ∃ Nx1 : Hp → Prop, (∀ H', Nx1 H' → ∃ k', k' < k ∧ W1 (j + 1) k' H') ∧ ∀ x H', J1.yld j H x H' → (c1.tg K) x (wipe σ2 vs1) H' fun σ3 H5 => wipe σ3 vs1 = wipe σ2 vs1 ∧ tExB Γ W0 t1 σ3 H5 fun b H6 =>
            if b = true then tEx Γ W0 e σ3 H6 fun y H7 => ∃ acc, H7 D = some (.lst acc) ∧ acc.length < sizeLine ∧ Nx1 (upd H7 D (.lst (acc ++ [y]))) else Nx1 H6)
        else Nx H3) := by
  refine ⟨fun i m H => ∃ ρ L acc xs H0, H = upd H0 D (.lst xs) ∧ H0 D = none ∧ Aft Γ ρ1 H1 L ρ H0 ∧ RWs Γ ρ H0 acc xs ∧
    Out (RW Γ) Γ Wx σ ρ H0 ((lc2Loop S c t it1 vs1 c1 t1 e (wipeE env vs) m i L acc).bind fun acc L2 => .ok (.ref L2.length) (L2 ++ [.lst acc])) Q, ⟨S.len + 1, ρ1, L1, [], [], H1, rfl, hD, .refl rl1, .nil, h⟩, ?_⟩
  rintro i m H ⟨ρ, L, acc, xs, H0, rfl, h0, af, ra, h⟩
  have rl := af.rl
  have nD : D ∉ ρ := rl.out h0
  have rlD : RL Γ ρ L (upd H0 D (.lst xs)) := rl.fresh h0
  have kpD : Keep H1 (upd H0 D (.lst xs)) := af.kp.trans (.fresh h0)
  have reD : REnv Γ ρ (upd H0 D (.lst xs)) (wipeE env vs) (wipe σ vs) := (re1.mono af.pre kpD).wipe vs
  cases m with
  | zero => exact h.elim
  | succ f =>
    unfold lc2Loop at h
    have hJ := hS ρ _ L af.pre kpD rlD i
    cases eg : S.get L i with
    | none => rw [eg] at h; exact h.elim
    | some o =>
      cases o with
      | none =>
        rw [eg] at h
        refine .inl ⟨hJ.2 eg, ?_⟩
        have h : Out (RW Γ) Γ Wx σ ρ H0 (.ok (.ref L.length) (L ++ [.lst acc])) Q := h
        refine h (ρ ++ [D]) _ _ (.push rl h0 ⟨xs, upd_same, ra.mono (pre_app _ _) (.fresh h0)⟩) (.ref ?_)
        rw [← rl.len]; exact List.getElem?_concat_length
      | some w =>
        rw [eg] at h
        simp only at h
        obtain ⟨hgo, hy⟩ := hJ.1 w eg
        refine .inr ⟨hgo, fun H' => ∃ ρ L acc xs H0, H' = upd H0 D (.lst xs) ∧ H0 D = none ∧ Aft Γ ρ1 H1 L ρ H0 ∧ RWs Γ ρ H0 acc xs ∧
          Out (RW Γ) Γ Wx σ ρ H0 ((lc2Loop S c t it1 vs1 c1 t1 e (wipeE env vs) f (i + 1) L acc).bind fun acc L2 => .ok (.ref L2.length) (L2 ++ [.lst acc])) Q, fun H' hN => ⟨f, Nat.lt_succ_self _, hN⟩, fun x H' y => ?_⟩
        obtain ⟨a2, r2⟩ := hy x H' y
        cases ec : c.set w (wipeE env vs) with
        | none => rw [ec] at h; exact h.elim
        | some env1 =>
          rw [ec] at h
          simp only at h
          refine CT.ok K hK (reD.mono a2.pre a2.kp) r2 ec hv fun σ2 re2 hw => ⟨by rw [hw, wipe_idem], ?_⟩
          refine ⟨ρ, env1, L, a2.rl, re2, ?_⟩
          cases et : t env1 L with
          | exc e' L' => rw [et] at h; exact h.elim
          | stk => rw [et] at h; exact h.elim
          | ok b L3 =>
            rw [et] at h
            simp only [Res.only, Res.bind] at h
            intro ρ3 H3 b' a3 eb
            cases eb
            have a23 := a2.trans a3
            cases b with
            | false =>
              obtain ⟨a4, h4, _⟩ := Aft.hide h0 nD rfl a23
              exact ⟨ρ3, L3, acc, xs, hide H3 D, (hide_upd h4).symm, hide_at, af.trans a4, ra.mono a4.pre a4.kp, Out.rebase a4 h⟩
            | true =>
              have re3 := re2.mono a3.pre a3.kp
              refine ⟨ρ3, env1, L3, a3.rl, re3, ?_⟩
              simp only [if_true] at h
              cases ei : it1 env1 L3 with
              | exc e' L' => rw [ei] at h; exact h.elim
              | stk => rw [ei] at h; exact h.elim
              | ok S1 L4 =>
                rw [ei] at h
                simp only at h
                intro ρ4 H4 J1 a4 hS1
                have hI : Out (RW Γ) Γ Wx σ ρ H0 (((lc2In S1 c1 t1 e (wipeE env1 vs1) (S1.len + 1) 0 L4 acc).bind fun acc' L3 => lc2Loop S c t it1 vs1 c1 t1 e (wipeE env vs) f (i + 1) L3 acc').bind fun acc L2 => .ok (.ref L2.length) (L2 ++ [.lst acc])) Q := h
                clear h
                obtain ⟨b4, h4, n4⟩ := Aft.hide h0 nD rfl (a23.trans a4)
                have re4 := re3.mono a4.pre a4.kp
                refine ⟨fun j k H => ∃ ρ L acc xs Hq, H = upd Hq D (.lst xs) ∧ Hq D = none ∧ Aft Γ ρ1 H1 L ρ Hq ∧ ρ4 <+: ρ ∧ Keep H4 H ∧ RWs Γ ρ Hq acc xs ∧
                  Out (RW Γ) Γ Wx σ ρ Hq (((lc2In S1 c1 t1 e (wipeE env1 vs1) k j L acc).bind fun acc' L3 => lc2Loop S c t it1 vs1 c1 t1 e (wipeE env vs) f (i + 1) L3 acc').bind fun acc L2 => .ok (.ref L2.length) (L2 ++ [.lst acc])) Q,
                  ⟨S1.len + 1, ρ4, L4, acc, xs, hide H4 D, (hide_upd h4).symm, hide_at, af.trans b4, List.prefix_refl _, .refl, ra.mono b4.pre b4.kp, Out.rebase b4 hI⟩, ?_⟩
                rintro j k H ⟨ρ5, L5, acc5, xs5, H5, rfl, h05, af5, pr5, kp5, ra5, h⟩
                have rl5 := af5.rl
                have nD5 : D ∉ ρ5 := rl5.out h05
                have rlD5 : RL Γ ρ5 L5 (upd H5 D (.lst xs5)) := rl5.fresh h05
                have reD5 : REnv Γ ρ5 (upd H5 D (.lst xs5)) (wipeE env1 vs1) (wipe σ2 vs1) := (re4.mono pr5 kp5).wipe vs1
                cases k with
                | zero => exact h.elim
                | succ g =>
                  unfold lc2In at h
                  have hJ1 := hS1 ρ5 _ L5 pr5 kp5 rlD5 j
                  cases eg1 : S1.get L5 j with
                  | none => rw [eg1] at h; exact h.elim
                  | some o1 =>
                    cases o1 with
                    | none =>
                      rw [eg1] at h
                      exact .inl ⟨hJ1.2 eg1, ρ5, L5, acc5, xs5, H5, rfl, h05, af5, ra5, h⟩
                    | some w1 =>
                      rw [eg1] at h
                      simp only at h
                      obtain ⟨hgo1, hy1⟩ := hJ1.1 w1 eg1
                      refine .inr ⟨hgo1, fun H => ∃ ρ L acc xs Hq, H = upd Hq D (.lst xs) ∧ Hq D = none ∧ Aft Γ ρ1 H1 L ρ Hq ∧ ρ4 <+: ρ ∧ Keep H4 H ∧ RWs Γ ρ Hq acc xs ∧
                        Out (RW Γ) Γ Wx σ ρ Hq (((lc2In S1 c1 t1 e (wipeE env1 vs1) g (j + 1) L acc).bind fun acc' L3 => lc2Loop S c t it1 vs1 c1 t1 e (wipeE env vs) f (i + 1) L3 acc').bind fun acc L2 => .ok (.ref L2.length) (L2 ++ [.lst acc])) Q, fun H' hN => ⟨g, Nat.lt_succ_self _, hN⟩, fun x1 H6 y1 => ?_⟩
                      obtain ⟨a6, r6⟩ := hy1 x1 H6 y1
                      cases ec1 : c1.set w1 (wipeE env1 vs1) with
                      | none => rw [ec1] at h; exact h.elim
                      | some env2 =>
                        rw [ec1] at h
                        simp only at h
                        refine CT.ok K hK (reD5.mono a6.pre a6.kp) r6 ec1 hv1 fun σ3 re6 hw1 => ⟨by rw [hw1, wipe_idem], ?_⟩
                        refine ⟨ρ5, env2, L5, a6.rl, re6, ?_⟩
                        cases et1 : t1 env2 L5 with
                        | exc e' L' => rw [et1] at h; exact h.elim
                        | stk => rw [et1] at h; exact h.elim
                        | ok b1 L7 =>
                          rw [et1] at h
                          simp only [Res.only, Res.bind] at h
                          intro ρ7 H7 b' a7 eb
                          cases eb
                          have a67 := a6.trans a7
                          cases b1 with
                          | false =>
                            obtain ⟨a8, h8, _⟩ := Aft.hide h05 nD5 rfl a67
                            exact ⟨ρ7, L7, acc5, xs5, hide H7 D, (hide_upd h8).symm, hide_at, af5.trans a8, pr5.trans a8.pre, kp5.trans a67.kp, ra5.mono a8.pre a8.kp, Out.rebase a8 h⟩
                          | true =>
                            refine ⟨ρ7, env2, L7, a7.rl, re6.mono a7.pre a7.kp, ?_⟩
                            simp only [if_true] at h
                            cases ee : e env2 L7 with
                            | exc e' L' => rw [ee] at h; exact h.elim
                            | stk => rw [ee] at h; exact h.elim
                            | ok y L9 =>
                              rw [ee] at h
                              simp only at h
                              intro ρ9 H9 z a9 r9
                              obtain ⟨a8, h8, _⟩ := Aft.hide h05 nD5 rfl (a67.trans a9)
                              by_cases hz : acc5.length < 16777216
                              · rw [if_pos hz] at h
                                refine ⟨xs5, h8, by rw [← ra5.length, line_eq]; exact hz, ρ9, L9, acc5 ++ [y], xs5 ++ [z], hide H9 D, ?_, hide_at, af5.trans a8, pr5.trans a8.pre, (kp5.trans (a67.trans a9).kp).trans (.write h8 rfl), ?_, Out.rebase a8 h⟩
                                · rw [← hide_upd h8, upd_upd]
                                  rw [hide_upd h8]
                                · exact (ra5.mono a8.pre a8.kp).append (.one (r9.hide h8 rfl))
                              · rw [if_neg hz] at h; exact h.elim
theorem d_lc2 {elt tg iter tg1 iter1 : Expr} {ifs ifs1 : List Expr} {scope : Scope} {own : List (Str × Nat)} {vs1 : List Nat} {fi fi1 : Ix} {c c1 : CT} {t t1 : Bx} {e : Ex} (hi : DI X Γ k Wx tg iter fi) (ok : BlkOk X.N X.env.scope scope own) (hv : ∀ i ∈ c.slots, i ∈ own.map (·.2)) (hvs : ∀ i ∈ vs1, i ∈ own.map (·.2)) (hv1 : ∀ i ∈ c1.slots, i ∈ vs1)
    (hg : ∀ (s : Shared) (H : Hp) (C : Addr) (cl : List (Str × Addr)) (fp : List Addr), (Cx.bk X scope s H C cl fp).N.Nodup → (Cx.bk X scope s H C cl fp).calm = true → PG (Cx.bk X scope s H C cl fp) tg (c.tg X.K))
    (ht : ∀ (s : Shared) (H : Hp) (C : Addr) (cl : List (Str × Addr)) (fp : List Addr), DTs (Cx.bk X scope s H C cl fp) Γ k W0 ifs t)
    (hi1 : ∀ (s : Shared) (H : Hp) (C : Addr) (cl : List (Str × Addr)) (fp : List Addr), DI (Cx.bk X scope s H C cl fp) Γ k W0 tg1 iter1 fi1)
    (hg1 : ∀ (s : Shared) (H : Hp) (C : Addr) (cl : List (Str × Addr)) (fp : List Addr), (Cx.bk X scope s H C cl fp).N.Nodup → (Cx.bk X scope s H C cl fp).calm = true → PG (Cx.bk X scope s H C cl fp) tg1 (c1.tg X.K))
    (ht1 : ∀ (s : Shared) (H : Hp) (C : Addr) (cl : List (Str × Addr)) (fp : List Addr), DTs (Cx.bk X scope s H C cl fp) Γ k W0 ifs1 t1)
    (he : ∀ (s : Shared) (H : Hp) (C : Addr) (cl : List (Str × Addr)) (fp : List Addr), DE (Cx.bk X scope s H C cl fp) Γ k W0 elt e) (hs : ∀ x, foldedSetIterable iter X.env x = pure x := by intro _; rfl) (hs1 : ∀ env x, foldedSetIterable iter1 env x = pure x := by intro _ _; rfl) :
    DE X Γ k Wx (.ListComp elt [⟨tg, iter, ifs, 0⟩, ⟨tg1, iter1, ifs1, 0⟩] scope pos) (cLc2 (own.map (·.2)) vs1 fi c t fi1 c1 t1 e) := fun g =>
  PE.imp (pe_lc2 g.calm g.nd (hi g) ok hvs (fun s H C cl fp => hg s H C cl fp g.nd g.calm) (fun s H C cl fp => ht s H C cl fp (g.blk scope s H C cl fp)) (fun s H C cl fp => hi1 s H C cl fp (g.blk scope s H C cl fp)) (fun s H C cl fp => hg1 s H C cl fp g.nd g.calm) (fun s H C cl fp => ht1 s H C cl fp (g.blk scope s H C cl fp)) (fun s H C cl fp => he s H C cl fp (g.blk scope s H C cl fp)) hs hs1) fun σ H Q q => by
    obtain ⟨ρ, env, L, rl, re, q⟩ := q
    refine tG_bindE rl re q fun ρ1 H1 S J L1 ea a1 re1 hS h1 => ?_
    intro D hD
    exact lc2_read g.K hv hv1 a1.rl re1 hS h1 D hD
end
end Z

/-! Z11: constants of the text, targets of comprehensions, dict comprehensions. -/
namespace Z
open PySem PySem.Spec PyProof.Rows L2
/-- a constant of the text -/
def GW (Γ : Ctx) (mg : Str → Option Value) (x : Str) (w : W) : Prop := ∃ u v, mg x = some u ∧ RelV v u ∧ ∀ ρ H, RW Γ ρ H w v
section
variable {X : Cx} {Γ : Ctx} {k : Nat} {Wx : WX} {pos : Pos}
theorem d_gw {x : Str} {w : W} (h : GW Γ X.mg x w) (hg : Gl X x := by rfl) (hd : (x == ("__debug__" : Str)) = false := by decide) : DE X Γ k Wx (.Name x pos) (cC w) := by
  obtain ⟨u, v, hm, r, rw_⟩ := h
  exact d_const (pe_glob hg hm r hd) rw_
theorem gw_int {mg : Str → Option Value} {x : Str} {i : Int} {t : Tok} (h : mg x = some (.int i t)) : GW Γ mg x (.int i) := ⟨_, .int i, h, ⟨t, rfl⟩, fun _ _ => .int i⟩
theorem gw_str {mg : Str → Option Value} {x : Str} {i : Str} {t : Tok} (h : mg x = some (.str i t)) : GW Γ mg x (.str i) := ⟨_, .str i, h, ⟨t, rfl⟩, fun _ _ => .str i⟩
/-- flat data of the text -/
inductive RFlat : List W → List V → List Value → Prop
  | nil : RFlat [] [] []
  | int {i : Int} {t : Tok} {ws vs us} : RFlat ws vs us → RFlat (.int i :: ws) (.int i :: vs) (.int i t :: us)
  | str {i : Str} {t : Tok} {ws vs us} : RFlat ws vs us → RFlat (.str i :: ws) (.str i :: vs) (.str i t :: us)
theorem RFlat.vals : ∀ {ws vs us}, RFlat ws vs us → Vals vs us
  | _, _, _, .nil => .nil
  | _, _, _, .int r => .cons ⟨_, rfl⟩ r.vals
  | _, _, _, .str r => .cons ⟨_, rfl⟩ r.vals
theorem RFlat.rws {ρ : List Addr} {H : Hp} : ∀ {ws vs us}, RFlat ws vs us → RWs Γ ρ H ws vs
  | _, _, _, .nil => .nil
  | _, _, _, .int r => .cons (.int _) r.rws
  | _, _, _, .str r => .cons (.str _) r.rws
theorem gw_tup {K : PySem.W.Frag} (hK : Γ.K = K) {mg : Str → Option Value} {x : Str} {ws : List W} {vs : List V} {us : List Value} {a : Addr} {dd : Option Addr} {n : Nat} {sl : Array (Option Value)} (h : mg x = some (.ref a))
    (l : K.lookup a = some ⟨.type "tuple", dd, .seq us.toArray n, sl⟩) (r : RFlat ws vs us) (hz : us.length ≤ 1000) : GW Γ mg x (.tup ws) := by
  subst hK
  refine ⟨_, .ref a, h, rfl, fun ρ H => .tup (.inr ⟨_, us.toArray, n, l, rfl, rfl, ?_, by simpa using r.vals⟩) r.rws⟩
  rw [List.size_toArray]; exact Nat.le_of_lt (small1000 hz)

/-! ### targets -/
theorem ctg_one (i : Nat) {x : Str} (hN : X.N.Nodup) (hi : X.N[i]? = some x := by rfl) (hx : Loc X.env.scope x := by first | exact Or.inl rfl | exact Or.inr rfl) (hf : X.fn x = true ∨ X.env.scope.names.lookup x = some .local := by first | exact .inl rfl | exact .inr rfl) :
    PG X (.Name x pos) ((CT.one i).tg X.K) := pg_name hN hi hx hf
theorem ctgs_nil : PGs X [] (gNames []) := pgs_nil
theorem ctgs_cons {e : Expr} {es : List Expr} {i : Nat} {is : List Nat} (h : PG X e ((CT.one i).tg X.K)) (t : PGs X es (gNames is)) (hs : (assignEach (e :: es) X.env).map (·.2) = assign e X.env :: (assignEach es X.env).map (·.2) := by rfl) : PGs X (e :: es) (gNames (i :: is)) := pgs_cons h t hs
theorem ctg_many {es : List Expr} {is : List Nat} {j : Nat} (hc : X.calm = true) (h : PGs X es (gNames is)) (hn : (assignEach es X.env).length = is.length := by rfl) (hst : (assignEach es X.env).findIdx? (·.1) = none := by rfl) : PG X (.Tuple es j pos) ((CT.many is).tg X.K) := pg_tup hc h hn hst

/-! ### k in d as a test -/
theorem DE.test {e : Expr} {f : Ex} (h : DE X Γ k Wx e f) (ht : ∀ g : Good X Γ k Wx, ∀ {t : TE}, PE X e t → PT X e (tB t)) : DT X Γ k Wx e (bVal f) := fun g =>
  PT.imp (ht g (h g)) fun σ H Q q => by
    obtain ⟨ρ, env, L, rl, re, q⟩ := q
    refine tG_bind rl re q fun ρ1 H1 a v L1 a1 re1 r1 h1 => ?_
    obtain ⟨b, e, q⟩ := ofOB_out a1.rl h1
    cases r1 <;> first | (cases e; exact ⟨_, rfl, q⟩) | cases e
theorem b_inG {neg : Bool} {a b : Expr} {f h : Ex} {op : CmpOp} {o o' : W → W → LH → OV} (ho : O2 X Γ k Wx (compareOp op) o) (ha : DE X Γ k Wx a f) (hb : DE X Γ k Wx b h) (hm : behindInMarks op b = false)
    (hd : ∀ {td ty : TE}, PE X a ty → PE X b td → PC X op a b (fun σ H Q => ty σ H fun y H1 => td σ H1 fun x H2 => ∃ p o, x = .ref p ∧ DGet H2 p y o ∧ Q (.bl (if neg then !o.isSome else o.isSome)) H2))
    (e1 : ∀ a b L kvs, dicW b L = some kvs → o' a b L = match keyW a with | some kk => some (.bl (if neg then !(valW kvs kk).isSome else (valW kvs kk).isSome), L) | none => none)
    (e2 : ∀ a b L, dicW b L = none → o' a b L = o a b L) : DT X Γ k Wx (.Compare a [op] [b] pos) (bVal (cOp2 o' f h)) := fun g => by
  have h1 := pt_cmpR (pos := pos) (ho g) (ha g) (hb g) hm
  have h2 := pt_cmp (pos := pos) (hd (ha g) (hb g)) hm
  refine ⟨fun pins s σ H Q I q => ?_⟩
  have hor : PT X (.Compare a [op] [b] pos) (fun σ H Q => tTest (tOp (v2 Γ o) (tEx Γ Wx f) (tEx Γ Wx h)) σ H Q ∨ tB (fun σ H Q => tEx Γ Wx f σ H fun y H1 => tEx Γ Wx h σ H1 fun x H2 => ∃ p o, x = .ref p ∧ DGet H2 p y o ∧ Q (.bl (if neg then !o.isSome else o.isSome)) H2) σ H Q) :=
    ⟨fun pins s σ H Q I q => q.elim (h1.run pins s σ H Q I) (h2.run pins s σ H Q I)⟩
  refine hor.run pins s σ H Q I ?_
  have q' : tEx Γ Wx (cOp2 o' f h) σ H (fun x H' => ∃ k, x = .bl k ∧ Q k H') := by
    obtain ⟨ρ, env, L, rl, re, q⟩ := q
    refine tG_bind rl re q fun ρ1 H1 a v L1 a1 re1 r1 h1 => ?_
    obtain ⟨b, e, q⟩ := ofOB_out a1.rl h1
    cases r1 <;> first | (cases e; exact ⟨_, rfl, q⟩) | cases e
  obtain ⟨ρ, env, L, rl, re, q⟩ := q'
  by_cases hd : ∃ a L1 b L2 kvs, f env L = .ok a L1 ∧ h env L1 = .ok b L2 ∧ dicW b L2 = some kvs
  · obtain ⟨a, L1, b, L2, kvs, f1, f2, f3⟩ := hd
    refine .inr (tG_bindE rl re q fun ρ1 H1 a' v L1' ea a1 re1 r1 h1 => ?_)
    rw [f1] at ea; cases ea
    refine tG_bindE a1.rl re1 h1 fun ρ2 H2 b' u L2' eb a2 re2 r2 h2 => ?_
    rw [f2] at eb; cases eb
    have hx := out_of h2
    rw [e1 _ _ _ _ f3] at hx
    cases ek : keyW a with
    | none => rw [ek] at hx; exact hx.elim
    | some kk =>
      simp only [ek] at hx
      obtain ⟨n, p, vs, rfl, eo, rfl, ep, eh, rk⟩ := dicW_inv a2.rl r2 f3
      have hk := keyW_ok (r1.mono a2.pre a2.kp) ek
      subst hk
      have es : (valW kvs kk).isSome = (valV vs kk).isSome := by
        cases ev : valW kvs kk with
        | none => rw [(rk.val (k := kk)).2 ev]; rfl
        | some w => obtain ⟨v, e4, _⟩ := (rk.val (k := kk)).1 w ev; rw [e4]; rfl
      rw [es] at hx
      exact ⟨p, _, rfl, .k eh, hx.here a2.rl (.bl _)⟩
  · refine .inl (tG_bindE rl re q fun ρ1 H1 a' v L1' ea a1 re1 r1 h1 => ?_)
    refine tG_bindE a1.rl re1 h1 fun ρ2 H2 b' u L2' eb a2 re2 r2 h2 => ?_
    have hx := out_of h2
    cases e : dicW b' L2' with
    | some ks => exact absurd ⟨a', L1', b', L2', ks, ea, eb, e⟩ hd
    | none =>
      rw [e2 _ _ _ e] at hx
      exact ⟨ρ2, L2', a', b', a2.rl, r1.mono a2.pre a2.kp, r2, hx⟩
theorem b_in {a b : Expr} {f h : Ex} (ha : DE X Γ k Wx a f) (hb : DE X Γ k Wx b h) (hm : behindInMarks .In b = false := by rfl) : DT X Γ k Wx (.Compare a [.In] [b] pos) (bVal (cOp2 oInD f h)) := fun g =>
  b_inG (neg := false) o_in ha hb hm (fun p q => pc_din (hu1 g) p q) (fun a b L kvs e => by unfold oInD; rw [e]; rfl) (fun a b L e => by unfold oInD; rw [e]) g
theorem b_notIn {a b : Expr} {f h : Ex} (ha : DE X Γ k Wx a f) (hb : DE X Γ k Wx b h) (hm : behindInMarks .NotIn b = false := by rfl) : DT X Γ k Wx (.Compare a [.NotIn] [b] pos) (bVal (cOp2 oNotInD f h)) := fun g =>
  b_inG (neg := true) o_notIn ha hb hm (fun p q => pc_dnotin (hu1 g) p q) (fun a b L kvs e => by unfold oNotInD; rw [e]; rfl) (fun a b L e => by unfold oNotInD; rw [e]) g

/-! ### {k: v for ..} -/
def dcLoop (S : Src) (c : CT) (t : Bx) (ke va : Ex) (env : Env) : Nat → Nat → LH → List (Key × W) → Res (List (Key × W))
  | 0, _, _, _ => .stk
  | f + 1, i, L, acc => match S.get L i with
    | none => .stk
    | some none => .ok acc L
    | some (some w) => match c.set w env with
      | none => .stk
      | some env1 => (t env1 L).only.bind fun b L1 => if b = true then (ke env1 L1).only.bind fun y L2 => (va env1 L2).only.bind fun z L3 => match keyW y with
          | some kk => if acc.length < 16777216 then dcLoop S c t ke va env f (i + 1) L3 (putW acc kk z) else .stk
          | none => .stk
        else dcLoop S c t ke va env f (i + 1) L1 acc
def cDc (vs : List Nat) (it : Ix) (c : CT) (t : Bx) (ke va : Ex) : Ex := fun env L => (it env L).bind fun S L1 => (dcLoop S c t ke va (wipeE env vs) (S.len + 1) 0 L1 []).bind fun acc L2 => .ok (.ref L2.length) (L2 ++ [.dic acc])
theorem dc_read {S : Src} {J : It} {c : CT} {t : Bx} {ke va : Ex} {vs : List Nat} {σ : L2.St} {Q : VK} {K : PySem.W.Frag} (hK : K = Γ.K) (hv : ∀ i ∈ c.slots, i ∈ vs) {ρ1 : List Addr} {H1 : Hp} {L1 : LH} {env : Env}
    (rl1 : RL Γ ρ1 L1 H1) (re1 : REnv Γ ρ1 H1 env σ) (hS : RSrc Γ ρ1 H1 S J)
    (h : Out (RW Γ) Γ Wx σ ρ1 H1 ((dcLoop S c t ke va (wipeE env vs) (S.len + 1) 0 L1 []).bind fun acc L2 => .ok (.ref L2.length) (L2 ++ [.dic acc])) Q) (D : Addr) (hD : H1 D = none) :
    ∃ W : Nat → Nat → Hp → Prop, (∃ m, W 0 m (upd H1 D (.dK []))) ∧ ∀ i m H, W i m H →
      (J.stop i H ∧ Q (.ref D) H) ∨ (J.go i H ∧ ∃ Nx : Hp → Prop, (∀ H', Nx H' → ∃ m', m' < m ∧ W (i + 1) m' H') ∧ ∀ x H', J.yld i H x H' → (c.tg K) x (wipe σ vs) H' fun σ2 H2 => wipe σ2 vs = wipe σ vs ∧ tExB Γ W0 t σ2 H2 fun b H3 =>
        if b = true then tEx Γ W0 ke σ2 H3 fun y H4 => tEx Γ W0 va σ2 H4 fun z H5 => ∃ kvs k, y = kV k ∧ H5 D = some (.dK kvs) ∧ kvs.length < sizeLine ∧ Nx (upd H5 D (.dK (putK kvs k z))) else Nx H3) := by
  refine ⟨fun i m H => ∃ ρ L acc xs H0, H = upd H0 D (.dK xs) ∧ H0 D = none ∧ Aft Γ ρ1 H1 L ρ H0 ∧ RKs Γ ρ H0 acc xs ∧
    Out (RW Γ) Γ Wx σ ρ H0 ((dcLoop S c t ke va (wipeE env vs) m i L acc).bind fun acc L2 => .ok (.ref L2.length) (L2 ++ [.dic acc])) Q, ⟨S.len + 1, ρ1, L1, [], [], H1, rfl, hD, .refl rl1, .nil, h⟩, ?_⟩
  rintro i m H ⟨ρ, L, acc, xs, H0, rfl, h0, af, ra, h⟩
  have rl := af.rl
  have nD : D ∉ ρ := rl.out h0
  have rlD : RL Γ ρ L (upd H0 D (.dK xs)) := rl.fresh h0
  have kpD : Keep H1 (upd H0 D (.dK xs)) := af.kp.trans (.fresh h0)
  have reD : REnv Γ ρ (upd H0 D (.dK xs)) (wipeE env vs) (wipe σ vs) := (re1.mono af.pre kpD).wipe vs
  cases m with
  | zero => exact h.elim
  | succ f =>
    unfold dcLoop at h
    have hJ := hS ρ _ L af.pre kpD rlD i
    cases eg : S.get L i with
    | none => rw [eg] at h; exact h.elim
    | some o =>
      cases o with
      | none =>
        rw [eg] at h
        refine .inl ⟨hJ.2 eg, ?_⟩
        have h : Out (RW Γ) Γ Wx σ ρ H0 (.ok (.ref L.length) (L ++ [.dic acc])) Q := h
        refine h (ρ ++ [D]) _ _ (.push rl h0 ⟨xs, upd_same, ra.mono (pre_app _ _) (.fresh h0)⟩) (.ref ?_)
        rw [← rl.len]; exact List.getElem?_concat_length
      | some w =>
        rw [eg] at h
        simp only at h
        obtain ⟨hgo, hy⟩ := hJ.1 w eg
        refine .inr ⟨hgo, fun H' => ∃ ρ L acc xs H0, H' = upd H0 D (.dK xs) ∧ H0 D = none ∧ Aft Γ ρ1 H1 L ρ H0 ∧ RKs Γ ρ H0 acc xs ∧
          Out (RW Γ) Γ Wx σ ρ H0 ((dcLoop S c t ke va (wipeE env vs) f (i + 1) L acc).bind fun acc L2 => .ok (.ref L2.length) (L2 ++ [.dic acc])) Q, fun H' hN => ⟨f, Nat.lt_succ_self _, hN⟩, fun x H' y => ?_⟩
        obtain ⟨a2, r2⟩ := hy x H' y
        cases ec : c.set w (wipeE env vs) with
        | none => rw [ec] at h; exact h.elim
        | some env1 =>
          rw [ec] at h
          simp only at h
          refine CT.ok K hK (reD.mono a2.pre a2.kp) r2 ec hv fun σ2 re2 hw => ⟨by rw [hw, wipe_idem], ?_⟩
          refine ⟨ρ, env1, L, a2.rl, re2, ?_⟩
          cases et : t env1 L with
          | exc e' L' => rw [et] at h; exact h.elim
          | stk => rw [et] at h; exact h.elim
          | ok b L3 =>
            rw [et] at h
            simp only [Res.only, Res.bind] at h
            intro ρ3 H3 b' a3 eb
            cases eb
            have a23 := a2.trans a3
            cases b with
            | false =>
              obtain ⟨a4, h4, _⟩ := Aft.hide h0 nD rfl a23
              exact ⟨ρ3, L3, acc, xs, hide H3 D, (hide_upd h4).symm, hide_at, af.trans a4, ra.mono a4.pre a4.kp, Out.rebase a4 h⟩
            | true =>
              refine ⟨ρ3, env1, L3, a3.rl, re2.mono a3.pre a3.kp, ?_⟩
              simp only [if_true] at h
              cases ee : ke env1 L3 with
              | exc e' L' => rw [ee] at h; exact h.elim
              | stk => rw [ee] at h; exact h.elim
              | ok y L4 =>
                rw [ee] at h
                simp only at h
                intro ρ4 H4 yv a5 r5
                refine ⟨ρ4, env1, L4, a5.rl, (re2.mono a3.pre a3.kp).mono a5.pre a5.kp, ?_⟩
                cases e2 : va env1 L4 with
                | exc e' L' => rw [e2] at h; exact h.elim
                | stk => rw [e2] at h; exact h.elim
                | ok z L5 =>
                  rw [e2] at h
                  simp only at h
                  intro ρ5 H5 zv a6 r6
                  obtain ⟨a4, h4, _⟩ := Aft.hide h0 nD rfl ((a23.trans a5).trans a6)
                  cases ek : keyW y with
                  | none => rw [ek] at h; exact h.elim
                  | some kk =>
                    rw [ek] at h
                    simp only at h
                    by_cases hz : acc.length < 16777216
                    · rw [if_pos hz] at h
                      refine ⟨xs, kk, keyW_ok r5 ek, h4, by rw [← ra.length, line_eq]; exact hz, ρ5, L5, putW acc kk z, putK xs kk zv, hide H5 D, ?_, hide_at, af.trans a4, ?_, Out.rebase a4 h⟩
                      · rw [← hide_upd h4, upd_upd]
                        rw [hide_upd h4]
                      · exact RKs.put (r6.hide h4 rfl) (ra.mono a4.pre a4.kp)
                    · rw [if_neg hz] at h; exact h.elim
theorem d_dc {kx vx tg iter : Expr} {ifs : List Expr} {scope : Scope} {own : List (Str × Nat)} {fi : Ix} {c : CT} {t : Bx} {ke va : Ex} (hi : DI X Γ k Wx tg iter fi) (ok : BlkOk X.N X.env.scope scope own) (hv : ∀ i ∈ c.slots, i ∈ own.map (·.2))
    (hg : ∀ (s : Shared) (H : Hp) (C : Addr) (cl : List (Str × Addr)) (fp : List Addr), (Cx.bk X scope s H C cl fp).N.Nodup → (Cx.bk X scope s H C cl fp).calm = true → PG (Cx.bk X scope s H C cl fp) tg (c.tg X.K))
    (ht : ∀ (s : Shared) (H : Hp) (C : Addr) (cl : List (Str × Addr)) (fp : List Addr), DTs (Cx.bk X scope s H C cl fp) Γ k W0 ifs t)
    (hk : ∀ (s : Shared) (H : Hp) (C : Addr) (cl : List (Str × Addr)) (fp : List Addr), DE (Cx.bk X scope s H C cl fp) Γ k W0 kx ke)
    (he : ∀ (s : Shared) (H : Hp) (C : Addr) (cl : List (Str × Addr)) (fp : List Addr), DE (Cx.bk X scope s H C cl fp) Γ k W0 vx va) (hs : ∀ x, foldedSetIterable iter X.env x = pure x := by intro _; rfl) :
    DE X Γ k Wx (.DictComp kx vx [⟨tg, iter, ifs, 0⟩] scope pos) (cDc (own.map (·.2)) fi c t ke va) := fun g =>
  PE.imp (pe_dc g.calm g.nd (hi g) ok (fun s H C cl fp => hg s H C cl fp g.nd g.calm) (fun s H C cl fp => ht s H C cl fp (g.blk scope s H C cl fp)) (fun s H C cl fp => hk s H C cl fp (g.blk scope s H C cl fp)) (fun s H C cl fp => he s H C cl fp (g.blk scope s H C cl fp)) hs) fun σ H Q q => by
    obtain ⟨ρ, env, L, rl, re, q⟩ := q
    refine tG_bindE rl re q fun ρ1 H1 S J L1 ea a1 re1 hS h1 => ?_
    intro D hD
    exact dc_read g.K hv a1.rl re1 hS h1 D hD
/-- name = [.. for .. for ..] on one line -/
theorem ds_setLc2 (i : Nat) {y : Str} {py spos : Pos} {elt tg iter tg1 iter1 : Expr} {ifs ifs1 : List Expr} {scope : Scope} {own : List (Str × Nat)} {vs1 : List Nat} {fi fi1 : Ix} {c c1 : CT} {t t1 : Bx} {e : Ex} (hi : DI X Γ k Wx tg iter fi) (ok : BlkOk X.N X.env.scope scope own) (hv : ∀ i ∈ c.slots, i ∈ own.map (·.2)) (hvs : ∀ i ∈ vs1, i ∈ own.map (·.2)) (hv1 : ∀ i ∈ c1.slots, i ∈ vs1)
    (hg : ∀ (s : Shared) (H : Hp) (C : Addr) (cl : List (Str × Addr)) (fp : List Addr), (Cx.bk X scope s H C cl fp).N.Nodup → (Cx.bk X scope s H C cl fp).calm = true → PG (Cx.bk X scope s H C cl fp) tg (c.tg X.K))
    (ht : ∀ (s : Shared) (H : Hp) (C : Addr) (cl : List (Str × Addr)) (fp : List Addr), DTs (Cx.bk X scope s H C cl fp) Γ k W0 ifs t)
    (hi1 : ∀ (s : Shared) (H : Hp) (C : Addr) (cl : List (Str × Addr)) (fp : List Addr), DI (Cx.bk X scope s H C cl fp) Γ k W0 tg1 iter1 fi1)
    (hg1 : ∀ (s : Shared) (H : Hp) (C : Addr) (cl : List (Str × Addr)) (fp : List Addr), (Cx.bk X scope s H C cl fp).N.Nodup → (Cx.bk X scope s H C cl fp).calm = true → PG (Cx.bk X scope s H C cl fp) tg1 (c1.tg X.K))
    (ht1 : ∀ (s : Shared) (H : Hp) (C : Addr) (cl : List (Str × Addr)) (fp : List Addr), DTs (Cx.bk X scope s H C cl fp) Γ k W0 ifs1 t1)
    (he : ∀ (s : Shared) (H : Hp) (C : Addr) (cl : List (Str × Addr)) (fp : List Addr), DE (Cx.bk X scope s H C cl fp) Γ k W0 elt e)
    (hsw : swapsWith (.ListComp elt [⟨tg, iter, ifs, 0⟩, ⟨tg1, iter1, ifs1, 0⟩] scope pos) (some (.Name y py)) spos.line X.env = pure true)
    (hy : X.N[i]? = some y := by rfl) (hyl : X.env.scope.names.lookup y = some .local := by rfl) (hs : ∀ x, foldedSetIterable iter X.env x = pure x := by intro _; rfl) (hs1 : ∀ env x, foldedSetIterable iter1 env x = pure x := by intro _ _; rfl) :
    DS X Γ k Wx (.Assign [.Name y py] (.ListComp elt [⟨tg, iter, ifs, 0⟩, ⟨tg1, iter1, ifs1, 0⟩] scope pos) spos) (sSet i (cLc2 (own.map (·.2)) vs1 fi c t fi1 c1 t1 e)) := fun g =>
  PS.imp (ps_setLc2 g.calm g.nd hy hyl hsw (hi g) ok hvs (fun s H C cl fp => hg s H C cl fp g.nd g.calm) (fun s H C cl fp => ht s H C cl fp (g.blk scope s H C cl fp)) (fun s H C cl fp => hi1 s H C cl fp (g.blk scope s H C cl fp)) (fun s H C cl fp => hg1 s H C cl fp g.nd g.calm) (fun s H C cl fp => ht1 s H C cl fp (g.blk scope s H C cl fp)) (fun s H C cl fp => he s H C cl fp (g.blk scope s H C cl fp)) hs hs1) fun D' σ H q => by
    obtain ⟨ρ, env, L, rl, re, q⟩ := q
    have q2 : tEx Γ Wx (cLc2 (own.map (·.2)) vs1 fi c t fi1 c1 t1 e) σ H (fun x H1 => gName i x σ H1 D'.nx) := tG_toS rl re q fun ρ1 H1 w v L1 _ a1 re1 r1 h1 => h1 ρ1 H1 _ (.refl a1.rl) (re1.set i r1)
    obtain ⟨ρ, env, L, rl, re, q⟩ := q2
    refine tG_bindE rl re q fun ρ1 H1 S J L1 ea a1 re1 hS h1 => ?_
    intro D hD
    exact lc2_read g.K hv hv1 a1.rl re1 hS h1 D hD
theorem sw_trueD {kx vx : Expr} {gs : List Comprehension} {scope : Scope} {pos py : Pos} {y : Str} {l : Nat} {env : PySem.Env} (hk : env.scope.kind = .function) (hy : env.scope.names.lookup y = some .local) (hl : (py.line == pos.line) = true)
    (ha : (scope.names.any fun (n, k) => n == y && (k == .local || k == .cell)) = false) : swapsWith (.DictComp kx vx gs scope pos) (some (.Name y py)) l env = pure true := by
  have ky : env.kindOf y = some .local := hy
  have hb : env.blockKind = .function := by unfold PySem.Env.blockKind; rw [hk]; rfl
  unfold swapsWith
  simp only [hb, ky, ha, Expr.pos, hl]
  rfl
theorem ps_setDc {i : Nat} {y : Str} {py : Pos} {kx vx tg iter : Expr} {ifs : List Expr} {scope : Scope} {own : List (Str × Nat)} {pos spos : Pos} {wi : TI} {g : TG} {tt : TT} {tk tv : TE} (hc : X.calm = true) (hN : X.N.Nodup) (hy : X.N[i]? = some y) (hyl : X.env.scope.names.lookup y = some .local)
    (hsw : swapsWith (.DictComp kx vx [⟨tg, iter, ifs, 0⟩] scope pos) (some (.Name y py)) spos.line X.env = pure true) (hi : PI X tg iter wi) (ok : BlkOk X.N X.env.scope scope own)
    (hg : ∀ (s : Shared) (H : Hp) (C : Addr) (cl : List (Str × Addr)) (fp : List Addr), PG (X.blk s H scope (compEnvC scope cl C X.env) fp) tg g) (ht : ∀ (s : Shared) (H : Hp) (C : Addr) (cl : List (Str × Addr)) (fp : List Addr), PTs (X.blk s H scope (compEnvC scope cl C X.env) fp) ifs tt)
    (hk : ∀ (s : Shared) (H : Hp) (C : Addr) (cl : List (Str × Addr)) (fp : List Addr), PE (X.blk s H scope (compEnvC scope cl C X.env) fp) kx tk)
    (he : ∀ (s : Shared) (H : Hp) (C : Addr) (cl : List (Str × Addr)) (fp : List Addr), PE (X.blk s H scope (compEnvC scope cl C X.env) fp) vx tv) (hs : ∀ x, foldedSetIterable iter X.env x = pure x := by intro _; rfl) :
    PS X (.Assign [.Name y py] (.DictComp kx vx [⟨tg, iter, ifs, 0⟩] scope pos) spos) (tAsg (tDc wi g tt tk tv (own.map (·.2))) (gName i)) := by
  refine ⟨fun pins s σ H D I h => ?_⟩
  rw [exec_Assign_Name_used _ _ _ _ hsw]
  refine wpAny_bind (wpAny_standAt (wpAny_bind ?_))
  show wpAny _ X.A (do let _ ← comprehension (.DictComp kx vx [⟨tg, iter, ifs, 0⟩] scope pos) scope X.env (firstIterPos [⟨tg, iter, ifs, 0⟩] pos) newDict false (eval iter X.env) (some (assign (.Name y py) X.env))) _ _ s
  have h : tDc wi g tt tk tv (own.map (·.2)) σ H (fun x H1 => gName i x σ H1 D.nx) := h
  refine wpAny_bind (thn (dc_core (Qf := fun _ s' => SP X pins D .next s') hc hN I hi ok hg ht hk he hs h fun L C s' m H' I' q hn f => ?_) fun _ s' hq => wpAny_pure (wpAny_pure hq))
  show wpAny _ _ (assign (.Name y py) X.env (.ref L)) _ _ _
  refine wpAny_assign_Name (store_ok2 (v := V.ref L) I' hN hy (.inl hyl) rfl (fun s2 I2 ⟨a, sb, ha⟩ => ?_) (.inr hyl))
  obtain ⟨f0, f1, f2, f3, f4, f5⟩ := f
  have haC : C ≠ a := by
    rcases ha with z | z
    · rw [z]; exact f1
    · exact fun e => f4 y a z e.symm
  refine ⟨m, hn.sameBut sb haC, fun h3 sb3 => ?_⟩
  exact ⟨_, H', I2.turned (t' := s2.toks) (fun b o hb e => (sb3.2 b hb).trans e) f0 f1 f3 f4 f5, q⟩
theorem ds_setDc (i : Nat) {y : Str} {py spos : Pos} {kx vx tg iter : Expr} {ifs : List Expr} {scope : Scope} {own : List (Str × Nat)} {fi : Ix} {c : CT} {t : Bx} {ke va : Ex} (hi : DI X Γ k Wx tg iter fi) (ok : BlkOk X.N X.env.scope scope own) (hv : ∀ i ∈ c.slots, i ∈ own.map (·.2))
    (hg : ∀ (s : Shared) (H : Hp) (C : Addr) (cl : List (Str × Addr)) (fp : List Addr), (Cx.bk X scope s H C cl fp).N.Nodup → (Cx.bk X scope s H C cl fp).calm = true → PG (Cx.bk X scope s H C cl fp) tg (c.tg X.K))
    (ht : ∀ (s : Shared) (H : Hp) (C : Addr) (cl : List (Str × Addr)) (fp : List Addr), DTs (Cx.bk X scope s H C cl fp) Γ k W0 ifs t)
    (hk : ∀ (s : Shared) (H : Hp) (C : Addr) (cl : List (Str × Addr)) (fp : List Addr), DE (Cx.bk X scope s H C cl fp) Γ k W0 kx ke)
    (he : ∀ (s : Shared) (H : Hp) (C : Addr) (cl : List (Str × Addr)) (fp : List Addr), DE (Cx.bk X scope s H C cl fp) Γ k W0 vx va)
    (hsw : swapsWith (.DictComp kx vx [⟨tg, iter, ifs, 0⟩] scope pos) (some (.Name y py)) spos.line X.env = pure true)
    (hy : X.N[i]? = some y := by rfl) (hyl : X.env.scope.names.lookup y = some .local := by rfl) (hs : ∀ x, foldedSetIterable iter X.env x = pure x := by intro _; rfl) :
    DS X Γ k Wx (.Assign [.Name y py] (.DictComp kx vx [⟨tg, iter, ifs, 0⟩] scope pos) spos) (sSet i (cDc (own.map (·.2)) fi c t ke va)) := fun g =>
  PS.imp (ps_setDc g.calm g.nd hy hyl hsw (hi g) ok (fun s H C cl fp => hg s H C cl fp g.nd g.calm) (fun s H C cl fp => ht s H C cl fp (g.blk scope s H C cl fp)) (fun s H C cl fp => hk s H C cl fp (g.blk scope s H C cl fp)) (fun s H C cl fp => he s H C cl fp (g.blk scope s H C cl fp)) hs) fun D' σ H q => by
    obtain ⟨ρ, env, L, rl, re, q⟩ := q
    have q2 : tEx Γ Wx (cDc (own.map (·.2)) fi c t ke va) σ H (fun x H1 => gName i x σ H1 D'.nx) := tG_toS rl re q fun ρ1 H1 w v L1 _ a1 re1 r1 h1 => h1 ρ1 H1 _ (.refl a1.rl) (re1.set i r1)
    obtain ⟨ρ, env, L, rl, re, q⟩ := q2
    refine tG_bindE rl re q fun ρ1 H1 S J L1 ea a1 re1 hS h1 => ?_
    intro D hD
    exact dc_read g.K hv a1.rl re1 hS h1 D hD
end
end Z

/-! ZW: what a meaning leads to: Ev (a value and a heap), EvS (a block). -/
namespace Z
open PySem PySem.Spec PyProof.Rows L2
def Ev {α : Type} (r : Res α) (Q : α → LH → Prop) : Prop := match r with
  | .ok a L => Q a L
  | _ => False
def EvO (r : OV) (Q : W → LH → Prop) : Prop := match r with
  | some (w, L) => Q w L
  | none => False
def EvS (r : SRes) (N : Env → LH → Prop) (R : W → LH → Prop) : Prop := match r with
  | .nx e L => N e L
  | .rt w L => R w L
  | _ => False
section
variable {α β : Type} {env : Env} {L : LH} {Q : W → LH → Prop} {N : Env → LH → Prop} {R : W → LH → Prop}
theorem Ev.mono {r : Res α} {Q Q' : α → LH → Prop} (h : Ev r Q) (i : ∀ a L, Q a L → Q' a L) : Ev r Q' := by
  cases r with
  | ok a L => exact i a L h
  | exc e L => exact h
  | stk => exact h
theorem EvS.mono {r : SRes} {N' : Env → LH → Prop} {R' : W → LH → Prop} (h : EvS r N R) (i : ∀ e L, N e L → N' e L) (j : ∀ e L, R e L → R' e L) : EvS r N' R' := by
  cases r with
  | nx a L => exact i a L h
  | rt a L => exact j a L h
  | bk e L => exact h
  | ct e L => exact h
  | exc e a L => exact h
  | stk => exact h
theorem Ev.ex {r : Res α} {Q : α → LH → Prop} (h : Ev r Q) : ∃ a L, r = .ok a L ∧ Q a L := by
  cases r with
  | ok a L => exact ⟨a, L, rfl, h⟩
  | exc e L => exact h.elim
  | stk => exact h.elim
theorem ev_ok {a : α} {Q : α → LH → Prop} : Ev (.ok a L) Q = Q a L := rfl
theorem ev_bind {r : Res α} {k : α → LH → Res β} {Q : β → LH → Prop} : Ev (r.bind k) Q = Ev r fun a L => Ev (k a L) Q := by cases r <;> rfl
theorem ev_only {r : Res α} {Q : α → LH → Prop} : Ev r.only Q = Ev r Q := by cases r <;> rfl
theorem ev_ofO {r : OV} : Ev (ofO r) Q = EvO r Q := by cases r <;> rfl
theorem ev_ofOB {r : Option Bool} {Q : Bool → LH → Prop} : Ev (ofOB r L) Q = match r with | some b => Q b L | none => False := by cases r <;> rfl
theorem ev_ite {c : Prop} [Decidable c] {r s : Res α} {Q : α → LH → Prop} : Ev (if c then r else s) Q = if c then Ev r Q else Ev s Q := by split <;> rfl
theorem evs_ite {c : Prop} [Decidable c] {r s : SRes} : EvS (if c then r else s) N R = if c then EvS r N R else EvS s N R := by split <;> rfl
theorem evo_some {w : W} : EvO (some (w, L)) Q = Q w L := rfl
theorem evo_ite {c : Prop} [Decidable c] {r : OV} : EvO (if c then r else none) Q = (c ∧ EvO r Q) := by
  split
  · rename_i h; simp [h]
  · rename_i h; simp [h, EvO]
theorem evs_toS {r : Res α} {k : α → LH → SRes} : EvS (r.toS env k) N R = Ev r fun a L => EvS (k a L) N R := by cases r <;> rfl
theorem evs_seq {a b : Sx} : EvS (sSeq a b env L) N R = EvS (a env L) (fun e L => EvS (b e L) N R) R := by
  unfold sSeq; cases a env L <;> rfl
/-! ### expressions -/
theorem ev_C {w : W} : Ev (cC w env L) Q = Q w L := rfl
theorem ev_var {i : Nat} : Ev (cVar i env L) Q = match env[i]? with | some (some w) => Q w L | _ => False := by
  unfold cVar
  cases env[i]? with
  | none => rfl
  | some o => cases o <;> rfl
theorem ev_op2 {o : W → W → LH → OV} {f h : Ex} : Ev (cOp2 o f h env L) Q = Ev (f env L) fun a L1 => Ev (h env L1) fun b L2 => EvO (o a b L2) Q := by
  unfold cOp2; simp only [ev_bind, ev_ofO]
theorem ev_op1 {o : W → LH → OV} {f : Ex} : Ev (cOp1 o f env L) Q = Ev (f env L) fun a L1 => EvO (o a L1) Q := by
  unfold cOp1; simp only [ev_bind, ev_ofO]
theorem ev_opL {o : List W → LH → OV} {f : ExL} : Ev (cOpL o f env L) Q = Ev (f env L) fun a L1 => EvO (o a L1) Q := by
  unfold cOpL; simp only [ev_bind, ev_ofO]
theorem ev_nil {Q : List W → LH → Prop} : Ev (cNil env L) Q = Q [] L := rfl
theorem ev_cons {f : Ex} {g : ExL} {Q : List W → LH → Prop} : Ev (cCons f g env L) Q = Ev (f env L) fun a L1 => Ev (g env L1) fun as L2 => Q (a :: as) L2 := by
  unfold cCons; simp only [ev_bind, ev_ok]
theorem ev_call {g : Fn} {d : List W} {fs : ExL} : Ev (cCall g d fs env L) Q = Ev (fs env L) fun as L1 => Ev (g (as ++ d) L1) Q := by
  unfold cCall; simp only [ev_bind]
theorem ev_bVal {f : Ex} {Q : Bool → LH → Prop} : Ev (bVal f env L) Q = Ev (f env L) fun a L1 => match blW a with | some b => Q b L1 | none => False := by
  unfold bVal; simp only [ev_bind, ev_ofOB]
theorem ev_bTru {f : Ex} {Q : Bool → LH → Prop} : Ev (bTru f env L) Q = Ev (f env L) fun a L1 => match truW a L1 with | some b => Q b L1 | none => False := by
  unfold bTru; simp only [ev_bind, ev_ofOB]
theorem ev_bNot {t : Bx} {Q : Bool → LH → Prop} : Ev (bNot t env L) Q = Ev (t env L) fun b L1 => Q (!b) L1 := by
  unfold bNot; simp only [ev_bind, ev_ok]
theorem ev_bAnd {t u : Bx} {Q : Bool → LH → Prop} : Ev (bAnd t u env L) Q = Ev (t env L) fun b L1 => if b = true then Ev (u env L1) Q else Q false L1 := by
  unfold bAnd; simp only [ev_bind, ev_ite, ev_ok]
theorem ev_bOr {t u : Bx} {Q : Bool → LH → Prop} : Ev (bOr t u env L) Q = Ev (t env L) fun b L1 => if b = true then Q true L1 else Ev (u env L1) Q := by
  unfold bOr; simp only [ev_bind, ev_ite, ev_ok]
theorem ev_bYes {Q : Bool → LH → Prop} : Ev (bYes env L) Q = Q true L := rfl
theorem ev_cIf {t : Bx} {f h : Ex} : Ev (cIf t f h env L) Q = Ev (t env L) fun b L1 => if b = true then Ev (f env L1) Q else Ev (h env L1) Q := by
  unfold cIf; simp only [ev_bind, ev_ite]
theorem ev_cNot {f : Ex} : Ev (cNot f env L) Q = Ev (f env L) fun a L1 => match truW a L1 with | some b => Q (.bl (!b)) L1 | none => False := by
  unfold cNot; simp only [ev_bind, ev_ofOB, ev_ok]
theorem ev_cAnd {f h : Ex} : Ev (cAnd f h env L) Q = Ev (f env L) fun a L1 => match truW a L1 with | some b => if b = true then Ev (h env L1) Q else Q a L1 | none => False := by
  unfold cAnd; simp only [ev_bind, ev_ofOB, ev_ok, ev_ite]
theorem ev_cOr {f h : Ex} : Ev (cOr f h env L) Q = Ev (f env L) fun a L1 => match truW a L1 with | some b => if b = true then Q a L1 else Ev (h env L1) Q | none => False := by
  unfold cOr; simp only [ev_bind, ev_ofOB, ev_ok, ev_ite]
theorem ev_chain {o o' : W → W → LH → OV} {f g h : Ex} : Ev (cChain o o' f g h env L) Q = Ev (f env L) fun a L1 => Ev (g env L1) fun b L2 => EvO (o a b L2) fun z L3 => match blW z with | some c => if c = true then Ev (h env L3) (fun y L5 => EvO (o' b y L5) Q) else Q (.bl false) L3 | none => False := by
  unfold cChain; simp only [ev_bind, ev_ofO, ev_ofOB, ev_ok, ev_ite]
theorem ev_part_none {Q : Option Int → LH → Prop} : Ev (cPart none env L) Q = Q none L := rfl
theorem ev_part_some {f : Ex} {Q : Option Int → LH → Prop} : Ev (cPart (some f) env L) Q = Ev (f env L) fun a L1 => match a with | .int i => Q (some i) L1 | _ => False := by
  unfold cPart
  simp only [ev_bind]
  congr
  funext a L1
  cases a <;> rfl
theorem ev_sl {f : Ex} {lo hi : Option Ex} : Ev (cSl f lo hi env L) Q = Ev (f env L) fun a L1 => Ev (cPart lo env L1) fun l L2 => Ev (cPart hi env L2) fun h L3 => EvO (oSl a l h L3) Q := by
  unfold cSl; simp only [ev_bind, ev_ofO]
theorem ev_mth {chk : W → LH → Bool} {o : W → List W → LH → OV} {f : Ex} {fs : ExL} : Ev (cMth chk o f fs env L) Q = Ev (f env L) fun a L1 => chk a L1 = true ∧ Ev (fs env L1) fun as L2 => EvO (o a as L2) Q := by
  unfold cMth
  simp only [ev_bind]
  congr
  funext a L1
  split
  · rename_i h; simp [h, ev_bind, ev_ofO]
  · rename_i h; simp [h, Ev]
/-! ### blocks -/
theorem evs_skip : EvS (sSkip env L) N R = N env L := rfl
theorem evs_set {i : Nat} {f : Ex} : EvS (sSet i f env L) N R = Ev (f env L) fun w L1 => N (env.set i (some w)) L1 := by
  unfold sSet; simp only [evs_toS]; rfl
theorem evs_ret {f : Ex} : EvS (sRet f env L) N R = Ev (f env L) R := by
  unfold sRet; simp only [evs_toS]; rfl
theorem evs_expr {f : Ex} : EvS (sExpr f env L) N R = Ev (f env L) fun _ L1 => N env L1 := by
  unfold sExpr; simp only [evs_toS]; rfl
theorem evs_if {t : Bx} {a b : Sx} : EvS (sIf t a b env L) N R = Ev (t env L) fun c L1 => if c = true then EvS (a env L1) N R else EvS (b env L1) N R := by
  unfold sIf; simp only [evs_toS, evs_ite]
theorem evs_par {i j : Nat} {f : ExL} : EvS (sPar i j f env L) N R = Ev (f env L) fun ws L1 => match ws with | [a, b] => N ((env.set i (some a)).set j (some b)) L1 | _ => False := by
  unfold sPar; simp only [evs_toS]
  congr
  funext ws L1
  match ws with
  | [] => rfl
  | [_] => rfl
  | [_, _] => rfl
  | _ :: _ :: _ :: _ => rfl
theorem evs_as {v : Ex} {t : Tx} : EvS (sAs v t env L) N R = Ev (v env L) fun w L1 => Ev (t w env L1) N := by
  unfold sAs; simp only [evs_toS]
  congr
  funext w L1
  unfold tgt
  cases t w env L1 <;> rfl
theorem ev_gN {i : Nat} {w : W} : Ev (gN i w env L) N = N (env.set i (some w)) L := rfl
theorem ev_gsNil : Ev (gsNil [] env L) N = N env L := rfl
theorem ev_gsCons {t : Tx} {u : List W → Env → LH → Res Env} {w : W} {ws : List W} : Ev (gsCons t u (w :: ws) env L) N = Ev (t w env L) fun e L1 => Ev (u ws e L1) N := by
  unfold gsCons; simp only [ev_bind]
theorem ev_gTup {n : Nat} {u : List W → Env → LH → Res Env} {ws : List W} : Ev (gTupW n u (.tup ws) env L) N = (ws.length = n ∧ Ev (u ws env L) N) := by
  unfold gTupW
  simp only
  split
  · rename_i h; simp [h]
  · rename_i h; simp [h, Ev]
theorem ev_gIx {f h : Ex} {w : W} : Ev (gIx f h w env L) N = Ev (f env L) fun o L1 => Ev (h env L1) fun i L2 => match oPut o i w L2 with | some L3 => N env L3 | none => False := by
  unfold gIx; simp only [ev_bind]
  congr; funext o L1; congr; funext i L2
  cases oPut o i w L2 <;> rfl
theorem evs_aug {i : Nat} {o : W → W → LH → OV} {v : Ex} : EvS (sAug i o v env L) N R = match env[i]? with | some (some a) => Ev (v env L) fun w L1 => EvO (o a w L1) fun z L2 => N (env.set i (some z)) L2 | _ => False := by
  unfold sAug
  cases env[i]? with
  | none => rfl
  | some o => cases o with
    | none => rfl
    | some a => simp only [evs_toS, ev_ofO]; rfl
theorem ev_defF {n m : Nat} {b : Sx} {as : List W} : Ev (defF n m b as L) Q = (as.length = m ∧ EvS (b (as.map some ++ List.replicate (n - m) none) L) (fun _ L' => Q .non L') Q) := by
  unfold defF
  split
  · rename_i h
    simp only [h, true_and]
    cases b (as.map some ++ List.replicate (n - m) none) L <;> rfl
  · rename_i h; simp [h, Ev]
/-! ### loops -/
theorem for_inv {S : Src} {t : Tx} {b : Sx} (P : Nat → Env → LH → Prop) {n : Nat} (hs : ∀ i env L, i < n → P i env L → ∃ w, S.get L i = some (some w) ∧ Ev (t w env L) fun e1 L1 => EvS (b e1 L1) (fun e L => P (i + 1) e L) R)
    (hd : ∀ env L, P n env L → S.get L n = some none ∧ N env L) : ∀ (m i : Nat) (env : Env) (L : LH), i + m = n → P i env L → EvS (forLoop S t b (m + 1) i env L) N R
  | 0, i, env, L, e, p => by
    have e : i = n := by omega
    subst e
    obtain ⟨h1, h2⟩ := hd env L p
    unfold forLoop
    rw [h1]
    exact h2
  | m + 1, i, env, L, e, p => by
    obtain ⟨w, h1, h2⟩ := hs i env L (by omega) p
    unfold forLoop
    rw [h1]
    simp only
    cases et : t w env L with
    | exc e L => rw [et] at h2; exact h2.elim
    | stk => rw [et] at h2; exact h2.elim
    | ok e1 L1 =>
      rw [et] at h2
      simp only [Ev] at h2
      simp only
      cases eb : b e1 L1 with
      | nx e2 L2 => rw [eb] at h2; exact for_inv P hs hd m (i + 1) e2 L2 (by omega) h2
      | rt w2 L2 => rw [eb] at h2; exact h2
      | bk e2 L2 => rw [eb] at h2; exact h2.elim
      | ct e2 L2 => rw [eb] at h2; exact h2.elim
      | exc e3 e2 L2 => rw [eb] at h2; exact h2.elim
      | stk => rw [eb] at h2; exact h2.elim
theorem evs_for {it : Ix} {t : Tx} {b : Sx} : EvS (sFor it t b env L) N R = Ev (it env L) fun S L1 => EvS (forLoop S t b (S.len + 1) 0 env L1) N R := by
  unfold sFor; simp only [evs_toS]
theorem ev_rng1 {f : ExL} {Q : Src → LH → Prop} : Ev (iRng1 f env L) Q = Ev (f env L) fun as L1 => match as with | [.int j] => (-(2 ^ 62) ≤ j ∧ j < 2 ^ 62) ∧ Q (srcR 0 j.toNat) L1 | _ => False := by
  unfold iRng1; simp only [ev_bind]
  congr; funext as L1
  match as with
  | [] => rfl
  | [.int j] => 
    show Ev (if -(2 ^ 62) ≤ j ∧ j < 2 ^ 62 then _ else _) _ = ((-(2 ^ 62) ≤ j ∧ j < 2 ^ 62) ∧ _)
    by_cases h : -(2 ^ 62) ≤ j ∧ j < 2 ^ 62
    · rw [if_pos h]; simp only [h, true_and]; rfl
    · rw [if_neg h]; simp only [h, false_and]; rfl
  | [.non] => rfl
  | [.bl _] => rfl
  | [.str _] => rfl
  | [.tup _] => rfl
  | [.ref _] => rfl
  | [.ty _] => rfl
  | [.cls _] => rfl
  | [.fn _] => rfl
  | [.scr _] => rfl
  | a :: _ :: _ => cases a <;> rfl
theorem ev_iSeq {f : Ex} {Q : Src → LH → Prop} : Ev (iSeq f env L) Q = Ev (f env L) fun a L1 => match srcOf a L1 with | some S => Q S L1 | none => False := by
  unfold iSeq; simp only [ev_bind]
  congr; funext a L1
  cases srcOf a L1 <;> rfl
theorem lc_inv {S : Src} {c : CT} {t : Bx} {e : Ex} {Q : List W → LH → Prop} (P : Nat → LH → List W → Prop) {n : Nat}
    (hs : ∀ i L acc, i < n → P i L acc → ∃ w, S.get L i = some (some w) ∧ ∃ env1, c.set w env = some env1 ∧ Ev (t env1 L) fun b L1 => if b = true then Ev (e env1 L1) fun y L2 => acc.length < 16777216 ∧ P (i + 1) L2 (acc ++ [y]) else P (i + 1) L1 acc)
    (hd : ∀ L acc, P n L acc → S.get L n = some none ∧ Q acc L) : ∀ (m i : Nat) (L : LH) (acc : List W), i + m = n → P i L acc → Ev (lcLoop S c t e env (m + 1) i L acc) Q
  | 0, i, L, acc, ee, p => by
    have ee : i = n := by omega
    subst ee
    obtain ⟨h1, h2⟩ := hd L acc p
    unfold lcLoop
    rw [h1]
    exact h2
  | m + 1, i, L, acc, ee, p => by
    obtain ⟨w, h1, env1, h2, h3⟩ := hs i L acc (by omega) p
    unfold lcLoop
    rw [h1]
    simp only
    rw [h2]
    simp only [ev_bind, ev_only, ev_ite]
    refine h3.mono fun b L1 hb => ?_
    cases b with
    | false => exact lc_inv P hs hd m (i + 1) L1 acc (by omega) hb
    | true =>
      simp only [if_true] at hb ⊢
      refine hb.mono fun y L2 hy => ?_
      rw [if_pos hy.1]
      exact lc_inv P hs hd m (i + 1) L2 (acc ++ [y]) (by omega) hy.2
theorem ev_lc {vs : List Nat} {it : Ix} {c : CT} {t : Bx} {e : Ex} : Ev (cLc vs it c t e env L) Q = Ev (it env L) fun S L1 => Ev (lcLoop S c t e (wipeE env vs) (S.len + 1) 0 L1 []) fun acc L2 => Q (.ref L2.length) (L2 ++ [.lst acc]) := by
  unfold cLc; simp only [ev_bind, ev_ok]
/-! ### operations -/
theorem o_addI {i j : Int} : EvO (oAdd (.int i) (.int j) L) Q = Q (.int (i + j)) L := rfl
theorem o_subI {i j : Int} : EvO (oSub (.int i) (.int j) L) Q = Q (.int (i - j)) L := rfl
theorem o_addS {x y : Str} : EvO (oAdd (.str x) (.str y) L) Q = (x.length + y.length ≤ 16777216 ∧ Q (.str (x ++ y)) L) := evo_ite
theorem o_addT {x y : List W} : EvO (oAdd (.tup x) (.tup y) L) Q = (x.length + y.length ≤ 16777216 ∧ Q (.tup (x ++ y)) L) := evo_ite
theorem o_mulI {i j : Int} : EvO (oMul (.int i) (.int j) L) Q = (((-(2 ^ 64) < i ∧ i < 2 ^ 64) ∨ (-(2 ^ 64) < j ∧ j < 2 ^ 64)) ∧ Q (.int (i * j)) L) := evo_ite
theorem o_modI {i j : Int} : EvO (oMod (.int i) (.int j) L) Q = (0 < j ∧ Q (.int (i % j)) L) := evo_ite
theorem o_divI {i j : Int} : EvO (oDiv (.int i) (.int j) L) Q = ((0 < j ∧ j < 1073741824) ∧ Q (.int (i / j)) L) := evo_ite
theorem o_powI {i j : Int} : EvO (oPow (.int i) (.int j) L) Q = ((0 ≤ j ∧ j ≤ 1000000 ∧ i.natAbs < 2 ^ 64) ∧ Q (.int (i ^ j.toNat)) L) := evo_ite
theorem o_cmpI {p : Int → Int → Bool} {i j : Int} : EvO (oCmp p (.int i) (.int j) L) Q = Q (.bl (p i j)) L := rfl
theorem o_intI {i : Int} : EvO (oInt [.int i] L) Q = Q (.int i) L := rfl
theorem o_intB {b : Bool} : EvO (oInt [.bl b] L) Q = Q (.int (if b then 1 else 0)) L := rfl
theorem o_absI {i : Int} : EvO (oAbs [.int i] L) Q = Q (.int (if i < 0 then -i else i)) L := rfl
theorem o_lst {ws : List W} : EvO (oLst ws L) Q = (ws.length ≤ 16777216 ∧ Q (.ref L.length) (L ++ [.lst ws])) := evo_ite
theorem o_tup {ws : List W} : EvO (oTup ws L) Q = (ws.length ≤ 16777216 ∧ Q (.tup ws) L) := evo_ite
theorem bl_bl {b : Bool} : blW (.bl b) = some b := rfl
end
end Z

/-! Z12: a dict is walked: locked while it is walked, then let go. -/
namespace Z
open PySem PySem.Spec PyProof.Rows L2
/-- within body the dict that f tells is locked -/
def lockE (f : Ex) (body : Ex) : Ex := fun env L => match f env L with
  | .ok (.ref n) _ => match L[n]? with
    | some (.dic kvs) => (body env (L.set n (.lck kvs))).only.bind fun w L2 => match L2[n]? with
      | some (.lck kvs') => .ok w (L2.set n (.dic kvs'))
      | _ => .stk
    | _ => .stk
  | _ => .stk
def lockS (f : Ex) (body : Sx) : Sx := fun env L => match f env L with
  | .ok (.ref n) _ => match L[n]? with
    | some (.dic kvs) => match body env (L.set n (.lck kvs)) with
      | .nx e L2 => match L2[n]? with
        | some (.lck kvs') => .nx e (L2.set n (.dic kvs'))
        | _ => .stk
      | .rt w L2 => match L2[n]? with
        | some (.lck kvs') => .rt w (L2.set n (.dic kvs'))
        | _ => .stk
      | .bk e L2 => match L2[n]? with
        | some (.lck kvs') => .bk e (L2.set n (.dic kvs'))
        | _ => .stk
      | .ct e L2 => match L2[n]? with
        | some (.lck kvs') => .ct e (L2.set n (.dic kvs'))
        | _ => .stk
      | _ => .stk
    | _ => .stk
  | _ => .stk
section
variable {X : Cx} {Γ : Ctx} {k : Nat} {Wx : WX} {pos : Pos}
theorem d_lock {e : Expr} (f : Ex) {body : Ex} (h : DE X Γ k Wx e body) : DE X Γ k Wx e (lockE f body) := fun g =>
  PE.imp (pe_lock (h g)) fun σ H Q q => by
    obtain ⟨ρ, env, L, rl, re, q⟩ := q
    unfold lockE at q
    split at q
    · rename_i n L' ef
      split at q
      · rename_i kvs eo
        obtain ⟨p, ep, us, hp, rk⟩ := rl.obj n _ eo
        refine ⟨p, .dK us, hp, trivial, fun od => ?_⟩
        have af : Aft Γ ρ H (L.set n (.lck kvs)) ρ (upd H p (.frz od (.dK us))) := .set rl eo ep ⟨od, us, upd_same, rk.mono (List.prefix_refl _) (.write hp rfl)⟩
        refine ⟨ρ, env, _, af.rl, re.mono af.pre af.kp, ?_⟩
        cases eb : body env (L.set n (.lck kvs)) with
        | exc e' L2 => rw [eb] at q; exact q.elim
        | stk => rw [eb] at q; exact q.elim
        | ok w L2 =>
          rw [eb] at q
          simp only [Res.only, Res.bind] at q
          intro ρ' H' v a r
          split at q
          · rename_i kvs' eo2
            obtain ⟨a2, h1⟩ := Aft.free hp ep a eo2
            exact ⟨h1, q ρ' _ v a2 (r.free h1)⟩
          · exact q.elim
      · exact q.elim
    · exact q.elim
theorem ds_lock {st : Stmt} (f : Ex) {body : Sx} (h : DS X Γ k Wx st body) : DS X Γ k Wx st (lockS f body) := fun g =>
  PS.imp (ps_lock (h g)) fun D σ H q => by
    obtain ⟨ρ, env, L, rl, re, q⟩ := q
    unfold lockS at q
    split at q
    · rename_i n L' ef
      split at q
      · rename_i kvs eo
        obtain ⟨p, ep, us, hp, rk⟩ := rl.obj n _ eo
        refine ⟨p, .dK us, hp, trivial, fun od => ?_⟩
        have af : Aft Γ ρ H (L.set n (.lck kvs)) ρ (upd H p (.frz od (.dK us))) := .set rl eo ep ⟨od, us, upd_same, rk.mono (List.prefix_refl _) (.write hp rfl)⟩
        refine ⟨ρ, env, _, af.rl, re.mono af.pre af.kp, ?_⟩
        cases eb : body env (L.set n (.lck kvs)) with
        | exc e' en L2 => rw [eb] at q; exact q.elim
        | stk => rw [eb] at q; exact q.elim
        | nx w L2 =>
          rw [eb] at q
          simp only at q
          intro ρ' H' v a r
          split at q
          · rename_i kvs' eo2
            obtain ⟨a2, h1⟩ := Aft.free hp ep a eo2
            exact ⟨h1, q ρ' _ v a2 (r.free h1)⟩
          · exact q.elim
        | rt w L2 =>
          rw [eb] at q
          simp only at q
          intro ρ' H' v a r
          split at q
          · rename_i kvs' eo2
            obtain ⟨a2, h1⟩ := Aft.free hp ep a eo2
            exact ⟨h1, q ρ' _ v a2 (r.free h1)⟩
          · exact q.elim
        | bk w L2 =>
          rw [eb] at q
          simp only at q
          intro ρ' H' v a r
          split at q
          · rename_i kvs' eo2
            obtain ⟨a2, h1⟩ := Aft.free hp ep a eo2
            exact ⟨h1, q ρ' _ v a2 (r.free h1)⟩
          · exact q.elim
        | ct w L2 =>
          rw [eb] at q
          simp only at q
          intro ρ' H' v a r
          split at q
          · rename_i kvs' eo2
            obtain ⟨a2, h1⟩ := Aft.free hp ep a eo2
            exact ⟨h1, q ρ' _ v a2 (r.free h1)⟩
          · exact q.elim
      · exact q.elim
    · exact q.elim
/-! ### its keys, values, pairs -/
def kW : Key → W
  | .inl i => .int i
  | .inr x => .str x
def lckL (L : LH) (n : Nat) : Option (List (Key × W)) := match L[n]? with
  | some (.lck kvs) => some kvs
  | _ => none
theorem rw_kW {ρ : List Addr} {H : Hp} (kk : Key) : RW Γ ρ H (kW kk) (kV kk) := by
  cases kk with
  | inl i => exact .int i
  | inr x => exact .str x
theorem lck_inv {ρ : List Addr} {H : Hp} {L : LH} {n : Nat} {p : Addr} {kvs : List (Key × W)} (rl : RL Γ ρ L H) (ep : ρ[n]? = some p) (h : lckL L n = some kvs) : ∃ od vs, H p = some (.frz od (.dK vs)) ∧ RKs Γ ρ H kvs vs := by
  unfold lckL at h
  split at h
  · rename_i ks e
    cases h
    obtain ⟨p', ep', od, vs, hp, rk⟩ := rl.obj n _ e
    rw [ep] at ep'; cases ep'
    exact ⟨od, vs, hp, rk⟩
  · cases h
theorem RKs.get {κ : Type} {ρ : List Addr} {H : Hp} : ∀ {ws : List (κ × W)} {vs : List (κ × V)} {i : Nat} {kk : κ} {w : W}, RKs Γ ρ H ws vs → ws[i]? = some (kk, w) → ∃ v, vs[i]? = some (kk, v) ∧ RW Γ ρ H w v
  | _, _, _, _, _, .nil, e => by simp at e
  | _, _, 0, _, _, .cons r _, e => by simp at e; obtain ⟨rfl, rfl⟩ := e; exact ⟨_, rfl, r⟩
  | _, _, i + 1, kk, w, .cons _ t, e => by
    obtain ⟨v, h1, h2⟩ := RKs.get (i := i) (kk := kk) (w := w) t (by simpa using e)
    exact ⟨v, by simpa using h1, h2⟩
def srcK (n : Nat) (m : Nat) : Src := ⟨m, fun L' i => (lckL L' n).map fun kvs => (kvs[i]?).map fun kv => kW kv.1⟩
def srcV (n : Nat) (m : Nat) : Src := ⟨m, fun L' i => (lckL L' n).map fun kvs => (kvs[i]?).map fun kv => kv.2⟩
def srcI (n : Nat) (m : Nat) : Src := ⟨m, fun L' i => (lckL L' n).map fun kvs => (kvs[i]?).map fun kv => W.tup [kW kv.1, kv.2]⟩
def iKy (f : Ex) : Ix := fun env L => (f env L).bind fun a L1 => match a with
  | .ref n => match lckL L1 n with
    | some kvs => .ok (srcK n kvs.length) L1
    | none => .stk
  | _ => .stk
def iVl (f : Ex) : Ix := fun env L => (f env L).bind fun a L1 => match a with
  | .ref n => match lckL L1 n with
    | some kvs => .ok (srcV n kvs.length) L1
    | none => .stk
  | _ => .stk
def iIt (f : Ex) : Ix := fun env L => (f env L).bind fun a L1 => match a with
  | .ref n => match lckL L1 n with
    | some kvs => .ok (srcI n kvs.length) L1
    | none => .stk
  | _ => .stk
theorem di_keys {tg e : Expr} {f : Ex} (he : DE X Γ k Wx e f) : DI X Γ k Wx tg e (iKy f) := fun g =>
  PI.imp (pi_keys (he g)) fun σ H R q => by
    obtain ⟨ρ, env, L, rl, re, q⟩ := q
    refine tG_bindE rl re q fun ρ1 H1 a v L1 ea a1 re1 r1 h1 => ?_
    split at h1
    · rename_i n
      cases el : lckL L1 n with
      | none => rw [el] at h1; exact h1.elim
      | some kvs =>
        rw [el] at h1
        simp only at h1
        cases r1 with
        | ref ep =>
          rename_i p
          obtain ⟨od, vs, hp, rk⟩ := lck_inv a1.rl ep el
          refine ⟨p, od, rfl, .inl ⟨vs, hp, ?_⟩⟩
          refine out_ok (R := RSrc Γ) h1 a1.rl ?_
          intro ρ' H' L' pr kp rl' i
          have hp' := kp.frz _ _ _ hp
          refine ⟨fun w h => ?_, fun h => ?_⟩
          · simp only [srcK] at h
            cases el' : lckL L' n with
            | none => rw [el'] at h; cases h
            | some ks =>
              rw [el'] at h
              obtain ⟨od', vs', hp2, rk'⟩ := lck_inv rl' (pre_get pr ep) el'
              rw [hp'] at hp2; cases hp2
              have hw : (ks[i]?).map (fun kv => kW kv.1) = some w := Option.some.inj h
              cases ek : ks[i]? with
              | none => rw [ek] at hw; cases hw
              | some kv =>
                rw [ek] at hw; cases hw
                obtain ⟨v, ev, rv⟩ := rk'.get (kk := kv.1) (w := kv.2) ek
                refine ⟨⟨hp', (List.getElem?_eq_some_iff.mp ev).1⟩, fun x H2 y => ?_⟩
                obtain ⟨rfl, k', v', e', rfl⟩ := y
                rw [ev] at e'; cases e'
                exact ⟨.refl rl', rw_kW _⟩
          · simp only [srcK] at h
            cases el' : lckL L' n with
            | none => rw [el'] at h; cases h
            | some ks =>
              rw [el'] at h
              obtain ⟨od', vs', hp2, rk'⟩ := lck_inv rl' (pre_get pr ep) el'
              rw [hp'] at hp2; cases hp2
              have hw : (ks[i]?).map (fun kv => kW kv.1) = none := Option.some.inj h
              refine ⟨hp', ?_⟩
              rw [← rk'.length]
              cases ek : ks[i]? with
              | none => exact List.getElem?_eq_none_iff.mp ek
              | some kv => rw [ek] at hw; cases hw
    · exact h1.elim
theorem di_values {tg e : Expr} {f : Ex} {apos cpos : Pos} (he : DE X Γ k Wx e f) (hbase : attributeBase e "values" X.env (eval e X.env) = eval e X.env := by rfl) (hline : (apos.endLine == cpos.line) = true := by rfl) :
    DI X Γ k Wx tg (.Call (.Attribute e "values" apos) [] [] cpos) (iVl f) := fun g =>
  PI.imp (pi_values (he g) hbase hline) fun σ H R q => by
    obtain ⟨ρ, env, L, rl, re, q⟩ := q
    refine tG_bindE rl re q fun ρ1 H1 a v L1 ea a1 re1 r1 h1 => ?_
    split at h1
    · rename_i n
      cases el : lckL L1 n with
      | none => rw [el] at h1; exact h1.elim
      | some kvs =>
        rw [el] at h1
        simp only at h1
        cases r1 with
        | ref ep =>
          rename_i p
          obtain ⟨od, vs, hp, rk⟩ := lck_inv a1.rl ep el
          refine ⟨p, od, vs, rfl, hp, ?_⟩
          refine out_ok (R := RSrc Γ) h1 a1.rl ?_
          intro ρ' H' L' pr kp rl' i
          have hp' := kp.frz _ _ _ hp
          refine ⟨fun w h => ?_, fun h => ?_⟩
          · simp only [srcV] at h
            cases el' : lckL L' n with
            | none => rw [el'] at h; cases h
            | some ks =>
              rw [el'] at h
              obtain ⟨od', vs', hp2, rk'⟩ := lck_inv rl' (pre_get pr ep) el'
              rw [hp'] at hp2; cases hp2
              have hw : (ks[i]?).map (fun kv => kv.2) = some w := Option.some.inj h
              cases ek : ks[i]? with
              | none => rw [ek] at hw; cases hw
              | some kv =>
                rw [ek] at hw; cases hw
                obtain ⟨v, ev, rv⟩ := rk'.get (kk := kv.1) (w := kv.2) ek
                refine ⟨⟨hp', (List.getElem?_eq_some_iff.mp ev).1⟩, fun x H2 y => ?_⟩
                obtain ⟨rfl, k', e'⟩ := y
                rw [ev] at e'; cases e'
                exact ⟨.refl rl', rv⟩
          · simp only [srcV] at h
            cases el' : lckL L' n with
            | none => rw [el'] at h; cases h
            | some ks =>
              rw [el'] at h
              obtain ⟨od', vs', hp2, rk'⟩ := lck_inv rl' (pre_get pr ep) el'
              rw [hp'] at hp2; cases hp2
              have hw : (ks[i]?).map (fun kv => kv.2) = none := Option.some.inj h
              refine ⟨hp', ?_⟩
              rw [← rk'.length]
              cases ek : ks[i]? with
              | none => exact List.getElem?_eq_none_iff.mp ek
              | some kv => rw [ek] at hw; cases hw
    · exact h1.elim
theorem di_items {elts : List Expr} {kk : Nat} {tpos : Pos} {e : Expr} {f : Ex} {apos cpos : Pos} (he : DE X Γ k Wx e f) (hbase : attributeBase e "items" X.env (eval e X.env) = eval e X.env := by rfl) (hline : (apos.endLine == cpos.line) = true := by rfl) :
    DI X Γ k Wx (.Tuple elts kk tpos) (.Call (.Attribute e "items" apos) [] [] cpos) (iIt f) := fun g =>
  PI.imp (pi_items (he g) hbase hline) fun σ H R q => by
    obtain ⟨ρ, env, L, rl, re, q⟩ := q
    refine tG_bindE rl re q fun ρ1 H1 a v L1 ea a1 re1 r1 h1 => ?_
    split at h1
    · rename_i n
      cases el : lckL L1 n with
      | none => rw [el] at h1; exact h1.elim
      | some kvs =>
        rw [el] at h1
        simp only at h1
        cases r1 with
        | ref ep =>
          rename_i p
          obtain ⟨od, vs, hp, rk⟩ := lck_inv a1.rl ep el
          refine ⟨p, od, vs, rfl, hp, ?_⟩
          refine out_ok (R := RSrc Γ) h1 a1.rl ?_
          intro ρ' H' L' pr kp rl' i
          have hp' := kp.frz _ _ _ hp
          refine ⟨fun w h => ?_, fun h => ?_⟩
          · simp only [srcI] at h
            cases el' : lckL L' n with
            | none => rw [el'] at h; cases h
            | some ks =>
              rw [el'] at h
              obtain ⟨od', vs', hp2, rk'⟩ := lck_inv rl' (pre_get pr ep) el'
              rw [hp'] at hp2; cases hp2
              have hw : (ks[i]?).map (fun kv => W.tup [kW kv.1, kv.2]) = some w := Option.some.inj h
              cases ek : ks[i]? with
              | none => rw [ek] at hw; cases hw
              | some kv =>
                rw [ek] at hw; cases hw
                obtain ⟨v, ev, rv⟩ := rk'.get (kk := kv.1) (w := kv.2) ek
                refine ⟨⟨hp', (List.getElem?_eq_some_iff.mp ev).1⟩, fun x H2 y => ?_⟩
                obtain ⟨T, k', v', e', rfl, hT, rfl⟩ := y
                rw [ev] at e'; cases e'
                refine ⟨.fresh rl' hT, .tup (.inl (.inl upd_same)) (.cons (rw_kW _) (.one (rv.mono (List.prefix_refl _) (.fresh hT))))⟩
          · simp only [srcI] at h
            cases el' : lckL L' n with
            | none => rw [el'] at h; cases h
            | some ks =>
              rw [el'] at h
              obtain ⟨od', vs', hp2, rk'⟩ := lck_inv rl' (pre_get pr ep) el'
              rw [hp'] at hp2; cases hp2
              have hw : (ks[i]?).map (fun kv => W.tup [kW kv.1, kv.2]) = none := Option.some.inj h
              refine ⟨hp', ?_⟩
              rw [← rk'.length]
              cases ek : ks[i]? with
              | none => exact List.getElem?_eq_none_iff.mp ek
              | some kv => rw [ek] at hw; cases hw
    · exact h1.elim
end
end Z

/-! printed by canon.py: meanings with their callees as parameters -/
namespace Z
open PySem PySem.Spec PyProof.Rows L2
def f_is_integer : Fn := defF 1 1 (sRet (cAnd (cOpL oIsi (cCons (cVar 0) (cCons (cC (.ty "int")) cNil))) (cNot (cOpL oIsi (cCons (cVar 0) (cCons (cC (.ty "bool")) cNil))))))
-- is_integer: 
def f_is_between (g_is_integer : Fn) : Fn := defF 3 3 (sRet (cAnd (cCall g_is_integer [] (cCons (cVar 0) cNil)) (cChain oLe oLe (cVar 1) (cVar 0) (cVar 2))))
-- is_between: 0
def f_is_value (g_is_between : Fn) : Fn := defF 1 1 (sRet (cCall g_is_between [] (cCons (cVar 0) (cCons (cC (.int 0)) (cCons (cC (.int 2)) cNil)))))
-- is_value: 1
def f_is_name : Fn := defF 2 1 (sRet (cAnd (cOpL oIsi (cCons (cVar 0) (cCons (cC (.ty "str")) cNil))) (cAnd (cChain oLe oLe (cC (.int 1)) (cOpL oLen (cCons (cVar 0) cNil)) (cC (.int 8))) (cOpL oAll (cCons (cLc [1] (iSeq (cVar 0)) (CT.one 1) bYes (cOp2 oInD (cVar 1) (cC (.str "abcdefghijklmnopqrstuvwxyz")))) cNil)))))
-- is_name: 
def f_has_kind : Fn := defF 3 3 (sRet (cAnd (cOpL oIsi (cCons (cVar 0) (cCons (cC (.ty "tuple")) cNil))) (cAnd (cOp2 oEq (cOpL oLen (cCons (cVar 0) cNil)) (cVar 2)) (cAnd (cOpL oIsi (cCons (cOp2 oIx (cVar 0) (cC (.int 0))) (cCons (cC (.ty "str")) cNil))) (cOp2 oEq (cOp2 oIx (cVar 0) (cC (.int 0))) (cVar 1))))))
-- has_kind: 
def f_inner_terms : Fn := defF 1 1 (sSeq (sIf (bNot (bTru (cOpL oIsi (cCons (cVar 0) (cCons (cC (.ty "tuple")) cNil))))) (sRet (cOpL oTup cNil)) sSkip) (sSeq (sIf (bVal (cOp2 oEq (cOp2 oIx (cVar 0) (cC (.int 0))) (cC (.str "call")))) (sRet (cOp2 oIx (cVar 0) (cC (.int 2)))) sSkip) (sRet (cIf (bOr (bVal (cOp2 oInD (cOp2 oIx (cVar 0) (cC (.int 0))) (cC (.tup [(.str "plus"), (.str "less"), (.str "same")])))) (bVal (cOp2 oEq (cOp2 oIx (cVar 0) (cC (.int 0))) (cC (.str "if"))))) (cSl (cVar 0) (some (cC (.int 1))) none) (cOpL oTup cNil)))))
-- inner_terms: 
def f_has_form (g_is_value g_has_kind g_is_between g_is_name : Fn) : Fn := defF 3 2 (sSeq (sIf (bOr (bTru (cCall g_is_value [] (cCons (cVar 0) cNil))) (bTru (cCall g_has_kind [] (cCons (cVar 0) (cCons (cC (.str "tick")) (cCons (cC (.int 1)) cNil)))))) (sRet (cC (.bl true))) sSkip) (sSeq (sIf (bTru (cCall g_has_kind [] (cCons (cVar 0) (cCons (cC (.str "arg")) (cCons (cC (.int 2)) cNil))))) (sRet (cCall g_is_between [] (cCons (cOp2 oIx (cVar 0) (cC (.int 1))) (cCons (cC (.int 0)) (cCons (cOp2 oSub (cVar 1) (cC (.int 1))) cNil))))) sSkip) (sSeq (sIf (bTru (cCall g_has_kind [] (cCons (cVar 0) (cCons (cC (.str "cell")) (cCons (cC (.int 2)) cNil))))) (sRet (cCall g_is_name [] (cCons (cOp2 oIx (cVar 0) (cC (.int 1))) cNil))) sSkip) (sSeq (sIf (bTru (cCall g_has_kind [] (cCons (cVar 0) (cCons (cC (.str "call")) (cCons (cC (.int 3)) cNil))))) (sRet (cAnd (cCall g_is_name [] (cCons (cOp2 oIx (cVar 0) (cC (.int 1))) cNil)) (cAnd (cOpL oIsi (cCons (cOp2 oIx (cVar 0) (cC (.int 2))) (cCons (cC (.ty "tuple")) cNil))) (cOp2 oLe (cOpL oLen (cCons (cOp2 oIx (cVar 0) (cC (.int 2))) cNil)) (cC (.int 2)))))) sSkip) (sRet (cOr (cOpL oAny (cCons (cLc [2] (iSeq (cC (.tup [(.str "plus"), (.str "less"), (.str "same")]))) (CT.one 2) bYes (cCall g_has_kind [] (cCons (cVar 0) (cCons (cVar 2) (cCons (cC (.int 3)) cNil))))) cNil)) (cCall g_has_kind [] (cCons (cVar 0) (cCons (cC (.str "if")) (cCons (cC (.int 4)) cNil))))))))))
-- has_form: 2 4 1 3
def f_is_term (g_has_form g_inner_terms : Fn) : Fn := defF 7 2 (sSeq (sPar 3 4 (cCons (cOpL oLst (cCons (cVar 0) cNil)) (cCons (cC (.int 0)) cNil))) (sSeq (sFor (iRng1 (cCons (cC (.int 8)) cNil)) (gN 2) (sSeq (sAug 4 (oAug oAdd) (cOpL oLen (cCons (cVar 3) cNil))) (sSeq (sIf (bOr (bVal (cOp2 oGt (cVar 4) (cC (.int 30)))) (bNot (bTru (cOpL oAll (cCons (cLc [6] (iSeq (cVar 3)) (CT.one 6) bYes (cCall g_has_form [] (cCons (cVar 6) (cCons (cVar 1) cNil)))) cNil))))) (sRet (cC (.bl false))) sSkip) (sSeq (sSet 3 (cLc2 [5, 6] [6] (iSeq (cVar 3)) (CT.one 5) bYes (iSeq (cCall g_inner_terms [] (cCons (cVar 5) cNil))) (CT.one 6) bYes (cVar 6))) (sIf (bVal (cOp2 oEq (cVar 3) (cOpL oLst cNil))) (sRet (cC (.bl true))) sSkip))))) (sRet (cC (.bl false)))))
-- is_term: 6 5
def f_term_size (g_inner_terms g_term_size : Fn) : Fn := defF 2 1 (sRet (cOp2 oAdd (cC (.int 1)) (cOpL oSum (cCons (cLc [1] (iSeq (cCall g_inner_terms [] (cCons (cVar 0) cNil))) (CT.one 1) bYes (cCall g_term_size [] (cCons (cVar 1) cNil))) cNil))))
-- term_size: 5 8
def f_term_depth (g_inner_terms g_term_depth : Fn) : Fn := defF 2 1 (sSeq (sIf (bVal (cOp2 oEq (cCall g_inner_terms [] (cCons (cVar 0) cNil)) (cOpL oTup cNil))) (sRet (cC (.int 1))) sSkip) (sRet (cOp2 oAdd (cC (.int 1)) (cOpL oMax (cCons (cLc [1] (iSeq (cCall g_inner_terms [] (cCons (cVar 0) cNil))) (CT.one 1) bYes (cOpL oInt (cCons (cCall g_term_depth [] (cCons (cVar 1) cNil)) cNil))) cNil)))))
-- term_depth: 5 9
def f_leaves (g_inner_terms g_leaves : Fn) : Fn := defF 3 1 (sSeq (sSet 1 (cOpL oLst (cCons (cVar 0) cNil))) (sSeq (sFor (iSeq (cCall g_inner_terms [] (cCons (cVar 0) cNil))) (gN 2) (sExpr (cMth isLst oExtend (cVar 1) (cCons (cCall g_leaves [] (cCons (cVar 2) cNil)) cNil)))) (sRet (cVar 1))))
-- leaves: 5 10
def f_names_with (g_leaves : Fn) : Fn := defF 5 2 (sSeq (sSet 2 (cDc [3] (iSeq (cCall g_leaves [] (cCons (cVar 0) cNil))) (CT.one 3) (bAnd (bTru (cOpL oIsi (cCons (cVar 3) (cCons (cC (.ty "tuple")) cNil)))) (bVal (cOp2 oEq (cOp2 oIx (cVar 3) (cC (.int 0))) (cVar 1)))) (cOp2 oIx (cVar 3) (cC (.int 1))) (cC (.bl true)))) (sRet (cOpL oSortedS (cCons (lockE (cVar 2) (cLc [4] (iKy (cVar 2)) (CT.one 4) bYes (cOpL oStr (cCons (cVar 4) cNil)))) cNil))))
-- names_with: 10
def f_cells_in (g_names_with : Fn) : Fn := defF 1 1 (sRet (cCall g_names_with [] (cCons (cVar 0) (cCons (cC (.str "cell")) cNil))))
-- cells_in: 11
def f_calls_in (g_names_with : Fn) : Fn := defF 1 1 (sRet (cCall g_names_with [] (cCons (cVar 0) (cCons (cC (.str "call")) cNil))))
-- calls_in: 11
def f_has_tick (g_leaves : Fn) : Fn := defF 1 1 (sRet (cOp2 oInD (cOpL oTup (cCons (cC (.str "tick")) cNil)) (cCall g_leaves [] (cCons (cVar 0) cNil))))
-- has_tick: 10
def f_law_pool : Fn := defF 5 2 (sSeq (sSet 2 (cIf (bVal (cOp2 oLt (cVar 1) (cOpL oLen (cCons (cVar 0) cNil)))) (cOp2 oIx (cVar 0) (cVar 1)) (cOp2 oAdd (cOp2 oMul (cC (.int 7)) (cOpL oSum (cCons (cSl (cVar 0) none (some (cC (.int 63)))) cNil))) (cVar 1)))) (sSeq (sSet 3 (cOpL oAbs (cCons (cVar 2) cNil))) (sSeq (sSet 4 (cOp2 oAdd (cOp2 oAdd (cOp2 oAdd (cOp2 oMod (cOpL oInt (cCons (cVar 3) cNil)) (cC (.int 2147483629))) (cOp2 oMul (cOp2 oMul (cC (.int 7919)) (cVar 1)) (cVar 1))) (cOp2 oMul (cC (.int 31)) (cVar 1))) (cC (.int 17)))) (sSeq (sSet 4 (cOp2 oMod (cOpL oInt (cCons (cOp2 oMul (cVar 4) (cC (.int 48271))) cNil)) (cC (.int 2147483647)))) (sRet (cOpL oLst (cCons (cOp2 oMul (cVar 3) (cOpL oInt (cCons (cOp2 oGe (cVar 3) (cOp2 oPow (cC (.int 10)) (cC (.int 18)))) cNil))) (cCons (cOp2 oMod (cOpL oInt (cCons (cOp2 oMul (cVar 4) (cVar 4)) cNil)) (cC (.int 2147483629))) cNil))))))))
-- law_pool: 
def f_law_draw : Fn := defF 3 2 (sSeq (sIf (bVal (cOp2 oGt (cOp2 oIx (cVar 0) (cC (.int 0))) (cC (.int 0)))) (sSeq (sSet 2 (cOp2 oMod (cOpL oInt (cCons (cOp2 oIx (cVar 0) (cC (.int 0))) cNil)) (cVar 1))) (sSeq (sAs (cOp2 oDiv (cOp2 oIx (cVar 0) (cC (.int 0))) (cVar 1)) (gIx (cVar 0) (cC (.int 0)))) (sRet (cVar 2)))) sSkip) (sSeq (sAs (cOp2 oMod (cOpL oInt (cCons (cOp2 oAdd (cOp2 oMul (cOp2 oIx (cVar 0) (cC (.int 1))) (cC (.int 48271))) (cC (.int 11))) cNil)) (cC (.int 2147483647))) (gIx (cVar 0) (cC (.int 1)))) (sRet (cOp2 oMod (cOpL oInt (cCons (cOp2 oDiv (cOp2 oMod (cOpL oInt (cCons (cOp2 oMul (cOp2 oIx (cVar 0) (cC (.int 1))) (cOp2 oIx (cVar 0) (cC (.int 1)))) cNil)) (cC (.int 2147483629))) (cC (.int 16))) cNil)) (cVar 1)))))
-- law_draw: 
def f_law_pick (g_law_draw : Fn) : Fn := defF 2 2 (sRet (cOp2 oIx (cVar 1) (cCall g_law_draw [] (cCons (cVar 0) (cCons (cOpL oLen (cCons (cVar 1) cNil)) cNil)))))
-- law_pick: 16
def f_law_names (g_law_draw g_law_pick : Fn) : Fn := defF 9 2 (sSeq (sSet 2 (cC (.str "abcdefghijklmnopqrstuvwxyz"))) (sSeq (sAs (cOpL oTup (cCons (cCall g_law_draw [] (cCons (cVar 0) (cCons (cC (.int 26)) cNil))) (cCons (cOp2 oAdd (cC (.int 1)) (cOp2 oMul (cC (.int 2)) (cCall g_law_draw [] (cCons (cVar 0) (cCons (cC (.int 6)) cNil))))) cNil))) (gTupW 2 (gsCons (gN 4) (gsCons (gN 5) gsNil)))) (sSeq (sSet 3 (cOpL oLst (cCons (cOpL oTup (cCons (cC (.str "")) (cCons (cC (.str "")) cNil))) (cCons (cOpL oTup (cCons (cC (.str "")) (cCons (cC (.str "q")) cNil))) (cCons (cOpL oTup (cCons (cC (.str "ab")) (cCons (cC (.str "")) cNil))) (cCons (cOpL oTup (cCons (cC (.str "abcdefg")) (cCons (cC (.str "")) cNil))) (cCons (cOpL oTup (cCons (cC (.str "")) (cCons (cC (.str "abcdefg")) cNil))) cNil))))))) (sSeq (sAs (cCall g_law_pick [] (cCons (cVar 0) (cCons (cVar 3) cNil))) (gTupW 2 (gsCons (gN 6) (gsCons (gN 7) gsNil)))) (sRet (cLc [8] (iRng1 (cCons (cVar 1) cNil)) (CT.one 8) bYes (cOp2 oAdd (cOp2 oAdd (cVar 6) (cOp2 oIx (cVar 2) (cOp2 oMod (cOpL oInt (cCons (cOp2 oAdd (cVar 4) (cOp2 oMul (cVar 5) (cVar 8))) cNil)) (cC (.int 26))))) (cVar 7))))))))
-- law_names: 16 17
def f_law_term (g_law_draw g_law_pick g_law_term : Fn) : Fn := defF 8 4 (sSeq (sSet 4 (cCall g_law_draw [] (cCons (cVar 0) (cCons (cIf (bVal (cOp2 oGt (cVar 3) (cC (.int 0)))) (cC (.int 9)) (cC (.int 4))) cNil)))) (sSeq (sIf (bOr (bVal (cOp2 oEq (cVar 4) (cC (.int 0)))) (bOr (bAnd (bVal (cOp2 oEq (cVar 4) (cC (.int 1)))) (bVal (cOp2 oEq (cVar 2) (cC (.int 0))))) (bAnd (bVal (cOp2 oInD (cVar 4) (cOpL oLst (cCons (cC (.int 2)) (cCons (cC (.int 8)) cNil))))) (bVal (cOp2 oEq (cOp2 oIx (cVar 1) (cC (.str "cells"))) (cOpL oLst cNil)))))) (sRet (cCall g_law_draw [] (cCons (cVar 0) (cCons (cC (.int 3)) cNil)))) sSkip) (sSeq (sIf (bVal (cOp2 oEq (cVar 4) (cC (.int 1)))) (sRet (cOpL oTup (cCons (cC (.str "arg")) (cCons (cCall g_law_draw [] (cCons (cVar 0) (cCons (cVar 2) cNil))) cNil)))) sSkip) (sSeq (sIf (bOr (bVal (cOp2 oEq (cVar 4) (cC (.int 2)))) (bVal (cOp2 oEq (cVar 4) (cC (.int 8))))) (sRet (cOpL oTup (cCons (cC (.str "cell")) (cCons (cOp2 oIx (cCall g_law_pick [] (cCons (cVar 0) (cCons (cOp2 oIx (cVar 1) (cC (.str "cells"))) cNil))) (cC (.int 0))) cNil)))) sSkip) (sSeq (sIf (bVal (cOp2 oEq (cVar 4) (cC (.int 3)))) (sRet (cIf (bVal (cOp2 oEq (cCall g_law_draw [] (cCons (cVar 0) (cCons (cC (.int 3)) cNil))) (cC (.int 0)))) (cOpL oTup (cCons (cC (.str "tick")) cNil)) (cCall g_law_draw [] (cCons (cVar 0) (cCons (cC (.int 3)) cNil))))) sSkip) (sSeq (sIf (bAnd (bVal (cOp2 oEq (cVar 4) (cC (.int 4)))) (bVal (cOp2 oNe (cOp2 oIx (cVar 1) (cC (.str "functions"))) (cOpL oLst cNil)))) (sSeq (sSet 6 (cCall g_law_pick [] (cCons (cVar 0) (cCons (cOp2 oIx (cVar 1) (cC (.str "functions"))) cNil)))) (sRet (cOpL oTup (cCons (cC (.str "call")) (cCons (cOp2 oIx (cVar 6) (cC (.str "name"))) (cCons (cOpL oTuple (cCons (cLc [7] (iRng1 (cCons (cOp2 oIx (cVar 6) (cC (.str "many"))) cNil)) (CT.one 7) bYes (cCall g_law_term [] (cCons (cVar 0) (cCons (cVar 1) (cCons (cVar 2) (cCons (cC (.int 0)) cNil)))))) cNil)) cNil)))))) sSkip) (sSeq (sIf (bVal (cOp2 oEq (cVar 4) (cC (.int 7)))) (sRet (cOp2 oAdd (cOpL oTup (cCons (cC (.str "if")) cNil)) (cOpL oTuple (cCons (cLc [7] (iRng1 (cCons (cC (.int 3)) cNil)) (CT.one 7) bYes (cCall g_law_term [] (cCons (cVar 0) (cCons (cVar 1) (cCons (cVar 2) (cCons (cOp2 oSub (cVar 3) (cC (.int 1))) cNil)))))) cNil)))) sSkip) (sSeq (sSet 5 (cCall g_law_pick [] (cCons (cVar 0) (cCons (cOpL oLst (cCons (cC (.str "plus")) (cCons (cC (.str "less")) (cCons (cC (.str "same")) cNil)))) cNil)))) (sRet (cOpL oTup (cCons (cVar 5) (cCons (cCall g_law_term [] (cCons (cVar 0) (cCons (cVar 1) (cCons (cVar 2) (cCons (cOp2 oSub (cVar 3) (cC (.int 1))) cNil))))) (cCons (cCall g_law_term [] (cCons (cVar 0) (cCons (cVar 1) (cCons (cVar 2) (cCons (cOp2 oSub (cVar 3) (cC (.int 1))) cNil))))) cNil)))))))))))))
-- law_term: 16 17 19
def f_law_inner : Fn := defF 1 1 (sSeq (sIf (bOr (bNot (bTru (cOpL oIsi (cCons (cVar 0) (cCons (cC (.ty "tuple")) cNil))))) (bVal (cOp2 oInD (cOp2 oIx (cVar 0) (cC (.int 0))) (cOpL oLst (cCons (cC (.str "arg")) (cCons (cC (.str "cell")) (cCons (cC (.str "tick")) cNil))))))) (sRet (cOpL oLst cNil)) sSkip) (sRet (cIf (bVal (cOp2 oEq (cOp2 oIx (cVar 0) (cC (.int 0))) (cC (.str "call")))) (cOpL oList (cCons (cOp2 oIx (cVar 0) (cC (.int 2))) cNil)) (cOpL oList (cCons (cSl (cVar 0) (some (cC (.int 1))) none) cNil)))))
-- law_inner: 
def f_law_counts (g_law_inner g_law_counts : Fn) : Fn := defF 8 1 (sSeq (sAs (cOpL oTup (cCons (cDict [(cC (.str "size"), cC (.int 1)), (cC (.str "cell"), cOpL oLst cNil), (cC (.str "call"), cOpL oLst cNil), (cC (.str "tick"), cC (.bl false))]) (cCons (cCall g_law_inner [] (cCons (cVar 0) cNil)) cNil))) (gTupW 2 (gsCons (gN 3) (gsCons (gN 4) gsNil)))) (sSeq (sSet 1 (cC (.int 0))) (sSeq (sIf (bAnd (bTru (cOpL oIsi (cCons (cVar 0) (cCons (cC (.ty "tuple")) cNil)))) (bVal (cOp2 oInD (cOp2 oIx (cVar 0) (cC (.int 0))) (cOpL oLst (cCons (cC (.str "cell")) (cCons (cC (.str "call")) cNil)))))) (sAs (cOpL oLst (cCons (cOp2 oIx (cVar 0) (cC (.int 1))) cNil)) (gIx (cVar 3) (cOp2 oIx (cVar 0) (cC (.int 0))))) sSkip) (sSeq (sAs (cOp2 oEq (cVar 0) (cOpL oTup (cCons (cC (.str "tick")) cNil))) (gIx (cVar 3) (cC (.str "tick")))) (sSeq (sFor (iSeq (cVar 4)) (gN 2) (sSeq (sSet 5 (cCall g_law_counts [] (cCons (cVar 2) cNil))) (sSeq (sAs (cOpL oTup (cCons (cOp2 oAdd (cOp2 oIx (cVar 3) (cC (.str "size"))) (cOp2 oIx (cVar 5) (cC (.str "size")))) (cCons (cOr (cOp2 oIx (cVar 3) (cC (.str "tick"))) (cOp2 oIx (cVar 5) (cC (.str "tick")))) cNil))) (gTupW 2 (gsCons (gIx (cVar 3) (cC (.str "size"))) (gsCons (gIx (cVar 3) (cC (.str "tick"))) gsNil)))) (sSeq (sSet 1 (cOpL oMax (cCons (cOpL oInt (cCons (cVar 1) cNil)) (cCons (cOpL oInt (cCons (cOp2 oIx (cVar 5) (cC (.str "depth"))) cNil)) cNil)))) (sFor (iSeq (cOpL oLst (cCons (cC (.str "cell")) (cCons (cC (.str "call")) cNil)))) (gN 6) (sAs (cOp2 oAdd (cOp2 oIx (cVar 3) (cVar 6)) (cLc [7] (iSeq (cOp2 oIx (cVar 5) (cVar 6))) (CT.one 7) (bVal (cOp2 oNotInD (cVar 7) (cOp2 oIx (cVar 3) (cVar 6)))) (cVar 7))) (gIx (cVar 3) (cVar 6)))))))) (sSeq (sAs (cOp2 oAdd (cC (.int 1)) (cVar 1)) (gIx (cVar 3) (cC (.str "depth")))) (sRet (cVar 3))))))))
-- law_counts: 20 21
def f_law_bent (g_law_inner g_law_draw g_law_bent : Fn) : Fn := defF 5 3 (sSeq (sSet 3 (cCall g_law_inner [] (cCons (cVar 1) cNil))) (sSeq (sIf (bOr (bVal (cOp2 oEq (cVar 3) (cOpL oLst cNil))) (bVal (cOp2 oEq (cCall g_law_draw [] (cCons (cVar 0) (cCons (cC (.int 3)) cNil))) (cC (.int 0))))) (sRet (cVar 2)) sSkip) (sSeq (sSet 4 (cCall g_law_draw [] (cCons (cVar 0) (cCons (cOpL oLen (cCons (cVar 3) cNil)) cNil)))) (sSeq (sAs (cCall g_law_bent [] (cCons (cVar 0) (cCons (cOp2 oIx (cVar 3) (cVar 4)) (cCons (cVar 2) cNil)))) (gIx (cVar 3) (cVar 4))) (sRet (cIf (bVal (cOp2 oEq (cOp2 oIx (cVar 1) (cC (.int 0))) (cC (.str "call")))) (cOpL oTup (cCons (cOp2 oIx (cVar 1) (cC (.int 0))) (cCons (cOp2 oIx (cVar 1) (cC (.int 1))) (cCons (cOpL oTuple (cCons (cVar 3) cNil)) cNil)))) (cOp2 oAdd (cOpL oTup (cCons (cOp2 oIx (cVar 1) (cC (.int 0))) cNil)) (cOpL oTuple (cCons (cVar 3) cNil)))))))))
-- law_bent: 20 16 22
def f_law (g_law_pool g_law_names g_law_draw g_law_term g_law_counts g_is_term g_term_size g_term_depth g_cells_in g_calls_in g_has_tick g_law_bent : Fn) : Fn := defF 13 1 (sSeq (sFor (iRng1 (cCons (cOpL oMax (cCons (cC (.int 1)) (cCons (cOpL oMin (cCons (cOpL oLen (cCons (cVar 0) cNil)) (cCons (cC (.int 2)) cNil))) cNil))) cNil)) (gN 1) (sSeq (sSet 2 (cCall g_law_pool [] (cCons (cVar 0) (cCons (cVar 1) cNil)))) (sSeq (sPar 5 6 (cCons (cCall g_law_names [] (cCons (cVar 2) (cCons (cC (.int 4)) cNil))) (cCons (cCall g_law_draw [] (cCons (cVar 2) (cCons (cC (.int 3)) cNil))) cNil))) (sSeq (sSet 3 (cDict [(cC (.str "cells"), cOpL oLst (cCons (cOpL oTup (cCons (cOp2 oIx (cVar 5) (cC (.int 0))) (cCons (cC (.str "table")) cNil))) (cCons (cOpL oTup (cCons (cOp2 oIx (cVar 5) (cC (.int 1))) (cCons (cC (.str "frozen")) cNil))) cNil))), (cC (.str "functions"), cOpL oLst cNil)])) (sSeq (sFor (iSeq (cOpL oLst (cCons (cOpL oTup (cCons (cOp2 oIx (cVar 5) (cC (.int 2))) (cCons (cC (.int 2)) cNil))) (cCons (cOpL oTup (cCons (cOp2 oIx (cVar 5) (cC (.int 3))) (cCons (cC (.int 0)) cNil))) cNil)))) (gTupW 2 (gsCons (gN 7) (gsCons (gN 8) gsNil))) (sExpr (cMth isLst oAppend (cOp2 oIx (cVar 3) (cC (.str "functions"))) (cCons (cDict [(cC (.str "name"), cVar 7), (cC (.str "many"), cVar 8)]) cNil)))) (sFor (iRng1 (cCons (cC (.int 12)) cNil)) (gN 4) (sSeq (sSet 9 (cCall g_law_term [] (cCons (cVar 2) (cCons (cVar 3) (cCons (cVar 6) (cCons (cCall g_law_draw [] (cCons (cVar 2) (cCons (cC (.int 4)) cNil))) cNil)))))) (sSeq (sSet 10 (cCall g_law_counts [] (cCons (cVar 9) cNil))) (sIf (bVal (cOp2 oLe (cOp2 oIx (cVar 10) (cC (.str "size"))) (cC (.int 30)))) (sSeq (sIf (bOr (bVal (cOp2 oIsNot (cCall g_is_term [] (cCons (cVar 9) (cCons (cVar 6) cNil))) (cC (.bl true)))) (bVal (cOp2 oNe (cOpL oLst (cCons (cCall g_term_size [] (cCons (cVar 9) cNil)) (cCons (cCall g_term_depth [] (cCons (cVar 9) cNil)) cNil))) (cOpL oLst (cCons (cOp2 oIx (cVar 10) (cC (.str "size"))) (cCons (cOp2 oIx (cVar 10) (cC (.str "depth"))) cNil)))))) (sRet (cC (.bl false))) sSkip) (sSeq (sIf (bVal (cOp2 oNe (cCall g_cells_in [] (cCons (cVar 9) cNil)) (cOpL oSortedS (cCons (cLc [7] (iSeq (cOp2 oIx (cVar 10) (cC (.str "cell")))) (CT.one 7) bYes (cOpL oStr (cCons (cVar 7) cNil))) cNil)))) (sRet (cC (.bl false))) sSkip) (sSeq (sIf (bOr (bVal (cOp2 oNe (cCall g_calls_in [] (cCons (cVar 9) cNil)) (cOpL oSortedS (cCons (cLc [7] (iSeq (cOp2 oIx (cVar 10) (cC (.str "call")))) (CT.one 7) bYes (cOpL oStr (cCons (cVar 7) cNil))) cNil)))) (bVal (cOp2 oNe (cCall g_has_tick [] (cCons (cVar 9) cNil)) (cOp2 oIx (cVar 10) (cC (.str "tick")))))) (sRet (cC (.bl false))) sSkip) (sSeq (sSet 11 (cOpL oLst (cCons (cC .non) (cCons (cC (.int 3)) (cCons (cOp1 oNeg (cC (.int 1))) (cCons (cC (.bl true)) (cCons (cC (.str "1")) (cCons (cOpL oTup cNil) (cCons (cOpL oTup (cCons (cC (.str "arg")) (cCons (cVar 6) cNil))) (cCons (cOpL oTup (cCons (cC (.str "arg")) (cCons (cC (.bl true)) cNil))) (cCons (cOpL oTup (cCons (cC (.str "cell")) (cCons (cC (.str "A")) cNil))) (cCons (cOpL oTup (cCons (cC (.str "cell")) cNil)) (cCons (cOpL oTup (cCons (cC (.str "tick")) (cCons (cC (.int 1)) cNil))) (cCons (cOpL oLst (cCons (cC (.str "tick")) cNil)) cNil)))))))))))))) (sSeq (sSet 11 (cOp2 oAdd (cVar 11) (cOpL oLst (cCons (cOpL oTup (cCons (cC (.str "plus")) (cCons (cC (.int 1)) cNil))) (cCons (cOpL oTup (cCons (cC (.str "less")) (cCons (cC (.int 0)) (cCons (cC (.int 1)) (cCons (cC (.int 2)) cNil))))) (cCons (cOpL oTup (cCons (cC (.str "if")) (cCons (cC (.int 1)) (cCons (cC (.int 1)) cNil)))) (cCons (cOpL oTup (cCons (cC (.str "call")) (cCons (cC (.str "f")) (cCons (cOpL oLst (cCons (cC (.int 1)) cNil)) cNil)))) (cCons (cOpL oTup (cCons (cC (.str "call")) (cCons (cC (.str "f")) (cCons (cOpL oTup (cCons (cC (.int 1)) (cCons (cC (.int 1)) (cCons (cC (.int 1)) cNil)))) cNil)))) (cCons (cOpL oTup (cCons (cC (.str "call")) (cCons (cC (.str "F")) (cCons (cOpL oTup cNil) cNil)))) cNil))))))))) (sFor (iSeq (cOp2 oAdd (cVar 11) (cOpL oLst (cCons (cOpL oTup (cCons (cC (.str "Plus")) (cCons (cC (.int 1)) (cCons (cC (.int 1)) cNil)))) (cCons (cOpL oTup (cCons (cC (.str "same")) (cCons (cC (.int 0)) (cCons (cC .non) cNil)))) (cCons (cOpL oTup (cCons (cC (.int 1)) (cCons (cC (.int 1)) (cCons (cC (.int 1)) cNil)))) (cCons (cOpL oTup (cCons (cC (.str "call")) (cCons (cC (.str "f")) cNil))) (cCons (cOpL oTup (cCons (cC (.str "call")) (cCons (cC (.str "f")) (cCons (cOpL oTup (cCons (cC .non) cNil)) cNil)))) cNil)))))))) (gN 12) (sIf (bVal (cOp2 oIsNot (cCall g_is_term [] (cCons (cCall g_law_bent [] (cCons (cVar 2) (cCons (cVar 9) (cCons (cVar 12) cNil)))) (cCons (cVar 6) cNil))) (cC (.bl false)))) (sRet (cC (.bl false))) sSkip))))))) sSkip))))))))) (sRet (cC (.bl true))))
-- law: 15 18 16 19 21 7 8 9 12 13 14 22
end Z

/-! ZL: the laws' own helpers. -/
namespace Z
open PySem PySem.Spec PyProof.Rows L2
def bDraw : Sx := sSeq (sIf (bVal (cOp2 oGt (cOp2 oIx (cVar 0) (cC (.int 0))) (cC (.int 0)))) (sSeq (sSet 2 (cOp2 oMod (cOpL oInt (cCons (cOp2 oIx (cVar 0) (cC (.int 0))) cNil)) (cVar 1))) (sSeq (sAs (cOp2 oDiv (cOp2 oIx (cVar 0) (cC (.int 0))) (cVar 1)) (gIx (cVar 0) (cC (.int 0)))) (sRet (cVar 2)))) sSkip) (sSeq (sAs (cOp2 oMod (cOpL oInt (cCons (cOp2 oAdd (cOp2 oMul (cOp2 oIx (cVar 0) (cC (.int 1))) (cC (.int 48271))) (cC (.int 11))) cNil)) (cC (.int 2147483647))) (gIx (cVar 0) (cC (.int 1)))) (sRet (cOp2 oMod (cOpL oInt (cCons (cOp2 oDiv (cOp2 oMod (cOpL oInt (cCons (cOp2 oMul (cOp2 oIx (cVar 0) (cC (.int 1))) (cOp2 oIx (cVar 0) (cC (.int 1)))) cNil)) (cC (.int 2147483629))) (cC (.int 16))) cNil)) (cVar 1))))
def PoolOk (p : Nat) (L : LH) : Prop := ∃ a b : Int, L[p]? = some (.lst [.int a, .int b]) ∧ 0 ≤ a ∧ 0 ≤ b ∧ b < 2147483647
structure Upd (p : Nat) (L L' : LH) : Prop where
  len : L.length ≤ L'.length
  old : ∀ n o, n ≠ p → L[n]? = some o → L'[n]? = some o
  pool : PoolOk p L'
theorem Upd.trans {p : Nat} {L L1 L2 : LH} (a : Upd p L L1) (b : Upd p L1 L2) : Upd p L L2 :=
  ⟨Nat.le_trans a.len b.len, fun n o h e => b.old n o h (a.old n o h e), b.pool⟩
theorem upd_set {p : Nat} {L : LH} {a b : Int} {o : LO} (e : L[p]? = some o) (ha : 0 ≤ a) (hb : 0 ≤ b) (hb' : b < 2147483647) : Upd p L (L.set p (.lst [.int a, .int b])) := by
  have hp : p < L.length := (List.getElem?_eq_some_iff.mp e).1
  refine ⟨by rw [List.length_set]; exact Nat.le_refl _, fun n o h e => by rw [List.getElem?_set_ne (Ne.symm h)]; exact e, a, b, by rw [List.getElem?_set_self hp], ha, hb, hb'⟩
theorem ix_at {L : LH} {n : Nat} {xs : List W} {i : Int} {Q : W → LH → Prop} (e : L[n]? = some (.lst xs)) : EvO (oIx (.ref n) (.int i) L) Q = match atI xs i with | some w => Q w L | none => False := by
  have h1 : dicW (.ref n) L = none := by simp only [dicW, e]
  have h2 : seqW (.ref n) L = some xs := by
    show seqL L n = some xs
    unfold seqL; rw [e]; rfl
  unfold oIx; rw [h1]
  show EvO (oIxS (.ref n) (.int i) L) Q = _
  unfold oIxS
  simp only [h2]
  cases atI xs i <;> rfl
theorem at0 {α : Type} {x : α} {xs : List α} : atI (x :: xs) 0 = some x := atI_nat (j := 0) rfl
theorem at1 {α : Type} {x y : α} {xs : List α} : atI (x :: y :: xs) 1 = some y := atI_nat (j := 1) rfl
theorem put_at {L : LH} {n : Nat} {xs : List W} {j : Nat} {w : W} (e : L[n]? = some (.lst xs)) (h : j < xs.length) : oPut (.ref n) (.int j) w L = some (L.set n (.lst (xs.set j w))) := by
  have : ixN xs.length (j : Int) = some j := by
    unfold ixN
    rw [if_pos (by omega), if_pos (by omega)]
    simp
  simp only [oPut, e, this]
theorem draw_ok {p : Nat} {m : Int} {L : LH} (hp : PoolOk p L) (hm : 0 < m) (hm2 : m < 1073741824) : Ev (defF 3 2 bDraw [.ref p, .int m] L) fun w L' => ∃ r : Int, w = .int r ∧ 0 ≤ r ∧ r < m ∧ Upd p L L' := by
  obtain ⟨a, b, e, ha, hb, hb'⟩ := hp
  have hlt : p < L.length := (List.getElem?_eq_some_iff.mp e).1
  simp only [bDraw, ev_ok, ev_bind, ev_only, ev_ofO, ev_ofOB, ev_ite, evs_ite, evo_some, evs_toS, evs_seq, ev_C, ev_var, ev_op2, ev_op1, ev_opL, ev_nil, ev_cons, ev_call, ev_bVal, ev_bTru, ev_bNot, ev_bAnd, ev_bOr, ev_bYes, ev_cIf, ev_cNot, ev_cAnd, ev_cOr, ev_chain, ev_part_none, ev_part_some, ev_sl, ev_mth, evs_skip, evs_set, evs_ret, evs_expr, evs_if, evs_par, evs_as, ev_gN, ev_gsNil, ev_gsCons, ev_gTup, ev_gIx, evs_aug, ev_defF, evs_for, ev_rng1, ev_iSeq, ev_lc, o_addI, o_subI, o_addS, o_addT, o_mulI, o_modI, o_divI, o_powI, o_cmpI, o_intI, o_intB, o_absI, o_lst, o_tup, bl_bl, List.map_cons, List.map_nil, List.cons_append, List.nil_append, List.append_nil, List.getElem?_cons_zero, List.getElem?_cons_succ, List.set_cons_zero, List.set_cons_succ, List.length_cons, List.length_nil, List.replicate, Nat.reduceAdd, Nat.reduceSub, Nat.reduceLeDiff, true_and, and_true, if_true, decide_eq_true_eq, Nat.zero_add, ix_at e, at0, at1]
  by_cases h0 : 0 < a
  · have e2 : oPut (.ref p) (.int 0) (.int (a / m)) L = some (L.set p (.lst [.int (a / m), .int b])) := put_at (j := 0) e (by simp)
    simp only [h0, if_true, ev_ok, ev_bind, ev_only, ev_ofO, ev_ofOB, ev_ite, evs_ite, evo_some, evs_toS, evs_seq, ev_C, ev_var, ev_op2, ev_op1, ev_opL, ev_nil, ev_cons, ev_call, ev_bVal, ev_bTru, ev_bNot, ev_bAnd, ev_bOr, ev_bYes, ev_cIf, ev_cNot, ev_cAnd, ev_cOr, ev_chain, ev_part_none, ev_part_some, ev_sl, ev_mth, evs_skip, evs_set, evs_ret, evs_expr, evs_if, evs_par, evs_as, ev_gN, ev_gsNil, ev_gsCons, ev_gTup, ev_gIx, evs_aug, ev_defF, evs_for, ev_rng1, ev_iSeq, ev_lc, o_addI, o_subI, o_addS, o_addT, o_mulI, o_modI, o_divI, o_powI, o_cmpI, o_intI, o_intB, o_absI, o_lst, o_tup, bl_bl, List.map_cons, List.map_nil, List.cons_append, List.nil_append, List.append_nil, List.getElem?_cons_zero, List.getElem?_cons_succ, List.set_cons_zero, List.set_cons_succ, List.length_cons, List.length_nil, List.replicate, Nat.reduceAdd, Nat.reduceSub, Nat.reduceLeDiff, true_and, and_true, if_true, decide_eq_true_eq, Nat.zero_add, e2]
    refine ⟨hm, ⟨hm, hm2⟩, a % m, rfl, Int.emod_nonneg _ (by omega), Int.emod_lt_of_pos _ hm, upd_set e (Int.ediv_nonneg ha (by omega)) hb hb'⟩
  · simp only [h0, if_false, ev_ok, ev_bind, ev_only, ev_ofO, ev_ofOB, ev_ite, evs_ite, evo_some, evs_toS, evs_seq, ev_C, ev_var, ev_op2, ev_op1, ev_opL, ev_nil, ev_cons, ev_call, ev_bVal, ev_bTru, ev_bNot, ev_bAnd, ev_bOr, ev_bYes, ev_cIf, ev_cNot, ev_cAnd, ev_cOr, ev_chain, ev_part_none, ev_part_some, ev_sl, ev_mth, evs_skip, evs_set, evs_ret, evs_expr, evs_if, evs_par, evs_as, ev_gN, ev_gsNil, ev_gsCons, ev_gTup, ev_gIx, evs_aug, ev_defF, evs_for, ev_rng1, ev_iSeq, ev_lc, o_addI, o_subI, o_addS, o_addT, o_mulI, o_modI, o_divI, o_powI, o_cmpI, o_intI, o_intB, o_absI, o_lst, o_tup, bl_bl, List.map_cons, List.map_nil, List.cons_append, List.nil_append, List.append_nil, List.getElem?_cons_zero, List.getElem?_cons_succ, List.set_cons_zero, List.set_cons_succ, List.length_cons, List.length_nil, List.replicate, Nat.reduceAdd, Nat.reduceSub, Nat.reduceLeDiff, true_and, and_true, if_true, decide_eq_true_eq, Nat.zero_add]
    have e2 : ∀ c : Int, oPut (.ref p) (.int 1) (.int c) L = some (L.set p (.lst [.int a, .int c])) := fun c => put_at (j := 1) e (by simp)
    have e3 : ∀ c : Int, (L.set p (.lst [.int a, .int c]))[p]? = some (.lst [.int a, .int c]) := fun c => List.getElem?_set_self hlt
    simp only [e2, ix_at (e3 _), at1, ev_ok, ev_bind, ev_only, ev_ofO, ev_ofOB, ev_ite, evs_ite, evo_some, evs_toS, evs_seq, ev_C, ev_var, ev_op2, ev_op1, ev_opL, ev_nil, ev_cons, ev_call, ev_bVal, ev_bTru, ev_bNot, ev_bAnd, ev_bOr, ev_bYes, ev_cIf, ev_cNot, ev_cAnd, ev_cOr, ev_chain, ev_part_none, ev_part_some, ev_sl, ev_mth, evs_skip, evs_set, evs_ret, evs_expr, evs_if, evs_par, evs_as, ev_gN, ev_gsNil, ev_gsCons, ev_gTup, ev_gIx, evs_aug, ev_defF, evs_for, ev_rng1, ev_iSeq, ev_lc, o_addI, o_subI, o_addS, o_addT, o_mulI, o_modI, o_divI, o_powI, o_cmpI, o_intI, o_intB, o_absI, o_lst, o_tup, bl_bl, List.map_cons, List.map_nil, List.cons_append, List.nil_append, List.append_nil, List.getElem?_cons_zero, List.getElem?_cons_succ, List.set_cons_zero, List.set_cons_succ, List.length_cons, List.length_nil, List.replicate, Nat.reduceAdd, Nat.reduceSub, Nat.reduceLeDiff, true_and, and_true, if_true, decide_eq_true_eq, Nat.zero_add]
    have b1 := Int.emod_nonneg (b * 48271 + 11) (show (2147483647 : Int) ≠ 0 by decide)
    have b2 := Int.emod_lt_of_pos (b * 48271 + 11) (show (0 : Int) < 2147483647 by decide)
    refine ⟨.inr (by decide), by decide, .inl ⟨by omega, by omega⟩, by decide, by decide, hm, _, rfl, Int.emod_nonneg _ (by omega), Int.emod_lt_of_pos _ hm, upd_set e ha b1 b2⟩
end Z

/-! ZT: values, terms. -/
namespace Z
open PySem PySem.Spec PyProof.Rows L2
theorem isi_of {w : W} {t n : String} {L : LH} {Q : W → LH → Prop} (h : tyName w L = some t) : EvO (oIsi [w, .ty n] L) Q = match kitB t n with | some b => Q (.bl b) L | none => False := by
  simp only [oIsi, h]
  cases kitB t n <;> rfl
theorem is_integer_ok {w : W} {t : String} {L : LH} (h : tyName w L = some t) : f_is_integer [w] L = .ok (.bl (t == "int")) L := by
  cases w with
  | ref n =>
    simp only [tyName] at h
    have e : tyName (.ref n) L = some t := h
    split at h
    · cases h
      simp only [f_is_integer, defF, List.length_cons, List.length_nil, if_true, List.map_cons, List.map_nil, Nat.sub_self, List.replicate, List.append_nil, sRet, cAnd, cOpL, cCons, cNil, cVar, cC, List.getElem?_cons_zero, Res.bind, oIsi, e, Nat.zero_add, ofO]
      rfl
    · cases h
      simp only [f_is_integer, defF, List.length_cons, List.length_nil, if_true, List.map_cons, List.map_nil, Nat.sub_self, List.replicate, List.append_nil, sRet, cAnd, cOpL, cCons, cNil, cVar, cC, List.getElem?_cons_zero, Res.bind, oIsi, e, Nat.zero_add, ofO]
      rfl
    · cases h
  | non => cases h; rfl
  | bl b => cases h; rfl
  | int i => cases h; rfl
  | str x => cases h; rfl
  | tup ws => cases h; rfl
  | _ => cases h
/-- an int within bounds -/
def btw (w : W) (lo hi : Int) : Bool := match w with
  | .int i => decide (lo ≤ i) && decide (i ≤ hi)
  | _ => false
theorem is_between_ok {w : W} {t : String} {L : LH} {lo hi : Int} (h : tyName w L = some t) : f_is_between f_is_integer [w, .int lo, .int hi] L = .ok (.bl (btw w lo hi)) L := by
  have hi' := is_integer_ok h
  simp only [f_is_between, defF, List.length_cons, List.length_nil, if_true, List.map_cons, List.map_nil, Nat.sub_self, List.replicate, List.append_nil, sRet, cAnd, cCall, cCons, cNil, cVar, List.getElem?_cons_zero, Res.bind, hi', Nat.zero_add, Nat.reduceAdd, Res.toS]
  cases w with
  | int i =>
    cases h
    simp only [truW, ofOB, Res.bind, cChain, cVar, List.getElem?_cons_zero, List.getElem?_cons_succ, oLe, oCmp, ofO, btw, blW]
    by_cases h1 : lo ≤ i
    · simp [h1, Res.bind, btw, oLe, oCmp, ofO, blW, ofOB]
    · simp [h1, Res.bind, btw, oLe, oCmp, ofO, blW, ofOB]
  | ref n =>
    simp only [tyName] at h
    split at h <;> cases h <;> rfl
  | _ => cases h <;> rfl
theorem oLen_eq {a : W} {L : LH} {n : Nat} (h : lenW a L = some n) : oLen [a] L = some (.int n, L) := by
  simp only [oLen, h]; rfl
theorem eqX_ii {L : LH} {i j : Int} : eqX L (.int i) (.int j) = some (i == j) := by
  have : eqX L (.int i) (.int j) = eqD L (.int i) (.int j) := rfl
  rw [this]
  unfold eqD toD
  rfl
theorem eqX_ss {L : LH} {a b : Str} (ha : PyData.strOk a = true) (hb : PyData.strOk b = true) : eqX L (.str a) (.str b) = some (a == b) := by
  have : eqX L (.str a) (.str b) = eqD L (.str a) (.str b) := rfl
  rw [this]
  unfold eqD toD
  have h1 : SeqAt.shaped (.str a) = true := by unfold SeqAt.shaped PyData.canLay0 PyData.depth; rw [ha]; rfl
  have h2 : SeqAt.shaped (.str b) = true := by unfold SeqAt.shaped PyData.canLay0 PyData.depth; rw [hb]; rfl
  simp only [h1, h2, and_self, if_true]
  rfl
/-- a tuple of so many parts, of this kind -/
def kindOf (w : W) (kd : Str) (n : Int) : Bool := match w with
  | .tup (.str s :: r) => ((r.length : Int) + 1 == n) && (s == kd)
  | _ => false
theorem kindOf_cons {s kd : Str} {r : List W} {n : Int} : kindOf (.tup (.str s :: r)) kd n = (((r.length : Int) + 1 == n) && (s == kd)) := rfl
structure HK (L : LH) (w : W) : Prop where
  ty : ∃ t, tyName w L = some t
  fst : ∀ x r, w = .tup (x :: r) → (∃ t, tyName x L = some t) ∧ ∀ s, x = .str s → PyData.strOk s = true
theorem has_kind_ok {w : W} {L : LH} {kd : Str} {n : Int} (h : HK L w) (hk : PyData.strOk kd = true) (hn : 1 ≤ n) : f_has_kind [w, .str kd, .int n] L = .ok (.bl (kindOf w kd n)) L := by
  obtain ⟨⟨t, ht⟩, hf⟩ := h
  have no : kitB t "tuple" = some false → kindOf w kd n = false → f_has_kind [w, .str kd, .int n] L = .ok (.bl (kindOf w kd n)) L := fun e e2 => by
    simp only [f_has_kind, defF, sRet, sSeq, sIf, sSet, sSkip, cAnd, cOr, cNot, cIf, cCall, cCons, cNil, cVar, cC, cOpL, cOp2, bVal, bTru, bNot, bAnd, bOr, cChain, Res.bind, Res.toS, ofO, ofOB, blW, truW, List.length_cons, List.length_nil, if_true, List.map_cons, List.map_nil, Nat.sub_self, List.replicate, List.append_nil, List.cons_append, List.nil_append, List.getElem?_cons_zero, List.getElem?_cons_succ, Nat.zero_add, Nat.reduceAdd, Nat.reduceSub, oIsi, ht, e, e2, Option.map]
    rfl
  cases w with
  | tup ws =>
    cases ht
    have e : kitB "tuple" "tuple" = some true := rfl
    have tn : tyName (.tup ws) L = some "tuple" := rfl
    have ln : oLen [.tup ws] L = some (.int ws.length, L) := oLen_eq rfl
    simp only [f_has_kind, defF, sRet, sSeq, sIf, sSet, sSkip, cAnd, cOr, cNot, cIf, cCall, cCons, cNil, cVar, cC, cOpL, cOp2, bVal, bTru, bNot, bAnd, bOr, cChain, Res.bind, Res.toS, ofO, ofOB, blW, truW, List.length_cons, List.length_nil, if_true, List.map_cons, List.map_nil, Nat.sub_self, List.replicate, List.append_nil, List.cons_append, List.nil_append, List.getElem?_cons_zero, List.getElem?_cons_succ, Nat.zero_add, Nat.reduceAdd, Nat.reduceSub, oIsi, tn, e, Option.map, ln, oEq, eqX_ii, oB]
    cases hlen : ((ws.length : Int) == n) with
    | false =>
      simp only [Bool.false_eq_true, if_false]
      have : kindOf (.tup ws) kd n = false := by
        unfold kindOf
        split
        · rename_i s r heq
          cases heq
          rw [show ((r.length : Int) + 1 == n) = false from hlen]; rfl
        · rfl
      rw [this]
    | true =>
      simp only [if_true]
      cases ws with
      | nil => simp at hlen; omega
      | cons x r =>
        obtain ⟨⟨t2, h2⟩, h3⟩ := hf x r rfl
        have ix : oIx (.tup (x :: r)) (.int 0) L = some (x, L) := by
          unfold oIx
          show oIxS _ _ _ = _
          unfold oIxS
          simp only [seqW, at0, Option.map]
        simp only [ix, h2]
        have no2 : kitB t2 "str" = some false → kindOf (.tup (x :: r)) kd n = false → (match Option.map (fun b => (W.bl b, L)) (kitB t2 "str") with | some (w, L) => Res.ok w L | none => Res.stk).bind (fun a L1 => (match truW a L1 with | some b => Res.ok b L1 | none => Res.stk).bind fun b L2 => if b = true then Res.stk else .ok a L2) = .ok (.bl (kindOf (.tup (x :: r)) kd n)) L := fun e e2 => by
          rw [e, e2]; rfl
        cases x with
        | str s =>
          cases h2
          have e : kitB "str" "str" = some true := rfl
          simp only [e, Option.map, if_true, ix, eqX_ss (h3 s rfl) hk, oB, Res.bind]
          rw [kindOf_cons, show ((r.length : Int) + 1 == n) = true from hlen]
          rfl
        | ref m =>
          simp only [tyName] at h2
          split at h2 <;> cases h2 <;> rfl
        | _ => cases h2 <;> rfl
  | ref m =>
    have ht' := ht
    simp only [tyName] at ht'
    split at ht'
    · cases ht'; exact no rfl rfl
    · cases ht'; exact no rfl rfl
    · cases ht'
  | non => cases ht; exact no rfl rfl
  | bl b => cases ht; exact no rfl rfl
  | int i => cases ht; exact no rfl rfl
  | str x => cases ht; exact no rfl rfl
  | _ => cases ht
/-! ### comprehensions without effect -/
def SrcIs (S : Src) (L0 : LH) (ws : List W) : Prop := S.len = ws.length ∧ ∀ L, L0 <+: L → ∀ i, S.get L i = some ws[i]?
theorem lc_pureA {S : Src} {j : Nat} {e : Ex} {env : Env} {L1 : LH} {ws acc0 : List W} {g : W → W} (hS : SrcIs S L1 ws) (hl : acc0.length + ws.length ≤ 16777216)
    (he : ∀ w ∈ ws, ∀ L, L1 <+: L → Ev (e (env.set j (some w)) L) fun y L' => y = g w ∧ L <+: L') :
    Ev (lcLoop S (.one j) bYes e env (S.len + 1) 0 L1 acc0) fun acc L' => acc = acc0 ++ ws.map g ∧ L1 <+: L' := by
  refine lc_inv (P := fun i L acc => acc = acc0 ++ (ws.take i).map g ∧ L1 <+: L) (n := ws.length) (fun i L acc hi p => ?_) (fun L acc p => ?_) S.len 0 L1 acc0 (by rw [hS.1]; omega) ⟨by simp, List.prefix_refl _⟩
  · obtain ⟨rfl, pr⟩ := p
    have e1 : ws[i]? = some ws[i] := List.getElem?_eq_getElem hi
    refine ⟨ws[i], by rw [hS.2 L pr i, e1], env.set j (some ws[i]), rfl, ?_⟩
    rw [ev_bYes]
    simp only [if_true]
    refine (he _ (List.getElem_mem hi) L pr).mono fun y L' h => ?_
    obtain ⟨rfl, pr'⟩ := h
    refine ⟨?_, ?_, pr.trans pr'⟩
    · rw [List.length_append, List.length_map, List.length_take]; omega
    · rw [List.take_succ_eq_append_getElem hi, List.map_append, List.append_assoc]; rfl
  · obtain ⟨rfl, pr⟩ := p
    refine ⟨?_, ?_, pr⟩
    · rw [hS.2 L pr, List.getElem?_eq_none (Nat.le_refl _)]
    · rw [List.take_length]
theorem lc_pure {S : Src} {j : Nat} {e : Ex} {env : Env} {L1 : LH} {ws : List W} {g : W → W} (hS : SrcIs S L1 ws) (hl : ws.length ≤ 16777216)
    (he : ∀ w ∈ ws, ∀ L, L1 <+: L → Ev (e (env.set j (some w)) L) fun y L' => y = g w ∧ L <+: L') :
    Ev (lcLoop S (.one j) bYes e env (S.len + 1) 0 L1 []) fun acc L' => acc = ws.map g ∧ L1 <+: L' :=
  lc_pureA (acc0 := []) hS (by simpa using hl) he
theorem lc2In_eq {S : Src} {c : CT} {t : Bx} {e : Ex} {env : Env} : ∀ (f i : Nat) (L : LH) (acc : List W), lc2In S c t e env f i L acc = lcLoop S c t e env f i L acc
  | 0, _, _, _ => rfl
  | f + 1, i, L, acc => by
    unfold lc2In lcLoop
    simp only [lc2In_eq f] <;> rfl
theorem lc2_pure {S : Src} {j j1 : Nat} {it1 : Ix} {vs1 : List Nat} {e : Ex} {env : Env} {L1 : LH} {ws : List W} (ks : W → List W) (hS : SrcIs S L1 ws) (hl : (ws.flatMap ks).length ≤ 16777216)
    (hi : ∀ w ∈ ws, ∀ L, L1 <+: L → Ev (it1 (env.set j (some w)) L) fun S1 L2 => L <+: L2 ∧ SrcIs S1 L2 (ks w) ∧ ∀ x ∈ ks w, ∀ L3, L2 <+: L3 → Ev (e ((wipeE (env.set j (some w)) vs1).set j1 (some x)) L3) fun y L4 => y = x ∧ L3 <+: L4) :
    ∀ (m i : Nat) (L : LH) (acc : List W), i + m = ws.length → L1 <+: L → acc = (ws.take i).flatMap ks →
    Ev (lc2Loop S (.one j) bYes it1 vs1 (.one j1) bYes e env (m + 1) i L acc) fun acc L' => acc = ws.flatMap ks ∧ L1 <+: L'
  | 0, i, L, acc, ei, pr, ea => by
    have ei : i = ws.length := by omega
    subst ei
    unfold lc2Loop
    rw [hS.2 L pr, List.getElem?_eq_none (Nat.le_refl _)]
    rw [List.take_length] at ea
    exact ⟨ea, pr⟩
  | m + 1, i, L, acc, ei, pr, ea => by
    have hlt : i < ws.length := by omega
    have e1 : ws[i]? = some ws[i] := List.getElem?_eq_getElem hlt
    unfold lc2Loop
    rw [hS.2 L pr, e1]
    simp only [CT.set, ev_bind, ev_only, ev_bYes, if_true]
    refine (hi _ (List.getElem_mem hlt) L pr).mono fun S1 L2 q => ?_
    obtain ⟨pr2, hS1, hx⟩ := q
    rw [lc2In_eq]
    have hlen : acc.length + (ks ws[i]).length ≤ 16777216 := by
      rw [ea]
      have e3 : (ws.take (i + 1)).flatMap ks = (ws.take i).flatMap ks ++ ks ws[i] := by
        rw [List.take_succ_eq_append_getElem hlt, List.flatMap_append]; simp
      have e4 : ws.flatMap ks = (ws.take (i + 1)).flatMap ks ++ (ws.drop (i + 1)).flatMap ks := by
        rw [← List.flatMap_append, List.take_append_drop]
      rw [e4, e3] at hl
      simp only [List.length_append] at hl
      omega
    refine (lc_pureA (g := fun x => x) hS1 hlen hx).mono fun acc' L3 q => ?_
    obtain ⟨rfl, pr3⟩ := q
    refine lc2_pure ks hS hl hi m (i + 1) L3 _ (by omega) (pr.trans (pr2.trans pr3)) ?_
    rw [List.take_succ_eq_append_getElem hlt, List.flatMap_append, ea]
    simp
theorem srcIs_tup {ws : List W} {L : LH} : SrcIs ⟨ws.length, fun _ i => some ws[i]?⟩ L ws := ⟨rfl, fun _ _ _ => rfl⟩
theorem pre_at {L L' : LH} {n : Nat} {o : LO} (p : L <+: L') (h : L[n]? = some o) : L'[n]? = some o := by
  obtain ⟨t, rfl⟩ := p
  rw [List.getElem?_append_left]; · exact h
  exact (List.getElem?_eq_some_iff.mp h).1
theorem seqL_at {L : LH} {n : Nat} {ws : List W} (h : L[n]? = some (.lst ws)) : seqL L n = some ws := by
  unfold seqL; rw [h]; rfl
theorem srcOf_at {L : LH} {n : Nat} {ws : List W} (h : L[n]? = some (.lst ws)) : ∃ S, srcOf (.ref n) L = some S ∧ SrcIs S L ws := by
  refine ⟨⟨ws.length, fun L' i => (seqL L' n).map fun ws => ws[i]?⟩, ?_, rfl, fun L' p i => ?_⟩
  · simp only [srcOf, seqL_at h]
  · simp only [seqL_at (pre_at p h), Option.map]
theorem at_last {L : LH} {o : LO} : (L ++ [o])[L.length]? = some o := List.getElem?_concat_length
theorem pre_last {L : LH} {o : LO} : L <+: L ++ [o] := ⟨[o], rfl⟩
theorem blsW_map : ∀ bs : List Bool, blsW (bs.map .bl) = some bs
  | [] => rfl
  | b :: r => by
    show (blsW (r.map .bl)).map _ = _
    rw [blsW_map r]; rfl
theorem intsW_map : ∀ bs : List Int, intsW (bs.map .int) = some bs
  | [] => rfl
  | b :: r => by
    show (intsW (r.map .int)).map _ = _
    rw [intsW_map r]; rfl
theorem strsW_map : ∀ bs : List Str, strsW (bs.map .str) = some bs
  | [] => rfl
  | b :: r => by
    show (strsW (r.map .str)).map _ = _
    rw [strsW_map r]; rfl
theorem all_at {L : LH} {n : Nat} {bs : List Bool} (h : L[n]? = some (.lst (bs.map .bl))) : oAll [.ref n] L = some (.bl (bs.all id), L) := by
  simp only [oAll, lstOf, seqL_at h, Option.bind, blsW_map]; rfl
theorem any_at {L : LH} {n : Nat} {bs : List Bool} (h : L[n]? = some (.lst (bs.map .bl))) : oAny [.ref n] L = some (.bl (bs.any id), L) := by
  simp only [oAny, lstOf, seqL_at h, Option.bind, blsW_map]; rfl
theorem sum_at {L : LH} {n : Nat} {bs : List Int} (h : L[n]? = some (.lst (bs.map .int))) : oSum [.ref n] L = some (.int bs.sum, L) := by
  simp only [oSum, lstOf, seqL_at h, Option.bind, intsW_map]; rfl
theorem max_at {L : LH} {n : Nat} {bs : List Int} (h : L[n]? = some (.lst (bs.map .int))) (h0 : 0 < bs.length) : oMax [.ref n] L = some (.int (maxI bs), L) := by
  simp only [oMax, lstOf, seqL_at h, Option.bind, intsW_map, if_pos h0]
theorem sorted_at {L : LH} {n : Nat} {bs : List Str} (h : L[n]? = some (.lst (bs.map .str))) (h0 : bs.length < 64) : oSortedS [.ref n] L = some (.ref L.length, L ++ [.lst ((srtS bs).map .str)]) := by
  simp only [oSortedS, lstOf, seqL_at h, Option.bind, strsW_map, if_pos h0]
/-! ### names -/
def letters : Str := "abcdefghijklmnopqrstuvwxyz"
def nameB (s : Str) : Bool := decide (1 ≤ s.length ∧ s.length ≤ 8) && s.cps.toList.all fun c => strIn ⟨#[c]⟩ letters
theorem is_name_ok {s : Str} {L : LH} (h : s.length ≤ 16777216) : Ev (f_is_name [.str s] L) fun w L' => w = .bl (nameB s) ∧ L <+: L' := by
  have e : kitB "str" "str" = some true := rfl
  have ln : oLen [.str s] L = some (.int s.length, L) := oLen_eq (by simp only [lenW, if_pos h])
  have ty : tyName (.str s) L = some "str" := rfl
  simp only [f_is_name, wipeE, ev_ok, ev_bind, ev_only, ev_ofO, ev_ofOB, ev_ite, evs_ite, evo_some, evs_toS, evs_seq, ev_C, ev_var, ev_op2, ev_op1, ev_opL, ev_nil, ev_cons, ev_call, ev_bVal, ev_bTru, ev_bNot, ev_bAnd, ev_bOr, ev_bYes, ev_cIf, ev_cNot, ev_cAnd, ev_cOr, ev_chain, ev_part_none, ev_part_some, ev_sl, ev_mth, evs_skip, evs_set, evs_ret, evs_expr, evs_if, evs_par, evs_as, ev_gN, ev_gsNil, ev_gsCons, ev_gTup, ev_gIx, evs_aug, ev_defF, evs_for, ev_rng1, ev_iSeq, ev_lc, o_addI, o_subI, o_addS, o_addT, o_mulI, o_modI, o_divI, o_powI, o_cmpI, o_intI, o_intB, o_absI, o_lst, o_tup, bl_bl, List.map_cons, List.map_nil, List.cons_append, List.nil_append, List.append_nil, List.getElem?_cons_zero, List.getElem?_cons_succ, List.set_cons_zero, List.set_cons_succ, List.length_cons, List.length_nil, List.replicate, Nat.reduceAdd, Nat.reduceSub, Nat.reduceLeDiff, true_and, and_true, if_true, decide_eq_true_eq, Nat.zero_add, isi_of ty, e, truW, ln, oLe, o_cmpI]
  by_cases h1 : 1 ≤ s.length
  · have h1' : (1 : Int) ≤ s.length := by omega
    simp only [h1', decide_true, if_true]
    by_cases h2 : s.length ≤ 8
    · have h2' : (s.length : Int) ≤ 8 := by omega
      simp only [h2', decide_true, if_true, srcOf]
      have hS : SrcIs ⟨s.cps.size, fun _ i => some ((s.cps[i]?).map fun c => W.str ⟨#[c]⟩)⟩ L (s.cps.toList.map fun c => W.str ⟨#[c]⟩) := by
        refine ⟨by simp, fun L' _ i => ?_⟩
        simp
      refine (lc_pure (g := fun w => match w with | .str x => .bl (strIn x letters) | _ => .non) hS (by simp; exact Nat.le_trans h2 (by decide)) fun w hw L' pr => ?_).mono fun acc L' q => ?_
      · obtain ⟨c, hc, rfl⟩ := List.mem_map.mp hw
        simp only [wipeE, ev_ok, ev_bind, ev_only, ev_ofO, ev_ofOB, ev_ite, evs_ite, evo_some, evs_toS, evs_seq, ev_C, ev_var, ev_op2, ev_op1, ev_opL, ev_nil, ev_cons, ev_call, ev_bVal, ev_bTru, ev_bNot, ev_bAnd, ev_bOr, ev_bYes, ev_cIf, ev_cNot, ev_cAnd, ev_cOr, ev_chain, ev_part_none, ev_part_some, ev_sl, ev_mth, evs_skip, evs_set, evs_ret, evs_expr, evs_if, evs_par, evs_as, ev_gN, ev_gsNil, ev_gsCons, ev_gTup, ev_gIx, evs_aug, ev_defF, evs_for, ev_rng1, ev_iSeq, ev_lc, o_addI, o_subI, o_addS, o_addT, o_mulI, o_modI, o_divI, o_powI, o_cmpI, o_intI, o_intB, o_absI, o_lst, o_tup, bl_bl, List.map_cons, List.map_nil, List.cons_append, List.nil_append, List.append_nil, List.getElem?_cons_zero, List.getElem?_cons_succ, List.set_cons_zero, List.set_cons_succ, List.length_cons, List.length_nil, List.replicate, Nat.reduceAdd, Nat.reduceSub, Nat.reduceLeDiff, true_and, and_true, if_true, decide_eq_true_eq, Nat.zero_add]
        exact ⟨rfl, List.prefix_refl _⟩
      · obtain ⟨rfl, pr⟩ := q
        have : (List.map (fun w => match w with | .str x => W.bl (strIn x letters) | _ => .non) (List.map (fun c => W.str ⟨#[c]⟩) s.cps.toList)) = (s.cps.toList.map fun c => strIn ⟨#[c]⟩ letters).map .bl := by
          rw [List.map_map, List.map_map]; rfl
        rw [this, all_at at_last, evo_some]
        refine ⟨?_, pr.trans pre_last⟩
        unfold nameB
        rw [show decide (1 ≤ s.length ∧ s.length ≤ 8) = true from by simp [h1, h2], Bool.true_and, List.all_map]
        rfl
    · have h2' : ¬ (s.length : Int) ≤ 8 := by omega
      simp only [h2', decide_false, Bool.false_eq_true, if_false]
      refine ⟨?_, List.prefix_refl _⟩
      unfold nameB
      rw [show decide (1 ≤ s.length ∧ s.length ≤ 8) = false from by simp [h2], Bool.false_and]
  · have h1' : ¬ (1 : Int) ≤ s.length := by omega
    simp only [h1', decide_false, Bool.false_eq_true, if_false, truW]
    refine ⟨?_, List.prefix_refl _⟩
    unfold nameB
    rw [show decide (1 ≤ s.length ∧ s.length ≤ 8) = false from by simp [h1], Bool.false_and]
/-! ### forms -/
theorem so_tick : PyData.strOk "tick" = true := by decide +kernel
theorem so_arg : PyData.strOk "arg" = true := by decide +kernel
theorem so_cell : PyData.strOk "cell" = true := by decide +kernel
theorem so_call : PyData.strOk "call" = true := by decide +kernel
theorem so_plus : PyData.strOk "plus" = true := by decide +kernel
theorem so_less : PyData.strOk "less" = true := by decide +kernel
theorem so_same : PyData.strOk "same" = true := by decide +kernel
theorem so_if : PyData.strOk "if" = true := by decide +kernel
theorem kindOf_inv {w : W} {kd : Str} {n : Int} (h : kindOf w kd n = true) : ∃ r, w = .tup (.str kd :: r) ∧ (r.length : Int) + 1 = n := by
  unfold kindOf at h
  split at h
  · rename_i s r
    rw [Bool.and_eq_true, beq_iff_eq, beq_iff_eq] at h
    exact ⟨r, by rw [h.2], h.1⟩
  · cases h
def c_is_between : Fn := f_is_between f_is_integer
def c_is_value : Fn := f_is_value c_is_between
def c_has_form : Fn := f_has_form c_is_value f_has_kind c_is_between f_is_name
theorem is_value_ok {w : W} {t : String} {L : LH} (h : tyName w L = some t) : c_is_value [w] L = .ok (.bl (btw w 0 2)) L := by
  have := is_between_ok (lo := 0) (hi := 2) h
  simp only [c_is_value, f_is_value, defF, sRet, sSeq, sIf, sSet, sSkip, cAnd, cOr, cNot, cIf, cCall, cCons, cNil, cVar, cC, cOpL, cOp2, bVal, bTru, bNot, bAnd, bOr, cChain, Res.bind, Res.toS, ofO, ofOB, blW, truW, List.length_cons, List.length_nil, if_true, List.map_cons, List.map_nil, Nat.sub_self, List.replicate, List.append_nil, List.cons_append, List.nil_append, List.getElem?_cons_zero, List.getElem?_cons_succ, Nat.zero_add, Nat.reduceAdd, Nat.reduceSub]
  rw [show c_is_between = f_is_between f_is_integer from rfl, this]
theorem ix_tup {ws : List W} {i : Nat} {w : W} {L : LH} (h : ws[i]? = some w) : oIx (.tup ws) (.int i) L = some (w, L) := by
  unfold oIx
  show oIxS _ _ _ = _
  unfold oIxS
  simp only [seqW, atI_nat h, Option.map]
theorem ix_tup0 {x : W} {r : List W} {L : LH} : oIx (.tup (x :: r)) (.int 0) L = some (x, L) := ix_tup (i := 0) rfl
theorem ix_tup1 {x y : W} {r : List W} {L : LH} : oIx (.tup (x :: y :: r)) (.int 1) L = some (y, L) := ix_tup (i := 1) rfl
theorem ix_tup2 {x y z : W} {r : List W} {L : LH} : oIx (.tup (x :: y :: z :: r)) (.int 2) L = some (z, L) := ix_tup (i := 2) rfl
def argB (many : Int) : W → Bool
  | .tup [_, x] => btw x 0 (many - 1)
  | _ => false
def cellB : W → Bool
  | .tup [_, .str s] => nameB s
  | _ => false
def callB : W → Bool
  | .tup [_, .str s, .tup ks] => nameB s && decide (ks.length ≤ 2)
  | _ => false
def formB (many : Int) (w : W) : Bool :=
  if (btw w 0 2 || kindOf w "tick" 1) = true then true else if kindOf w "arg" 2 = true then argB many w else if kindOf w "cell" 2 = true then cellB w else if kindOf w "call" 3 = true then callB w
  else (kindOf w "plus" 3 || (kindOf w "less" 3 || kindOf w "same" 3)) || kindOf w "if" 4
structure FK (L : LH) (w : W) : Prop where
  hk : HK L w
  arg : ∀ y, w = .tup [.str "arg", y] → ∃ t, tyName y L = some t
  cell : ∀ y, w = .tup [.str "cell", y] → ∃ s, y = .str s ∧ s.length ≤ 16777216
  call : ∀ y z, w = .tup [.str "call", y, z] → (∃ s, y = .str s ∧ s.length ≤ 16777216) ∧ ∃ t, tyName z L = some t
theorem HK.mono {L L' : LH} {w : W} (h : HK L w) (p : L <+: L') : HK L' w := by
  have ty : ∀ {w : W} {t : String}, tyName w L = some t → tyName w L' = some t := fun {w t} e => by
    cases w with
    | ref n =>
      simp only [tyName] at e ⊢
      split at e
      · rename_i xs e1; rw [pre_at p e1]; exact e
      · rename_i xs e1; rw [pre_at p e1]; exact e
      · cases e
    | _ => exact e
  exact ⟨h.ty.imp fun t e => ty e, fun x r e => ⟨(h.fst x r e).1.imp fun t e => ty e, (h.fst x r e).2⟩⟩
theorem ev_has_kind {w : W} {L : LH} {kd : Str} {n : Int} {Q : W → LH → Prop} (h : HK L w) (hk : PyData.strOk kd = true) (hn : 1 ≤ n) : Ev (f_has_kind [w, .str kd, .int n] L) Q = Q (.bl (kindOf w kd n)) L := by
  rw [has_kind_ok h hk hn, ev_ok]
theorem len2 {r : List W} (h : (r.length : Int) + 1 = 2) : ∃ y, r = [y] := by
  match r with
  | [y] => exact ⟨y, rfl⟩
  | [] => simp at h
  | _ :: _ :: _ => simp at h; omega
theorem len3 {r : List W} (h : (r.length : Int) + 1 = 3) : ∃ y z, r = [y, z] := by
  match r with
  | [y, z] => exact ⟨y, z, rfl⟩
  | [] => simp at h
  | [_] => simp at h
  | _ :: _ :: _ :: _ => simp at h; omega
theorem has_form_ok {w : W} {L : LH} {many : Int} (h : FK L w) : Ev (c_has_form [w, .int many] L) fun v L' => v = .bl (formB many w) ∧ L <+: L' := by
  obtain ⟨t, ht⟩ := h.hk.ty
  simp only [c_has_form, f_has_form, wipeE, ev_ok, ev_bind, ev_only, ev_ofO, ev_ofOB, ev_ite, evs_ite, evo_some, evs_toS, evs_seq, ev_C, ev_var, ev_op2, ev_op1, ev_opL, ev_nil, ev_cons, ev_call, ev_bVal, ev_bTru, ev_bNot, ev_bAnd, ev_bOr, ev_bYes, ev_cIf, ev_cNot, ev_cAnd, ev_cOr, ev_chain, ev_part_none, ev_part_some, ev_sl, ev_mth, evs_skip, evs_set, evs_ret, evs_expr, evs_if, evs_par, evs_as, ev_gN, ev_gsNil, ev_gsCons, ev_gTup, ev_gIx, evs_aug, ev_defF, evs_for, ev_rng1, ev_iSeq, ev_lc, o_addI, o_subI, o_addS, o_addT, o_mulI, o_modI, o_divI, o_powI, o_cmpI, o_intI, o_intB, o_absI, o_lst, o_tup, bl_bl, List.map_cons, List.map_nil, List.cons_append, List.nil_append, List.append_nil, List.getElem?_cons_zero, List.getElem?_cons_succ, List.set_cons_zero, List.set_cons_succ, List.length_cons, List.length_nil, List.replicate, Nat.reduceAdd, Nat.reduceSub, Nat.reduceLeDiff, true_and, and_true, if_true, decide_eq_true_eq, Nat.zero_add, is_value_ok ht, truW, ev_has_kind h.hk so_tick (show (1 : Int) ≤ 1 by decide), ev_has_kind h.hk so_arg (show (1 : Int) ≤ 2 by decide), ev_has_kind h.hk so_cell (show (1 : Int) ≤ 2 by decide), ev_has_kind h.hk so_call (show (1 : Int) ≤ 3 by decide)]
  unfold formB
  by_cases h1 : btw w 0 2 = true
  · rw [h1]; simp
  simp only [Bool.not_eq_true] at h1
  rw [h1]
  by_cases h2 : kindOf w "tick" 1 = true
  · rw [h2]; simp
  simp only [Bool.not_eq_true] at h2
  simp only [h2, Bool.or_false, Bool.false_eq_true, if_false]
  by_cases h3 : kindOf w "arg" 2 = true
  · obtain ⟨r, rfl, hr⟩ := kindOf_inv h3
    obtain ⟨y, rfl⟩ := len2 hr
    obtain ⟨t', hy⟩ := h.arg y rfl
    simp only [h3, if_true, ix_tup1, evo_some]
    rw [show c_is_between = f_is_between f_is_integer from rfl, is_between_ok hy, ev_ok]
    exact ⟨rfl, List.prefix_refl _⟩
  simp only [Bool.not_eq_true] at h3
  simp only [h3, Bool.false_eq_true, if_false]
  by_cases h4 : kindOf w "cell" 2 = true
  · obtain ⟨r, rfl, hr⟩ := kindOf_inv h4
    obtain ⟨y, rfl⟩ := len2 hr
    obtain ⟨s, rfl, hs⟩ := h.cell y rfl
    simp only [h4, if_true, ix_tup1, evo_some]
    exact is_name_ok hs
  simp only [Bool.not_eq_true] at h4
  simp only [h4, Bool.false_eq_true, if_false]
  by_cases h5 : kindOf w "call" 3 = true
  · obtain ⟨r, rfl, hr⟩ := kindOf_inv h5
    obtain ⟨y, z, rfl⟩ := len3 hr
    obtain ⟨⟨s, rfl, hs⟩, t2, hz⟩ := h.call y z rfl
    simp only [h5, if_true, ix_tup1, evo_some]
    refine (is_name_ok hs).mono fun v L' q => ?_
    obtain ⟨rfl, pr⟩ := q
    simp only
    cases hn : nameB s with
    | false =>
      simp only [Bool.false_eq_true, if_false]
      refine ⟨?_, pr⟩
      unfold callB
      split
      · rename_i e; cases e; rw [hn]; rfl
      · rfl
    | true =>
      simp only [if_true, ix_tup2, evo_some]
      cases z with
      | tup ks =>
        have ty : tyName (.tup ks) L' = some "tuple" := rfl
        have e : kitB "tuple" "tuple" = some true := rfl
        have ln : oLen [.tup ks] L' = some (.int ks.length, L') := oLen_eq rfl
        simp only [isi_of ty, e, if_true, ix_tup2, evo_some, ln, oLe, o_cmpI]
        refine ⟨?_, pr⟩
        show W.bl (decide ((ks.length : Int) ≤ 2)) = .bl (nameB s && decide (ks.length ≤ 2))
        rw [hn, Bool.true_and]
        congr 1
        rw [decide_eq_decide]; omega
      | ref m =>
        have hz' := hz
        simp only [tyName] at hz'
        split at hz'
        · rename_i xs e1
          have ty : tyName (.ref m) L' = some "list" := by simp only [tyName, pre_at pr e1]
          have e : kitB "list" "tuple" = some false := rfl
          simp only [isi_of ty, e, Bool.false_eq_true, if_false]
          exact ⟨rfl, pr⟩
        · rename_i xs e1
          have ty : tyName (.ref m) L' = some "dict" := by simp only [tyName, pre_at pr e1]
          have e : kitB "dict" "tuple" = some false := rfl
          simp only [isi_of ty, e, Bool.false_eq_true, if_false]
          exact ⟨rfl, pr⟩
        · cases hz'
      | non =>
        have ty : tyName .non L' = some "NoneType" := rfl
        have e : kitB "NoneType" "tuple" = some false := rfl
        simp only [isi_of ty, e, Bool.false_eq_true, if_false]
        exact ⟨rfl, pr⟩
      | bl b =>
        have ty : tyName (.bl b) L' = some "bool" := rfl
        have e : kitB "bool" "tuple" = some false := rfl
        simp only [isi_of ty, e, Bool.false_eq_true, if_false]
        exact ⟨rfl, pr⟩
      | int b =>
        have ty : tyName (.int b) L' = some "int" := rfl
        have e : kitB "int" "tuple" = some false := rfl
        simp only [isi_of ty, e, Bool.false_eq_true, if_false]
        exact ⟨rfl, pr⟩
      | str b =>
        have ty : tyName (.str b) L' = some "str" := rfl
        have e : kitB "str" "tuple" = some false := rfl
        simp only [isi_of ty, e, Bool.false_eq_true, if_false]
        exact ⟨rfl, pr⟩
      | _ => cases hz
  simp only [Bool.not_eq_true] at h5
  simp only [h5, Bool.false_eq_true, if_false]
  have hS : SrcIs ⟨[W.str "plus", W.str "less", W.str "same"].length, fun _ i => some [W.str "plus", W.str "less", W.str "same"][i]?⟩ L [W.str "plus", W.str "less", W.str "same"] := srcIs_tup
  simp only [srcOf]
  refine (lc_pure (g := fun v => match v with | .str x => .bl (kindOf w x 3) | _ => .non) hS (by decide) fun v hv L' pr => ?_).mono fun acc L' q => ?_
  · have hk := h.hk.mono pr
    simp only [List.mem_cons, List.mem_nil_iff, or_false] at hv
    rcases hv with rfl | rfl | rfl
    · simp only [wipeE, ev_ok, ev_bind, ev_only, ev_ofO, ev_ofOB, ev_ite, evs_ite, evo_some, evs_toS, evs_seq, ev_C, ev_var, ev_op2, ev_op1, ev_opL, ev_nil, ev_cons, ev_call, ev_bVal, ev_bTru, ev_bNot, ev_bAnd, ev_bOr, ev_bYes, ev_cIf, ev_cNot, ev_cAnd, ev_cOr, ev_chain, ev_part_none, ev_part_some, ev_sl, ev_mth, evs_skip, evs_set, evs_ret, evs_expr, evs_if, evs_par, evs_as, ev_gN, ev_gsNil, ev_gsCons, ev_gTup, ev_gIx, evs_aug, ev_defF, evs_for, ev_rng1, ev_iSeq, ev_lc, o_addI, o_subI, o_addS, o_addT, o_mulI, o_modI, o_divI, o_powI, o_cmpI, o_intI, o_intB, o_absI, o_lst, o_tup, bl_bl, List.map_cons, List.map_nil, List.cons_append, List.nil_append, List.append_nil, List.getElem?_cons_zero, List.getElem?_cons_succ, List.set_cons_zero, List.set_cons_succ, List.length_cons, List.length_nil, List.replicate, Nat.reduceAdd, Nat.reduceSub, Nat.reduceLeDiff, true_and, and_true, if_true, decide_eq_true_eq, Nat.zero_add, ev_has_kind hk so_plus (show (1 : Int) ≤ 3 by decide)]; exact List.prefix_refl _
    · simp only [wipeE, ev_ok, ev_bind, ev_only, ev_ofO, ev_ofOB, ev_ite, evs_ite, evo_some, evs_toS, evs_seq, ev_C, ev_var, ev_op2, ev_op1, ev_opL, ev_nil, ev_cons, ev_call, ev_bVal, ev_bTru, ev_bNot, ev_bAnd, ev_bOr, ev_bYes, ev_cIf, ev_cNot, ev_cAnd, ev_cOr, ev_chain, ev_part_none, ev_part_some, ev_sl, ev_mth, evs_skip, evs_set, evs_ret, evs_expr, evs_if, evs_par, evs_as, ev_gN, ev_gsNil, ev_gsCons, ev_gTup, ev_gIx, evs_aug, ev_defF, evs_for, ev_rng1, ev_iSeq, ev_lc, o_addI, o_subI, o_addS, o_addT, o_mulI, o_modI, o_divI, o_powI, o_cmpI, o_intI, o_intB, o_absI, o_lst, o_tup, bl_bl, List.map_cons, List.map_nil, List.cons_append, List.nil_append, List.append_nil, List.getElem?_cons_zero, List.getElem?_cons_succ, List.set_cons_zero, List.set_cons_succ, List.length_cons, List.length_nil, List.replicate, Nat.reduceAdd, Nat.reduceSub, Nat.reduceLeDiff, true_and, and_true, if_true, decide_eq_true_eq, Nat.zero_add, ev_has_kind hk so_less (show (1 : Int) ≤ 3 by decide)]; exact List.prefix_refl _
    · simp only [wipeE, ev_ok, ev_bind, ev_only, ev_ofO, ev_ofOB, ev_ite, evs_ite, evo_some, evs_toS, evs_seq, ev_C, ev_var, ev_op2, ev_op1, ev_opL, ev_nil, ev_cons, ev_call, ev_bVal, ev_bTru, ev_bNot, ev_bAnd, ev_bOr, ev_bYes, ev_cIf, ev_cNot, ev_cAnd, ev_cOr, ev_chain, ev_part_none, ev_part_some, ev_sl, ev_mth, evs_skip, evs_set, evs_ret, evs_expr, evs_if, evs_par, evs_as, ev_gN, ev_gsNil, ev_gsCons, ev_gTup, ev_gIx, evs_aug, ev_defF, evs_for, ev_rng1, ev_iSeq, ev_lc, o_addI, o_subI, o_addS, o_addT, o_mulI, o_modI, o_divI, o_powI, o_cmpI, o_intI, o_intB, o_absI, o_lst, o_tup, bl_bl, List.map_cons, List.map_nil, List.cons_append, List.nil_append, List.append_nil, List.getElem?_cons_zero, List.getElem?_cons_succ, List.set_cons_zero, List.set_cons_succ, List.length_cons, List.length_nil, List.replicate, Nat.reduceAdd, Nat.reduceSub, Nat.reduceLeDiff, true_and, and_true, if_true, decide_eq_true_eq, Nat.zero_add, ev_has_kind hk so_same (show (1 : Int) ≤ 3 by decide)]; exact List.prefix_refl _
  · obtain ⟨rfl, pr⟩ := q
    have e : (List.map (fun v => match v with | .str x => W.bl (kindOf w x 3) | _ => .non) [W.str "plus", W.str "less", W.str "same"]) = [kindOf w "plus" 3, kindOf w "less" 3, kindOf w "same" 3].map .bl := rfl
    rw [e, any_at at_last, evo_some]
    have pr2 : L <+: L' ++ [.lst ([kindOf w "plus" 3, kindOf w "less" 3, kindOf w "same" 3].map .bl)] := pr.trans pre_last
    simp only [truW, List.any_cons, List.any_nil, Bool.or_false, id]
    cases hb : (kindOf w "plus" 3 || (kindOf w "less" 3 || kindOf w "same" 3)) with
    | true => simp only [if_true, Bool.true_or]; exact ⟨by first | rfl | trivial, pr2⟩
    | false =>
      simp only [Bool.false_eq_true, if_false, Bool.false_or]
      rw [ev_has_kind (h.hk.mono pr2) so_if (by decide)]
      exact ⟨rfl, pr2⟩
end Z

/-! ZU: terms. -/
namespace Z
open PySem PySem.Spec PyProof.Rows L2
@[simp] theorem sn_arg_cell : (Str.ofString "arg" = Str.ofString "cell") = False := eq_false (by decide +kernel)
@[simp] theorem sn_arg_tick : (Str.ofString "arg" = Str.ofString "tick") = False := eq_false (by decide +kernel)
@[simp] theorem sn_arg_call : (Str.ofString "arg" = Str.ofString "call") = False := eq_false (by decide +kernel)
@[simp] theorem sn_arg_if : (Str.ofString "arg" = Str.ofString "if") = False := eq_false (by decide +kernel)
@[simp] theorem sn_arg_plus : (Str.ofString "arg" = Str.ofString "plus") = False := eq_false (by decide +kernel)
@[simp] theorem sn_arg_less : (Str.ofString "arg" = Str.ofString "less") = False := eq_false (by decide +kernel)
@[simp] theorem sn_arg_same : (Str.ofString "arg" = Str.ofString "same") = False := eq_false (by decide +kernel)
@[simp] theorem sn_cell_arg : (Str.ofString "cell" = Str.ofString "arg") = False := eq_false (by decide +kernel)
@[simp] theorem sn_cell_tick : (Str.ofString "cell" = Str.ofString "tick") = False := eq_false (by decide +kernel)
@[simp] theorem sn_cell_call : (Str.ofString "cell" = Str.ofString "call") = False := eq_false (by decide +kernel)
@[simp] theorem sn_cell_if : (Str.ofString "cell" = Str.ofString "if") = False := eq_false (by decide +kernel)
@[simp] theorem sn_cell_plus : (Str.ofString "cell" = Str.ofString "plus") = False := eq_false (by decide +kernel)
@[simp] theorem sn_cell_less : (Str.ofString "cell" = Str.ofString "less") = False := eq_false (by decide +kernel)
@[simp] theorem sn_cell_same : (Str.ofString "cell" = Str.ofString "same") = False := eq_false (by decide +kernel)
@[simp] theorem sn_tick_arg : (Str.ofString "tick" = Str.ofString "arg") = False := eq_false (by decide +kernel)
@[simp] theorem sn_tick_cell : (Str.ofString "tick" = Str.ofString "cell") = False := eq_false (by decide +kernel)
@[simp] theorem sn_tick_call : (Str.ofString "tick" = Str.ofString "call") = False := eq_false (by decide +kernel)
@[simp] theorem sn_tick_if : (Str.ofString "tick" = Str.ofString "if") = False := eq_false (by decide +kernel)
@[simp] theorem sn_tick_plus : (Str.ofString "tick" = Str.ofString "plus") = False := eq_false (by decide +kernel)
@[simp] theorem sn_tick_less : (Str.ofString "tick" = Str.ofString "less") = False := eq_false (by decide +kernel)
@[simp] theorem sn_tick_same : (Str.ofString "tick" = Str.ofString "same") = False := eq_false (by decide +kernel)
@[simp] theorem sn_call_arg : (Str.ofString "call" = Str.ofString "arg") = False := eq_false (by decide +kernel)
@[simp] theorem sn_call_cell : (Str.ofString "call" = Str.ofString "cell") = False := eq_false (by decide +kernel)
@[simp] theorem sn_call_tick : (Str.ofString "call" = Str.ofString "tick") = False := eq_false (by decide +kernel)
@[simp] theorem sn_call_if : (Str.ofString "call" = Str.ofString "if") = False := eq_false (by decide +kernel)
@[simp] theorem sn_call_plus : (Str.ofString "call" = Str.ofString "plus") = False := eq_false (by decide +kernel)
@[simp] theorem sn_call_less : (Str.ofString "call" = Str.ofString "less") = False := eq_false (by decide +kernel)
@[simp] theorem sn_call_same : (Str.ofString "call" = Str.ofString "same") = False := eq_false (by decide +kernel)
@[simp] theorem sn_if_arg : (Str.ofString "if" = Str.ofString "arg") = False := eq_false (by decide +kernel)
@[simp] theorem sn_if_cell : (Str.ofString "if" = Str.ofString "cell") = False := eq_false (by decide +kernel)
@[simp] theorem sn_if_tick : (Str.ofString "if" = Str.ofString "tick") = False := eq_false (by decide +kernel)
@[simp] theorem sn_if_call : (Str.ofString "if" = Str.ofString "call") = False := eq_false (by decide +kernel)
@[simp] theorem sn_if_plus : (Str.ofString "if" = Str.ofString "plus") = False := eq_false (by decide +kernel)
@[simp] theorem sn_if_less : (Str.ofString "if" = Str.ofString "less") = False := eq_false (by decide +kernel)
@[simp] theorem sn_if_same : (Str.ofString "if" = Str.ofString "same") = False := eq_false (by decide +kernel)
@[simp] theorem sn_plus_arg : (Str.ofString "plus" = Str.ofString "arg") = False := eq_false (by decide +kernel)
@[simp] theorem sn_plus_cell : (Str.ofString "plus" = Str.ofString "cell") = False := eq_false (by decide +kernel)
@[simp] theorem sn_plus_tick : (Str.ofString "plus" = Str.ofString "tick") = False := eq_false (by decide +kernel)
@[simp] theorem sn_plus_call : (Str.ofString "plus" = Str.ofString "call") = False := eq_false (by decide +kernel)
@[simp] theorem sn_plus_if : (Str.ofString "plus" = Str.ofString "if") = False := eq_false (by decide +kernel)
@[simp] theorem sn_plus_less : (Str.ofString "plus" = Str.ofString "less") = False := eq_false (by decide +kernel)
@[simp] theorem sn_plus_same : (Str.ofString "plus" = Str.ofString "same") = False := eq_false (by decide +kernel)
@[simp] theorem sn_less_arg : (Str.ofString "less" = Str.ofString "arg") = False := eq_false (by decide +kernel)
@[simp] theorem sn_less_cell : (Str.ofString "less" = Str.ofString "cell") = False := eq_false (by decide +kernel)
@[simp] theorem sn_less_tick : (Str.ofString "less" = Str.ofString "tick") = False := eq_false (by decide +kernel)
@[simp] theorem sn_less_call : (Str.ofString "less" = Str.ofString "call") = False := eq_false (by decide +kernel)
@[simp] theorem sn_less_if : (Str.ofString "less" = Str.ofString "if") = False := eq_false (by decide +kernel)
@[simp] theorem sn_less_plus : (Str.ofString "less" = Str.ofString "plus") = False := eq_false (by decide +kernel)
@[simp] theorem sn_less_same : (Str.ofString "less" = Str.ofString "same") = False := eq_false (by decide +kernel)
@[simp] theorem sn_same_arg : (Str.ofString "same" = Str.ofString "arg") = False := eq_false (by decide +kernel)
@[simp] theorem sn_same_cell : (Str.ofString "same" = Str.ofString "cell") = False := eq_false (by decide +kernel)
@[simp] theorem sn_same_tick : (Str.ofString "same" = Str.ofString "tick") = False := eq_false (by decide +kernel)
@[simp] theorem sn_same_call : (Str.ofString "same" = Str.ofString "call") = False := eq_false (by decide +kernel)
@[simp] theorem sn_same_if : (Str.ofString "same" = Str.ofString "if") = False := eq_false (by decide +kernel)
@[simp] theorem sn_same_plus : (Str.ofString "same" = Str.ofString "plus") = False := eq_false (by decide +kernel)
@[simp] theorem sn_same_less : (Str.ofString "same" = Str.ofString "less") = False := eq_false (by decide +kernel)
theorem cutW_tail {x : W} {r : List W} : cutW (x :: r) (some 1) none = r := by
  unfold cutW
  have h1 : HT.sIx (x :: r).length 0 (some 1) = 1 := by
    have := HT.sIx_nat (x :: r).length 0 1
    rw [show ((1 : Nat) : Int) = 1 from rfl] at this
    rw [this, List.length_cons]; omega
  have h2 : HT.sIx (x :: r).length (x :: r).length none = r.length + 1 := rfl
  rw [h1, h2]
  show List.take (r.length + 1 - 1) r = r
  rw [Nat.add_sub_cancel, List.take_length]
/-- the terms within -/
def innerW : W → Option (List W)
  | .tup (.str s :: r) => if s = "call" then (match r with | [_, .tup ks] => some ks | _ => none) else if s = "plus" ∨ s = "less" ∨ s = "same" ∨ s = "if" then some r else some []
  | .int _ => some []
  | _ => none
theorem inner_ok {w : W} {ks : List W} {L : LH} (h : innerW w = some ks) (hs : ∀ s r, w = .tup (.str s :: r) → PyData.strOk s = true) : f_inner_terms [w] L = .ok (.tup ks) L := by
  unfold innerW at h
  split at h
  · rename_i s r
    have ho := hs s r rfl
    have ty : tyName (.tup (.str s :: r)) L = some "tuple" := rfl
    have e : kitB "tuple" "tuple" = some true := rfl
    simp only [f_inner_terms, defF, sRet, sSeq, sIf, sSet, sSkip, cAnd, cOr, cNot, cIf, cCall, cCons, cNil, cVar, cC, cOpL, cOp2, bVal, bTru, bNot, bAnd, bOr, cChain, Res.bind, Res.toS, ofO, ofOB, blW, truW, List.length_cons, List.length_nil, if_true, List.map_cons, List.map_nil, Nat.sub_self, List.replicate, List.append_nil, List.cons_append, List.nil_append, List.getElem?_cons_zero, List.getElem?_cons_succ, Nat.zero_add, Nat.reduceAdd, Nat.reduceSub, oIsi, ty, e, Option.map, List.isEmpty, Bool.not_false, Bool.not_true, Bool.false_eq_true, if_false, ix_tup0, oEq, eqX_ss ho so_call, oB]
    by_cases hc : s = "call"
    · rw [if_pos hc] at h
      split at h
      · cases h
        simp only [hc, beq_self_eq_true, if_true, ix_tup2]
      · cases h
    · rw [if_neg hc] at h
      have hb : (s == ("call" : Str)) = false := beq_eq_false_iff_ne.mpr hc
      simp only [hb, Bool.false_eq_true, if_false]
      have hin : oInD (.str s) (.tup [.str "plus", .str "less", .str "same"]) L = some (.bl (decide (s = "plus" ∨ s = "less" ∨ s = "same")), L) := by
        show some (W.bl ((("plus" : Str) == s) || ((("less" : Str) == s) || ((("same" : Str) == s) || false))), L) = _
        have c : ∀ a : Str, (a == s) = decide (s = a) := fun a => by rw [Bool.eq_iff_iff, beq_iff_eq, decide_eq_true_eq]; exact eq_comm
        rw [c, c, c, Bool.or_false, Bool.decide_or, Bool.decide_or]
      simp only [List.getElem?_cons_zero, ix_tup0, hin, eqX_ss ho so_if]
      by_cases hp : s = "plus" ∨ s = "less" ∨ s = "same"
      · rw [if_pos (hp.elim .inl fun q => .inr (q.elim .inl fun q => .inr (.inl q)))] at h
        cases h
        simp only [hp, decide_true, if_true, List.getElem?_cons_zero, ix_tup0, cSl, Res.bind, cPart, cVar, cC, List.getElem?_cons_zero, oSl, ofO, cutW_tail]
      · simp only [hp, decide_false, Bool.false_eq_true, if_false]
        by_cases hi : s = "if"
        · rw [if_pos (.inr (.inr (.inr hi)))] at h
          cases h
          simp only [hi, beq_self_eq_true, if_true, List.getElem?_cons_zero, ix_tup0, cSl, Res.bind, cPart, cVar, cC, List.getElem?_cons_zero, oSl, ofO, cutW_tail]
        · have hno : ¬ (s = "plus" ∨ s = "less" ∨ s = "same" ∨ s = "if") := fun q => by
            rcases q with q | q | q | q
            · exact hp (.inl q)
            · exact hp (.inr (.inl q))
            · exact hp (.inr (.inr q))
            · exact hi q
          rw [if_neg hno] at h
          cases h
          have hb2 : (s == ("if" : Str)) = false := beq_eq_false_iff_ne.mpr hi
          simp only [hb2, Bool.false_eq_true, if_false]
          rfl
  · cases h; rfl
  · cases h
inductive Tm where
  | val (i : Int) | arg (i : Int) | cell (s : Str) | tick | call0 (s : Str) | call2 (s : Str) (a b : Tm) | bin (h : Str) (a b : Tm) | ite (a b c : Tm)
namespace Tm
def enc : Tm → W
  | .val i => .int i
  | .arg i => .tup [.str "arg", .int i]
  | .cell s => .tup [.str "cell", .str s]
  | .tick => .tup [.str "tick"]
  | .call0 s => .tup [.str "call", .str s, .tup []]
  | .call2 s a b => .tup [.str "call", .str s, .tup [a.enc, b.enc]]
  | .bin h a b => .tup [.str h, a.enc, b.enc]
  | .ite a b c => .tup [.str "if", a.enc, b.enc, c.enc]
def kids : Tm → List Tm
  | .call2 _ a b => [a, b]
  | .bin _ a b => [a, b]
  | .ite a b c => [a, b, c]
  | _ => []
structure NameOk (s : Str) : Prop where
  nm : nameB s = true
  so : PyData.strOk s = true
def ok (many : Int) : Tm → Prop
  | .val i => 0 ≤ i ∧ i ≤ 2
  | .arg i => 0 ≤ i ∧ i < many
  | .cell s => NameOk s
  | .tick => True
  | .call0 s => NameOk s
  | .call2 s a b => NameOk s ∧ a.ok many ∧ b.ok many
  | .bin h a b => (h = "plus" ∨ h = "less" ∨ h = "same") ∧ a.ok many ∧ b.ok many
  | .ite a b c => a.ok many ∧ b.ok many ∧ c.ok many
def size : Tm → Nat
  | .call2 _ a b => 1 + (a.size + b.size)
  | .bin _ a b => 1 + (a.size + b.size)
  | .ite a b c => 1 + (a.size + (b.size + c.size))
  | _ => 1
def dep : Tm → Nat
  | .call2 _ a b => 1 + max a.dep b.dep
  | .bin _ a b => 1 + max a.dep b.dep
  | .ite a b c => 1 + max a.dep (max b.dep c.dep)
  | _ => 1
variable {many : Int} {L : LH}
theorem NameOk.len {s : Str} (h : NameOk s) : s.length ≤ 8 := by
  have := h.nm
  unfold nameB at this
  rw [Bool.and_eq_true, decide_eq_true_eq] at this
  exact this.1.2
theorem kids_ok {t k : Tm} (h : t.ok many) (m : k ∈ t.kids) : k.ok many := by
  cases t <;> simp [kids] at m
  · rcases m with rfl | rfl
    · exact h.2.1
    · exact h.2.2
  · rcases m with rfl | rfl
    · exact h.2.1
    · exact h.2.2
  · rcases m with rfl | rfl | rfl
    · exact h.1
    · exact h.2.1
    · exact h.2.2
theorem size_eq (t : Tm) : t.size = 1 + (t.kids.map size).sum := by cases t <;> simp [size, kids]
theorem size_kid {t k : Tm} (m : k ∈ t.kids) : k.size < t.size := by
  cases t <;> simp [kids] at m
  · rcases m with rfl | rfl <;> simp [size] <;> omega
  · rcases m with rfl | rfl <;> simp [size] <;> omega
  · rcases m with rfl | rfl | rfl <;> simp [size] <;> omega
theorem dep_kid {t k : Tm} (m : k ∈ t.kids) : k.dep < t.dep := by
  cases t <;> simp [kids] at m
  · rcases m with rfl | rfl <;> simp [dep] <;> omega
  · rcases m with rfl | rfl <;> simp [dep] <;> omega
  · rcases m with rfl | rfl | rfl <;> simp [dep] <;> omega
theorem dep_pos (t : Tm) : 1 ≤ t.dep := by cases t <;> simp [dep]
theorem size_pos (t : Tm) : 1 ≤ t.size := by cases t <;> simp [size]
theorem so_h {h : Str} (e : h = "plus" ∨ h = "less" ∨ h = "same") : PyData.strOk h = true := by
  rcases e with rfl | rfl | rfl
  · exact so_plus
  · exact so_less
  · exact so_same
theorem enc_head {t : Tm} (h : t.ok many) (s : Str) (r : List W) (e : t.enc = .tup (.str s :: r)) : PyData.strOk s = true := by
  cases t <;> simp [enc] at e
  · obtain ⟨rfl, _⟩ := e; exact so_arg
  · obtain ⟨rfl, _⟩ := e; exact so_cell
  · obtain ⟨rfl, _⟩ := e; exact so_tick
  · obtain ⟨rfl, _⟩ := e; exact so_call
  · obtain ⟨rfl, _⟩ := e; exact so_call
  · obtain ⟨rfl, _⟩ := e; exact so_h h.1
  · obtain ⟨rfl, _⟩ := e; exact so_if
theorem enc_inner {t : Tm} (h : t.ok many) : innerW t.enc = some (t.kids.map enc) := by
  cases t with
  | bin hh a b =>
    have hc : hh ≠ "call" := by rcases h.1 with rfl | rfl | rfl <;> decide +kernel
    show (if hh = "call" then _ else _) = _
    rw [if_neg hc, if_pos (h.1.elim .inl fun q => .inr (q.elim .inl fun q => .inr (.inl q)))]
    rfl
  | _ => rfl
theorem inner_t {t : Tm} (h : t.ok many) : f_inner_terms [t.enc] L = .ok (.tup (t.kids.map enc)) L := inner_ok (enc_inner h) (enc_head h)
theorem enc_ty (t : Tm) : ∃ ty, tyName t.enc L = some ty := by cases t <;> exact ⟨_, rfl⟩
theorem fk_t {t : Tm} (h : t.ok many) : FK L t.enc := by
  refine ⟨⟨enc_ty t, fun x r e => ⟨?_, fun s es => enc_head h s r (by rw [e, es])⟩⟩, fun y e => ?_, fun y e => ?_, fun y z e => ?_⟩
  · cases t <;> simp [enc] at e <;> obtain ⟨rfl, _⟩ := e <;> exact ⟨_, rfl⟩
  · cases t <;> simp [enc] at e
    · obtain rfl := e; exact ⟨_, rfl⟩
  · cases t <;> simp [enc] at e
    · obtain rfl := e; exact ⟨_, rfl, Nat.le_trans (NameOk.len h) (by decide)⟩
  · cases t <;> simp [enc] at e
    · obtain ⟨rfl, rfl⟩ := e; exact ⟨⟨_, rfl, Nat.le_trans (NameOk.len h) (by decide)⟩, _, rfl⟩
    · obtain ⟨rfl, rfl⟩ := e; exact ⟨⟨_, rfl, Nat.le_trans (NameOk.len h.1) (by decide)⟩, _, rfl⟩
    · have := h.1; obtain ⟨rfl, _⟩ := e; rcases this with q | q | q <;> exact absurd q (by decide +kernel)
theorem form_t {t : Tm} (h : t.ok many) : formB many t.enc = true := by
  cases t with
  | val i =>
    unfold formB
    rw [show btw (enc (.val i)) 0 2 = true from by show (decide (0 ≤ i) && decide (i ≤ 2)) = true; simp [h.1, h.2]]
    rfl
  | arg i =>
    show btw (.int i) 0 (many - 1) = true
    show (decide (0 ≤ i) && decide (i ≤ many - 1)) = true
    have h1 := h.1; have h2 := h.2
    simp [h1]; omega
  | cell s => exact NameOk.nm h
  | tick => rfl
  | call0 s =>
    show (nameB s && decide (0 ≤ 2)) = true
    rw [NameOk.nm h]; rfl
  | call2 s a b =>
    show (nameB s && decide (2 ≤ 2)) = true
    rw [NameOk.nm h.1]; rfl
  | bin hh a b => rcases h.1 with rfl | rfl | rfl <;> rfl
  | ite a b c => rfl
end Tm
end Z

/-! ZV: is_term. -/
namespace Z
open PySem PySem.Spec PyProof.Rows L2
theorem tyName_mono {L L' : LH} (p : L <+: L') {w : W} {t : String} (e : tyName w L = some t) : tyName w L' = some t := by
  cases w with
  | ref n =>
    simp only [tyName] at e ⊢
    split at e
    · rename_i xs e1; rw [pre_at p e1]; exact e
    · rename_i xs e1; rw [pre_at p e1]; exact e
    · cases e
  | _ => exact e
theorem FK.mono {L L' : LH} {w : W} (h : FK L w) (p : L <+: L') : FK L' w :=
  ⟨h.hk.mono p, fun y e => (h.arg y e).imp fun t q => tyName_mono p q, h.cell, fun y z e => ⟨(h.call y z e).1, (h.call y z e).2.imp fun t q => tyName_mono p q⟩⟩
theorem oLen_at {L : LH} {n : Nat} {ws : List W} (h : L[n]? = some (.lst ws)) : oLen [.ref n] L = some (.int ws.length, L) := by
  refine oLen_eq ?_
  simp only [lenW, dicW, h, seqW, seqL_at h, Option.map]
theorem eq_nil {L : LH} {n m : Nat} {ws : List W} (h : L[n]? = some (.lst ws)) (hm : L[m]? = some (.lst [])) : eqX L (.ref n) (.ref m) = some ws.isEmpty := by
  unfold eqX lenDiff
  simp only [seqL_at h, seqL_at hm]
  cases ws with
  | nil =>
    simp only [List.length_nil, bne_self_eq_false, Bool.false_eq_true, if_false]
    unfold eqD toD
    simp only [seqL_at h, seqL_at hm]
    unfold toDs
    rfl
  | cons x r => rfl
theorem seq_at {L : LH} {n : Nat} {ws : List W} (h : L[n]? = some (.lst ws)) : seqW (.ref n) L = some ws := seqL_at h
inductive Bent (L0 : LH) (many : Int) : W → Prop
  | odd {w : W} : FK L0 w → formB many w = false → Bent L0 many w
  | node {w b : W} {pre post : List Tm} : FK L0 w → formB many w = true → innerW w = some (pre.map Tm.enc ++ b :: post.map Tm.enc) → (∀ s r, w = .tup (.str s :: r) → PyData.strOk s = true) → (∀ t ∈ pre, t.ok many) → (∀ t ∈ post, t.ok many) → pre.length + post.length ≤ 3 → Bent L0 many b → Bent L0 many w
def c_is_term : Fn := f_is_term c_has_form f_inner_terms
theorem flatMap_congr' {α β : Type} {f g : α → List β} : ∀ {l : List α}, (∀ x ∈ l, f x = g x) → l.flatMap f = l.flatMap g
  | [], _ => rfl
  | x :: r, h => by
    rw [List.flatMap_cons, List.flatMap_cons, h x List.mem_cons_self, flatMap_congr' fun y hy => h y (List.mem_cons_of_mem _ hy)]
namespace Tm
theorem kids_len (t : Tm) : t.kids.length ≤ 3 := by cases t <;> simp [kids]
theorem sum_kids : ∀ ts : List Tm, (ts.map size).sum = ts.length + ((ts.flatMap kids).map size).sum
  | [] => rfl
  | t :: r => by
    simp only [List.map_cons, List.sum_cons, List.flatMap_cons, List.map_append, List.sum_append, List.length_cons]
    rw [sum_kids r, size_eq t]
    omega
theorem len_le_sum : ∀ ts : List Tm, ts.length ≤ (ts.map size).sum
  | [] => Nat.le_refl _
  | t :: r => by
    have := len_le_sum r
    have := size_pos t
    simp only [List.map_cons, List.sum_cons, List.length_cons]; omega
end Tm
def xAll : Ex := cOpL oAll (cCons (cLc [6] (iSeq (cVar 3)) (CT.one 6) bYes (cCall c_has_form [] (cCons (cVar 6) (cCons (cVar 1) cNil)))) cNil)
def xNext : Ex := cLc2 [5, 6] [6] (iSeq (cVar 3)) (CT.one 5) bYes (iSeq (cCall f_inner_terms [] (cCons (cVar 5) cNil))) (CT.one 6) bYes (cVar 6)
theorem c_is_term_eq : c_is_term = defF 7 2 (sSeq (sPar 3 4 (cCons (cOpL oLst (cCons (cVar 0) cNil)) (cCons (cC (.int 0)) cNil))) (sSeq (sFor (iRng1 (cCons (cC (.int 8)) cNil)) (gN 2) (sSeq (sAug 4 (oAug oAdd) (cOpL oLen (cCons (cVar 3) cNil))) (sSeq (sIf (bOr (bVal (cOp2 oGt (cVar 4) (cC (.int 30)))) (bNot (bTru xAll))) (sRet (cC (.bl false))) sSkip) (sSeq (sSet 3 xNext) (sIf (bVal (cOp2 oEq (cVar 3) (cOpL oLst cNil))) (sRet (cC (.bl true))) sSkip))))) (sRet (cC (.bl false))))) := rfl
/-- what a whole layer's turn leads to -/
theorem all_forms {L : LH} {n : Nat} {ws : List W} {many : Int} {env : Env} (h : L[n]? = some (.lst ws)) (hl : ws.length ≤ 16777216) (he1 : env[1]? = some (some (.int many))) (he3 : env[3]? = some (some (.ref n))) (hlen : env.length = 7) (hf : ∀ w ∈ ws, FK L w) :
    Ev (xAll env L) fun w L' => w = .bl (ws.all (formB many)) ∧ L <+: L' := by
  obtain ⟨S, e1, hS⟩ := srcOf_at h
  simp only [xAll, wipeE, ev_ok, ev_bind, ev_only, ev_ofO, ev_ofOB, ev_ite, evs_ite, evo_some, evs_toS, evs_seq, ev_C, ev_var, ev_op2, ev_op1, ev_opL, ev_nil, ev_cons, ev_call, ev_bVal, ev_bTru, ev_bNot, ev_bAnd, ev_bOr, ev_bYes, ev_cIf, ev_cNot, ev_cAnd, ev_cOr, ev_chain, ev_part_none, ev_part_some, ev_sl, ev_mth, evs_skip, evs_set, evs_ret, evs_expr, evs_if, evs_par, evs_as, ev_gN, ev_gsNil, ev_gsCons, ev_gTup, ev_gIx, evs_aug, ev_defF, evs_for, ev_rng1, ev_iSeq, ev_lc, o_addI, o_subI, o_addS, o_addT, o_mulI, o_modI, o_divI, o_powI, o_cmpI, o_intI, o_intB, o_absI, o_lst, o_tup, bl_bl, List.map_cons, List.map_nil, List.cons_append, List.nil_append, List.append_nil, List.getElem?_cons_zero, List.getElem?_cons_succ, List.set_cons_zero, List.set_cons_succ, List.length_cons, List.length_nil, List.replicate, Nat.reduceAdd, Nat.reduceSub, Nat.reduceLeDiff, true_and, and_true, if_true, decide_eq_true_eq, Nat.zero_add, he3, e1]
  refine (lc_pure (g := fun w => .bl (formB many w)) hS hl fun w hw L' pr => ?_).mono fun acc L' q => ?_
  · have g6 : ((env.set 6 none).set 6 (some w))[6]? = some (some w) := by
      rw [List.getElem?_set_self]; rw [List.length_set]; omega
    have g1 : ((env.set 6 none).set 6 (some w))[1]? = some (some (.int many)) := by
      rw [List.getElem?_set_ne (by decide), List.getElem?_set_ne (by decide)]; exact he1
    simp only [wipeE, ev_ok, ev_bind, ev_only, ev_ofO, ev_ofOB, ev_ite, evs_ite, evo_some, evs_toS, evs_seq, ev_C, ev_var, ev_op2, ev_op1, ev_opL, ev_nil, ev_cons, ev_call, ev_bVal, ev_bTru, ev_bNot, ev_bAnd, ev_bOr, ev_bYes, ev_cIf, ev_cNot, ev_cAnd, ev_cOr, ev_chain, ev_part_none, ev_part_some, ev_sl, ev_mth, evs_skip, evs_set, evs_ret, evs_expr, evs_if, evs_par, evs_as, ev_gN, ev_gsNil, ev_gsCons, ev_gTup, ev_gIx, evs_aug, ev_defF, evs_for, ev_rng1, ev_iSeq, ev_lc, o_addI, o_subI, o_addS, o_addT, o_mulI, o_modI, o_divI, o_powI, o_cmpI, o_intI, o_intB, o_absI, o_lst, o_tup, bl_bl, List.map_cons, List.map_nil, List.cons_append, List.nil_append, List.append_nil, List.getElem?_cons_zero, List.getElem?_cons_succ, List.set_cons_zero, List.set_cons_succ, List.length_cons, List.length_nil, List.replicate, Nat.reduceAdd, Nat.reduceSub, Nat.reduceLeDiff, true_and, and_true, if_true, decide_eq_true_eq, Nat.zero_add, g6, g1]
    exact has_form_ok ((hf w hw).mono pr)
  · obtain ⟨rfl, pr⟩ := q
    have e : ws.map (fun w => W.bl (formB many w)) = (ws.map (formB many)).map .bl := by rw [List.map_map]; rfl
    rw [e, all_at at_last, evo_some]
    refine ⟨?_, pr.trans pre_last⟩
    rw [List.all_map]; rfl
theorem next_layer {L : LH} {n : Nat} {ws : List W} {env : Env} (ks : W → List W) (h : L[n]? = some (.lst ws)) (hl : (ws.flatMap ks).length ≤ 16777216) (he3 : env[3]? = some (some (.ref n))) (hlen : env.length = 7)
    (hf : ∀ w ∈ ws, innerW w = some (ks w) ∧ ∀ s r, w = .tup (.str s :: r) → PyData.strOk s = true) :
    Ev (xNext env L) fun w L' => ∃ m, w = .ref m ∧ L'[m]? = some (.lst (ws.flatMap ks)) ∧ L <+: L' := by
  obtain ⟨S, e1, hS⟩ := srcOf_at h
  simp only [xNext, cLc2, wipeE, ev_ok, ev_bind, ev_only, ev_ofO, ev_ofOB, ev_ite, evs_ite, evo_some, evs_toS, evs_seq, ev_C, ev_var, ev_op2, ev_op1, ev_opL, ev_nil, ev_cons, ev_call, ev_bVal, ev_bTru, ev_bNot, ev_bAnd, ev_bOr, ev_bYes, ev_cIf, ev_cNot, ev_cAnd, ev_cOr, ev_chain, ev_part_none, ev_part_some, ev_sl, ev_mth, evs_skip, evs_set, evs_ret, evs_expr, evs_if, evs_par, evs_as, ev_gN, ev_gsNil, ev_gsCons, ev_gTup, ev_gIx, evs_aug, ev_defF, evs_for, ev_rng1, ev_iSeq, ev_lc, o_addI, o_subI, o_addS, o_addT, o_mulI, o_modI, o_divI, o_powI, o_cmpI, o_intI, o_intB, o_absI, o_lst, o_tup, bl_bl, List.map_cons, List.map_nil, List.cons_append, List.nil_append, List.append_nil, List.getElem?_cons_zero, List.getElem?_cons_succ, List.set_cons_zero, List.set_cons_succ, List.length_cons, List.length_nil, List.replicate, Nat.reduceAdd, Nat.reduceSub, Nat.reduceLeDiff, true_and, and_true, if_true, decide_eq_true_eq, Nat.zero_add, he3, e1]
  have hgo := lc2_pure (j := 5) (j1 := 6) (it1 := iSeq (cCall f_inner_terms [] (cCons (cVar 5) cNil))) (vs1 := [6]) (e := cVar 6) (env := (env.set 6 none).set 5 none) ks hS hl (fun w hw L' pr => ?_) S.len 0 L [] (by rw [hS.1]; omega) (List.prefix_refl _) rfl
  · exact hgo.mono fun acc L' q => by
      obtain ⟨rfl, pr⟩ := q
      exact ⟨_, rfl, at_last, pr.trans pre_last⟩
  · have g5 : ((((env.set 6 none).set 5 none)).set 5 (some w))[5]? = some (some w) := by
      rw [List.getElem?_set_self]; rw [List.length_set, List.length_set]; omega
    obtain ⟨hi, hs⟩ := hf w hw
    simp only [wipeE, ev_ok, ev_bind, ev_only, ev_ofO, ev_ofOB, ev_ite, evs_ite, evo_some, evs_toS, evs_seq, ev_C, ev_var, ev_op2, ev_op1, ev_opL, ev_nil, ev_cons, ev_call, ev_bVal, ev_bTru, ev_bNot, ev_bAnd, ev_bOr, ev_bYes, ev_cIf, ev_cNot, ev_cAnd, ev_cOr, ev_chain, ev_part_none, ev_part_some, ev_sl, ev_mth, evs_skip, evs_set, evs_ret, evs_expr, evs_if, evs_par, evs_as, ev_gN, ev_gsNil, ev_gsCons, ev_gTup, ev_gIx, evs_aug, ev_defF, evs_for, ev_rng1, ev_iSeq, ev_lc, o_addI, o_subI, o_addS, o_addT, o_mulI, o_modI, o_divI, o_powI, o_cmpI, o_intI, o_intB, o_absI, o_lst, o_tup, bl_bl, List.map_cons, List.map_nil, List.cons_append, List.nil_append, List.append_nil, List.getElem?_cons_zero, List.getElem?_cons_succ, List.set_cons_zero, List.set_cons_succ, List.length_cons, List.length_nil, List.replicate, Nat.reduceAdd, Nat.reduceSub, Nat.reduceLeDiff, true_and, and_true, if_true, decide_eq_true_eq, Nat.zero_add, g5, inner_ok hi hs, srcOf]
    refine ⟨List.prefix_refl _, srcIs_tup, fun x hx L3 p3 => ?_⟩
    have g6 : (((((env.set 6 none).set 5 none).set 5 (some w)).set 6 none).set 6 (some x))[6]? = some (some x) := by
      rw [List.getElem?_set_self]; simp only [List.length_set]; omega
    simp only [wipeE, ev_ok, ev_bind, ev_only, ev_ofO, ev_ofOB, ev_ite, evs_ite, evo_some, evs_toS, evs_seq, ev_C, ev_var, ev_op2, ev_op1, ev_opL, ev_nil, ev_cons, ev_call, ev_bVal, ev_bTru, ev_bNot, ev_bAnd, ev_bOr, ev_bYes, ev_cIf, ev_cNot, ev_cAnd, ev_cOr, ev_chain, ev_part_none, ev_part_some, ev_sl, ev_mth, evs_skip, evs_set, evs_ret, evs_expr, evs_if, evs_par, evs_as, ev_gN, ev_gsNil, ev_gsCons, ev_gTup, ev_gIx, evs_aug, ev_defF, evs_for, ev_rng1, ev_iSeq, ev_lc, o_addI, o_subI, o_addS, o_addT, o_mulI, o_modI, o_divI, o_powI, o_cmpI, o_intI, o_intB, o_absI, o_lst, o_tup, bl_bl, List.map_cons, List.map_nil, List.cons_append, List.nil_append, List.append_nil, List.getElem?_cons_zero, List.getElem?_cons_succ, List.set_cons_zero, List.set_cons_succ, List.length_cons, List.length_nil, List.replicate, Nat.reduceAdd, Nat.reduceSub, Nat.reduceLeDiff, true_and, and_true, if_true, decide_eq_true_eq, Nat.zero_add, g6]
    exact List.prefix_refl _
theorem len7 {env : Env} {w m : W} (h : ∃ x2 n p x5 x6, env = [some w, some m, x2, some (.ref n), some (.int p), x5, x6]) : env.length = 7 := by
  obtain ⟨_, _, _, _, _, rfl⟩ := h; rfl
theorem is_term_ok {t : Tm} {many : Int} {L0 : LH} (ht : t.ok many) (hs : t.size ≤ 30) (hd : t.dep ≤ 8) : Ev (c_is_term [t.enc, .int many] L0) fun w L' => w = .bl true ∧ L0 <+: L' := by
  simp only [c_is_term_eq, wipeE, ev_ok, ev_bind, ev_only, ev_ofO, ev_ofOB, ev_ite, evs_ite, evo_some, evs_toS, evs_seq, ev_C, ev_var, ev_op2, ev_op1, ev_opL, ev_nil, ev_cons, ev_call, ev_bVal, ev_bTru, ev_bNot, ev_bAnd, ev_bOr, ev_bYes, ev_cIf, ev_cNot, ev_cAnd, ev_cOr, ev_chain, ev_part_none, ev_part_some, ev_sl, ev_mth, evs_skip, evs_set, evs_ret, evs_expr, evs_if, evs_par, evs_as, ev_gN, ev_gsNil, ev_gsCons, ev_gTup, ev_gIx, evs_aug, ev_defF, evs_for, ev_rng1, ev_iSeq, ev_lc, o_addI, o_subI, o_addS, o_addT, o_mulI, o_modI, o_divI, o_powI, o_cmpI, o_intI, o_intB, o_absI, o_lst, o_tup, bl_bl, List.map_cons, List.map_nil, List.cons_append, List.nil_append, List.append_nil, List.getElem?_cons_zero, List.getElem?_cons_succ, List.set_cons_zero, List.set_cons_succ, List.length_cons, List.length_nil, List.replicate, Nat.reduceAdd, Nat.reduceSub, Nat.reduceLeDiff, true_and, and_true, if_true, decide_eq_true_eq, Nat.zero_add]
  refine ⟨by decide, ?_⟩
  refine for_inv (fun i env L => L0 <+: L ∧ ∃ n ts p x2 x5 x6, env = [some t.enc, some (.int many), x2, some (.ref n), some (.int p), x5, x6] ∧ L[n]? = some (.lst (ts.map Tm.enc)) ∧ (∀ t ∈ ts, t.ok many) ∧ ts ≠ [] ∧ 0 ≤ p ∧ p + (ts.map Tm.size).sum ≤ 30 ∧ ∀ t ∈ ts, t.dep ≤ 8 - i)
    (n := 8) (fun i env L hi hp => ?_) (fun env L hp => ?_) 8 0 _ _ rfl ⟨pre_last, L0.length, [t], 0, _, _, _, rfl, at_last, by simpa using ht, by simp, by decide, by simp; omega, by simpa using hd⟩
  · obtain ⟨pr, n, ts, p, x2, x5, x6, rfl, hL, hok, hne, hp0, hsum, hdep⟩ := hp
    refine ⟨.int (0 + i), by simp [srcR, hi], ?_⟩
    have hlen : ts.length ≤ (ts.map Tm.size).sum := Tm.len_le_sum ts
    have hll : ts.length ≤ 30 := by omega
    simp only [wipeE, ev_ok, ev_bind, ev_only, ev_ofO, ev_ofOB, ev_ite, evs_ite, evo_some, evs_toS, evs_seq, ev_C, ev_var, ev_op2, ev_op1, ev_opL, ev_nil, ev_cons, ev_call, ev_bVal, ev_bTru, ev_bNot, ev_bAnd, ev_bOr, ev_bYes, ev_cIf, ev_cNot, ev_cAnd, ev_cOr, ev_chain, ev_part_none, ev_part_some, ev_sl, ev_mth, evs_skip, evs_set, evs_ret, evs_expr, evs_if, evs_par, evs_as, ev_gN, ev_gsNil, ev_gsCons, ev_gTup, ev_gIx, evs_aug, ev_defF, evs_for, ev_rng1, ev_iSeq, ev_lc, o_addI, o_subI, o_addS, o_addT, o_mulI, o_modI, o_divI, o_powI, o_cmpI, o_intI, o_intB, o_absI, o_lst, o_tup, bl_bl, List.map_cons, List.map_nil, List.cons_append, List.nil_append, List.append_nil, List.getElem?_cons_zero, List.getElem?_cons_succ, List.set_cons_zero, List.set_cons_succ, List.length_cons, List.length_nil, List.replicate, Nat.reduceAdd, Nat.reduceSub, Nat.reduceLeDiff, true_and, and_true, if_true, decide_eq_true_eq, Nat.zero_add, oAug, oLen_at hL, List.length_map, oGt, o_cmpI]
    have h30 : ¬ (p + (ts.length : Int) > 30) := by omega
    simp only [h30, decide_false, Bool.false_eq_true, if_false]
    have hfk : ∀ w ∈ ts.map Tm.enc, FK L w := fun w hw => by
      obtain ⟨t', ht', rfl⟩ := List.mem_map.mp hw
      exact Tm.fk_t (hok t' ht')
    refine (all_forms hL (by simp; omega) rfl rfl rfl hfk).mono fun w L1 q => ?_
    obtain ⟨rfl, p1⟩ := q
    have hall : (ts.map Tm.enc).all (formB many) = true := by
      rw [List.all_map, List.all_eq_true]
      exact fun t' ht' => Tm.form_t (hok t' ht')
    simp only [hall, truW, Bool.not_true, Bool.false_eq_true, if_false]
    have hin : ∀ w ∈ ts.map Tm.enc, innerW w = some (((innerW w).getD [])) ∧ ∀ s r, w = .tup (.str s :: r) → PyData.strOk s = true := fun w hw => by
      obtain ⟨t', ht', rfl⟩ := List.mem_map.mp hw
      exact ⟨by rw [Tm.enc_inner (hok t' ht')]; rfl, Tm.enc_head (hok t' ht')⟩
    have hflat : (ts.map Tm.enc).flatMap (fun w => (innerW w).getD []) = (ts.flatMap Tm.kids).map Tm.enc := by
      rw [List.map_flatMap, List.flatMap_map]
      refine flatMap_congr' fun t' ht' => ?_
      rw [Tm.enc_inner (hok t' ht')]; rfl
    have hsk := Tm.sum_kids ts
    have hlk := Tm.len_le_sum (ts.flatMap Tm.kids)
    refine (next_layer (fun w => (innerW w).getD []) (pre_at p1 hL) (by rw [hflat, List.length_map]; omega) rfl rfl hin).mono fun w L2 q => ?_
    obtain ⟨m, rfl, hm, p2⟩ := q
    rw [hflat] at hm
    simp only [oEq, oB, eq_nil (pre_at pre_last hm) at_last, Option.map, evo_some, blW]
    have pA : L0 <+: L2 ++ [LO.lst []] := pr.trans (p1.trans (p2.trans pre_last))
    cases hz : ((ts.flatMap Tm.kids).map Tm.enc).isEmpty with
    | true => simp only [if_true]; exact pA
    | false =>
      simp only [Bool.false_eq_true, if_false]
      refine ⟨pA, m, ts.flatMap Tm.kids, p + ts.length, _, _, _, rfl, pre_at pre_last hm, fun t' ht' => ?_, ?_, by omega, by omega, fun t' ht' => ?_⟩
      · obtain ⟨u, hu, hk⟩ := List.mem_flatMap.mp ht'
        exact Tm.kids_ok (hok u hu) hk
      · intro e; rw [e] at hz; cases hz
      · obtain ⟨u, hu, hk⟩ := List.mem_flatMap.mp ht'
        have := hdep u hu
        have := Tm.dep_kid hk
        omega
  · obtain ⟨pr, n, ts, p, x2, x5, x6, rfl, hL, hok, hne, hp0, hsum, hdep⟩ := hp
    cases ts with
    | nil => exact absurd rfl hne
    | cons u r =>
      have := hdep u List.mem_cons_self
      have := Tm.dep_pos u
      omega
theorem flat_len : ∀ ts : List Tm, (ts.flatMap Tm.kids).length ≤ 3 * ts.length
  | [] => Nat.le_refl _
  | t :: r => by
    have := flat_len r
    have := Tm.kids_len t
    rw [List.flatMap_cons, List.length_append, List.length_cons]; omega
theorem flat_enc {many : Int} {ts : List Tm} (hok : ∀ t ∈ ts, t.ok many) : (ts.map Tm.enc).flatMap (fun w => (innerW w).getD []) = (ts.flatMap Tm.kids).map Tm.enc := by
  rw [List.map_flatMap, List.flatMap_map]
  refine flatMap_congr' fun t' ht' => ?_
  rw [Tm.enc_inner (hok t' ht')]; rfl
theorem is_term_bent {w : W} {many : Int} {L0 : LH} (hb : Bent L0 many w) : Ev (c_is_term [w, .int many] L0) fun v L' => v = .bl false ∧ L0 <+: L' := by
  simp only [c_is_term_eq, wipeE, ev_ok, ev_bind, ev_only, ev_ofO, ev_ofOB, ev_ite, evs_ite, evo_some, evs_toS, evs_seq, ev_C, ev_var, ev_op2, ev_op1, ev_opL, ev_nil, ev_cons, ev_call, ev_bVal, ev_bTru, ev_bNot, ev_bAnd, ev_bOr, ev_bYes, ev_cIf, ev_cNot, ev_cAnd, ev_cOr, ev_chain, ev_part_none, ev_part_some, ev_sl, ev_mth, evs_skip, evs_set, evs_ret, evs_expr, evs_if, evs_par, evs_as, ev_gN, ev_gsNil, ev_gsCons, ev_gTup, ev_gIx, evs_aug, ev_defF, evs_for, ev_rng1, ev_iSeq, ev_lc, o_addI, o_subI, o_addS, o_addT, o_mulI, o_modI, o_divI, o_powI, o_cmpI, o_intI, o_intB, o_absI, o_lst, o_tup, bl_bl, List.map_cons, List.map_nil, List.cons_append, List.nil_append, List.append_nil, List.getElem?_cons_zero, List.getElem?_cons_succ, List.set_cons_zero, List.set_cons_succ, List.length_cons, List.length_nil, List.replicate, Nat.reduceAdd, Nat.reduceSub, Nat.reduceLeDiff, true_and, and_true, if_true, decide_eq_true_eq, Nat.zero_add]
  refine ⟨by decide, ?_⟩
  refine for_inv (fun i env L => L0 <+: L ∧ ∃ n pre b post p x2 x5 x6, env = [some w, some (.int many), x2, some (.ref n), some (.int p), x5, x6] ∧ L[n]? = some (.lst (pre.map Tm.enc ++ b :: post.map Tm.enc)) ∧ (∀ t ∈ pre, t.ok many) ∧ (∀ t ∈ post, t.ok many) ∧ 0 ≤ p ∧ Bent L0 many b ∧ pre.length + post.length ≤ 100)
    (n := 8) (fun i env L hi hp => ?_) (fun env L hp => ?_) 8 0 _ _ rfl ⟨pre_last, L0.length, [], w, [], 0, _, _, _, rfl, at_last, by simp, by simp, by decide, hb, by simp⟩
  · obtain ⟨pr, n, pre, b, post, p, x2, x5, x6, rfl, hL, hok1, hok2, hp0, hb, hlen⟩ := hp
    refine ⟨.int (0 + i), by simp [srcR, hi], ?_⟩
    have hlw : (pre.map Tm.enc ++ b :: post.map Tm.enc).length = pre.length + post.length + 1 := by simp; omega
    simp only [wipeE, ev_ok, ev_bind, ev_only, ev_ofO, ev_ofOB, ev_ite, evs_ite, evo_some, evs_toS, evs_seq, ev_C, ev_var, ev_op2, ev_op1, ev_opL, ev_nil, ev_cons, ev_call, ev_bVal, ev_bTru, ev_bNot, ev_bAnd, ev_bOr, ev_bYes, ev_cIf, ev_cNot, ev_cAnd, ev_cOr, ev_chain, ev_part_none, ev_part_some, ev_sl, ev_mth, evs_skip, evs_set, evs_ret, evs_expr, evs_if, evs_par, evs_as, ev_gN, ev_gsNil, ev_gsCons, ev_gTup, ev_gIx, evs_aug, ev_defF, evs_for, ev_rng1, ev_iSeq, ev_lc, o_addI, o_subI, o_addS, o_addT, o_mulI, o_modI, o_divI, o_powI, o_cmpI, o_intI, o_intB, o_absI, o_lst, o_tup, bl_bl, List.map_cons, List.map_nil, List.cons_append, List.nil_append, List.append_nil, List.getElem?_cons_zero, List.getElem?_cons_succ, List.set_cons_zero, List.set_cons_succ, List.length_cons, List.length_nil, List.replicate, Nat.reduceAdd, Nat.reduceSub, Nat.reduceLeDiff, true_and, and_true, if_true, decide_eq_true_eq, Nat.zero_add, oAug, oLen_at hL, oGt, o_cmpI]
    by_cases h30 : p + ((pre.map Tm.enc ++ b :: post.map Tm.enc).length : Int) > 30
    · simp only [h30, decide_true, if_true]; exact pr
    simp only [h30, decide_false, Bool.false_eq_true, if_false]
    rw [hlw] at h30
    have hfb : FK L0 b := by cases hb with
      | odd h _ => exact h
      | node h => exact h
    have hfk : ∀ v ∈ pre.map Tm.enc ++ b :: post.map Tm.enc, FK L v := fun v hv => by
      rcases List.mem_append.mp hv with hv | hv
      · obtain ⟨t', ht', rfl⟩ := List.mem_map.mp hv
        exact Tm.fk_t (hok1 t' ht')
      · rcases List.mem_cons.mp hv with rfl | hv
        · exact hfb.mono pr
        · obtain ⟨t', ht', rfl⟩ := List.mem_map.mp hv
          exact Tm.fk_t (hok2 t' ht')
    refine (all_forms hL (by omega) rfl rfl rfl hfk).mono fun v L1 q => ?_
    obtain ⟨rfl, p1⟩ := q
    have hall : (pre.map Tm.enc ++ b :: post.map Tm.enc).all (formB many) = formB many b := by
      rw [List.all_append, List.all_cons, List.all_map, List.all_map]
      rw [show pre.all (formB many ∘ Tm.enc) = true from List.all_eq_true.mpr fun t' ht' => Tm.form_t (hok1 t' ht')]
      rw [show post.all (formB many ∘ Tm.enc) = true from List.all_eq_true.mpr fun t' ht' => Tm.form_t (hok2 t' ht')]
      simp
    simp only [hall, truW]
    cases hb with
    | odd _ hf => simp only [hf, Bool.not_false, if_true]; exact pr.trans p1
    | @node _ b' pre' post' _ hf hi hs ho1 ho2 hl3 hb' =>
      simp only [hf, Bool.not_true, Bool.false_eq_true, if_false]
      have hin : ∀ v ∈ pre.map Tm.enc ++ b :: post.map Tm.enc, innerW v = some (((innerW v).getD [])) ∧ ∀ s r, v = .tup (.str s :: r) → PyData.strOk s = true := fun v hv => by
        rcases List.mem_append.mp hv with hv | hv
        · obtain ⟨t', ht', rfl⟩ := List.mem_map.mp hv
          exact ⟨by rw [Tm.enc_inner (hok1 t' ht')]; rfl, Tm.enc_head (hok1 t' ht')⟩
        · rcases List.mem_cons.mp hv with rfl | hv
          · exact ⟨by rw [hi]; rfl, hs⟩
          · obtain ⟨t', ht', rfl⟩ := List.mem_map.mp hv
            exact ⟨by rw [Tm.enc_inner (hok2 t' ht')]; rfl, Tm.enc_head (hok2 t' ht')⟩
      have hflat : (pre.map Tm.enc ++ b :: post.map Tm.enc).flatMap (fun w => (innerW w).getD []) = (pre.flatMap Tm.kids ++ pre').map Tm.enc ++ b' :: (post' ++ post.flatMap Tm.kids).map Tm.enc := by
        rw [List.flatMap_append, List.flatMap_cons, flat_enc hok1, flat_enc hok2, hi]
        simp
      have l1 := flat_len pre
      have l2 := flat_len post
      refine (next_layer (fun w => (innerW w).getD []) (pre_at p1 hL) (by rw [hflat]; simp only [List.length_append, List.length_cons, List.length_map]; omega) rfl rfl hin).mono fun v L2 q => ?_
      obtain ⟨m, rfl, hm, p2⟩ := q
      rw [hflat] at hm
      have pA : L0 <+: L2 ++ [LO.lst []] := pr.trans (p1.trans (p2.trans pre_last))
      have hne : ((pre.flatMap Tm.kids ++ pre').map Tm.enc ++ b' :: (post' ++ post.flatMap Tm.kids).map Tm.enc).isEmpty = false := by
        simp [List.isEmpty_iff]
      simp only [oEq, oB, eq_nil (pre_at pre_last hm) at_last, Option.map, evo_some, blW, hne, Bool.false_eq_true, if_false]
      refine ⟨pA, m, _, b', _, _, _, _, _, rfl, pre_at pre_last hm, fun t' ht' => ?_, fun t' ht' => ?_, by omega, hb', ?_⟩
      · rcases List.mem_append.mp ht' with ht' | ht'
        · obtain ⟨u, hu, hk⟩ := List.mem_flatMap.mp ht'
          exact Tm.kids_ok (hok1 u hu) hk
        · exact ho1 _ ht'
      · rcases List.mem_append.mp ht' with ht' | ht'
        · exact ho2 _ ht'
        · obtain ⟨u, hu, hk⟩ := List.mem_flatMap.mp ht'
          exact Tm.kids_ok (hok2 u hu) hk
      · simp only [List.length_append]; omega
  · obtain ⟨pr, n, pre, b, post, p, x2, x5, x6, rfl, hL, hok1, hok2, hp0, hb⟩ := hp
    refine ⟨by simp [srcR], ?_⟩
    first | exact pr | exact ⟨rfl, pr⟩
end Z

/-! ZX: term_size, term_depth, leaves, .. -/
namespace Z
open PySem PySem.Spec PyProof.Rows L2
theorem lc_map {α : Type} {S : Src} {j : Nat} {e : Ex} {env : Env} {L1 : LH} {ts : List α} {f g : α → W} (hS : SrcIs S L1 (ts.map f)) (hl : ts.length ≤ 16777216)
    (he : ∀ t ∈ ts, ∀ L, L1 <+: L → Ev (e (env.set j (some (f t))) L) fun y L' => y = g t ∧ L <+: L') :
    Ev (lcLoop S (.one j) bYes e env (S.len + 1) 0 L1 []) fun acc L' => acc = ts.map g ∧ L1 <+: L' := by
  refine lc_inv (P := fun i L acc => acc = (ts.take i).map g ∧ L1 <+: L) (n := ts.length) (fun i L acc hi p => ?_) (fun L acc p => ?_) S.len 0 L1 [] (by rw [hS.1, List.length_map]; omega) ⟨rfl, List.prefix_refl _⟩
  · obtain ⟨rfl, pr⟩ := p
    have e1 : (ts.map f)[i]? = some (f ts[i]) := by rw [List.getElem?_map, List.getElem?_eq_getElem hi]; rfl
    refine ⟨f ts[i], by rw [hS.2 L pr i, e1], env.set j (some (f ts[i])), rfl, ?_⟩
    rw [ev_bYes]
    simp only [if_true]
    refine (he _ (List.getElem_mem hi) L pr).mono fun y L' h => ?_
    obtain ⟨rfl, pr'⟩ := h
    refine ⟨?_, ?_, pr.trans pr'⟩
    · rw [List.length_map, List.length_take]; omega
    · rw [List.take_succ_eq_append_getElem hi, List.map_append]; rfl
  · obtain ⟨rfl, pr⟩ := p
    refine ⟨?_, ?_, pr⟩
    · rw [hS.2 L pr, List.getElem?_eq_none (by rw [List.length_map]; exact Nat.le_refl _)]
    · rw [List.take_length]
variable {many : Int}
def SizeS (many : Int) (self : Fn) (d : Nat) : Prop := ∀ (t : Tm) (L : LH), t.ok many → t.dep ≤ d → Ev (self [t.enc] L) fun w L' => w = .int t.size ∧ L <+: L'
theorem size_step {self : Fn} {d : Nat} (h : SizeS many self d) : SizeS many (f_term_size f_inner_terms self) (d + 1) := fun t L ht hd => by
  have hk3 := Tm.kids_len t
  simp only [f_term_size, wipeE, ev_ok, ev_bind, ev_only, ev_ofO, ev_ofOB, ev_ite, evs_ite, evo_some, evs_toS, evs_seq, ev_C, ev_var, ev_op2, ev_op1, ev_opL, ev_nil, ev_cons, ev_call, ev_bVal, ev_bTru, ev_bNot, ev_bAnd, ev_bOr, ev_bYes, ev_cIf, ev_cNot, ev_cAnd, ev_cOr, ev_chain, ev_part_none, ev_part_some, ev_sl, ev_mth, evs_skip, evs_set, evs_ret, evs_expr, evs_if, evs_par, evs_as, ev_gN, ev_gsNil, ev_gsCons, ev_gTup, ev_gIx, evs_aug, ev_defF, evs_for, ev_rng1, ev_iSeq, ev_lc, o_addI, o_subI, o_addS, o_addT, o_mulI, o_modI, o_divI, o_powI, o_cmpI, o_intI, o_intB, o_absI, o_lst, o_tup, bl_bl, List.map_cons, List.map_nil, List.cons_append, List.nil_append, List.append_nil, List.getElem?_cons_zero, List.getElem?_cons_succ, List.set_cons_zero, List.set_cons_succ, List.length_cons, List.length_nil, List.replicate, Nat.reduceAdd, Nat.reduceSub, Nat.reduceLeDiff, true_and, and_true, if_true, decide_eq_true_eq, Nat.zero_add, Tm.inner_t ht, srcOf]
  refine (lc_map (g := fun k : Tm => .int k.size) (S := ⟨(t.kids.map Tm.enc).length, fun _ i => some (t.kids.map Tm.enc)[i]?⟩) srcIs_tup (by omega) fun k hk L1 p1 => ?_).mono fun acc L1 q => ?_
  · simp only [wipeE, ev_ok, ev_bind, ev_only, ev_ofO, ev_ofOB, ev_ite, evs_ite, evo_some, evs_toS, evs_seq, ev_C, ev_var, ev_op2, ev_op1, ev_opL, ev_nil, ev_cons, ev_call, ev_bVal, ev_bTru, ev_bNot, ev_bAnd, ev_bOr, ev_bYes, ev_cIf, ev_cNot, ev_cAnd, ev_cOr, ev_chain, ev_part_none, ev_part_some, ev_sl, ev_mth, evs_skip, evs_set, evs_ret, evs_expr, evs_if, evs_par, evs_as, ev_gN, ev_gsNil, ev_gsCons, ev_gTup, ev_gIx, evs_aug, ev_defF, evs_for, ev_rng1, ev_iSeq, ev_lc, o_addI, o_subI, o_addS, o_addT, o_mulI, o_modI, o_divI, o_powI, o_cmpI, o_intI, o_intB, o_absI, o_lst, o_tup, bl_bl, List.map_cons, List.map_nil, List.cons_append, List.nil_append, List.append_nil, List.getElem?_cons_zero, List.getElem?_cons_succ, List.set_cons_zero, List.set_cons_succ, List.length_cons, List.length_nil, List.replicate, Nat.reduceAdd, Nat.reduceSub, Nat.reduceLeDiff, true_and, and_true, if_true, decide_eq_true_eq, Nat.zero_add]
    exact h k L1 (Tm.kids_ok ht hk) (by have := Tm.dep_kid hk; omega)
  · obtain ⟨rfl, p1⟩ := q
    have e : t.kids.map (fun k : Tm => W.int k.size) = (t.kids.map fun k => (k.size : Int)).map .int := by rw [List.map_map]; rfl
    rw [e, sum_at at_last, evo_some]
    simp only [wipeE, ev_ok, ev_bind, ev_only, ev_ofO, ev_ofOB, ev_ite, evs_ite, evo_some, evs_toS, evs_seq, ev_C, ev_var, ev_op2, ev_op1, ev_opL, ev_nil, ev_cons, ev_call, ev_bVal, ev_bTru, ev_bNot, ev_bAnd, ev_bOr, ev_bYes, ev_cIf, ev_cNot, ev_cAnd, ev_cOr, ev_chain, ev_part_none, ev_part_some, ev_sl, ev_mth, evs_skip, evs_set, evs_ret, evs_expr, evs_if, evs_par, evs_as, ev_gN, ev_gsNil, ev_gsCons, ev_gTup, ev_gIx, evs_aug, ev_defF, evs_for, ev_rng1, ev_iSeq, ev_lc, o_addI, o_subI, o_addS, o_addT, o_mulI, o_modI, o_divI, o_powI, o_cmpI, o_intI, o_intB, o_absI, o_lst, o_tup, bl_bl, List.map_cons, List.map_nil, List.cons_append, List.nil_append, List.append_nil, List.getElem?_cons_zero, List.getElem?_cons_succ, List.set_cons_zero, List.set_cons_succ, List.length_cons, List.length_nil, List.replicate, Nat.reduceAdd, Nat.reduceSub, Nat.reduceLeDiff, true_and, and_true, if_true, decide_eq_true_eq, Nat.zero_add]
    refine ⟨?_, p1.trans pre_last⟩
    congr 1
    rw [Tm.size_eq t, Int.natCast_add]
    congr 1
    generalize t.kids = l
    induction l with
    | nil => rfl
    | cons a r ih => simp only [List.map_cons, List.sum_cons, Int.natCast_add, ih]
theorem size_base (self : Fn) : SizeS many self 0 := fun t L ht hd => by have := Tm.dep_pos t; omega
/-! data -/
mutual
def PDat : W → Option PyData
  | .non => some .none
  | .bl b => some (.bool b)
  | .int i => some (.int i)
  | .str x => some (.str x)
  | .tup ws => (PDats ws).map .tuple
  | _ => none
def PDats : List W → Option (List PyData)
  | [] => some []
  | w :: ws => match PDat w, PDats ws with
    | some d, some ds => some (d :: ds)
    | _, _ => none
end
mutual
def wdep : W → Nat
  | .tup ws => 1 + wdeps ws
  | _ => 0
def wdeps : List W → Nat
  | [] => 0
  | w :: ws => max (wdep w) (wdeps ws)
end
mutual
theorem toD_of {L : LH} : ∀ (n : Nat) (w : W) (d : PyData), PDat w = some d → 2 * wdep w ≤ n → toD L n w = some d
  | n, .non, d, e, h => by unfold PDat at e; unfold toD; exact e
  | n, .bl b, d, e, h => by unfold PDat at e; unfold toD; exact e
  | n, .int b, d, e, h => by unfold PDat at e; unfold toD; exact e
  | n, .str b, d, e, h => by unfold PDat at e; unfold toD; exact e
  | 0, .tup ws, d, e, h => by unfold wdep at h; omega
  | n + 1, .tup ws, d, e, h => by
    unfold PDat at e
    unfold toD
    cases ed : PDats ws with
    | none => rw [ed] at e; cases e
    | some ds =>
      rw [ed] at e
      unfold wdep at h
      rw [toDs_of n ws ds ed (by omega)]
      exact e
  | n, .ref _, d, e, h => by unfold PDat at e; cases e
  | n, .ty _, d, e, h => by unfold PDat at e; cases e
  | n, .cls _, d, e, h => by unfold PDat at e; cases e
  | n, .fn _, d, e, h => by unfold PDat at e; cases e
  | n, .scr _, d, e, h => by unfold PDat at e; cases e
theorem toDs_of {L : LH} : ∀ (n : Nat) (ws : List W) (ds : List PyData), PDats ws = some ds → 2 * wdeps ws + 1 ≤ n → toDs L n ws = some ds
  | n, [], ds, e, h => by unfold PDats at e; unfold toDs; exact e
  | 0, w :: ws, ds, e, h => by omega
  | n + 1, w :: ws, ds, e, h => by
    unfold PDats at e
    unfold toDs
    unfold wdeps at h
    cases e1 : PDat w with
    | none => rw [e1] at e; cases e
    | some d =>
      cases e2 : PDats ws with
      | none => rw [e1, e2] at e; cases e
      | some ds' =>
        rw [e1, e2] at e
        rw [toD_of n w d e1 (by omega), toDs_of (n + 1) ws ds' e2 (by omega)]
        exact e
end
/-- data that can be compared -/
structure Dat (w : W) (d : PyData) : Prop where
  to : PDat w = some d
  dep : wdep w ≤ 20
  lay : d.canLay0 = true
  low : d.depth ≤ 64
theorem eqX_dat {L : LH} {a b : W} {d e : PyData} (ha : Dat a d) (hb : Dat b e) : eqX L a b = some (PyData.eqv d e) := by
  have h1 : toD L 40 a = some d := toD_of 40 a d ha.to (by have := ha.dep; omega)
  have h2 : toD L 40 b = some e := toD_of 40 b e hb.to (by have := hb.dep; omega)
  have s1 : SeqAt.shaped d = true := by unfold SeqAt.shaped; rw [ha.lay, decide_eq_true ha.low]; rfl
  have s2 : SeqAt.shaped e = true := by unfold SeqAt.shaped; rw [hb.lay, decide_eq_true hb.low]; rfl
  have hl : lenDiff L a b = false := by
    cases a <;> first | rfl | (have := ha.to; unfold PDat at this; cases this)
  unfold eqX eqD
  rw [hl]
  simp only [Bool.false_eq_true, if_false, h1, h2, s1, s2, and_self, if_true]
namespace Tm
def dat : Tm → PyData
  | .val i => .int i
  | .arg i => .tuple [.str "arg", .int i]
  | .cell s => .tuple [.str "cell", .str s]
  | .tick => .tuple [.str "tick"]
  | .call0 s => .tuple [.str "call", .str s, .tuple []]
  | .call2 s a b => .tuple [.str "call", .str s, .tuple [a.dat, b.dat]]
  | .bin h a b => .tuple [.str h, a.dat, b.dat]
  | .ite a b c => .tuple [.str "if", a.dat, b.dat, c.dat]
theorem pdat : ∀ t : Tm, PDat t.enc = some t.dat
  | .val i => rfl
  | .arg i => rfl
  | .cell s => rfl
  | .tick => rfl
  | .call0 s => rfl
  | .call2 s a b => by simp only [enc, PDat, PDats, pdat a, pdat b, Option.map, dat]
  | .bin h a b => by simp only [enc, PDat, PDats, pdat a, pdat b, Option.map, dat]
  | .ite a b c => by simp only [enc, PDat, PDats, pdat a, pdat b, pdat c, Option.map, dat]
theorem wdep_le : ∀ t : Tm, wdep t.enc ≤ 2 * t.dep
  | .val i => by simp [enc, wdep]
  | .arg i => by simp [enc, wdep, wdeps, dep]
  | .cell i => by simp [enc, wdep, wdeps, dep]
  | .tick => by simp [enc, wdep, wdeps, dep]
  | .call0 i => by simp [enc, wdep, wdeps, dep]
  | .call2 s a b => by
    have := wdep_le a; have := wdep_le b
    simp [enc, wdep, wdeps, dep]; omega
  | .bin s a b => by
    have := wdep_le a; have := wdep_le b
    simp [enc, wdep, wdeps, dep]; omega
  | .ite a b c => by
    have := wdep_le a; have := wdep_le b; have := wdep_le c
    simp [enc, wdep, wdeps, dep]; omega
theorem ddep_le : ∀ t : Tm, t.dat.depth ≤ 2 * t.dep
  | .val i => by simp [dat, PyData.depth]
  | .arg i => by simp [dat, PyData.depth, PyData.depthAll, dep]
  | .cell i => by simp [dat, PyData.depth, PyData.depthAll, dep]
  | .tick => by simp [dat, PyData.depth, PyData.depthAll, dep]
  | .call0 i => by simp [dat, PyData.depth, PyData.depthAll, dep]
  | .call2 s a b => by
    have := ddep_le a; have := ddep_le b
    simp [dat, PyData.depth, PyData.depthAll, dep]; omega
  | .bin s a b => by
    have := ddep_le a; have := ddep_le b
    simp [dat, PyData.depth, PyData.depthAll, dep]; omega
  | .ite a b c => by
    have := ddep_le a; have := ddep_le b; have := ddep_le c
    simp [dat, PyData.depth, PyData.depthAll, dep]; omega
theorem lay : ∀ {t : Tm}, t.ok many → t.dat.canLay0 = true
  | .val i, _ => rfl
  | .arg i, _ => by simp [dat, PyData.canLay0, PyData.canLayAll0, so_arg]
  | .cell i, h => by simp [dat, PyData.canLay0, PyData.canLayAll0, so_cell, NameOk.so h]
  | .tick, _ => by simp [dat, PyData.canLay0, PyData.canLayAll0, so_tick]
  | .call0 i, h => by simp [dat, PyData.canLay0, PyData.canLayAll0, so_call, NameOk.so h]
  | .call2 s a b, h => by simp [dat, PyData.canLay0, PyData.canLayAll0, so_call, NameOk.so h.1, lay h.2.1, lay h.2.2]
  | .bin s a b, h => by simp [dat, PyData.canLay0, PyData.canLayAll0, so_h h.1, lay h.2.1, lay h.2.2]
  | .ite a b c, h => by simp [dat, PyData.canLay0, PyData.canLayAll0, so_if, lay h.1, lay h.2.1, lay h.2.2]
theorem isDat {t : Tm} (h : t.ok many) (hd : t.dep ≤ 9) : Dat t.enc t.dat :=
  ⟨pdat t, by have := wdep_le t; omega, lay h, by have := ddep_le t; omega⟩
end Tm
theorem pdats : ∀ ts : List Tm, PDats (ts.map Tm.enc) = some (ts.map Tm.dat)
  | [] => rfl
  | t :: r => by simp only [List.map_cons, PDats, Tm.pdat t, pdats r]
theorem wdeps_le {d : Nat} : ∀ ts : List Tm, (∀ t ∈ ts, t.dep ≤ d) → wdeps (ts.map Tm.enc) ≤ 2 * d
  | [], _ => by simp [wdeps]
  | t :: r, h => by
    have h1 := Tm.wdep_le t
    have h2 := h t List.mem_cons_self
    have h3 := wdeps_le r fun u hu => h u (List.mem_cons_of_mem _ hu)
    simp only [List.map_cons, wdeps]; omega
theorem ddeps_le {d : Nat} : ∀ ts : List Tm, (∀ t ∈ ts, t.dep ≤ d) → PyData.depthAll (ts.map Tm.dat) ≤ 2 * d
  | [], _ => by simp [PyData.depthAll]
  | t :: r, h => by
    have h1 := Tm.ddep_le t
    have h2 := h t List.mem_cons_self
    have h3 := ddeps_le r fun u hu => h u (List.mem_cons_of_mem _ hu)
    simp only [List.map_cons, PyData.depthAll]; omega
theorem lays {ts : List Tm} (h : ∀ t ∈ ts, t.ok many) : PyData.canLayAll0 (ts.map Tm.dat) = true := by
  induction ts with
  | nil => rfl
  | cons t r ih =>
    simp only [List.map_cons, PyData.canLayAll0, Tm.lay (h t List.mem_cons_self), Bool.true_and]
    exact ih fun u hu => h u (List.mem_cons_of_mem _ hu)
theorem dat_tup {ts : List Tm} {d : Nat} (h : ∀ t ∈ ts, t.ok many) (hd : ∀ t ∈ ts, t.dep ≤ d) (h9 : d ≤ 9) : Dat (.tup (ts.map Tm.enc)) (.tuple (ts.map Tm.dat)) := by
  refine ⟨by simp only [PDat, pdats, Option.map], ?_, lays h, ?_⟩
  · have := wdeps_le ts hd; simp only [wdep]; omega
  · have := ddeps_le ts hd; simp only [PyData.depth]; omega
theorem dat_nil : Dat (.tup []) (.tuple []) := ⟨rfl, by decide, rfl, by decide⟩
theorem eqv_nil (ds : List PyData) : PyData.eqv (.tuple ds) (.tuple []) = ds.isEmpty := by
  cases ds <;> simp [PyData.eqv, PyData.eqvAll]
def DepS (many : Int) (self : Fn) (d : Nat) : Prop := ∀ (t : Tm) (L : LH), t.ok many → t.dep ≤ d → t.dep ≤ 9 → Ev (self [t.enc] L) fun w L' => w = .int t.dep ∧ L <+: L'
theorem max2 (x y : Nat) : ((1 + max x y : Nat) : Int) = 1 + if (y : Int) > x then (y : Int) else x := by
  by_cases h : (y : Int) > x
  · rw [if_pos h]; omega
  · rw [if_neg h]; omega
theorem max3 (x y z : Nat) : ((1 + max x (max y z) : Nat) : Int) = 1 + if (if (z : Int) > y then (z : Int) else y) > x then (if (z : Int) > y then (z : Int) else y) else x := by
  by_cases h : (z : Int) > y
  · rw [if_pos h]
    by_cases h2 : (z : Int) > x
    · rw [if_pos h2]; omega
    · rw [if_neg h2]; omega
  · rw [if_neg h]
    by_cases h2 : (y : Int) > x
    · rw [if_pos h2]; omega
    · rw [if_neg h2]; omega
theorem dep_eq (t : Tm) : t.kids ≠ [] → (t.dep : Int) = 1 + maxI (t.kids.map fun k => (k.dep : Int)) := by
  intro h
  cases t with
  | call2 s a b => exact max2 _ _
  | bin s a b => exact max2 _ _
  | ite a b c => exact max3 _ _ _
  | _ => exact absurd rfl h
theorem dep_nil (t : Tm) : t.kids = [] → t.dep = 1 := by
  intro h
  cases t <;> first | rfl | cases h
theorem dep_step {self : Fn} {d : Nat} (h : DepS many self d) : DepS many (f_term_depth f_inner_terms self) (d + 1) := fun t L ht hd h9 => by
  have hk3 := Tm.kids_len t
  have hdk : ∀ k ∈ t.kids, k.dep ≤ 9 := fun k hk => by have := Tm.dep_kid hk; omega
  simp only [f_term_depth, wipeE, ev_ok, ev_bind, ev_only, ev_ofO, ev_ofOB, ev_ite, evs_ite, evo_some, evs_toS, evs_seq, ev_C, ev_var, ev_op2, ev_op1, ev_opL, ev_nil, ev_cons, ev_call, ev_bVal, ev_bTru, ev_bNot, ev_bAnd, ev_bOr, ev_bYes, ev_cIf, ev_cNot, ev_cAnd, ev_cOr, ev_chain, ev_part_none, ev_part_some, ev_sl, ev_mth, evs_skip, evs_set, evs_ret, evs_expr, evs_if, evs_par, evs_as, ev_gN, ev_gsNil, ev_gsCons, ev_gTup, ev_gIx, evs_aug, ev_defF, evs_for, ev_rng1, ev_iSeq, ev_lc, o_addI, o_subI, o_addS, o_addT, o_mulI, o_modI, o_divI, o_powI, o_cmpI, o_intI, o_intB, o_absI, o_lst, o_tup, bl_bl, List.map_cons, List.map_nil, List.cons_append, List.nil_append, List.append_nil, List.getElem?_cons_zero, List.getElem?_cons_succ, List.set_cons_zero, List.set_cons_succ, List.length_cons, List.length_nil, List.replicate, Nat.reduceAdd, Nat.reduceSub, Nat.reduceLeDiff, true_and, and_true, if_true, decide_eq_true_eq, Nat.zero_add, Tm.inner_t ht, srcOf, oEq, oB, eqX_dat (dat_tup (fun k hk => Tm.kids_ok ht hk) hdk (Nat.le_refl _)) dat_nil, eqv_nil, Option.map, blW]
  cases hz : (t.kids.map Tm.dat).isEmpty with
  | true =>
    simp only [if_true]
    have : t.kids = [] := by
      cases e : t.kids with
      | nil => rfl
      | cons a r => rw [e] at hz; cases hz
    rw [dep_nil t this]
    exact ⟨rfl, List.prefix_refl _⟩
  | false =>
    simp only [Bool.false_eq_true, if_false]
    have hne : t.kids ≠ [] := fun e => by rw [e] at hz; cases hz
    refine (lc_map (g := fun k : Tm => .int k.dep) (S := ⟨(t.kids.map Tm.enc).length, fun _ i => some (t.kids.map Tm.enc)[i]?⟩) srcIs_tup (by omega) fun k hk L1 p1 => ?_).mono fun acc L1 q => ?_
    · simp only [wipeE, ev_ok, ev_bind, ev_only, ev_ofO, ev_ofOB, ev_ite, evs_ite, evo_some, evs_toS, evs_seq, ev_C, ev_var, ev_op2, ev_op1, ev_opL, ev_nil, ev_cons, ev_call, ev_bVal, ev_bTru, ev_bNot, ev_bAnd, ev_bOr, ev_bYes, ev_cIf, ev_cNot, ev_cAnd, ev_cOr, ev_chain, ev_part_none, ev_part_some, ev_sl, ev_mth, evs_skip, evs_set, evs_ret, evs_expr, evs_if, evs_par, evs_as, ev_gN, ev_gsNil, ev_gsCons, ev_gTup, ev_gIx, evs_aug, ev_defF, evs_for, ev_rng1, ev_iSeq, ev_lc, o_addI, o_subI, o_addS, o_addT, o_mulI, o_modI, o_divI, o_powI, o_cmpI, o_intI, o_intB, o_absI, o_lst, o_tup, bl_bl, List.map_cons, List.map_nil, List.cons_append, List.nil_append, List.append_nil, List.getElem?_cons_zero, List.getElem?_cons_succ, List.set_cons_zero, List.set_cons_succ, List.length_cons, List.length_nil, List.replicate, Nat.reduceAdd, Nat.reduceSub, Nat.reduceLeDiff, true_and, and_true, if_true, decide_eq_true_eq, Nat.zero_add]
      refine (h k L1 (Tm.kids_ok ht hk) (by have := Tm.dep_kid hk; omega) (hdk k hk)).mono fun w L2 q => ?_
      obtain ⟨rfl, p2⟩ := q
      simp only [wipeE, ev_ok, ev_bind, ev_only, ev_ofO, ev_ofOB, ev_ite, evs_ite, evo_some, evs_toS, evs_seq, ev_C, ev_var, ev_op2, ev_op1, ev_opL, ev_nil, ev_cons, ev_call, ev_bVal, ev_bTru, ev_bNot, ev_bAnd, ev_bOr, ev_bYes, ev_cIf, ev_cNot, ev_cAnd, ev_cOr, ev_chain, ev_part_none, ev_part_some, ev_sl, ev_mth, evs_skip, evs_set, evs_ret, evs_expr, evs_if, evs_par, evs_as, ev_gN, ev_gsNil, ev_gsCons, ev_gTup, ev_gIx, evs_aug, ev_defF, evs_for, ev_rng1, ev_iSeq, ev_lc, o_addI, o_subI, o_addS, o_addT, o_mulI, o_modI, o_divI, o_powI, o_cmpI, o_intI, o_intB, o_absI, o_lst, o_tup, bl_bl, List.map_cons, List.map_nil, List.cons_append, List.nil_append, List.append_nil, List.getElem?_cons_zero, List.getElem?_cons_succ, List.set_cons_zero, List.set_cons_succ, List.length_cons, List.length_nil, List.replicate, Nat.reduceAdd, Nat.reduceSub, Nat.reduceLeDiff, true_and, and_true, if_true, decide_eq_true_eq, Nat.zero_add]
      exact p2
    · obtain ⟨rfl, p1⟩ := q
      have e : t.kids.map (fun k : Tm => W.int k.dep) = (t.kids.map fun k => (k.dep : Int)).map .int := by rw [List.map_map]; rfl
      rw [e, max_at at_last (by rw [List.length_map]; exact List.length_pos_iff.mpr hne), evo_some]
      simp only [wipeE, ev_ok, ev_bind, ev_only, ev_ofO, ev_ofOB, ev_ite, evs_ite, evo_some, evs_toS, evs_seq, ev_C, ev_var, ev_op2, ev_op1, ev_opL, ev_nil, ev_cons, ev_call, ev_bVal, ev_bTru, ev_bNot, ev_bAnd, ev_bOr, ev_bYes, ev_cIf, ev_cNot, ev_cAnd, ev_cOr, ev_chain, ev_part_none, ev_part_some, ev_sl, ev_mth, evs_skip, evs_set, evs_ret, evs_expr, evs_if, evs_par, evs_as, ev_gN, ev_gsNil, ev_gsCons, ev_gTup, ev_gIx, evs_aug, ev_defF, evs_for, ev_rng1, ev_iSeq, ev_lc, o_addI, o_subI, o_addS, o_addT, o_mulI, o_modI, o_divI, o_powI, o_cmpI, o_intI, o_intB, o_absI, o_lst, o_tup, bl_bl, List.map_cons, List.map_nil, List.cons_append, List.nil_append, List.append_nil, List.getElem?_cons_zero, List.getElem?_cons_succ, List.set_cons_zero, List.set_cons_succ, List.length_cons, List.length_nil, List.replicate, Nat.reduceAdd, Nat.reduceSub, Nat.reduceLeDiff, true_and, and_true, if_true, decide_eq_true_eq, Nat.zero_add]
      exact ⟨by rw [dep_eq t hne], p1.trans pre_last⟩
theorem dep_base (self : Fn) : DepS many self 0 := fun t L ht hd => by have := Tm.dep_pos t; omega
namespace Tm
def pre : Tm → List Tm
  | .call2 s a b => .call2 s a b :: (a.pre ++ b.pre)
  | .bin s a b => .bin s a b :: (a.pre ++ b.pre)
  | .ite a b c => .ite a b c :: (a.pre ++ (b.pre ++ c.pre))
  | t => [t]
theorem pre_eq (t : Tm) : t.pre = t :: t.kids.flatMap pre := by cases t <;> simp [pre, kids]
theorem pre_len (t : Tm) : t.pre.length = t.size := by
  induction t <;> simp [pre, size, *] <;> omega
theorem pre_ok {t : Tm} (h : t.ok many) : ∀ u ∈ t.pre, u.ok many := by
  induction t with
  | call2 s a b iha ihb =>
    intro u hu
    simp only [pre, List.mem_cons, List.mem_append] at hu
    rcases hu with rfl | hu | hu
    · exact h
    · exact iha h.2.1 u hu
    · exact ihb h.2.2 u hu
  | bin s a b iha ihb =>
    intro u hu
    simp only [pre, List.mem_cons, List.mem_append] at hu
    rcases hu with rfl | hu | hu
    · exact h
    · exact iha h.2.1 u hu
    · exact ihb h.2.2 u hu
  | ite a b c iha ihb ihc =>
    intro u hu
    simp only [pre, List.mem_cons, List.mem_append] at hu
    rcases hu with rfl | hu | hu | hu
    · exact h
    · exact iha h.1 u hu
    · exact ihb h.2.1 u hu
    · exact ihc h.2.2 u hu
  | _ => intro u hu; simp only [pre, List.mem_singleton] at hu; subst hu; exact h
theorem pre_dep (t : Tm) : ∀ u ∈ t.pre, u.dep ≤ t.dep := by
  induction t with
  | call2 s a b iha ihb =>
    intro u hu
    simp only [pre, List.mem_cons, List.mem_append] at hu
    rcases hu with rfl | hu | hu
    · exact Nat.le_refl _
    · have := iha u hu; simp only [dep]; omega
    · have := ihb u hu; simp only [dep]; omega
  | bin s a b iha ihb =>
    intro u hu
    simp only [pre, List.mem_cons, List.mem_append] at hu
    rcases hu with rfl | hu | hu
    · exact Nat.le_refl _
    · have := iha u hu; simp only [dep]; omega
    · have := ihb u hu; simp only [dep]; omega
  | ite a b c iha ihb ihc =>
    intro u hu
    simp only [pre, List.mem_cons, List.mem_append] at hu
    rcases hu with rfl | hu | hu | hu
    · exact Nat.le_refl _
    · have := iha u hu; simp only [dep]; omega
    · have := ihb u hu; simp only [dep]; omega
    · have := ihc u hu; simp only [dep]; omega
  | _ => intro u hu; simp only [pre, List.mem_singleton] at hu; subst hu; exact Nat.le_refl _
end Tm
theorem pre_set {L L' : LH} {n : Nat} {o : LO} (p : L <+: L') (h : L.length ≤ n) : L <+: L'.set n o := by
  obtain ⟨t, rfl⟩ := p
  rw [List.set_append_right _ _ h]
  exact ⟨_, rfl⟩
theorem set_at {L : LH} {n : Nat} {o o' : LO} (h : L[n]? = some o) : (L.set n o')[n]? = some o' := List.getElem?_set_self (List.getElem?_eq_some_iff.mp h).1
def LvS (many : Int) (self : Fn) (d : Nat) : Prop := ∀ (t : Tm) (L : LH), t.ok many → t.dep ≤ d → t.size ≤ 1000 → Ev (self [t.enc] L) fun w L' => ∃ n, w = .ref n ∧ L'[n]? = some (.lst (t.pre.map Tm.enc)) ∧ L <+: L'
theorem extend_at {L : LH} {n m : Nat} {xs ys : List W} (h : L[n]? = some (.lst xs)) (hm : L[m]? = some (.lst ys)) (hl : xs.length + ys.length ≤ 16777216) : oExtend (.ref n) [.ref m] L = some (.non, L.set n (.lst (xs ++ ys))) := by
  simp only [oExtend, h, hm]
  rw [if_pos hl]
theorem lv_step {self : Fn} {d : Nat} (h : LvS many self d) : LvS many (f_leaves f_inner_terms self) (d + 1) := fun t L ht hd h1 => by
  have hk3 := Tm.kids_len t
  simp only [f_leaves, wipeE, ev_ok, ev_bind, ev_only, ev_ofO, ev_ofOB, ev_ite, evs_ite, evo_some, evs_toS, evs_seq, ev_C, ev_var, ev_op2, ev_op1, ev_opL, ev_nil, ev_cons, ev_call, ev_bVal, ev_bTru, ev_bNot, ev_bAnd, ev_bOr, ev_bYes, ev_cIf, ev_cNot, ev_cAnd, ev_cOr, ev_chain, ev_part_none, ev_part_some, ev_sl, ev_mth, evs_skip, evs_set, evs_ret, evs_expr, evs_if, evs_par, evs_as, ev_gN, ev_gsNil, ev_gsCons, ev_gTup, ev_gIx, evs_aug, ev_defF, evs_for, ev_rng1, ev_iSeq, ev_lc, o_addI, o_subI, o_addS, o_addT, o_mulI, o_modI, o_divI, o_powI, o_cmpI, o_intI, o_intB, o_absI, o_lst, o_tup, bl_bl, List.map_cons, List.map_nil, List.cons_append, List.nil_append, List.append_nil, List.getElem?_cons_zero, List.getElem?_cons_succ, List.set_cons_zero, List.set_cons_succ, List.length_cons, List.length_nil, List.replicate, Nat.reduceAdd, Nat.reduceSub, Nat.reduceLeDiff, true_and, and_true, if_true, decide_eq_true_eq, Nat.zero_add, Tm.inner_t ht, srcOf]
  refine for_inv (fun i env L' => L <+: L' ∧ ∃ x2, env = [some t.enc, some (.ref L.length), x2] ∧ L'[L.length]? = some (.lst (t.enc :: ((t.kids.take i).flatMap Tm.pre).map Tm.enc)))
    (n := t.kids.length) (fun i env L1 hi hp => ?_) (fun env L1 hp => ?_) _ 0 _ _ (by simp) ⟨pre_last, _, rfl, at_last⟩
  · obtain ⟨p1, x2, rfl, hL⟩ := hp
    have hkm : t.kids[i] ∈ t.kids := List.getElem_mem hi
    refine ⟨t.kids[i].enc, by simp [hi], ?_⟩
    simp only [wipeE, ev_ok, ev_bind, ev_only, ev_ofO, ev_ofOB, ev_ite, evs_ite, evo_some, evs_toS, evs_seq, ev_C, ev_var, ev_op2, ev_op1, ev_opL, ev_nil, ev_cons, ev_call, ev_bVal, ev_bTru, ev_bNot, ev_bAnd, ev_bOr, ev_bYes, ev_cIf, ev_cNot, ev_cAnd, ev_cOr, ev_chain, ev_part_none, ev_part_some, ev_sl, ev_mth, evs_skip, evs_set, evs_ret, evs_expr, evs_if, evs_par, evs_as, ev_gN, ev_gsNil, ev_gsCons, ev_gTup, ev_gIx, evs_aug, ev_defF, evs_for, ev_rng1, ev_iSeq, ev_lc, o_addI, o_subI, o_addS, o_addT, o_mulI, o_modI, o_divI, o_powI, o_cmpI, o_intI, o_intB, o_absI, o_lst, o_tup, bl_bl, List.map_cons, List.map_nil, List.cons_append, List.nil_append, List.append_nil, List.getElem?_cons_zero, List.getElem?_cons_succ, List.set_cons_zero, List.set_cons_succ, List.length_cons, List.length_nil, List.replicate, Nat.reduceAdd, Nat.reduceSub, Nat.reduceLeDiff, true_and, and_true, if_true, decide_eq_true_eq, Nat.zero_add]
    refine ⟨by simp [isLst, hL], ?_⟩
    have hsz := Tm.size_kid hkm
    refine (h t.kids[i] L1 (Tm.kids_ok ht hkm) (by have := Tm.dep_kid hkm; omega) (by omega)).mono fun w L2 q => ?_
    obtain ⟨m, rfl, hm, p2⟩ := q
    have hlen : (t.enc :: ((t.kids.take i).flatMap Tm.pre).map Tm.enc).length + (t.kids[i].pre.map Tm.enc).length ≤ 16777216 := by
      rw [List.length_cons, List.length_map, List.length_map, Tm.pre_len]
      have : ((t.kids.take i).flatMap Tm.pre).length ≤ (t.kids.flatMap Tm.pre).length := by
        conv => rhs; rw [← List.take_append_drop i t.kids, List.flatMap_append, List.length_append]
        omega
      have h2 := Tm.pre_len t
      rw [Tm.pre_eq, List.length_cons] at h2
      omega
    rw [extend_at (pre_at p2 hL) hm hlen, evo_some]
    refine ⟨pre_set (p1.trans p2) (Nat.le_refl _), _, rfl, ?_⟩
    rw [set_at (pre_at p2 hL), List.take_succ_eq_append_getElem hi, List.flatMap_append, List.map_append]
    simp
  · obtain ⟨p1, x2, rfl, hL⟩ := hp
    refine ⟨by simp, ?_⟩
    simp only [wipeE, ev_ok, ev_bind, ev_only, ev_ofO, ev_ofOB, ev_ite, evs_ite, evo_some, evs_toS, evs_seq, ev_C, ev_var, ev_op2, ev_op1, ev_opL, ev_nil, ev_cons, ev_call, ev_bVal, ev_bTru, ev_bNot, ev_bAnd, ev_bOr, ev_bYes, ev_cIf, ev_cNot, ev_cAnd, ev_cOr, ev_chain, ev_part_none, ev_part_some, ev_sl, ev_mth, evs_skip, evs_set, evs_ret, evs_expr, evs_if, evs_par, evs_as, ev_gN, ev_gsNil, ev_gsCons, ev_gTup, ev_gIx, evs_aug, ev_defF, evs_for, ev_rng1, ev_iSeq, ev_lc, o_addI, o_subI, o_addS, o_addT, o_mulI, o_modI, o_divI, o_powI, o_cmpI, o_intI, o_intB, o_absI, o_lst, o_tup, bl_bl, List.map_cons, List.map_nil, List.cons_append, List.nil_append, List.append_nil, List.getElem?_cons_zero, List.getElem?_cons_succ, List.set_cons_zero, List.set_cons_succ, List.length_cons, List.length_nil, List.replicate, Nat.reduceAdd, Nat.reduceSub, Nat.reduceLeDiff, true_and, and_true, if_true, decide_eq_true_eq, Nat.zero_add]
    rw [List.take_length] at hL
    exact ⟨_, rfl, by rw [hL, Tm.pre_eq t]; rfl, p1⟩
theorem lv_base (self : Fn) : LvS many self 0 := fun t L ht hd => by have := Tm.dep_pos t; omega
end Z

/-! ZY: names_with, has_tick. -/
namespace Z
open PySem PySem.Spec PyProof.Rows L2
variable {many : Int}
theorem dc_inv {S : Src} {c : CT} {t : Bx} {ke va : Ex} {env : Env} {Q : List (Key × W) → LH → Prop} (P : Nat → LH → List (Key × W) → Prop) {n : Nat}
    (hs : ∀ i L acc, i < n → P i L acc → ∃ w, S.get L i = some (some w) ∧ ∃ env1, c.set w env = some env1 ∧ Ev (t env1 L) fun b L1 => if b = true then Ev (ke env1 L1) fun y L2 => Ev (va env1 L2) fun z L3 => ∃ kk, keyW y = some kk ∧ acc.length < 16777216 ∧ P (i + 1) L3 (putW acc kk z) else P (i + 1) L1 acc)
    (hd : ∀ L acc, P n L acc → S.get L n = some none ∧ Q acc L) : ∀ (m i : Nat) (L : LH) (acc : List (Key × W)), i + m = n → P i L acc → Ev (dcLoop S c t ke va env (m + 1) i L acc) Q
  | 0, i, L, acc, ee, p => by
    have ee : i = n := by omega
    subst ee
    obtain ⟨h1, h2⟩ := hd L acc p
    unfold dcLoop
    rw [h1]
    exact h2
  | m + 1, i, L, acc, ee, p => by
    obtain ⟨w, h1, env1, h2, h3⟩ := hs i L acc (by omega) p
    unfold dcLoop
    rw [h1]
    simp only
    rw [h2]
    simp only [ev_bind, ev_only, ev_ite]
    refine h3.mono fun b L1 hb => ?_
    cases b with
    | false => exact dc_inv P hs hd m (i + 1) L1 acc (by omega) hb
    | true =>
      simp only [if_true] at hb ⊢
      refine hb.mono fun y L2 hy => hy.mono fun z L3 hz => ?_
      obtain ⟨kk, hk, hl, hz⟩ := hz
      rw [hk]
      simp only
      rw [if_pos hl]
      exact dc_inv P hs hd m (i + 1) L3 _ (by omega) hz
def addK (ns : List Str) (s : Str) : List Str := if s ∈ ns then ns else ns ++ [s]
def kvT (s : Str) : Key × W := (.inr s, .bl true)
theorem put_names (ns : List Str) (s : Str) : putW (ns.map kvT) (.inr s) (.bl true) = (addK ns s).map kvT := by
  unfold putW addK
  have h : ((ns.map kvT).any fun kv => decide (kv.1 = (.inr s : Key))) = decide (s ∈ ns) := by
    induction ns with
    | nil => rfl
    | cons a r ih =>
      rw [List.map_cons, List.any_cons, ih, Bool.eq_iff_iff]
      simp only [kvT, Bool.or_eq_true, decide_eq_true_eq, List.mem_cons]
      constructor
      · rintro (h | h)
        · exact .inl (Sum.inr.inj (of_decide_eq_true h)).symm
        · exact .inr h
      · rintro (h | h)
        · exact .inl (decide_eq_true (by rw [h]))
        · exact .inr h
  rw [h]
  by_cases hs : s ∈ ns
  · rw [if_pos (decide_eq_true hs), if_pos hs, List.map_map]
    refine List.map_congr_left fun a _ => ?_
    show (if (kvT a).1 = _ then _ else _) = _
    split
    · rfl
    · rfl
  · rw [if_neg (by simpa using hs), if_neg hs, List.map_append]; rfl
namespace Tm
/-- the name of a node of this kind -/
def nm (kd : Str) : Tm → Option Str
  | .cell s => if kd = "cell" then some s else none
  | .call0 s => if kd = "call" then some s else none
  | .call2 s _ _ => if kd = "call" then some s else none
  | _ => none
def names (kd : Str) (t : Tm) : List Str := (t.pre.filterMap (nm kd)).foldl addK []
end Tm
theorem fold_add_len : ∀ (l ns : List Str), (l.foldl addK ns).length ≤ ns.length + l.length
  | [], ns => Nat.le_refl _
  | s :: r, ns => by
    have := fold_add_len r (addK ns s)
    have h2 : (addK ns s).length ≤ ns.length + 1 := by unfold addK; split <;> simp
    rw [List.foldl_cons, List.length_cons]; omega
theorem fold_add_mem {x : Str} : ∀ (l ns : List Str), x ∈ l.foldl addK ns ↔ x ∈ ns ∨ x ∈ l
  | [], ns => by simp
  | s :: r, ns => by
    rw [List.foldl_cons, fold_add_mem r]
    unfold addK
    split
    · rename_i h
      constructor
      · rintro (q | q); exact .inl q; exact .inr (List.mem_cons_of_mem _ q)
      · rintro (q | q); exact .inl q
        rcases List.mem_cons.mp q with rfl | q; exact .inl h; exact .inr q
    · rw [List.mem_append, List.mem_singleton, List.mem_cons]
      constructor
      · rintro ((q | q) | q); exact .inl q; exact .inr (.inl q); exact .inr (.inr q)
      · rintro (q | q | q); exact .inl (.inl q); exact .inl (.inr q); exact .inr q
theorem fold_add_nodup : ∀ (l ns : List Str), ns.Nodup → (l.foldl addK ns).Nodup
  | [], ns, h => h
  | s :: r, ns, h => by
    rw [List.foldl_cons]
    refine fold_add_nodup r _ ?_
    unfold addK
    split
    · exact h
    · rename_i hs
      rw [List.nodup_append]
      exact ⟨h, by simp, fun a ha b hb => by rw [List.mem_singleton.mp hb]; rintro rfl; exact hs ha⟩
theorem names_len (kd : Str) (t : Tm) : (t.names kd).length ≤ t.size := by
  have h1 := fold_add_len (t.pre.filterMap (Tm.nm kd)) []
  have h2 := List.length_filterMap_le (Tm.nm kd) t.pre
  rw [Tm.pre_len] at h2
  unfold Tm.names
  simp at h1
  omega
/-- one part is looked at -/
theorem part_test {u : Tm} {kd : Str} {L : LH} (hu : u.ok many) (hk : kd = "cell" ∨ kd = "call") {env : Env} (h3 : env[3]? = some (some u.enc)) (h1 : env[1]? = some (some (.str kd))) :
    Ev (bAnd (bTru (cOpL oIsi (cCons (cVar 3) (cCons (cC (.ty "tuple")) cNil)))) (bVal (cOp2 oEq (cOp2 oIx (cVar 3) (cC (.int 0))) (cVar 1))) env L) fun b L' => b = (u.nm kd).isSome ∧ L' = L := by
  have so : PyData.strOk kd = true := by rcases hk with rfl | rfl; exact so_cell; exact so_call
  have e : kitB "tuple" "tuple" = some true := rfl
  have e2 : kitB "int" "tuple" = some false := rfl
  have key : ∀ {s : Str} {r : List W}, u.enc = .tup (.str s :: r) → (u.nm kd).isSome = (s == kd) → Ev (bAnd (bTru (cOpL oIsi (cCons (cVar 3) (cCons (cC (.ty "tuple")) cNil)))) (bVal (cOp2 oEq (cOp2 oIx (cVar 3) (cC (.int 0))) (cVar 1))) env L) fun b L' => b = (u.nm kd).isSome ∧ L' = L := fun {s r} he hn => by
    have ty : tyName (.tup (.str s :: r)) L = some "tuple" := rfl
    simp only [wipeE, ev_ok, ev_bind, ev_only, ev_ofO, ev_ofOB, ev_ite, evs_ite, evo_some, evs_toS, evs_seq, ev_C, ev_var, ev_op2, ev_op1, ev_opL, ev_nil, ev_cons, ev_call, ev_bVal, ev_bTru, ev_bNot, ev_bAnd, ev_bOr, ev_bYes, ev_cIf, ev_cNot, ev_cAnd, ev_cOr, ev_chain, ev_part_none, ev_part_some, ev_sl, ev_mth, evs_skip, evs_set, evs_ret, evs_expr, evs_if, evs_par, evs_as, ev_gN, ev_gsNil, ev_gsCons, ev_gTup, ev_gIx, evs_aug, ev_defF, evs_for, ev_rng1, ev_iSeq, ev_lc, o_addI, o_subI, o_addS, o_addT, o_mulI, o_modI, o_divI, o_powI, o_cmpI, o_intI, o_intB, o_absI, o_lst, o_tup, bl_bl, List.map_cons, List.map_nil, List.cons_append, List.nil_append, List.append_nil, List.getElem?_cons_zero, List.getElem?_cons_succ, List.set_cons_zero, List.set_cons_succ, List.length_cons, List.length_nil, List.replicate, Nat.reduceAdd, Nat.reduceSub, Nat.reduceLeDiff, true_and, and_true, if_true, decide_eq_true_eq, Nat.zero_add, h3, h1, he, isi_of ty, e, truW, ix_tup0, oEq, eqX_ss (Tm.enc_head hu s r he) so, oB, Option.map, blW]
    exact hn.symm
  cases u with
  | val i =>
    have ty : tyName (Tm.enc (.val i)) L = some "int" := rfl
    simp only [wipeE, ev_ok, ev_bind, ev_only, ev_ofO, ev_ofOB, ev_ite, evs_ite, evo_some, evs_toS, evs_seq, ev_C, ev_var, ev_op2, ev_op1, ev_opL, ev_nil, ev_cons, ev_call, ev_bVal, ev_bTru, ev_bNot, ev_bAnd, ev_bOr, ev_bYes, ev_cIf, ev_cNot, ev_cAnd, ev_cOr, ev_chain, ev_part_none, ev_part_some, ev_sl, ev_mth, evs_skip, evs_set, evs_ret, evs_expr, evs_if, evs_par, evs_as, ev_gN, ev_gsNil, ev_gsCons, ev_gTup, ev_gIx, evs_aug, ev_defF, evs_for, ev_rng1, ev_iSeq, ev_lc, o_addI, o_subI, o_addS, o_addT, o_mulI, o_modI, o_divI, o_powI, o_cmpI, o_intI, o_intB, o_absI, o_lst, o_tup, bl_bl, List.map_cons, List.map_nil, List.cons_append, List.nil_append, List.append_nil, List.getElem?_cons_zero, List.getElem?_cons_succ, List.set_cons_zero, List.set_cons_succ, List.length_cons, List.length_nil, List.replicate, Nat.reduceAdd, Nat.reduceSub, Nat.reduceLeDiff, true_and, and_true, if_true, decide_eq_true_eq, Nat.zero_add, h3, isi_of ty, e2, truW, Bool.false_eq_true, if_false]
    exact rfl
  | arg i => exact key rfl (by rcases hk with rfl | rfl <;> rfl)
  | cell i => exact key rfl (by rcases hk with rfl | rfl <;> rfl)
  | tick => exact key rfl (by rcases hk with rfl | rfl <;> rfl)
  | call0 i => exact key rfl (by rcases hk with rfl | rfl <;> rfl)
  | call2 i => exact key rfl (by rcases hk with rfl | rfl <;> rfl)
  | ite i => exact key rfl (by rcases hk with rfl | rfl <;> rfl)
  | bin h a b => exact key rfl (by
      have := hu.1
      rcases this with rfl | rfl | rfl <;> rcases hk with rfl | rfl <;> rfl)
theorem nm_at {u : Tm} {kd s : Str} (h : u.nm kd = some s) : ∃ x r, u.enc = .tup (x :: .str s :: r) := by
  cases u <;> simp [Tm.nm] at h
  · obtain ⟨_, rfl⟩ := h; exact ⟨_, _, rfl⟩
  · obtain ⟨_, rfl⟩ := h; exact ⟨_, _, rfl⟩
  · obtain ⟨_, rfl⟩ := h; exact ⟨_, _, rfl⟩
theorem ev_lock {f : Ex} {b : Ex} {env : Env} {L : LH} {n : Nat} {kvs : List (Key × W)} {Q : W → LH → Prop} {L1 : LH} (hf : f env L = .ok (.ref n) L1) (hn : L[n]? = some (.dic kvs)) :
    Ev (lockE f b env L) Q = Ev (b env (L.set n (.lck kvs))) fun w L2 => match L2[n]? with | some (.lck kvs') => Q w (L2.set n (.dic kvs')) | _ => False := by
  unfold lockE
  rw [hf]
  simp only [hn, ev_bind, ev_only]
  congr
  funext w L2
  split <;> rename_i h <;> first | rfl | (simp only [h] <;> rfl)
theorem srcK_is {L : LH} {n : Nat} {kvs : List (Key × W)} (h : L[n]? = some (.lck kvs)) : SrcIs (srcK n kvs.length) L (kvs.map fun kv => kW kv.1) := by
  refine ⟨by simp [srcK], fun L' p i => ?_⟩
  have : lckL L' n = some kvs := by unfold lckL; rw [pre_at p h]
  simp only [srcK, this, Option.map]
  rw [List.getElem?_map]; rfl
def c_names_with (lv : Fn) : Fn := f_names_with lv
theorem names_with_ok {lv : Fn} {d : Nat} (hl : LvS many lv d) {t : Tm} {kd : Str} {L : LH} (ht : t.ok many) (hd : t.dep ≤ d) (hs : t.size ≤ 30) (hk : kd = "cell" ∨ kd = "call") :
    Ev (f_names_with lv [t.enc, .str kd] L) fun w L' => ∃ n, w = .ref n ∧ L'[n]? = some (.lst ((srtS (t.names kd)).map .str)) ∧ L <+: L' := by
  simp only [f_names_with, cDc, wipeE, ev_ok, ev_bind, ev_only, ev_ofO, ev_ofOB, ev_ite, evs_ite, evo_some, evs_toS, evs_seq, ev_C, ev_var, ev_op2, ev_op1, ev_opL, ev_nil, ev_cons, ev_call, ev_bVal, ev_bTru, ev_bNot, ev_bAnd, ev_bOr, ev_bYes, ev_cIf, ev_cNot, ev_cAnd, ev_cOr, ev_chain, ev_part_none, ev_part_some, ev_sl, ev_mth, evs_skip, evs_set, evs_ret, evs_expr, evs_if, evs_par, evs_as, ev_gN, ev_gsNil, ev_gsCons, ev_gTup, ev_gIx, evs_aug, ev_defF, evs_for, ev_rng1, ev_iSeq, ev_lc, o_addI, o_subI, o_addS, o_addT, o_mulI, o_modI, o_divI, o_powI, o_cmpI, o_intI, o_intB, o_absI, o_lst, o_tup, bl_bl, List.map_cons, List.map_nil, List.cons_append, List.nil_append, List.append_nil, List.getElem?_cons_zero, List.getElem?_cons_succ, List.set_cons_zero, List.set_cons_succ, List.length_cons, List.length_nil, List.replicate, Nat.reduceAdd, Nat.reduceSub, Nat.reduceLeDiff, true_and, and_true, if_true, decide_eq_true_eq, Nat.zero_add]
  refine (hl t L ht hd (by omega)).mono fun w L1 q => ?_
  obtain ⟨n, rfl, hn, p1⟩ := q
  obtain ⟨S, e1, hS⟩ := srcOf_at hn
  simp only [e1]
  refine Ev.mono (Q := fun acc L2 => acc = (t.names kd).map kvT ∧ L1 <+: L2) ?_ fun acc L2 q => ?_
  · refine dc_inv (P := fun i L2 acc => acc = (((t.pre.take i).filterMap (Tm.nm kd)).foldl addK []).map kvT ∧ L1 <+: L2) (n := t.pre.length) (fun i L2 acc hi hp => ?_) (fun L2 acc hp => ?_) S.len 0 L1 [] (by rw [hS.1]; simp) ⟨rfl, List.prefix_refl _⟩
    · obtain ⟨rfl, p2⟩ := hp
      have hm : t.pre[i] ∈ t.pre := List.getElem_mem hi
      refine ⟨t.pre[i].enc, by rw [hS.2 L2 p2, List.getElem?_map, List.getElem?_eq_getElem hi]; rfl, _, rfl, ?_⟩
      refine (part_test (kd := kd) (Tm.pre_ok ht _ hm) hk rfl rfl).mono fun b L3 q => ?_
      obtain ⟨rfl, rfl⟩ := q
      have htk : (t.pre.take (i + 1)).filterMap (Tm.nm kd) = (t.pre.take i).filterMap (Tm.nm kd) ++ (match t.pre[i].nm kd with | some s => [s] | none => []) := by
        rw [List.take_succ_eq_append_getElem hi, List.filterMap_append]
        congr 1
        cases e : t.pre[i].nm kd with
        | none => simp [e]
        | some s => simp [e]
      cases e : t.pre[i].nm kd with
      | none =>
        simp only [Option.isSome_none, Bool.false_eq_true, if_false]
        rw [htk, e]; exact ⟨by simp, p2⟩
      | some s =>
        obtain ⟨x, r, he⟩ := nm_at e
        simp only [Option.isSome_some, if_true, wipeE, ev_ok, ev_bind, ev_only, ev_ofO, ev_ofOB, ev_ite, evs_ite, evo_some, evs_toS, evs_seq, ev_C, ev_var, ev_op2, ev_op1, ev_opL, ev_nil, ev_cons, ev_call, ev_bVal, ev_bTru, ev_bNot, ev_bAnd, ev_bOr, ev_bYes, ev_cIf, ev_cNot, ev_cAnd, ev_cOr, ev_chain, ev_part_none, ev_part_some, ev_sl, ev_mth, evs_skip, evs_set, evs_ret, evs_expr, evs_if, evs_par, evs_as, ev_gN, ev_gsNil, ev_gsCons, ev_gTup, ev_gIx, evs_aug, ev_defF, evs_for, ev_rng1, ev_iSeq, ev_lc, o_addI, o_subI, o_addS, o_addT, o_mulI, o_modI, o_divI, o_powI, o_cmpI, o_intI, o_intB, o_absI, o_lst, o_tup, bl_bl, List.map_cons, List.map_nil, List.cons_append, List.nil_append, List.append_nil, List.getElem?_cons_zero, List.getElem?_cons_succ, List.set_cons_zero, List.set_cons_succ, List.length_cons, List.length_nil, List.replicate, Nat.reduceAdd, Nat.reduceSub, Nat.reduceLeDiff, true_and, and_true, if_true, decide_eq_true_eq, Nat.zero_add, he, ix_tup1]
        refine ⟨.inr s, rfl, ?_, ?_, p2⟩
        · rw [List.length_map]
          have h1 := fold_add_len ((t.pre.take i).filterMap (Tm.nm kd)) []
          have h2 := List.length_filterMap_le (Tm.nm kd) (t.pre.take i)
          have h3 := Tm.pre_len t
          rw [List.length_take] at h2
          simp at h1
          omega
        · rw [put_names, htk, e, List.foldl_append]; rfl
    · obtain ⟨rfl, p2⟩ := hp
      refine ⟨by rw [hS.2 L2 p2, List.getElem?_eq_none (by rw [List.length_map]; exact Nat.le_refl _)], ?_, p2⟩
      rw [List.take_length]; rfl
  · obtain ⟨rfl, p2⟩ := q
    have hlen := names_len kd t
    have hf : cVar 2 [some t.enc, some (.str kd), some (.ref L2.length), none, none] (L2 ++ [.dic ((t.names kd).map kvT)]) = .ok (.ref L2.length) (L2 ++ [.dic ((t.names kd).map kvT)]) := rfl
    rw [ev_lock hf at_last]
    have hset : (L2 ++ [LO.dic ((t.names kd).map kvT)]).set L2.length (.lck ((t.names kd).map kvT)) = L2 ++ [.lck ((t.names kd).map kvT)] := by
      rw [List.set_append_right _ _ (Nat.le_refl _)]; simp
    rw [hset]
    have hlk : lckL (L2 ++ [LO.lck ((t.names kd).map kvT)]) L2.length = some ((t.names kd).map kvT) := by unfold lckL; rw [at_last]
    simp only [iKy, wipeE, ev_ok, ev_bind, ev_only, ev_ofO, ev_ofOB, ev_ite, evs_ite, evo_some, evs_toS, evs_seq, ev_C, ev_var, ev_op2, ev_op1, ev_opL, ev_nil, ev_cons, ev_call, ev_bVal, ev_bTru, ev_bNot, ev_bAnd, ev_bOr, ev_bYes, ev_cIf, ev_cNot, ev_cAnd, ev_cOr, ev_chain, ev_part_none, ev_part_some, ev_sl, ev_mth, evs_skip, evs_set, evs_ret, evs_expr, evs_if, evs_par, evs_as, ev_gN, ev_gsNil, ev_gsCons, ev_gTup, ev_gIx, evs_aug, ev_defF, evs_for, ev_rng1, ev_iSeq, ev_lc, o_addI, o_subI, o_addS, o_addT, o_mulI, o_modI, o_divI, o_powI, o_cmpI, o_intI, o_intB, o_absI, o_lst, o_tup, bl_bl, List.map_cons, List.map_nil, List.cons_append, List.nil_append, List.append_nil, List.getElem?_cons_zero, List.getElem?_cons_succ, List.set_cons_zero, List.set_cons_succ, List.length_cons, List.length_nil, List.replicate, Nat.reduceAdd, Nat.reduceSub, Nat.reduceLeDiff, true_and, and_true, if_true, decide_eq_true_eq, Nat.zero_add, hlk]
    have hS2 := srcK_is (L := L2 ++ [LO.lck ((t.names kd).map kvT)]) at_last
    rw [List.map_map] at hS2
    refine (lc_map (ts := t.names kd) (f := fun s => kW (kvT s).1) (g := fun s => .str s) hS2 (by omega) fun s hs' L3 p3 => ?_).mono fun acc L3 q => ?_
    · simp only [wipeE, ev_ok, ev_bind, ev_only, ev_ofO, ev_ofOB, ev_ite, evs_ite, evo_some, evs_toS, evs_seq, ev_C, ev_var, ev_op2, ev_op1, ev_opL, ev_nil, ev_cons, ev_call, ev_bVal, ev_bTru, ev_bNot, ev_bAnd, ev_bOr, ev_bYes, ev_cIf, ev_cNot, ev_cAnd, ev_cOr, ev_chain, ev_part_none, ev_part_some, ev_sl, ev_mth, evs_skip, evs_set, evs_ret, evs_expr, evs_if, evs_par, evs_as, ev_gN, ev_gsNil, ev_gsCons, ev_gTup, ev_gIx, evs_aug, ev_defF, evs_for, ev_rng1, ev_iSeq, ev_lc, o_addI, o_subI, o_addS, o_addT, o_mulI, o_modI, o_divI, o_powI, o_cmpI, o_intI, o_intB, o_absI, o_lst, o_tup, bl_bl, List.map_cons, List.map_nil, List.cons_append, List.nil_append, List.append_nil, List.getElem?_cons_zero, List.getElem?_cons_succ, List.set_cons_zero, List.set_cons_succ, List.length_cons, List.length_nil, List.replicate, Nat.reduceAdd, Nat.reduceSub, Nat.reduceLeDiff, true_and, and_true, if_true, decide_eq_true_eq, Nat.zero_add, kvT, kW, oStr]
      exact List.prefix_refl _
    · obtain ⟨rfl, p3⟩ := q
      have hl3 : (L3 ++ [LO.lst ((t.names kd).map .str)])[L2.length]? = some (.lck ((t.names kd).map kvT)) := pre_at pre_last (pre_at p3 at_last)
      rw [hl3]
      simp only
      have hlt : L2.length < L3.length := (List.getElem?_eq_some_iff.mp (pre_at p3 at_last)).1
      have hne : ((L3 ++ [LO.lst ((t.names kd).map .str)]).set L2.length (.dic ((t.names kd).map kvT)))[L3.length]? = some (.lst ((t.names kd).map .str)) := by
        rw [List.getElem?_set_ne (by omega)]; exact at_last
      rw [sorted_at hne (by omega), evo_some]
      refine ⟨_, rfl, at_last, ?_⟩
      refine List.IsPrefix.trans ?_ pre_last
      exact (p1.trans p2).trans (pre_set (pre_last.trans (p3.trans pre_last)) (Nat.le_refl _))
end Z

/-! ZZ: has_tick, the law's own counts. -/
namespace Z
open PySem PySem.Spec PyProof.Rows L2
variable {many : Int}
namespace Tm
def isTick : Tm → Bool
  | .tick => true
  | _ => false
def tickB (t : Tm) : Bool := t.pre.any isTick
theorem eqv_tick {t : Tm} (h : t.ok many) : PyData.eqv t.dat (.tuple [.str "tick"]) = t.isTick := by
  cases t with
  | tick => rfl
  | val i => rfl
  | arg i => simp [dat, PyData.eqv, PyData.eqvAll, isTick]
  | cell i => simp [dat, PyData.eqv, PyData.eqvAll, isTick]
  | call0 i => simp [dat, PyData.eqv, PyData.eqvAll, isTick]
  | call2 s a b => simp [dat, PyData.eqv, PyData.eqvAll, isTick]
  | bin s a b => simp [dat, PyData.eqv, PyData.eqvAll, isTick]
  | ite a b c => simp [dat, PyData.eqv, PyData.eqvAll, isTick]
end Tm
theorem toD_ref {L : LH} {n : Nat} {ts : List Tm} {d : Nat} (h : L[n]? = some (.lst (ts.map Tm.enc))) (hd : ∀ t ∈ ts, t.dep ≤ d) (h9 : d ≤ 9) : toD L 40 (.ref n) = some (.list (ts.map Tm.dat)) := by
  unfold toD
  rw [seqL_at h]
  simp only
  rw [toDs_of 39 _ _ (pdats ts) (by have := wdeps_le ts hd; omega)]
  rfl
theorem has_tick_ok {lv : Fn} {d : Nat} (hl : LvS many lv d) {t : Tm} {L : LH} (ht : t.ok many) (hd : t.dep ≤ d) (hs : t.size ≤ 30) (h9 : t.dep ≤ 9) :
    Ev (f_has_tick lv [t.enc] L) fun w L' => w = .bl t.tickB ∧ L <+: L' := by
  simp only [f_has_tick, wipeE, ev_ok, ev_bind, ev_only, ev_ofO, ev_ofOB, ev_ite, evs_ite, evo_some, evs_toS, evs_seq, ev_C, ev_var, ev_op2, ev_op1, ev_opL, ev_nil, ev_cons, ev_call, ev_bVal, ev_bTru, ev_bNot, ev_bAnd, ev_bOr, ev_bYes, ev_cIf, ev_cNot, ev_cAnd, ev_cOr, ev_chain, ev_part_none, ev_part_some, ev_sl, ev_mth, evs_skip, evs_set, evs_ret, evs_expr, evs_if, evs_par, evs_as, ev_gN, ev_gsNil, ev_gsCons, ev_gTup, ev_gIx, evs_aug, ev_defF, evs_for, ev_rng1, ev_iSeq, ev_lc, o_addI, o_subI, o_addS, o_addT, o_mulI, o_modI, o_divI, o_powI, o_cmpI, o_intI, o_intB, o_absI, o_lst, o_tup, bl_bl, List.map_cons, List.map_nil, List.cons_append, List.nil_append, List.append_nil, List.getElem?_cons_zero, List.getElem?_cons_succ, List.set_cons_zero, List.set_cons_succ, List.length_cons, List.length_nil, List.replicate, Nat.reduceAdd, Nat.reduceSub, Nat.reduceLeDiff, true_and, and_true, if_true, decide_eq_true_eq, Nat.zero_add]
  refine (hl t L ht hd (by omega)).mono fun w L1 q => ?_
  obtain ⟨n, rfl, hn, p1⟩ := q
  have hdd : ∀ u ∈ t.pre, u.dep ≤ 9 := fun u hu => Nat.le_trans (Tm.pre_dep t u hu) h9
  have e1 : toD L1 40 (.tup [.str "tick"]) = some (.tuple [.str "tick"]) := toD_of 40 _ _ (Tm.pdat .tick) (by simp [wdep, wdeps])
  have e2 := toD_ref hn hdd (Nat.le_refl _)
  have s1 : SeqAt.shaped (.tuple [.str "tick"]) = true := by
    unfold SeqAt.shaped
    simp [PyData.canLay0, PyData.canLayAll0, so_tick, PyData.depth, PyData.depthAll]
  have s2 : SeqAt.shaped (.list (t.pre.map Tm.dat)) = true := by
    unfold SeqAt.shaped
    rw [Bool.and_eq_true]
    refine ⟨lays (Tm.pre_ok ht), decide_eq_true ?_⟩
    have := ddeps_le t.pre hdd
    simp only [PyData.depth]; omega
  have : oInD (.tup [.str "tick"]) (.ref n) L1 = some (.bl t.tickB, L1) := by
    have h1 : dicW (.ref n) L1 = none := by simp only [dicW, hn]
    unfold oInD
    rw [h1]
    simp only [oIn, inW, seqL_at hn]
    rw [if_neg (by rintro ⟨q, _⟩; cases q)]
    unfold inD
    rw [e1, e2]
    simp only [s1, s2, and_self, if_true, oB, Option.map]
    congr 3
    rw [List.any_map]
    unfold Tm.tickB
    rw [Bool.eq_iff_iff, List.any_eq_true, List.any_eq_true]
    constructor
    · rintro ⟨x, hx, hq⟩
      refine ⟨x, hx, ?_⟩
      rw [← Tm.eqv_tick (Tm.pre_ok ht x hx)]; exact hq
    · rintro ⟨x, hx, hq⟩
      refine ⟨x, hx, ?_⟩
      rw [← Tm.eqv_tick (Tm.pre_ok ht x hx)] at hq; exact hq
  rw [this, evo_some]
  exact ⟨rfl, p1⟩
/-! ### the law's own -/
theorem in_lst {L : LH} {n : Nat} {a : W} {ws : List W} {neg : Bool} (h : L[n]? = some (.lst ws)) (ha : flatW a = true) (hw : ws.all flatW = true) : oInD a (.ref n) L = some (.bl (ws.any fun y => eqF y a), L) := by
  have h1 : dicW (.ref n) L = none := by simp only [dicW, h]
  unfold oInD
  rw [h1]
  simp only [oIn, inW, seqL_at h]
  rw [if_pos ⟨ha, hw⟩]; rfl
theorem law_inner_ok {t : Tm} {L : LH} (ht : t.ok many) : Ev (f_law_inner [t.enc] L) fun w L' => ∃ n, w = .ref n ∧ L'[n]? = some (.lst (t.kids.map Tm.enc)) ∧ L <+: L' ∧ L.length ≤ n := by
  have e : kitB "tuple" "tuple" = some true := rfl
  have e2 : kitB "int" "tuple" = some false := rfl
  have key : ∀ {s : Str} {r : List W}, t.enc = .tup (.str s :: r) → Ev (f_law_inner [t.enc] L) (fun w L' => ∃ n, w = .ref n ∧ L'[n]? = some (.lst (t.kids.map Tm.enc)) ∧ L <+: L' ∧ L.length ≤ n) := fun {s r} he => by
    have ty : tyName (.tup (.str s :: r)) L = some "tuple" := rfl
    have so := Tm.enc_head ht s r he
    have hi := Tm.enc_inner ht
    rw [he] at hi
    simp only [f_law_inner, wipeE, ev_ok, ev_bind, ev_only, ev_ofO, ev_ofOB, ev_ite, evs_ite, evo_some, evs_toS, evs_seq, ev_C, ev_var, ev_op2, ev_op1, ev_opL, ev_nil, ev_cons, ev_call, ev_bVal, ev_bTru, ev_bNot, ev_bAnd, ev_bOr, ev_bYes, ev_cIf, ev_cNot, ev_cAnd, ev_cOr, ev_chain, ev_part_none, ev_part_some, ev_sl, ev_mth, evs_skip, evs_set, evs_ret, evs_expr, evs_if, evs_par, evs_as, ev_gN, ev_gsNil, ev_gsCons, ev_gTup, ev_gIx, evs_aug, ev_defF, evs_for, ev_rng1, ev_iSeq, ev_lc, o_addI, o_subI, o_addS, o_addT, o_mulI, o_modI, o_divI, o_powI, o_cmpI, o_intI, o_intB, o_absI, o_lst, o_tup, bl_bl, List.map_cons, List.map_nil, List.cons_append, List.nil_append, List.append_nil, List.getElem?_cons_zero, List.getElem?_cons_succ, List.set_cons_zero, List.set_cons_succ, List.length_cons, List.length_nil, List.replicate, Nat.reduceAdd, Nat.reduceSub, Nat.reduceLeDiff, true_and, and_true, if_true, decide_eq_true_eq, Nat.zero_add, he, isi_of ty, e, truW, Bool.not_true, Bool.false_eq_true, if_false, ix_tup0]
    rw [in_lst (neg := false) at_last rfl rfl, evo_some]
    simp only [blW]
    cases hb : ([W.str "arg", W.str "cell", W.str "tick"].any fun y => eqF y (.str s)) with
    | true =>
      simp only [if_true]
      refine ⟨_, rfl, ?_, pre_last.trans pre_last, by simp⟩
      have hs : s = "arg" ∨ s = "cell" ∨ s = "tick" := by
        simp [eqF] at hb
        rcases hb with q | q | q
        · exact .inl q.symm
        · exact .inr (.inl q.symm)
        · exact .inr (.inr q.symm)
      rw [at_last]
      congr 2
      cases t <;> simp [Tm.enc] at he <;> first | rfl | (obtain ⟨rfl, _⟩ := he; rcases hs with q | q | q <;> simp at q) | skip
      · obtain ⟨rfl, _⟩ := he
        rcases ht.1 with rfl | rfl | rfl <;> rcases hs with q | q | q <;> simp at q
    | false =>
      simp only [Bool.false_eq_true, if_false]
      have hs : s ≠ "arg" ∧ s ≠ "cell" ∧ s ≠ "tick" := by
        simp [eqF] at hb
        exact ⟨fun q => hb.1 q.symm, fun q => hb.2.1 q.symm, fun q => hb.2.2 q.symm⟩
      simp only [ix_tup0, evo_some, oEq, eqX_ss so so_call, oB, Option.map, blW]
      unfold innerW at hi
      simp only at hi
      by_cases hc : s = "call"
      · rw [if_pos hc] at hi
        simp only [hc, beq_self_eq_true, if_true]
        split at hi
        · rename_i ks
          cases hi
          simp only [ix_tup2, evo_some, oList, seqW]
          exact ⟨_, rfl, at_last, pre_last.trans pre_last, by simp⟩
        · cases hi
      · rw [if_neg hc] at hi
        have hb : (s == ("call" : Str)) = false := beq_eq_false_iff_ne.mpr hc
        simp only [hb, Bool.false_eq_true, if_false, oSl, evo_some, cutW_tail, oList, seqW]
        refine ⟨_, rfl, ?_, pre_last.trans pre_last, by simp⟩
        rw [at_last]
        congr 2
        split at hi
        · cases hi; rfl
        · rename_i hno
          cases t <;> simp [Tm.enc] at he
          · exact absurd he.1.symm hs.1
          · exact absurd he.1.symm hs.2.1
          · exact absurd he.1.symm hs.2.2
          · exact absurd he.1.symm hc
          · exact absurd he.1.symm hc
          · obtain ⟨rfl, _⟩ := he; exact absurd (ht.1.elim .inl fun q => .inr (q.elim .inl fun q => .inr (.inl q))) hno
          · exact absurd (.inr (.inr (.inr he.1.symm))) hno
  cases t with
  | val i =>
    have ty : tyName (.int i) L = some "int" := rfl
    simp only [f_law_inner, wipeE, ev_ok, ev_bind, ev_only, ev_ofO, ev_ofOB, ev_ite, evs_ite, evo_some, evs_toS, evs_seq, ev_C, ev_var, ev_op2, ev_op1, ev_opL, ev_nil, ev_cons, ev_call, ev_bVal, ev_bTru, ev_bNot, ev_bAnd, ev_bOr, ev_bYes, ev_cIf, ev_cNot, ev_cAnd, ev_cOr, ev_chain, ev_part_none, ev_part_some, ev_sl, ev_mth, evs_skip, evs_set, evs_ret, evs_expr, evs_if, evs_par, evs_as, ev_gN, ev_gsNil, ev_gsCons, ev_gTup, ev_gIx, evs_aug, ev_defF, evs_for, ev_rng1, ev_iSeq, ev_lc, o_addI, o_subI, o_addS, o_addT, o_mulI, o_modI, o_divI, o_powI, o_cmpI, o_intI, o_intB, o_absI, o_lst, o_tup, bl_bl, List.map_cons, List.map_nil, List.cons_append, List.nil_append, List.append_nil, List.getElem?_cons_zero, List.getElem?_cons_succ, List.set_cons_zero, List.set_cons_succ, List.length_cons, List.length_nil, List.replicate, Nat.reduceAdd, Nat.reduceSub, Nat.reduceLeDiff, true_and, and_true, if_true, decide_eq_true_eq, Nat.zero_add, Tm.enc, isi_of ty, e2, truW, Bool.not_false, if_true]
    exact ⟨_, rfl, at_last, pre_last, Nat.le_refl _⟩
  | arg i => exact key rfl
  | cell i => exact key rfl
  | tick => exact key rfl
  | call0 i => exact key rfl
  | call2 i => exact key rfl
  | ite i => exact key rfl
  | bin h a b => exact key rfl
/-! ### dicts told key by key -/
@[simp] theorem sn_size_cell : (Str.ofString "size" = Str.ofString "cell") = False := eq_false (by decide +kernel)
@[simp] theorem sn_size_call : (Str.ofString "size" = Str.ofString "call") = False := eq_false (by decide +kernel)
@[simp] theorem sn_size_tick : (Str.ofString "size" = Str.ofString "tick") = False := eq_false (by decide +kernel)
@[simp] theorem sn_size_depth : (Str.ofString "size" = Str.ofString "depth") = False := eq_false (by decide +kernel)
@[simp] theorem sn_size_name : (Str.ofString "size" = Str.ofString "name") = False := eq_false (by decide +kernel)
@[simp] theorem sn_size_many : (Str.ofString "size" = Str.ofString "many") = False := eq_false (by decide +kernel)
@[simp] theorem sn_size_cells : (Str.ofString "size" = Str.ofString "cells") = False := eq_false (by decide +kernel)
@[simp] theorem sn_size_functions : (Str.ofString "size" = Str.ofString "functions") = False := eq_false (by decide +kernel)
@[simp] theorem sn_cell_size : (Str.ofString "cell" = Str.ofString "size") = False := eq_false (by decide +kernel)
@[simp] theorem sn_cell_depth : (Str.ofString "cell" = Str.ofString "depth") = False := eq_false (by decide +kernel)
@[simp] theorem sn_cell_name : (Str.ofString "cell" = Str.ofString "name") = False := eq_false (by decide +kernel)
@[simp] theorem sn_cell_many : (Str.ofString "cell" = Str.ofString "many") = False := eq_false (by decide +kernel)
@[simp] theorem sn_cell_cells : (Str.ofString "cell" = Str.ofString "cells") = False := eq_false (by decide +kernel)
@[simp] theorem sn_cell_functions : (Str.ofString "cell" = Str.ofString "functions") = False := eq_false (by decide +kernel)
@[simp] theorem sn_call_size : (Str.ofString "call" = Str.ofString "size") = False := eq_false (by decide +kernel)
@[simp] theorem sn_call_depth : (Str.ofString "call" = Str.ofString "depth") = False := eq_false (by decide +kernel)
@[simp] theorem sn_call_name : (Str.ofString "call" = Str.ofString "name") = False := eq_false (by decide +kernel)
@[simp] theorem sn_call_many : (Str.ofString "call" = Str.ofString "many") = False := eq_false (by decide +kernel)
@[simp] theorem sn_call_cells : (Str.ofString "call" = Str.ofString "cells") = False := eq_false (by decide +kernel)
@[simp] theorem sn_call_functions : (Str.ofString "call" = Str.ofString "functions") = False := eq_false (by decide +kernel)
@[simp] theorem sn_tick_size : (Str.ofString "tick" = Str.ofString "size") = False := eq_false (by decide +kernel)
@[simp] theorem sn_tick_depth : (Str.ofString "tick" = Str.ofString "depth") = False := eq_false (by decide +kernel)
@[simp] theorem sn_tick_name : (Str.ofString "tick" = Str.ofString "name") = False := eq_false (by decide +kernel)
@[simp] theorem sn_tick_many : (Str.ofString "tick" = Str.ofString "many") = False := eq_false (by decide +kernel)
@[simp] theorem sn_tick_cells : (Str.ofString "tick" = Str.ofString "cells") = False := eq_false (by decide +kernel)
@[simp] theorem sn_tick_functions : (Str.ofString "tick" = Str.ofString "functions") = False := eq_false (by decide +kernel)
@[simp] theorem sn_depth_size : (Str.ofString "depth" = Str.ofString "size") = False := eq_false (by decide +kernel)
@[simp] theorem sn_depth_cell : (Str.ofString "depth" = Str.ofString "cell") = False := eq_false (by decide +kernel)
@[simp] theorem sn_depth_call : (Str.ofString "depth" = Str.ofString "call") = False := eq_false (by decide +kernel)
@[simp] theorem sn_depth_tick : (Str.ofString "depth" = Str.ofString "tick") = False := eq_false (by decide +kernel)
@[simp] theorem sn_depth_name : (Str.ofString "depth" = Str.ofString "name") = False := eq_false (by decide +kernel)
@[simp] theorem sn_depth_many : (Str.ofString "depth" = Str.ofString "many") = False := eq_false (by decide +kernel)
@[simp] theorem sn_depth_cells : (Str.ofString "depth" = Str.ofString "cells") = False := eq_false (by decide +kernel)
@[simp] theorem sn_depth_functions : (Str.ofString "depth" = Str.ofString "functions") = False := eq_false (by decide +kernel)
@[simp] theorem sn_name_size : (Str.ofString "name" = Str.ofString "size") = False := eq_false (by decide +kernel)
@[simp] theorem sn_name_cell : (Str.ofString "name" = Str.ofString "cell") = False := eq_false (by decide +kernel)
@[simp] theorem sn_name_call : (Str.ofString "name" = Str.ofString "call") = False := eq_false (by decide +kernel)
@[simp] theorem sn_name_tick : (Str.ofString "name" = Str.ofString "tick") = False := eq_false (by decide +kernel)
@[simp] theorem sn_name_depth : (Str.ofString "name" = Str.ofString "depth") = False := eq_false (by decide +kernel)
@[simp] theorem sn_name_many : (Str.ofString "name" = Str.ofString "many") = False := eq_false (by decide +kernel)
@[simp] theorem sn_name_cells : (Str.ofString "name" = Str.ofString "cells") = False := eq_false (by decide +kernel)
@[simp] theorem sn_name_functions : (Str.ofString "name" = Str.ofString "functions") = False := eq_false (by decide +kernel)
@[simp] theorem sn_many_size : (Str.ofString "many" = Str.ofString "size") = False := eq_false (by decide +kernel)
@[simp] theorem sn_many_cell : (Str.ofString "many" = Str.ofString "cell") = False := eq_false (by decide +kernel)
@[simp] theorem sn_many_call : (Str.ofString "many" = Str.ofString "call") = False := eq_false (by decide +kernel)
@[simp] theorem sn_many_tick : (Str.ofString "many" = Str.ofString "tick") = False := eq_false (by decide +kernel)
@[simp] theorem sn_many_depth : (Str.ofString "many" = Str.ofString "depth") = False := eq_false (by decide +kernel)
@[simp] theorem sn_many_name : (Str.ofString "many" = Str.ofString "name") = False := eq_false (by decide +kernel)
@[simp] theorem sn_many_cells : (Str.ofString "many" = Str.ofString "cells") = False := eq_false (by decide +kernel)
@[simp] theorem sn_many_functions : (Str.ofString "many" = Str.ofString "functions") = False := eq_false (by decide +kernel)
@[simp] theorem sn_cells_size : (Str.ofString "cells" = Str.ofString "size") = False := eq_false (by decide +kernel)
@[simp] theorem sn_cells_cell : (Str.ofString "cells" = Str.ofString "cell") = False := eq_false (by decide +kernel)
@[simp] theorem sn_cells_call : (Str.ofString "cells" = Str.ofString "call") = False := eq_false (by decide +kernel)
@[simp] theorem sn_cells_tick : (Str.ofString "cells" = Str.ofString "tick") = False := eq_false (by decide +kernel)
@[simp] theorem sn_cells_depth : (Str.ofString "cells" = Str.ofString "depth") = False := eq_false (by decide +kernel)
@[simp] theorem sn_cells_name : (Str.ofString "cells" = Str.ofString "name") = False := eq_false (by decide +kernel)
@[simp] theorem sn_cells_many : (Str.ofString "cells" = Str.ofString "many") = False := eq_false (by decide +kernel)
@[simp] theorem sn_cells_functions : (Str.ofString "cells" = Str.ofString "functions") = False := eq_false (by decide +kernel)
@[simp] theorem sn_functions_size : (Str.ofString "functions" = Str.ofString "size") = False := eq_false (by decide +kernel)
@[simp] theorem sn_functions_cell : (Str.ofString "functions" = Str.ofString "cell") = False := eq_false (by decide +kernel)
@[simp] theorem sn_functions_call : (Str.ofString "functions" = Str.ofString "call") = False := eq_false (by decide +kernel)
@[simp] theorem sn_functions_tick : (Str.ofString "functions" = Str.ofString "tick") = False := eq_false (by decide +kernel)
@[simp] theorem sn_functions_depth : (Str.ofString "functions" = Str.ofString "depth") = False := eq_false (by decide +kernel)
@[simp] theorem sn_functions_name : (Str.ofString "functions" = Str.ofString "name") = False := eq_false (by decide +kernel)
@[simp] theorem sn_functions_many : (Str.ofString "functions" = Str.ofString "many") = False := eq_false (by decide +kernel)
@[simp] theorem sn_functions_cells : (Str.ofString "functions" = Str.ofString "cells") = False := eq_false (by decide +kernel)
theorem val_cons {k k' : Str} {w : W} {r : List (Key × W)} : valW (((.inr k : Key), w) :: r) (.inr k') = if k = k' then some w else valW r (.inr k') := by
  unfold valW
  rw [List.find?_cons]
  by_cases h : k = k'
  · subst h; simp
  · rw [if_neg h]
    have : decide ((Sum.inr k : Key) = .inr k') = false := decide_eq_false fun q => h (Sum.inr.inj q)
    simp only [this]
theorem ix_dic {L : LH} {n : Nat} {kvs : List (Key × W)} {k : Str} {w : W} (h : L[n]? = some (.dic kvs)) (hv : valW kvs (.inr k) = some w) : oIx (.ref n) (.str k) L = some (w, L) := by
  have h1 : dicW (.ref n) L = some kvs := by simp only [dicW, h]
  unfold oIx
  rw [h1]
  simp only [oIxD, h1, keyW, hv, Option.map]
/-- what the law has counted -/
def merge (acc l : List Str) : List Str := acc ++ l.filter fun s => !acc.contains s
namespace Tm
def own (kd : Str) (t : Tm) : List Str := match t.nm kd with
  | some s => [s]
  | none => []
def cnt (kd : Str) : Tm → List Str
  | .cell s => if kd = "cell" then [s] else []
  | .call0 s => if kd = "call" then [s] else []
  | .call2 s a b => merge (merge (if kd = "call" then [s] else []) (a.cnt kd)) (b.cnt kd)
  | .bin _ a b => merge (merge [] (a.cnt kd)) (b.cnt kd)
  | .ite a b c => merge (merge (merge [] (a.cnt kd)) (b.cnt kd)) (c.cnt kd)
  | _ => []
theorem cnt_eq (kd : Str) (t : Tm) : t.cnt kd = (t.kids.map (cnt kd)).foldl merge (t.own kd) := by
  cases t <;> simp [cnt, own, nm, kids, merge] <;> split <;> simp_all
end Tm
theorem merge_mem {x : Str} {a l : List Str} : x ∈ merge a l ↔ x ∈ a ∨ x ∈ l := by
  unfold merge
  rw [List.mem_append, List.mem_filter]
  constructor
  · rintro (h | h)
    · exact .inl h
    · exact .inr h.1
  · rintro (h | h)
    · exact .inl h
    · by_cases hx : x ∈ a
      · exact .inl hx
      · exact .inr ⟨h, by simpa using hx⟩
theorem merge_nodup {a l : List Str} (ha : a.Nodup) (hl : l.Nodup) : (merge a l).Nodup := by
  unfold merge
  rw [List.nodup_append]
  refine ⟨ha, hl.filter _, fun x hx y hy e => ?_⟩
  subst e
  have := (List.mem_filter.mp hy).2
  simp at this
  exact this hx
theorem own_nodup (kd : Str) (t : Tm) : (t.own kd).Nodup := by
  unfold Tm.own
  split <;> simp
theorem own_mem {kd x : Str} {t : Tm} : x ∈ t.own kd ↔ t.nm kd = some x := by
  unfold Tm.own
  split
  · rename_i s h; rw [h]; simp [eq_comm]
  · rename_i h; rw [h]; simp
theorem own_if2 {kd s : Str} {a b : Tm} : (if kd = "call" then [s] else [] : List Str) = Tm.own kd (.call2 s a b) := by
  unfold Tm.own Tm.nm; split <;> simp_all
theorem own_if0 {kd s : Str} : Tm.cnt kd (.call0 s) = Tm.own kd (.call0 s) := by
  unfold Tm.own Tm.nm Tm.cnt; split <;> simp_all
theorem own_ifc {kd s : Str} : Tm.cnt kd (.cell s) = Tm.own kd (.cell s) := by
  unfold Tm.own Tm.nm Tm.cnt; split <;> simp_all
theorem cnt_nodup (kd : Str) (t : Tm) : (t.cnt kd).Nodup := by
  induction t with
  | call2 s a b iha ihb => exact merge_nodup (merge_nodup (by rw [own_if2 (a := a) (b := b)]; exact own_nodup kd _) iha) ihb
  | bin s a b iha ihb => exact merge_nodup (merge_nodup (by simp) iha) ihb
  | ite a b c iha ihb ihc => exact merge_nodup (merge_nodup (merge_nodup (by simp) iha) ihb) ihc
  | cell s => rw [own_ifc]; exact own_nodup kd (.cell s)
  | call0 s => rw [own_if0]; exact own_nodup kd (.call0 s)
  | _ => simp [Tm.cnt]
theorem cnt_mem {kd x : Str} (t : Tm) : x ∈ t.cnt kd ↔ x ∈ t.pre.filterMap (Tm.nm kd) := by
  induction t with
  | call2 s a b iha ihb =>
    have : x ∈ (if kd = "call" then [s] else [] : List Str) ↔ Tm.nm kd (.call2 s a b) = some x := by rw [own_if2 (a := a) (b := b)]; exact own_mem
    simp only [Tm.cnt, merge_mem, this, iha, ihb, Tm.pre, List.mem_filterMap, List.mem_cons, List.mem_append]
    constructor
    · rintro ((h | ⟨u, hu, h⟩) | ⟨u, hu, h⟩)
      · exact ⟨_, .inl rfl, h⟩
      · exact ⟨u, .inr (.inl hu), h⟩
      · exact ⟨u, .inr (.inr hu), h⟩
    · rintro ⟨u, (rfl | hu | hu), h⟩
      · exact .inl (.inl h)
      · exact .inl (.inr ⟨u, hu, h⟩)
      · exact .inr ⟨u, hu, h⟩
  | bin s a b iha ihb =>
    simp only [Tm.cnt, merge_mem, iha, ihb, Tm.pre, List.mem_filterMap, List.mem_cons, List.mem_append]
    constructor
    · rintro ((h | ⟨u, hu, h⟩) | ⟨u, hu, h⟩)
      · cases h
      · exact ⟨u, .inr (.inl hu), h⟩
      · exact ⟨u, .inr (.inr hu), h⟩
    · rintro ⟨u, (rfl | hu | hu), h⟩
      · cases h
      · exact .inl (.inr ⟨u, hu, h⟩)
      · exact .inr ⟨u, hu, h⟩
  | ite a b c iha ihb ihc =>
    simp only [Tm.cnt, merge_mem, iha, ihb, ihc, Tm.pre, List.mem_filterMap, List.mem_cons, List.mem_append]
    constructor
    · rintro (((h | ⟨u, hu, h⟩) | ⟨u, hu, h⟩) | ⟨u, hu, h⟩)
      · cases h
      · exact ⟨u, .inr (.inl hu), h⟩
      · exact ⟨u, .inr (.inr (.inl hu)), h⟩
      · exact ⟨u, .inr (.inr (.inr hu)), h⟩
    · rintro ⟨u, (rfl | hu | hu | hu), h⟩
      · cases h
      · exact .inl (.inl (.inr ⟨u, hu, h⟩))
      · exact .inl (.inr ⟨u, hu, h⟩)
      · exact .inr ⟨u, hu, h⟩
  | cell s =>
    have : x ∈ Tm.cnt kd (.cell s) ↔ Tm.nm kd (.cell s) = some x := by rw [own_ifc]; exact own_mem
    rw [this]; simp [Tm.pre]
  | call0 s =>
    have : x ∈ Tm.cnt kd (.call0 s) ↔ Tm.nm kd (.call0 s) = some x := by rw [own_if0]; exact own_mem
    rw [this]; simp [Tm.pre]
  | val i => simp [Tm.cnt, Tm.pre, Tm.nm]
  | arg i => simp [Tm.cnt, Tm.pre, Tm.nm]
  | tick => simp [Tm.cnt, Tm.pre, Tm.nm]
theorem srt_names (kd : Str) (t : Tm) : srtS (t.names kd) = srtS (t.cnt kd) := by
  refine srtS_unique ((srtS_perm _).trans ?_) (srtS_pair _)
  have h1 : (t.names kd).Nodup := fold_add_nodup _ _ (by simp)
  refine (List.perm_ext_iff_of_nodup h1 (cnt_nodup kd t)).mpr fun x => ?_
  rw [cnt_mem t]
  unfold Tm.names
  rw [fold_add_mem]; simp
end Z

/-! YA: _law_counts. -/
namespace Z
open PySem PySem.Spec PyProof.Rows L2
variable {many : Int}
theorem lc_filter {α : Type} {S : Src} {j : Nat} {tb : Bx} {e : Ex} {env : Env} {L1 : LH} {ts : List α} {f : α → W} {p : α → Bool} (hS : SrcIs S L1 (ts.map f)) (hl : ts.length ≤ 16777216)
    (ht : ∀ t ∈ ts, ∀ L, L1 <+: L → Ev (tb (env.set j (some (f t))) L) fun b L' => b = p t ∧ L <+: L')
    (he : ∀ t ∈ ts, ∀ L, L1 <+: L → Ev (e (env.set j (some (f t))) L) fun y L' => y = f t ∧ L <+: L') :
    Ev (lcLoop S (.one j) tb e env (S.len + 1) 0 L1 []) fun acc L' => acc = (ts.filter p).map f ∧ L1 <+: L' := by
  refine lc_inv (P := fun i L acc => acc = ((ts.take i).filter p).map f ∧ L1 <+: L) (n := ts.length) (fun i L acc hi q => ?_) (fun L acc q => ?_) S.len 0 L1 [] (by rw [hS.1, List.length_map]; omega) ⟨rfl, List.prefix_refl _⟩
  · obtain ⟨rfl, pr⟩ := q
    have e1 : (ts.map f)[i]? = some (f ts[i]) := by rw [List.getElem?_map, List.getElem?_eq_getElem hi]; rfl
    refine ⟨f ts[i], by rw [hS.2 L pr i, e1], env.set j (some (f ts[i])), rfl, ?_⟩
    refine (ht _ (List.getElem_mem hi) L pr).mono fun b L' h => ?_
    obtain ⟨rfl, p2⟩ := h
    cases hb : p ts[i] with
    | false =>
      simp only [Bool.false_eq_true, if_false]
      refine ⟨?_, pr.trans p2⟩
      rw [List.take_succ_eq_append_getElem hi, List.filter_append]
      simp [hb]
    | true =>
      simp only [if_true]
      refine (he _ (List.getElem_mem hi) L' (pr.trans p2)).mono fun y L2 h => ?_
      obtain ⟨rfl, p3⟩ := h
      refine ⟨?_, ?_, (pr.trans p2).trans p3⟩
      · rw [List.length_map]
        have := List.length_filter_le p (ts.take i)
        rw [List.length_take] at this
        omega
      · rw [List.take_succ_eq_append_getElem hi, List.filter_append, List.map_append]
        simp [hb]
  · obtain ⟨rfl, pr⟩ := q
    refine ⟨?_, ?_, pr⟩
    · rw [hS.2 L pr, List.getElem?_eq_none (by rw [List.length_map]; exact Nat.le_refl _)]
    · rw [List.take_length]
theorem notin_lst {L : LH} {n : Nat} {s : Str} {ss : List Str} (h : L[n]? = some (.lst (ss.map .str))) : oNotInD (.str s) (.ref n) L = some (.bl (!ss.contains s), L) := by
  have h1 : dicW (.ref n) L = none := by simp only [dicW, h]
  unfold oNotInD
  rw [h1]
  simp only [oNotIn, inW, seqL_at h]
  rw [if_pos ⟨rfl, by rw [List.all_map, List.all_eq_true]; intro _ _; rfl⟩]
  show some (W.bl (!((ss.map W.str).any fun y => eqF y (.str s))), L) = _
  congr 4
  rw [List.any_map, List.contains_eq_any_beq]
  congr 1
  funext x
  show (x == s) = (s == x)
  rw [Bool.eq_iff_iff, beq_iff_eq, beq_iff_eq]; exact eq_comm
theorem add_lst {L : LH} {n m : Nat} {xs ys : List W} (h : L[n]? = some (.lst xs)) (hm : L[m]? = some (.lst ys)) (hl : xs.length + ys.length ≤ 16777216) : oAdd (.ref n) (.ref m) L = some (.ref L.length, L ++ [.lst (xs ++ ys)]) := by
  simp only [oAdd, h, hm]
  rw [if_pos hl]
/-- all but one stand -/
def But (n : Nat) (L L' : LH) : Prop := L.length ≤ L'.length ∧ ∀ m o, m ≠ n → L[m]? = some o → L'[m]? = some o
theorem But.trans {n : Nat} {L L1 L2 : LH} (a : But n L L1) (b : But n L1 L2) : But n L L2 := ⟨Nat.le_trans a.1 b.1, fun m o h e => b.2 m o h (a.2 m o h e)⟩
theorem But.of_pre {n : Nat} {L L' : LH} (p : L <+: L') : But n L L' := ⟨p.length_le, fun m o _ e => pre_at p e⟩
theorem But.set {n : Nat} {L : LH} {o : LO} : But n L (L.set n o) := ⟨by rw [List.length_set]; exact Nat.le_refl _, fun m q h e => by rw [List.getElem?_set_ne (Ne.symm h)]; exact e⟩
theorem But.refl {n : Nat} {L : LH} : But n L L := ⟨Nat.le_refl _, fun _ _ _ e => e⟩
theorem But.pre {n : Nat} {L L1 L2 : LH} (p : L <+: L1) (h : L.length ≤ n) (b : But n L1 L2) : L <+: L2 := by
  have hlen : L.length ≤ L2.length := Nat.le_trans p.length_le b.1
  rw [List.prefix_iff_eq_take]
  apply List.ext_getElem?
  intro i
  by_cases hi : i < L.length
  · rw [List.getElem?_take_of_lt hi, List.getElem?_eq_getElem hi]
    exact (b.2 i _ (by omega) (pre_at p (List.getElem?_eq_getElem hi))).symm
  · rw [List.getElem?_eq_none (by omega), List.getElem?_eq_none (by rw [List.length_take]; omega)]
theorem ix_dic1 {L : LH} {n : Nat} {kvs : List (Key × W)} {k : Str} {Q : W → LH → Prop} (h : L[n]? = some (.dic kvs)) : EvO (oIx (.ref n) (.str k) L) Q = match valW kvs (.inr k) with | some w => Q w L | none => False := by
  have h1 : dicW (.ref n) L = some kvs := by simp only [dicW, h]
  unfold oIx
  rw [h1]
  simp only [oIxD, h1, keyW]
  cases valW kvs (.inr k) <;> rfl
theorem put_dic {L : LH} {n : Nat} {kvs : List (Key × W)} {k : Str} {v : W} (h : L[n]? = some (.dic kvs)) (hl : kvs.length < 16777216) : oPut (.ref n) (.str k) v L = some (L.set n (.dic (putW kvs (.inr k) v))) := by
  simp only [oPut, h, keyW]
  rw [if_pos hl]
def sKind : Sx := sAs (cOp2 oAdd (cOp2 oIx (cVar 3) (cVar 6)) (cLc [7] (iSeq (cOp2 oIx (cVar 5) (cVar 6))) (CT.one 7) (bVal (cOp2 oNotInD (cVar 7) (cOp2 oIx (cVar 3) (cVar 6)))) (cVar 7))) (gIx (cVar 3) (cVar 6))
theorem kind_step {env : Env} {L : LH} {nd ne nc mc : Nat} {kd : Str} {cs xs : List Str} {kvs kvs2 : List (Key × W)} {N : Env → LH → Prop} {R : W → LH → Prop} (h3 : env[3]? = some (some (.ref nd))) (h5 : env[5]? = some (some (.ref ne))) (h6 : env[6]? = some (some (.str kd))) (hlen : env.length = 8)
    (hd : L[nd]? = some (.dic kvs)) (he : L[ne]? = some (.dic kvs2)) (vc : valW kvs (.inr kd) = some (.ref nc)) (vm : valW kvs2 (.inr kd) = some (.ref mc)) (hc : L[nc]? = some (.lst (cs.map .str))) (hm : L[mc]? = some (.lst (xs.map .str))) (hk : kvs.length ≤ 10) (hl : cs.length + xs.length ≤ 1000000)
    (k : ∀ L' new, But nd L L' → L'[nd]? = some (.dic (putW kvs (.inr kd) (.ref new))) → L'[new]? = some (.lst ((merge cs xs).map .str)) → L.length ≤ new → N env L') : EvS (sKind env L) N R := by
  obtain ⟨S, e1, hS⟩ := srcOf_at hm
  simp only [sKind, wipeE, ev_ok, ev_bind, ev_only, ev_ofO, ev_ofOB, ev_ite, evs_ite, evo_some, evs_toS, evs_seq, ev_C, ev_var, ev_op2, ev_op1, ev_opL, ev_nil, ev_cons, ev_call, ev_bVal, ev_bTru, ev_bNot, ev_bAnd, ev_bOr, ev_bYes, ev_cIf, ev_cNot, ev_cAnd, ev_cOr, ev_chain, ev_part_none, ev_part_some, ev_sl, ev_mth, evs_skip, evs_set, evs_ret, evs_expr, evs_if, evs_par, evs_as, ev_gN, ev_gsNil, ev_gsCons, ev_gTup, ev_gIx, evs_aug, ev_defF, evs_for, ev_rng1, ev_iSeq, ev_lc, o_addI, o_subI, o_addS, o_addT, o_mulI, o_modI, o_divI, o_powI, o_cmpI, o_intI, o_intB, o_absI, o_lst, o_tup, bl_bl, List.map_cons, List.map_nil, List.cons_append, List.nil_append, List.append_nil, List.getElem?_cons_zero, List.getElem?_cons_succ, List.set_cons_zero, List.set_cons_succ, List.length_cons, List.length_nil, List.replicate, Nat.reduceAdd, Nat.reduceSub, Nat.reduceLeDiff, true_and, and_true, if_true, decide_eq_true_eq, Nat.zero_add, h3, h5, h6, ix_dic1 hd, ix_dic1 he, vc, vm, e1]
  refine (lc_filter (p := fun s => !cs.contains s) hS (by omega) (fun s hs L1 p1 => ?_) (fun s hs L1 p1 => ?_)).mono fun acc L1 q => ?_
  · have g7 : ((env.set 7 none).set 7 (some (.str s)))[7]? = some (some (.str s)) := by rw [List.getElem?_set_self]; rw [List.length_set]; omega
    have g3 : ((env.set 7 none).set 7 (some (.str s)))[3]? = some (some (.ref nd)) := by rw [List.getElem?_set_ne (by decide), List.getElem?_set_ne (by decide)]; exact h3
    have g6 : ((env.set 7 none).set 7 (some (.str s)))[6]? = some (some (.str kd)) := by rw [List.getElem?_set_ne (by decide), List.getElem?_set_ne (by decide)]; exact h6
    simp only [wipeE, ev_ok, ev_bind, ev_only, ev_ofO, ev_ofOB, ev_ite, evs_ite, evo_some, evs_toS, evs_seq, ev_C, ev_var, ev_op2, ev_op1, ev_opL, ev_nil, ev_cons, ev_call, ev_bVal, ev_bTru, ev_bNot, ev_bAnd, ev_bOr, ev_bYes, ev_cIf, ev_cNot, ev_cAnd, ev_cOr, ev_chain, ev_part_none, ev_part_some, ev_sl, ev_mth, evs_skip, evs_set, evs_ret, evs_expr, evs_if, evs_par, evs_as, ev_gN, ev_gsNil, ev_gsCons, ev_gTup, ev_gIx, evs_aug, ev_defF, evs_for, ev_rng1, ev_iSeq, ev_lc, o_addI, o_subI, o_addS, o_addT, o_mulI, o_modI, o_divI, o_powI, o_cmpI, o_intI, o_intB, o_absI, o_lst, o_tup, bl_bl, List.map_cons, List.map_nil, List.cons_append, List.nil_append, List.append_nil, List.getElem?_cons_zero, List.getElem?_cons_succ, List.set_cons_zero, List.set_cons_succ, List.length_cons, List.length_nil, List.replicate, Nat.reduceAdd, Nat.reduceSub, Nat.reduceLeDiff, true_and, and_true, if_true, decide_eq_true_eq, Nat.zero_add, g7, g3, g6, ix_dic1 (pre_at p1 hd), vc, notin_lst (pre_at p1 hc), blW]
    exact List.prefix_refl _
  · have g7 : ((env.set 7 none).set 7 (some (.str s)))[7]? = some (some (.str s)) := by rw [List.getElem?_set_self]; rw [List.length_set]; omega
    simp only [wipeE, ev_ok, ev_bind, ev_only, ev_ofO, ev_ofOB, ev_ite, evs_ite, evo_some, evs_toS, evs_seq, ev_C, ev_var, ev_op2, ev_op1, ev_opL, ev_nil, ev_cons, ev_call, ev_bVal, ev_bTru, ev_bNot, ev_bAnd, ev_bOr, ev_bYes, ev_cIf, ev_cNot, ev_cAnd, ev_cOr, ev_chain, ev_part_none, ev_part_some, ev_sl, ev_mth, evs_skip, evs_set, evs_ret, evs_expr, evs_if, evs_par, evs_as, ev_gN, ev_gsNil, ev_gsCons, ev_gTup, ev_gIx, evs_aug, ev_defF, evs_for, ev_rng1, ev_iSeq, ev_lc, o_addI, o_subI, o_addS, o_addT, o_mulI, o_modI, o_divI, o_powI, o_cmpI, o_intI, o_intB, o_absI, o_lst, o_tup, bl_bl, List.map_cons, List.map_nil, List.cons_append, List.nil_append, List.append_nil, List.getElem?_cons_zero, List.getElem?_cons_succ, List.set_cons_zero, List.set_cons_succ, List.length_cons, List.length_nil, List.replicate, Nat.reduceAdd, Nat.reduceSub, Nat.reduceLeDiff, true_and, and_true, if_true, decide_eq_true_eq, Nat.zero_add, g7]
    exact List.prefix_refl _
  · obtain ⟨rfl, p1⟩ := q
    have hf := List.length_filter_le (fun s => !cs.contains s) xs
    rw [add_lst (pre_at pre_last (pre_at p1 hc)) at_last (by simp only [List.length_map]; omega), evo_some]
    have p2 : L <+: (L1 ++ [LO.lst (List.map W.str (xs.filter fun s => !cs.contains s))]) ++ [.lst (cs.map .str ++ (xs.filter fun s => !cs.contains s).map .str)] := p1.trans (pre_last.trans pre_last)
    simp only [wipeE, ev_ok, ev_bind, ev_only, ev_ofO, ev_ofOB, ev_ite, evs_ite, evo_some, evs_toS, evs_seq, ev_C, ev_var, ev_op2, ev_op1, ev_opL, ev_nil, ev_cons, ev_call, ev_bVal, ev_bTru, ev_bNot, ev_bAnd, ev_bOr, ev_bYes, ev_cIf, ev_cNot, ev_cAnd, ev_cOr, ev_chain, ev_part_none, ev_part_some, ev_sl, ev_mth, evs_skip, evs_set, evs_ret, evs_expr, evs_if, evs_par, evs_as, ev_gN, ev_gsNil, ev_gsCons, ev_gTup, ev_gIx, evs_aug, ev_defF, evs_for, ev_rng1, ev_iSeq, ev_lc, o_addI, o_subI, o_addS, o_addT, o_mulI, o_modI, o_divI, o_powI, o_cmpI, o_intI, o_intB, o_absI, o_lst, o_tup, bl_bl, List.map_cons, List.map_nil, List.cons_append, List.nil_append, List.append_nil, List.getElem?_cons_zero, List.getElem?_cons_succ, List.set_cons_zero, List.set_cons_succ, List.length_cons, List.length_nil, List.replicate, Nat.reduceAdd, Nat.reduceSub, Nat.reduceLeDiff, true_and, and_true, if_true, decide_eq_true_eq, Nat.zero_add, h3, h6, put_dic (pre_at p2 hd) (show kvs.length < 16777216 by omega)]
    have hnd : nd < L.length := (List.getElem?_eq_some_iff.mp hd).1
    have hL1 : L.length ≤ L1.length := p1.length_le
    refine k _ _ ((But.of_pre p2).trans .set) (set_at (pre_at p2 hd)) ?_ (show L.length ≤ (L1 ++ [LO.lst (List.map W.str (xs.filter fun s => !cs.contains s))]).length by rw [List.length_append]; omega)
    rw [List.getElem?_set_ne (by rw [List.length_append]; omega), at_last, ← List.map_append]
    rfl
theorem ev_pairs_nil {env : Env} {L : LH} {Q : List (W × W) → LH → Prop} : Ev (cPairs [] env L) Q = Q [] L := rfl
theorem ev_pairs_cons {env : Env} {L : LH} {f h : Ex} {r : List (Ex × Ex)} {Q : List (W × W) → LH → Prop} : Ev (cPairs ((f, h) :: r) env L) Q = Ev (f env L) fun a L1 => Ev (h env L1) fun b L2 => Ev (cPairs r env L2) fun ps L3 => Q ((a, b) :: ps) L3 := by
  show Ev ((f env L).bind fun a L1 => (h env L1).bind fun b L2 => (cPairs r env L2).bind fun ps L3 => .ok ((a, b) :: ps) L3) Q = _
  simp only [ev_bind, ev_ok]
theorem ev_dict {env : Env} {L : LH} {fs : List (Ex × Ex)} {Q : W → LH → Prop} : Ev (cDict fs env L) Q = Ev (cPairs fs env L) fun ps L1 => match keysW ps with | some kvs => kvs.length ≤ 15 ∧ Q (.ref L1.length) (L1 ++ [.dic (mergeW [] kvs)]) | none => False := by
  unfold cDict
  simp only [ev_bind]
  congr
  funext ps L1
  cases keysW ps with
  | none => rfl
  | some kvs =>
    simp only
    by_cases h : kvs.length ≤ 15
    · simp [h, ev_ok]
    · simp [h, Ev]
/-- found, as it stands -/
def fnd (sz : Int) (nc nl : Nat) (tk : Bool) : List (Key × W) := [(.inr "size", .int sz), (.inr "cell", .ref nc), (.inr "call", .ref nl), (.inr "tick", .bl tk)]
structure CSt (L : LH) (nd nc nl : Nat) (sz : Int) (cs ls : List Str) (tk : Bool) : Prop where
  d : L[nd]? = some (.dic (fnd sz nc nl tk))
  c : L[nc]? = some (.lst (cs.map .str))
  l : L[nl]? = some (.lst (ls.map .str))
theorem v_size {sz : Int} {nc nl : Nat} {tk : Bool} : valW (fnd sz nc nl tk) (.inr "size") = some (.int sz) := by simp [fnd, val_cons]
theorem v_cell {sz : Int} {nc nl : Nat} {tk : Bool} : valW (fnd sz nc nl tk) (.inr "cell") = some (.ref nc) := by simp [fnd, val_cons]
theorem v_call {sz : Int} {nc nl : Nat} {tk : Bool} : valW (fnd sz nc nl tk) (.inr "call") = some (.ref nl) := by simp [fnd, val_cons]
theorem v_tick {sz : Int} {nc nl : Nat} {tk : Bool} : valW (fnd sz nc nl tk) (.inr "tick") = some (.bl tk) := by simp [fnd, val_cons]
theorem p_size {sz z : Int} {nc nl : Nat} {tk : Bool} : putW (fnd sz nc nl tk) (.inr "size") (.int z) = fnd z nc nl tk := by simp [fnd, putW]
theorem p_cell {sz : Int} {nc nl z : Nat} {tk : Bool} : putW (fnd sz nc nl tk) (.inr "cell") (.ref z) = fnd sz z nl tk := by simp [fnd, putW]
theorem p_call {sz : Int} {nc nl z : Nat} {tk : Bool} : putW (fnd sz nc nl tk) (.inr "call") (.ref z) = fnd sz nc z tk := by simp [fnd, putW]
theorem p_tick {sz : Int} {nc nl : Nat} {tk z : Bool} : putW (fnd sz nc nl tk) (.inr "tick") (.bl z) = fnd sz nc nl z := by simp [fnd, putW]
theorem p_depth {sz z : Int} {nc nl : Nat} {tk : Bool} : putW (fnd sz nc nl tk) (.inr "depth") (.int z) = fnd sz nc nl tk ++ [(.inr "depth", .int z)] := by simp [fnd, putW]
theorem m_fnd {nc nl : Nat} : mergeW [] [((.inr "size" : Key), W.int 1), (.inr "cell", .ref nc), (.inr "call", .ref nl), (.inr "tick", .bl false)] = fnd 1 nc nl false := by simp [fnd, mergeW, putW]
theorem v_depth {sz z : Int} {nc nl : Nat} {tk : Bool} : valW (fnd sz nc nl tk ++ [(.inr "depth", .int z)]) (.inr "depth") = some (.int z) := by simp [fnd, val_cons]
theorem v_cellD {sz z : Int} {nc nl : Nat} {tk : Bool} : valW (fnd sz nc nl tk ++ [(.inr "depth", .int z)]) (.inr "cell") = some (.ref nc) := by simp [fnd, val_cons]
theorem v_callD {sz z : Int} {nc nl : Nat} {tk : Bool} : valW (fnd sz nc nl tk ++ [(.inr "depth", .int z)]) (.inr "call") = some (.ref nl) := by simp [fnd, val_cons]
theorem v_sizeD {sz z : Int} {nc nl : Nat} {tk : Bool} : valW (fnd sz nc nl tk ++ [(.inr "depth", .int z)]) (.inr "size") = some (.int sz) := by simp [fnd, val_cons]
theorem v_tickD {sz z : Int} {nc nl : Nat} {tk : Bool} : valW (fnd sz nc nl tk ++ [(.inr "depth", .int z)]) (.inr "tick") = some (.bl tk) := by simp [fnd, val_cons]
/-- [term[1]] put by its kind -/
def sHead : Sx := sIf (bAnd (bTru (cOpL oIsi (cCons (cVar 0) (cCons (cC (.ty "tuple")) cNil)))) (bVal (cOp2 oInD (cOp2 oIx (cVar 0) (cC (.int 0))) (cOpL oLst (cCons (cC (.str "cell")) (cCons (cC (.str "call")) cNil)))))) (sAs (cOpL oLst (cCons (cOp2 oIx (cVar 0) (cC (.int 1))) cNil)) (gIx (cVar 3) (cOp2 oIx (cVar 0) (cC (.int 0))))) sSkip
theorem CSt.but {L L' : LH} {nd nc nl : Nat} {sz : Int} {cs ls : List Str} {tk : Bool} (h : CSt L nd nc nl sz cs ls tk) (p : L <+: L') : CSt L' nd nc nl sz cs ls tk := ⟨pre_at p h.d, pre_at p h.c, pre_at p h.l⟩
theorem head_step {env : Env} {L : LH} {nd nc nl : Nat} {t : Tm} {N : Env → LH → Prop} {R : W → LH → Prop} (ht : t.ok many) (h0 : env[0]? = some (some t.enc)) (h3 : env[3]? = some (some (.ref nd))) (hs : CSt L nd nc nl 1 [] [] false) (hne : nc ≠ nd ∧ nl ≠ nd)
    (k : ∀ L' nc' nl', But nd L L' → CSt L' nd nc' nl' 1 (t.own "cell") (t.own "call") false → nc' ≠ nd → nl' ≠ nd → N env L') : EvS (sHead env L) N R := by
  have e : kitB "tuple" "tuple" = some true := rfl
  have e2 : kitB "int" "tuple" = some false := rfl
  have hnd : nd < L.length := (List.getElem?_eq_some_iff.mp hs.d).1
  have off : ∀ {s : Str} {r : List W}, t.enc = .tup (.str s :: r) → ([W.str "cell", W.str "call"].any fun y => eqF y (.str s)) = false → t.own "cell" = [] → t.own "call" = [] → EvS (sHead env L) N R := fun {s r} he hq h1 h2 => by
    have ty : tyName (.tup (.str s :: r)) L = some "tuple" := rfl
    simp only [sHead, wipeE, ev_ok, ev_bind, ev_only, ev_ofO, ev_ofOB, ev_ite, evs_ite, evo_some, evs_toS, evs_seq, ev_C, ev_var, ev_op2, ev_op1, ev_opL, ev_nil, ev_cons, ev_call, ev_bVal, ev_bTru, ev_bNot, ev_bAnd, ev_bOr, ev_bYes, ev_cIf, ev_cNot, ev_cAnd, ev_cOr, ev_chain, ev_part_none, ev_part_some, ev_sl, ev_mth, evs_skip, evs_set, evs_ret, evs_expr, evs_if, evs_par, evs_as, ev_gN, ev_gsNil, ev_gsCons, ev_gTup, ev_gIx, evs_aug, ev_defF, evs_for, ev_rng1, ev_iSeq, ev_lc, o_addI, o_subI, o_addS, o_addT, o_mulI, o_modI, o_divI, o_powI, o_cmpI, o_intI, o_intB, o_absI, o_lst, o_tup, bl_bl, List.map_cons, List.map_nil, List.cons_append, List.nil_append, List.append_nil, List.getElem?_cons_zero, List.getElem?_cons_succ, List.set_cons_zero, List.set_cons_succ, List.length_cons, List.length_nil, List.replicate, Nat.reduceAdd, Nat.reduceSub, Nat.reduceLeDiff, true_and, and_true, if_true, decide_eq_true_eq, Nat.zero_add, h0, he, isi_of ty, e, truW, ix_tup0]
    rw [in_lst (neg := false) at_last rfl rfl, evo_some]
    simp only [blW, hq, Bool.false_eq_true, if_false]
    refine k _ nc nl (.of_pre pre_last) ?_ hne.1 hne.2
    rw [h1, h2]; exact hs.but pre_last
  have on : ∀ {s x : Str} {r : List W}, t.enc = .tup (.str s :: .str x :: r) → s = "cell" ∨ s = "call" → (s = "cell" → t.own "cell" = [x] ∧ t.own "call" = []) → (s = "call" → t.own "cell" = [] ∧ t.own "call" = [x]) → EvS (sHead env L) N R := fun {s x r} he hq h1 h2 => by
    have ty : tyName (.tup (.str s :: .str x :: r)) L = some "tuple" := rfl
    have hany : ([W.str "cell", W.str "call"].any fun y => eqF y (.str s)) = true := by
      rcases hq with rfl | rfl <;> simp [eqF]
    simp only [sHead, wipeE, ev_ok, ev_bind, ev_only, ev_ofO, ev_ofOB, ev_ite, evs_ite, evo_some, evs_toS, evs_seq, ev_C, ev_var, ev_op2, ev_op1, ev_opL, ev_nil, ev_cons, ev_call, ev_bVal, ev_bTru, ev_bNot, ev_bAnd, ev_bOr, ev_bYes, ev_cIf, ev_cNot, ev_cAnd, ev_cOr, ev_chain, ev_part_none, ev_part_some, ev_sl, ev_mth, evs_skip, evs_set, evs_ret, evs_expr, evs_if, evs_par, evs_as, ev_gN, ev_gsNil, ev_gsCons, ev_gTup, ev_gIx, evs_aug, ev_defF, evs_for, ev_rng1, ev_iSeq, ev_lc, o_addI, o_subI, o_addS, o_addT, o_mulI, o_modI, o_divI, o_powI, o_cmpI, o_intI, o_intB, o_absI, o_lst, o_tup, bl_bl, List.map_cons, List.map_nil, List.cons_append, List.nil_append, List.append_nil, List.getElem?_cons_zero, List.getElem?_cons_succ, List.set_cons_zero, List.set_cons_succ, List.length_cons, List.length_nil, List.replicate, Nat.reduceAdd, Nat.reduceSub, Nat.reduceLeDiff, true_and, and_true, if_true, decide_eq_true_eq, Nat.zero_add, h0, he, isi_of ty, e, truW, ix_tup0]
    rw [in_lst (neg := false) at_last rfl rfl, evo_some]
    have p2 : L <+: L ++ [LO.lst [W.str "cell", W.str "call"]] ++ [.lst [.str x]] := pre_last.trans pre_last
    simp only [blW, hany, if_true, wipeE, ev_ok, ev_bind, ev_only, ev_ofO, ev_ofOB, ev_ite, evs_ite, evo_some, evs_toS, evs_seq, ev_C, ev_var, ev_op2, ev_op1, ev_opL, ev_nil, ev_cons, ev_call, ev_bVal, ev_bTru, ev_bNot, ev_bAnd, ev_bOr, ev_bYes, ev_cIf, ev_cNot, ev_cAnd, ev_cOr, ev_chain, ev_part_none, ev_part_some, ev_sl, ev_mth, evs_skip, evs_set, evs_ret, evs_expr, evs_if, evs_par, evs_as, ev_gN, ev_gsNil, ev_gsCons, ev_gTup, ev_gIx, evs_aug, ev_defF, evs_for, ev_rng1, ev_iSeq, ev_lc, o_addI, o_subI, o_addS, o_addT, o_mulI, o_modI, o_divI, o_powI, o_cmpI, o_intI, o_intB, o_absI, o_lst, o_tup, bl_bl, List.map_cons, List.map_nil, List.cons_append, List.nil_append, List.append_nil, List.getElem?_cons_zero, List.getElem?_cons_succ, List.set_cons_zero, List.set_cons_succ, List.length_cons, List.length_nil, List.replicate, Nat.reduceAdd, Nat.reduceSub, Nat.reduceLeDiff, true_and, and_true, if_true, decide_eq_true_eq, Nat.zero_add, h0, h3, he, ix_tup0, ix_tup1, put_dic (pre_at p2 hs.d) (show (fnd 1 nc nl false).length < 16777216 from Nat.lt_of_sub_pos (by decide : 0 < 16777216 - 4))]
    have hnew : (L ++ [LO.lst [W.str "cell", W.str "call"]]).length ≠ nd := by rw [List.length_append]; omega
    have c1 : ∀ o : LO, ((L ++ [LO.lst [W.str "cell", W.str "call"]] ++ [LO.lst [.str x]]).set nd o)[(L ++ [LO.lst [W.str "cell", W.str "call"]]).length]? = some (.lst [.str x]) := fun o => by
      rw [List.getElem?_set_ne hnew.symm]; exact at_last
    have b1 : ∀ o : LO, But nd L ((L ++ [LO.lst [W.str "cell", W.str "call"]] ++ [LO.lst [.str x]]).set nd o) := fun o => (But.of_pre p2).trans .set
    rcases hq with rfl | rfl
    · obtain ⟨q1, q2⟩ := h1 rfl
      refine k _ (L ++ [LO.lst [W.str "cell", W.str "call"]]).length nl (b1 _) ⟨?_, ?_, ?_⟩ hnew hne.2
      · rw [set_at (pre_at p2 hs.d), p_cell]
      · rw [c1, q1]; rfl
      · rw [q2]; exact (b1 _).2 _ _ hne.2 hs.l
    · obtain ⟨q1, q2⟩ := h2 rfl
      refine k _ nc (L ++ [LO.lst [W.str "cell", W.str "call"]]).length (b1 _) ⟨?_, ?_, ?_⟩ hne.1 hnew
      · rw [set_at (pre_at p2 hs.d), p_call]
      · rw [q1]; exact (b1 _).2 _ _ hne.1 hs.c
      · rw [c1, q2]; rfl
  cases t with
  | val i =>
    have ty : tyName (.int i) L = some "int" := rfl
    simp only [sHead, wipeE, ev_ok, ev_bind, ev_only, ev_ofO, ev_ofOB, ev_ite, evs_ite, evo_some, evs_toS, evs_seq, ev_C, ev_var, ev_op2, ev_op1, ev_opL, ev_nil, ev_cons, ev_call, ev_bVal, ev_bTru, ev_bNot, ev_bAnd, ev_bOr, ev_bYes, ev_cIf, ev_cNot, ev_cAnd, ev_cOr, ev_chain, ev_part_none, ev_part_some, ev_sl, ev_mth, evs_skip, evs_set, evs_ret, evs_expr, evs_if, evs_par, evs_as, ev_gN, ev_gsNil, ev_gsCons, ev_gTup, ev_gIx, evs_aug, ev_defF, evs_for, ev_rng1, ev_iSeq, ev_lc, o_addI, o_subI, o_addS, o_addT, o_mulI, o_modI, o_divI, o_powI, o_cmpI, o_intI, o_intB, o_absI, o_lst, o_tup, bl_bl, List.map_cons, List.map_nil, List.cons_append, List.nil_append, List.append_nil, List.getElem?_cons_zero, List.getElem?_cons_succ, List.set_cons_zero, List.set_cons_succ, List.length_cons, List.length_nil, List.replicate, Nat.reduceAdd, Nat.reduceSub, Nat.reduceLeDiff, true_and, and_true, if_true, decide_eq_true_eq, Nat.zero_add, h0, Tm.enc, isi_of ty, e2, truW, Bool.false_eq_true, if_false]
    exact k _ nc nl .refl hs hne.1 hne.2
  | arg i => exact off rfl (by simp [eqF]) rfl rfl
  | tick => exact off rfl (by simp [eqF]) rfl rfl
  | ite a b c => exact off rfl (by simp [eqF]) rfl rfl
  | bin h a b => exact off rfl (by rcases ht.1 with rfl | rfl | rfl <;> simp [eqF]) rfl rfl
  | cell s => exact on rfl (.inl rfl) (fun _ => by simp [Tm.own, Tm.nm]) (fun q => by simp at q)
  | call0 s => exact on rfl (.inr rfl) (fun q => by simp at q) (fun _ => by simp [Tm.own, Tm.nm])
  | call2 s a b => exact on rfl (.inr rfl) (fun q => by simp at q) (fun _ => by simp [Tm.own, Tm.nm])
end Z

/-! YB: _law_counts, whole. -/
namespace Z
open PySem PySem.Spec PyProof.Rows L2
variable {many : Int}
theorem CSt.ne {L : LH} {nd nc nl : Nat} {sz : Int} {cs ls : List Str} {tk : Bool} (h : CSt L nd nc nl sz cs ls tk) : nc ≠ nd ∧ nl ≠ nd := by
  refine ⟨?_, ?_⟩
  · rintro rfl; have := h.d.symm.trans h.c; cases this
  · rintro rfl; have := h.d.symm.trans h.l; cases this
theorem merge_len (a l : List Str) : (merge a l).length ≤ a.length + l.length := by
  unfold merge
  rw [List.length_append]
  have := List.length_filter_le (fun s => !a.contains s) l
  omega
theorem fold_len : ∀ (ls : List (List Str)) (a : List Str), (ls.foldl merge a).length ≤ a.length + (ls.map List.length).sum
  | [], a => by simp
  | l :: r, a => by
    have h1 := fold_len r (merge a l)
    have h2 := merge_len a l
    simp only [List.foldl_cons, List.map_cons, List.sum_cons]; omega
theorem cnt_len (kd : Str) (t : Tm) : (t.cnt kd).length ≤ t.size := by
  induction t with
  | call2 s a b iha ihb =>
    have h1 := merge_len (merge (if kd = "call" then [s] else []) (a.cnt kd)) (b.cnt kd)
    have h2 := merge_len (if kd = "call" then [s] else []) (a.cnt kd)
    have h3 : (if kd = "call" then [s] else [] : List Str).length ≤ 1 := by split <;> simp
    simp only [Tm.cnt, Tm.size]; omega
  | bin s a b iha ihb =>
    have h1 := merge_len (merge [] (a.cnt kd)) (b.cnt kd)
    have h2 := merge_len [] (a.cnt kd)
    simp only [Tm.cnt, Tm.size]; simp at h2; omega
  | ite a b c iha ihb ihc =>
    have h0 := merge_len (merge (merge [] (a.cnt kd)) (b.cnt kd)) (c.cnt kd)
    have h1 := merge_len (merge [] (a.cnt kd)) (b.cnt kd)
    have h2 := merge_len [] (a.cnt kd)
    simp only [Tm.cnt, Tm.size]; simp at h2; omega
  | cell s => simp only [Tm.cnt, Tm.size]; split <;> simp
  | call0 s => simp only [Tm.cnt, Tm.size]; split <;> simp
  | _ => simp [Tm.cnt, Tm.size]
def pcnt (kd : Str) (t : Tm) (i : Nat) : List Str := ((t.kids.take i).map (Tm.cnt kd)).foldl merge (t.own kd)
theorem pcnt_len (kd : Str) (t : Tm) (i : Nat) : (pcnt kd t i).length ≤ t.size := by
  have h1 := fold_len ((t.kids.take i).map (Tm.cnt kd)) (t.own kd)
  have h2 : (t.own kd).length ≤ 1 := by unfold Tm.own; split <;> simp
  have h3 : (((t.kids.take i).map (Tm.cnt kd)).map List.length).sum ≤ ((t.kids.take i).map Tm.size).sum := by
    generalize t.kids.take i = l
    induction l with
    | nil => simp
    | cons a r ih =>
      have := cnt_len kd a
      simp only [List.map_cons, List.sum_cons]; omega
  have h4 : ((t.kids.take i).map Tm.size).sum ≤ (t.kids.map Tm.size).sum := by
    conv => rhs; rw [← List.take_append_drop i t.kids, List.map_append, List.sum_append]
    omega
  have h5 := Tm.size_eq t
  unfold pcnt
  omega
theorem pcnt_succ {kd : Str} {t : Tm} {i : Nat} (h : i < t.kids.length) : pcnt kd t (i + 1) = merge (pcnt kd t i) (t.kids[i].cnt kd) := by
  unfold pcnt
  rw [List.take_succ_eq_append_getElem h, List.map_append, List.foldl_append]; rfl
theorem pcnt_all (kd : Str) (t : Tm) : pcnt kd t t.kids.length = t.cnt kd := by
  unfold pcnt
  rw [List.take_length, Tm.cnt_eq]
def mxd (ks : List Tm) : Nat := (ks.map Tm.dep).foldl max 0
theorem mxd_dep (t : Tm) : t.dep = 1 + mxd t.kids := by cases t <;> simp [mxd, Tm.kids, Tm.dep, Nat.max_assoc]
theorem mxd_succ {ks : List Tm} {i : Nat} (h : i < ks.length) : mxd (ks.take (i + 1)) = max (mxd (ks.take i)) ks[i].dep := by
  unfold mxd
  rw [List.take_succ_eq_append_getElem h, List.map_append, List.foldl_append]; rfl
theorem tickB_eq (t : Tm) : t.tickB = (t.isTick || t.kids.any Tm.tickB) := by
  unfold Tm.tickB
  rw [Tm.pre_eq, List.any_cons, List.any_flatMap]
structure Told (L : LH) (t : Tm) (ne mc ml : Nat) : Prop where
  d : L[ne]? = some (.dic (fnd t.size mc ml t.tickB ++ [(.inr "depth", .int t.dep)]))
  c : L[mc]? = some (.lst ((t.cnt "cell").map .str))
  l : L[ml]? = some (.lst ((t.cnt "call").map .str))
def CtS (many : Int) (self : Fn) (d : Nat) : Prop := ∀ (t : Tm) (L : LH), t.ok many → t.dep ≤ d → t.dep ≤ 9 → t.size ≤ 1000 → Ev (self [t.enc] L) fun w L' => L <+: L' ∧ ∃ ne mc ml, w = .ref ne ∧ L.length ≤ ne ∧ Told L' t ne mc ml
def sPut2 : Sx := sAs (cOpL oTup (cCons (cOp2 oAdd (cOp2 oIx (cVar 3) (cC (.str "size"))) (cOp2 oIx (cVar 5) (cC (.str "size")))) (cCons (cOr (cOp2 oIx (cVar 3) (cC (.str "tick"))) (cOp2 oIx (cVar 5) (cC (.str "tick")))) cNil))) (gTupW 2 (gsCons (gIx (cVar 3) (cC (.str "size"))) (gsCons (gIx (cVar 3) (cC (.str "tick"))) gsNil)))
def sKinds : Sx := sFor (iSeq (cOpL oLst (cCons (cC (.str "cell")) (cCons (cC (.str "call")) cNil)))) (gN 6) sKind
def c_counts (self : Fn) : Fn := f_law_counts f_law_inner self
theorem c_counts_eq (self : Fn) : c_counts self = defF 8 1 (sSeq (sAs (cOpL oTup (cCons (cDict [(cC (.str "size"), cC (.int 1)), (cC (.str "cell"), cOpL oLst cNil), (cC (.str "call"), cOpL oLst cNil), (cC (.str "tick"), cC (.bl false))]) (cCons (cCall f_law_inner [] (cCons (cVar 0) cNil)) cNil))) (gTupW 2 (gsCons (gN 3) (gsCons (gN 4) gsNil)))) (sSeq (sSet 1 (cC (.int 0))) (sSeq sHead (sSeq (sAs (cOp2 oEq (cVar 0) (cOpL oTup (cCons (cC (.str "tick")) cNil))) (gIx (cVar 3) (cC (.str "tick")))) (sSeq (sFor (iSeq (cVar 4)) (gN 2) (sSeq (sSet 5 (cCall self [] (cCons (cVar 2) cNil))) (sSeq sPut2 (sSeq (sSet 1 (cOpL oMax (cCons (cOpL oInt (cCons (cVar 1) cNil)) (cCons (cOpL oInt (cCons (cOp2 oIx (cVar 5) (cC (.str "depth"))) cNil)) cNil)))) sKinds)))) (sSeq (sAs (cOp2 oAdd (cC (.int 1)) (cVar 1)) (gIx (cVar 3) (cC (.str "depth")))) (sRet (cVar 3)))))))) := rfl
theorem fnd_len {sz : Int} {nc nl : Nat} {tk : Bool} : (fnd sz nc nl tk).length = 4 := rfl
theorem put2_step {env : Env} {L : LH} {nd nc nl ne mc ml : Nat} {sz : Int} {cs ls : List Str} {tk : Bool} {u : Tm} {N : Env → LH → Prop} {R : W → LH → Prop} (h3 : env[3]? = some (some (.ref nd))) (h5 : env[5]? = some (some (.ref ne))) (hs : CSt L nd nc nl sz cs ls tk) (ht : Told L u ne mc ml)
    (k : ∀ L', But nd L L' → CSt L' nd nc nl (sz + u.size) cs ls (tk || u.tickB) → N env L') : EvS (sPut2 env L) N R := by
  have fin : EvS (sPut2 env L) N R = N env ((L.set nd (.dic (fnd (sz + u.size) nc nl tk))).set nd (.dic (fnd (sz + u.size) nc nl (tk || u.tickB)))) := by
    have e1 : oPut (.ref nd) (.str "size") (.int (sz + u.size)) L = some (L.set nd (.dic (fnd (sz + u.size) nc nl tk))) := by
      rw [put_dic hs.d (by rw [fnd_len]; decide), p_size]
    have e2 : oPut (.ref nd) (.str "tick") (.bl (tk || u.tickB)) (L.set nd (.dic (fnd (sz + u.size) nc nl tk))) = some ((L.set nd (.dic (fnd (sz + u.size) nc nl tk))).set nd (.dic (fnd (sz + u.size) nc nl (tk || u.tickB)))) := by
      rw [put_dic (set_at hs.d) (by rw [fnd_len]; decide), p_tick]
    simp only [sPut2, wipeE, ev_ok, ev_bind, ev_only, ev_ofO, ev_ofOB, ev_ite, evs_ite, evo_some, evs_toS, evs_seq, ev_C, ev_var, ev_op2, ev_op1, ev_opL, ev_nil, ev_cons, ev_call, ev_bVal, ev_bTru, ev_bNot, ev_bAnd, ev_bOr, ev_bYes, ev_cIf, ev_cNot, ev_cAnd, ev_cOr, ev_chain, ev_part_none, ev_part_some, ev_sl, ev_mth, evs_skip, evs_set, evs_ret, evs_expr, evs_if, evs_par, evs_as, ev_gN, ev_gsNil, ev_gsCons, ev_gTup, ev_gIx, evs_aug, ev_defF, evs_for, ev_rng1, ev_iSeq, ev_lc, o_addI, o_subI, o_addS, o_addT, o_mulI, o_modI, o_divI, o_powI, o_cmpI, o_intI, o_intB, o_absI, o_lst, o_tup, bl_bl, List.map_cons, List.map_nil, List.cons_append, List.nil_append, List.append_nil, List.getElem?_cons_zero, List.getElem?_cons_succ, List.set_cons_zero, List.set_cons_succ, List.length_cons, List.length_nil, List.replicate, Nat.reduceAdd, Nat.reduceSub, Nat.reduceLeDiff, true_and, and_true, if_true, decide_eq_true_eq, Nat.zero_add, h3, h5, ix_dic1 hs.d, ix_dic1 ht.d, v_size, v_sizeD, v_tick, v_tickD, truW, e1]
    cases tk with
    | true =>
      rw [Bool.true_or] at e2
      simp only [if_true, wipeE, ev_ok, ev_bind, ev_only, ev_ofO, ev_ofOB, ev_ite, evs_ite, evo_some, evs_toS, evs_seq, ev_C, ev_var, ev_op2, ev_op1, ev_opL, ev_nil, ev_cons, ev_call, ev_bVal, ev_bTru, ev_bNot, ev_bAnd, ev_bOr, ev_bYes, ev_cIf, ev_cNot, ev_cAnd, ev_cOr, ev_chain, ev_part_none, ev_part_some, ev_sl, ev_mth, evs_skip, evs_set, evs_ret, evs_expr, evs_if, evs_par, evs_as, ev_gN, ev_gsNil, ev_gsCons, ev_gTup, ev_gIx, evs_aug, ev_defF, evs_for, ev_rng1, ev_iSeq, ev_lc, o_addI, o_subI, o_addS, o_addT, o_mulI, o_modI, o_divI, o_powI, o_cmpI, o_intI, o_intB, o_absI, o_lst, o_tup, bl_bl, List.map_cons, List.map_nil, List.cons_append, List.nil_append, List.append_nil, List.getElem?_cons_zero, List.getElem?_cons_succ, List.set_cons_zero, List.set_cons_succ, List.length_cons, List.length_nil, List.replicate, Nat.reduceAdd, Nat.reduceSub, Nat.reduceLeDiff, true_and, and_true, if_true, decide_eq_true_eq, Nat.zero_add, h3, e1, e2, Bool.true_or, v_tick, Nat.reduceLeDiff]
    | false =>
      rw [Bool.false_or] at e2
      simp only [Bool.false_eq_true, if_false, wipeE, ev_ok, ev_bind, ev_only, ev_ofO, ev_ofOB, ev_ite, evs_ite, evo_some, evs_toS, evs_seq, ev_C, ev_var, ev_op2, ev_op1, ev_opL, ev_nil, ev_cons, ev_call, ev_bVal, ev_bTru, ev_bNot, ev_bAnd, ev_bOr, ev_bYes, ev_cIf, ev_cNot, ev_cAnd, ev_cOr, ev_chain, ev_part_none, ev_part_some, ev_sl, ev_mth, evs_skip, evs_set, evs_ret, evs_expr, evs_if, evs_par, evs_as, ev_gN, ev_gsNil, ev_gsCons, ev_gTup, ev_gIx, evs_aug, ev_defF, evs_for, ev_rng1, ev_iSeq, ev_lc, o_addI, o_subI, o_addS, o_addT, o_mulI, o_modI, o_divI, o_powI, o_cmpI, o_intI, o_intB, o_absI, o_lst, o_tup, bl_bl, List.map_cons, List.map_nil, List.cons_append, List.nil_append, List.append_nil, List.getElem?_cons_zero, List.getElem?_cons_succ, List.set_cons_zero, List.set_cons_succ, List.length_cons, List.length_nil, List.replicate, Nat.reduceAdd, Nat.reduceSub, Nat.reduceLeDiff, true_and, and_true, if_true, decide_eq_true_eq, Nat.zero_add, h3, e1, e2, Bool.false_or]
  rw [fin]
  have b : But nd L ((L.set nd (.dic (fnd (sz + u.size) nc nl tk))).set nd (.dic (fnd (sz + u.size) nc nl (tk || u.tickB)))) := But.set.trans .set
  exact k _ b ⟨set_at (set_at hs.d), b.2 _ _ hs.ne.1 hs.c, b.2 _ _ hs.ne.2 hs.l⟩
theorem kinds_step {a0 a1 a2 a4 a6 a7 : Option W} {L : LH} {nd nc nl ne mc ml : Nat} {sz : Int} {cs ls : List Str} {tk : Bool} {u : Tm} {N : Env → LH → Prop} {R : W → LH → Prop} (hs : CSt L nd nc nl sz cs ls tk) (ht : Told L u ne mc ml) (hne : ne ≠ nd) (hu : u.size ≤ 1000) (hcs : cs.length ≤ 1000) (hls : ls.length ≤ 1000)
    (k : ∀ L' nc' nl' b6 b7, But nd L L' → CSt L' nd nc' nl' sz (merge cs (u.cnt "cell")) (merge ls (u.cnt "call")) tk → N [a0, a1, a2, some (.ref nd), a4, some (.ref ne), b6, b7] L') : EvS (sKinds [a0, a1, a2, some (.ref nd), a4, some (.ref ne), a6, a7] L) N R := by
  have hcl := cnt_len "cell" u
  have hll := cnt_len "call" u
  have hmc : mc ≠ nd := by rintro rfl; have := hs.d.symm.trans ht.c; cases this
  have hml : ml ≠ nd := by rintro rfl; have := hs.d.symm.trans ht.l; cases this
  obtain ⟨S, e1, hS⟩ := srcOf_at (L := L ++ [.lst [W.str "cell", W.str "call"]]) (n := L.length) at_last
  have hnd : nd < L.length := (List.getElem?_eq_some_iff.mp hs.d).1
  have hnk : L.length ≠ nd := by omega
  simp only [sKinds, wipeE, ev_ok, ev_bind, ev_only, ev_ofO, ev_ofOB, ev_ite, evs_ite, evo_some, evs_toS, evs_seq, ev_C, ev_var, ev_op2, ev_op1, ev_opL, ev_nil, ev_cons, ev_call, ev_bVal, ev_bTru, ev_bNot, ev_bAnd, ev_bOr, ev_bYes, ev_cIf, ev_cNot, ev_cAnd, ev_cOr, ev_chain, ev_part_none, ev_part_some, ev_sl, ev_mth, evs_skip, evs_set, evs_ret, evs_expr, evs_if, evs_par, evs_as, ev_gN, ev_gsNil, ev_gsCons, ev_gTup, ev_gIx, evs_aug, ev_defF, evs_for, ev_rng1, ev_iSeq, ev_lc, o_addI, o_subI, o_addS, o_addT, o_mulI, o_modI, o_divI, o_powI, o_cmpI, o_intI, o_intB, o_absI, o_lst, o_tup, bl_bl, List.map_cons, List.map_nil, List.cons_append, List.nil_append, List.append_nil, List.getElem?_cons_zero, List.getElem?_cons_succ, List.set_cons_zero, List.set_cons_succ, List.length_cons, List.length_nil, List.replicate, Nat.reduceAdd, Nat.reduceSub, Nat.reduceLeDiff, true_and, and_true, if_true, decide_eq_true_eq, Nat.zero_add, e1]
  have hget : ∀ L' : LH, L'[L.length]? = some (.lst [W.str "cell", W.str "call"]) → ∀ i, S.get L' i = some [W.str "cell", W.str "call"][i]? := fun L' h i => by
    simp only [srcOf, seqL_at at_last] at e1
    cases e1
    simp only [seqL_at h, Option.map]
  refine for_inv (fun j env L1 => ∃ nc' nl' b6 b7, env = [a0, a1, a2, some (.ref nd), a4, some (.ref ne), b6, b7] ∧ But nd L L1 ∧ CSt L1 nd nc' nl' sz (if 1 ≤ j then merge cs (u.cnt "cell") else cs) (if 2 ≤ j then merge ls (u.cnt "call") else ls) tk ∧ L1[L.length]? = some (.lst [W.str "cell", W.str "call"]))
    (n := 2) (fun j env L1 hj hp => ?_) (fun env L1 hp => ?_) S.len 0 _ _ (by rw [hS.1]; rfl) ⟨nc, nl, _, _, rfl, .of_pre pre_last, hs.but pre_last, at_last⟩
  · obtain ⟨nc', nl', b6, b7, rfl, hb, hc, hk⟩ := hp
    have td : L1[ne]? = _ := hb.2 _ _ hne ht.d
    have tc : L1[mc]? = _ := hb.2 _ _ hmc ht.c
    have tl : L1[ml]? = _ := hb.2 _ _ hml ht.l
    match j, hj with
    | 0, _ =>
      refine ⟨.str "cell", by rw [hget L1 hk]; rfl, ?_⟩
      simp only [wipeE, ev_ok, ev_bind, ev_only, ev_ofO, ev_ofOB, ev_ite, evs_ite, evo_some, evs_toS, evs_seq, ev_C, ev_var, ev_op2, ev_op1, ev_opL, ev_nil, ev_cons, ev_call, ev_bVal, ev_bTru, ev_bNot, ev_bAnd, ev_bOr, ev_bYes, ev_cIf, ev_cNot, ev_cAnd, ev_cOr, ev_chain, ev_part_none, ev_part_some, ev_sl, ev_mth, evs_skip, evs_set, evs_ret, evs_expr, evs_if, evs_par, evs_as, ev_gN, ev_gsNil, ev_gsCons, ev_gTup, ev_gIx, evs_aug, ev_defF, evs_for, ev_rng1, ev_iSeq, ev_lc, o_addI, o_subI, o_addS, o_addT, o_mulI, o_modI, o_divI, o_powI, o_cmpI, o_intI, o_intB, o_absI, o_lst, o_tup, bl_bl, List.map_cons, List.map_nil, List.cons_append, List.nil_append, List.append_nil, List.getElem?_cons_zero, List.getElem?_cons_succ, List.set_cons_zero, List.set_cons_succ, List.length_cons, List.length_nil, List.replicate, Nat.reduceAdd, Nat.reduceSub, Nat.reduceLeDiff, true_and, and_true, if_true, decide_eq_true_eq, Nat.zero_add]
      refine kind_step rfl rfl rfl rfl hc.d td v_cell v_cellD hc.c tc (by rw [fnd_len]; decide) (by rw [if_neg (by decide)]; omega) fun L2 new b2 d2 c2 hn => ?_
      rw [p_cell] at d2
      refine ⟨new, nl', _, _, rfl, hb.trans b2, ⟨d2, ?_, ?_⟩, b2.2 _ _ hnk hk⟩
      · rw [if_neg (by decide)] at c2; exact c2
      · exact b2.2 _ _ hc.ne.2 hc.l
    | 1, _ =>
      refine ⟨.str "call", by rw [hget L1 hk]; rfl, ?_⟩
      simp only [wipeE, ev_ok, ev_bind, ev_only, ev_ofO, ev_ofOB, ev_ite, evs_ite, evo_some, evs_toS, evs_seq, ev_C, ev_var, ev_op2, ev_op1, ev_opL, ev_nil, ev_cons, ev_call, ev_bVal, ev_bTru, ev_bNot, ev_bAnd, ev_bOr, ev_bYes, ev_cIf, ev_cNot, ev_cAnd, ev_cOr, ev_chain, ev_part_none, ev_part_some, ev_sl, ev_mth, evs_skip, evs_set, evs_ret, evs_expr, evs_if, evs_par, evs_as, ev_gN, ev_gsNil, ev_gsCons, ev_gTup, ev_gIx, evs_aug, ev_defF, evs_for, ev_rng1, ev_iSeq, ev_lc, o_addI, o_subI, o_addS, o_addT, o_mulI, o_modI, o_divI, o_powI, o_cmpI, o_intI, o_intB, o_absI, o_lst, o_tup, bl_bl, List.map_cons, List.map_nil, List.cons_append, List.nil_append, List.append_nil, List.getElem?_cons_zero, List.getElem?_cons_succ, List.set_cons_zero, List.set_cons_succ, List.length_cons, List.length_nil, List.replicate, Nat.reduceAdd, Nat.reduceSub, Nat.reduceLeDiff, true_and, and_true, if_true, decide_eq_true_eq, Nat.zero_add]
      refine kind_step rfl rfl rfl rfl hc.d td v_call v_callD hc.l tl (by rw [fnd_len]; decide) (by rw [if_neg (by decide)]; omega) fun L2 new b2 d2 c2 hn => ?_
      rw [p_call] at d2
      refine ⟨nc', new, _, _, rfl, hb.trans b2, ⟨d2, ?_, ?_⟩, b2.2 _ _ hnk hk⟩
      · exact b2.2 _ _ hc.ne.1 hc.c
      · rw [if_neg (by decide)] at c2; exact c2
    | j + 2, h => omega
  · obtain ⟨nc', nl', b6, b7, rfl, hb, hc, hk⟩ := hp
    exact ⟨by rw [hget L1 hk]; rfl, k L1 nc' nl' b6 b7 hb hc⟩
theorem cnt_base (self : Fn) : CtS many self 0 := fun t L ht hd => by have := Tm.dep_pos t; omega
theorem cnt_step {self : Fn} {d : Nat} (h : CtS many self d) : CtS many (c_counts self) (d + 1) := fun t L0 ht hd h9 h1 => by
  have hk3 := Tm.kids_len t
  simp only [c_counts_eq, wipeE, ev_ok, ev_bind, ev_only, ev_ofO, ev_ofOB, ev_ite, evs_ite, evo_some, evs_toS, evs_seq, ev_C, ev_var, ev_op2, ev_op1, ev_opL, ev_nil, ev_cons, ev_call, ev_bVal, ev_bTru, ev_bNot, ev_bAnd, ev_bOr, ev_bYes, ev_cIf, ev_cNot, ev_cAnd, ev_cOr, ev_chain, ev_part_none, ev_part_some, ev_sl, ev_mth, evs_skip, evs_set, evs_ret, evs_expr, evs_if, evs_par, evs_as, ev_gN, ev_gsNil, ev_gsCons, ev_gTup, ev_gIx, evs_aug, ev_defF, evs_for, ev_rng1, ev_iSeq, ev_lc, o_addI, o_subI, o_addS, o_addT, o_mulI, o_modI, o_divI, o_powI, o_cmpI, o_intI, o_intB, o_absI, o_lst, o_tup, bl_bl, List.map_cons, List.map_nil, List.cons_append, List.nil_append, List.append_nil, List.getElem?_cons_zero, List.getElem?_cons_succ, List.set_cons_zero, List.set_cons_succ, List.length_cons, List.length_nil, List.replicate, Nat.reduceAdd, Nat.reduceSub, Nat.reduceLeDiff, true_and, and_true, if_true, decide_eq_true_eq, Nat.zero_add, ev_dict, ev_pairs_cons, ev_pairs_nil, keysW, keyW, m_fnd]
  generalize hLa : L0 ++ [LO.lst []] ++ [LO.lst []] = La
  have pa : L0 <+: La := by rw [← hLa]; exact pre_last.trans pre_last
  have a0 : La[L0.length]? = some (.lst []) := by rw [← hLa]; exact pre_at pre_last at_last
  have a1 : La[(L0 ++ [LO.lst []]).length]? = some (.lst []) := by rw [← hLa]; exact at_last
  generalize (L0 ++ [LO.lst []]).length = nl at a1 ⊢
  have hndL : L0.length ≤ La.length := pa.length_le
  have c0 : CSt (La ++ [.dic (fnd 1 L0.length nl false)]) La.length L0.length nl 1 [] [] false := ⟨at_last, pre_at pre_last a0, pre_at pre_last a1⟩
  refine (law_inner_ok ht).mono fun w L1 q => ?_
  obtain ⟨np, rfl, hnp, p1, hnpf⟩ := q
  have c1 := c0.but p1
  have hpr1 : L0 <+: L1 := (pa.trans pre_last).trans p1
  generalize La.length = nd at c1 hndL hnpf ⊢
  have hnpd : np ≠ nd := by
    rintro rfl
    have := c1.d.symm.trans hnp
    cases this
  refine head_step ht rfl rfl c1 c1.ne fun L2 nc' nl' b2 c2 hn1 hn2 => ?_
  have hnp2 := b2.2 _ _ hnpd hnp
  have dtk : Dat (.tup [.str "tick"]) (.tuple [.str "tick"]) := Tm.isDat (many := many) (t := .tick) trivial (by decide)
  simp only [wipeE, ev_ok, ev_bind, ev_only, ev_ofO, ev_ofOB, ev_ite, evs_ite, evo_some, evs_toS, evs_seq, ev_C, ev_var, ev_op2, ev_op1, ev_opL, ev_nil, ev_cons, ev_call, ev_bVal, ev_bTru, ev_bNot, ev_bAnd, ev_bOr, ev_bYes, ev_cIf, ev_cNot, ev_cAnd, ev_cOr, ev_chain, ev_part_none, ev_part_some, ev_sl, ev_mth, evs_skip, evs_set, evs_ret, evs_expr, evs_if, evs_par, evs_as, ev_gN, ev_gsNil, ev_gsCons, ev_gTup, ev_gIx, evs_aug, ev_defF, evs_for, ev_rng1, ev_iSeq, ev_lc, o_addI, o_subI, o_addS, o_addT, o_mulI, o_modI, o_divI, o_powI, o_cmpI, o_intI, o_intB, o_absI, o_lst, o_tup, bl_bl, List.map_cons, List.map_nil, List.cons_append, List.nil_append, List.append_nil, List.getElem?_cons_zero, List.getElem?_cons_succ, List.set_cons_zero, List.set_cons_succ, List.length_cons, List.length_nil, List.replicate, Nat.reduceAdd, Nat.reduceSub, Nat.reduceLeDiff, true_and, and_true, if_true, decide_eq_true_eq, Nat.zero_add, oEq, oB, eqX_dat (Tm.isDat ht h9) dtk, Tm.eqv_tick ht, Option.map, put_dic c2.d (show (fnd 1 nc' nl' false).length < 16777216 by rw [fnd_len]; decide), p_tick]
  have b3 : But nd L1 (L2.set nd (.dic (fnd 1 nc' nl' t.isTick))) := b2.trans .set
  have c3 : CSt (L2.set nd (.dic (fnd 1 nc' nl' t.isTick))) nd nc' nl' 1 (t.own "cell") (t.own "call") t.isTick := ⟨set_at c2.d, But.set.2 _ _ hn1 c2.c, But.set.2 _ _ hn2 c2.l⟩
  have hnp3 := b3.2 _ _ hnpd hnp
  generalize L2.set nd (.dic (fnd 1 nc' nl' t.isTick)) = L3 at b3 c3 hnp3 ⊢
  have pr3 : L0 <+: L3 := b3.pre hpr1 hndL
  obtain ⟨S, e1, hS⟩ := srcOf_at hnp3
  simp only [e1]
  have hget : ∀ L' : LH, L'[np]? = some (.lst (t.kids.map Tm.enc)) → ∀ i, S.get L' i = some (t.kids.map Tm.enc)[i]? := fun L' h i => by
    simp only [srcOf, seqL_at hnp3] at e1
    cases e1
    simp only [seqL_at h, Option.map]
  refine for_inv (fun i env L => ∃ nc nl x2 x5 x6 x7, env = [some t.enc, some (.int (mxd (t.kids.take i))), x2, some (.ref nd), some (.ref np), x5, x6, x7] ∧ L0 <+: L ∧ CSt L nd nc nl (1 + ((t.kids.take i).map Tm.size).sum) (pcnt "cell" t i) (pcnt "call" t i) (t.isTick || (t.kids.take i).any Tm.tickB) ∧ L[np]? = some (.lst (t.kids.map Tm.enc)))
    (n := t.kids.length) (fun i env L hi hp => ?_) (fun env L hp => ?_) S.len 0 _ _ (by rw [hS.1, List.length_map]; omega) ⟨nc', nl', _, _, _, _, rfl, pr3, by simpa [pcnt] using c3, hnp3⟩
  · obtain ⟨nc, nl, x2, x5, x6, x7, rfl, pr, hc, hn⟩ := hp
    have hkm : t.kids[i] ∈ t.kids := List.getElem_mem hi
    have hsz := Tm.size_kid hkm
    refine ⟨t.kids[i].enc, by rw [hget L hn, List.getElem?_map, List.getElem?_eq_getElem hi]; rfl, ?_⟩
    simp only [wipeE, ev_ok, ev_bind, ev_only, ev_ofO, ev_ofOB, ev_ite, evs_ite, evo_some, evs_toS, evs_seq, ev_C, ev_var, ev_op2, ev_op1, ev_opL, ev_nil, ev_cons, ev_call, ev_bVal, ev_bTru, ev_bNot, ev_bAnd, ev_bOr, ev_bYes, ev_cIf, ev_cNot, ev_cAnd, ev_cOr, ev_chain, ev_part_none, ev_part_some, ev_sl, ev_mth, evs_skip, evs_set, evs_ret, evs_expr, evs_if, evs_par, evs_as, ev_gN, ev_gsNil, ev_gsCons, ev_gTup, ev_gIx, evs_aug, ev_defF, evs_for, ev_rng1, ev_iSeq, ev_lc, o_addI, o_subI, o_addS, o_addT, o_mulI, o_modI, o_divI, o_powI, o_cmpI, o_intI, o_intB, o_absI, o_lst, o_tup, bl_bl, List.map_cons, List.map_nil, List.cons_append, List.nil_append, List.append_nil, List.getElem?_cons_zero, List.getElem?_cons_succ, List.set_cons_zero, List.set_cons_succ, List.length_cons, List.length_nil, List.replicate, Nat.reduceAdd, Nat.reduceSub, Nat.reduceLeDiff, true_and, and_true, if_true, decide_eq_true_eq, Nat.zero_add]
    refine (h t.kids[i] L (Tm.kids_ok ht hkm) (by have := Tm.dep_kid hkm; omega) (by have := Tm.dep_kid hkm; omega) (by omega)).mono fun w L4 q => ?_
    obtain ⟨p4, ne, mc, ml, rfl, hnf, td⟩ := q
    have hnd : nd < L.length := (List.getElem?_eq_some_iff.mp hc.d).1
    have hne : ne ≠ nd := by omega
    refine put2_step rfl rfl (hc.but p4) td fun L5 b5 c5 => ?_
    have td5 : Told L5 t.kids[i] ne mc ml := ⟨b5.2 _ _ hne td.d, b5.2 _ _ (by rintro rfl; have := (hc.but p4).d.symm.trans td.c; cases this) td.c, b5.2 _ _ (by rintro rfl; have := (hc.but p4).d.symm.trans td.l; cases this) td.l⟩
    simp only [wipeE, ev_ok, ev_bind, ev_only, ev_ofO, ev_ofOB, ev_ite, evs_ite, evo_some, evs_toS, evs_seq, ev_C, ev_var, ev_op2, ev_op1, ev_opL, ev_nil, ev_cons, ev_call, ev_bVal, ev_bTru, ev_bNot, ev_bAnd, ev_bOr, ev_bYes, ev_cIf, ev_cNot, ev_cAnd, ev_cOr, ev_chain, ev_part_none, ev_part_some, ev_sl, ev_mth, evs_skip, evs_set, evs_ret, evs_expr, evs_if, evs_par, evs_as, ev_gN, ev_gsNil, ev_gsCons, ev_gTup, ev_gIx, evs_aug, ev_defF, evs_for, ev_rng1, ev_iSeq, ev_lc, o_addI, o_subI, o_addS, o_addT, o_mulI, o_modI, o_divI, o_powI, o_cmpI, o_intI, o_intB, o_absI, o_lst, o_tup, bl_bl, List.map_cons, List.map_nil, List.cons_append, List.nil_append, List.append_nil, List.getElem?_cons_zero, List.getElem?_cons_succ, List.set_cons_zero, List.set_cons_succ, List.length_cons, List.length_nil, List.replicate, Nat.reduceAdd, Nat.reduceSub, Nat.reduceLeDiff, true_and, and_true, if_true, decide_eq_true_eq, Nat.zero_add, ix_dic1 td5.d, v_depth, oMax]
    refine kinds_step c5 td5 hne (by omega) (by have := pcnt_len "cell" t i; omega) (by have := pcnt_len "call" t i; omega) fun L6 nc6 nl6 b6 b7 but6 c6 => ?_
    refine ⟨nc6, nl6, some t.kids[i].enc, some (.ref ne), b6, b7, ?_, (But.of_pre p4 |>.trans b5 |>.trans but6).pre pr hndL, ?_, but6.2 _ _ hnpd (b5.2 _ _ hnpd (pre_at p4 hn))⟩
    · have : (if (t.kids[i].dep : Int) > (mxd (t.kids.take i) : Int) then (t.kids[i].dep : Int) else (mxd (t.kids.take i) : Int)) = ((mxd (t.kids.take (i + 1)) : Nat) : Int) := by
        rw [mxd_succ hi]
        split <;> omega
      rw [this]
    · rw [pcnt_succ hi, pcnt_succ hi]
      have e2 : (1 : Int) + ((t.kids.take (i + 1)).map Tm.size).sum = 1 + ((t.kids.take i).map Tm.size).sum + t.kids[i].size := by
        rw [List.take_succ_eq_append_getElem hi, List.map_append, List.sum_append]
        simp; omega
      have e3 : (t.isTick || (t.kids.take (i + 1)).any Tm.tickB) = (t.isTick || (t.kids.take i).any Tm.tickB || t.kids[i].tickB) := by
        rw [List.take_succ_eq_append_getElem hi, List.any_append]
        simp [Bool.or_assoc]
      rw [e2, e3]
      exact c6
  · obtain ⟨nc, nl, x2, x5, x6, x7, rfl, pr, hc, hn⟩ := hp
    refine ⟨by rw [hget L hn, List.getElem?_eq_none (by rw [List.length_map]; exact Nat.le_refl _)], ?_⟩
    rw [List.take_length] at hc ⊢
    rw [pcnt_all, pcnt_all] at hc
    simp only [wipeE, ev_ok, ev_bind, ev_only, ev_ofO, ev_ofOB, ev_ite, evs_ite, evo_some, evs_toS, evs_seq, ev_C, ev_var, ev_op2, ev_op1, ev_opL, ev_nil, ev_cons, ev_call, ev_bVal, ev_bTru, ev_bNot, ev_bAnd, ev_bOr, ev_bYes, ev_cIf, ev_cNot, ev_cAnd, ev_cOr, ev_chain, ev_part_none, ev_part_some, ev_sl, ev_mth, evs_skip, evs_set, evs_ret, evs_expr, evs_if, evs_par, evs_as, ev_gN, ev_gsNil, ev_gsCons, ev_gTup, ev_gIx, evs_aug, ev_defF, evs_for, ev_rng1, ev_iSeq, ev_lc, o_addI, o_subI, o_addS, o_addT, o_mulI, o_modI, o_divI, o_powI, o_cmpI, o_intI, o_intB, o_absI, o_lst, o_tup, bl_bl, List.map_cons, List.map_nil, List.cons_append, List.nil_append, List.append_nil, List.getElem?_cons_zero, List.getElem?_cons_succ, List.set_cons_zero, List.set_cons_succ, List.length_cons, List.length_nil, List.replicate, Nat.reduceAdd, Nat.reduceSub, Nat.reduceLeDiff, true_and, and_true, if_true, decide_eq_true_eq, Nat.zero_add, put_dic hc.d (show (fnd (1 + ((t.kids.map Tm.size).sum : Int)) nc nl (t.isTick || t.kids.any Tm.tickB)).length < 16777216 by rw [fnd_len]; decide), p_depth]
    refine ⟨(But.set).pre pr hndL, nd, nc, nl, rfl, hndL, ?_, But.set.2 _ _ hc.ne.1 hc.c, But.set.2 _ _ hc.ne.2 hc.l⟩
    rw [set_at hc.d, tickB_eq, mxd_dep, Tm.size_eq]
    simp
end Z

/-! YC: _law_bent. -/
namespace Z
open PySem PySem.Spec PyProof.Rows L2
variable {many : Int}
theorem Upd.refl {p : Nat} {L : LH} (h : PoolOk p L) : Upd p L L := ⟨Nat.le_refl _, fun _ _ _ e => e, h⟩
theorem PoolOk.pre {p : Nat} {L L' : LH} (h : PoolOk p L) (q : L <+: L') : PoolOk p L' := by
  obtain ⟨a, b, e, h1, h2, h3⟩ := h
  exact ⟨a, b, pre_at q e, h1, h2, h3⟩
theorem Upd.of_pre {p : Nat} {L L' : LH} (h : PoolOk p L) (q : L <+: L') : Upd p L L' := ⟨q.length_le, fun _ _ _ e => pre_at q e, h.pre q⟩
theorem Upd.setN {p n : Nat} {L : LH} {o o' : LO} (h : PoolOk p L) (hn : n ≠ p) : PoolOk p (L.set n o') := by
  obtain ⟨a, b, e, h1, h2, h3⟩ := h
  exact ⟨a, b, by rw [List.getElem?_set_ne hn]; exact e, h1, h2, h3⟩
theorem tyName_upd {p : Nat} {L L' : LH} (h : PoolOk p L) (u : Upd p L L') {w : W} {t : String} (e : tyName w L = some t) : tyName w L' = some t := by
  cases w with
  | ref n =>
    simp only [tyName] at e ⊢
    by_cases hn : n = p
    · subst hn
      obtain ⟨a, b, e1, _⟩ := h
      obtain ⟨a', b', e2, _⟩ := u.pool
      rw [e1] at e
      rw [e2]
      exact e
    · split at e
      · rename_i xs e1; rw [u.old n _ hn e1]; exact e
      · rename_i xs e1; rw [u.old n _ hn e1]; exact e
      · cases e
  | _ => exact e
theorem FK.upd {p : Nat} {L L' : LH} {w : W} (h : FK L w) (hp : PoolOk p L) (u : Upd p L L') : FK L' w :=
  ⟨⟨h.hk.ty.imp fun t e => tyName_upd hp u e, fun x r e => ⟨(h.hk.fst x r e).1.imp fun t q => tyName_upd hp u q, (h.hk.fst x r e).2⟩⟩, fun y e => (h.arg y e).imp fun t q => tyName_upd hp u q, h.cell, fun y z e => ⟨(h.call y z e).1, (h.call y z e).2.imp fun t q => tyName_upd hp u q⟩⟩
theorem Bent.upd {p : Nat} {L L' : LH} {w : W} (h : Bent L many w) (hp : PoolOk p L) (u : Upd p L L') : Bent L' many w := by
  induction h with
  | odd hf hb => exact .odd (hf.upd hp u) hb
  | node hf hb hi hs h1 h2 hl _ ih => exact .node (hf.upd hp u) hb hi hs h1 h2 hl ih
/-- the parts put back -/
def reb (t : Tm) (ps : List W) : W := match t with
  | .call2 s _ _ => .tup [.str "call", .str s, .tup ps]
  | .bin h _ _ => .tup (.str h :: ps)
  | .ite _ _ _ => .tup (.str "if" :: ps)
  | t => t.enc
theorem reb_bent {L : LH} {t : Tm} {r : Nat} {w : W} (ht : t.ok many) (hr : r < t.kids.length) (hw : Bent L many w) : Bent L many (reb t ((t.kids.map Tm.enc).set r w)) := by
  have hsp : (t.kids.map Tm.enc).set r w = (t.kids.take r).map Tm.enc ++ w :: (t.kids.drop (r + 1)).map Tm.enc := by
    rw [List.set_eq_take_append_cons_drop, if_pos (by rw [List.length_map]; exact hr), List.map_take, List.map_drop]
  have hlen : ((t.kids.map Tm.enc).set r w).length = t.kids.length := by rw [List.length_set, List.length_map]
  have h1 : ∀ u ∈ t.kids.take r, u.ok many := fun u hu => Tm.kids_ok ht (List.mem_of_mem_take hu)
  have h2 : ∀ u ∈ t.kids.drop (r + 1), u.ok many := fun u hu => Tm.kids_ok ht (List.mem_of_mem_drop hu)
  have h3 : (t.kids.take r).length + (t.kids.drop (r + 1)).length ≤ 3 := by
    have := Tm.kids_len t
    rw [List.length_take, List.length_drop]; omega
  generalize hps : (t.kids.map Tm.enc).set r w = ps at hsp hlen
  cases t with
  | call2 s a b =>
    refine .node (pre := List.take r [a, b]) (post := List.drop (r + 1) [a, b]) (b := w) ⟨⟨⟨_, rfl⟩, fun x r' e => ?_⟩, fun y e => ?_, fun y e => ?_, fun y z e => ?_⟩ ?_ ?_ (fun s' r' e => ?_) h1 h2 h3 hw
    · cases e; exact ⟨⟨_, rfl⟩, fun s' e => by cases e; exact so_call⟩
    · simp [reb] at e
    · simp [reb] at e
    · simp [reb] at e; obtain ⟨rfl, rfl⟩ := e
      exact ⟨⟨_, rfl, Nat.le_trans (Tm.NameOk.len ht.1) (by decide)⟩, _, rfl⟩
    · show (nameB s && decide (ps.length ≤ 2)) = true
      rw [hlen, Tm.NameOk.nm ht.1]; rfl
    · rw [show List.map Tm.enc (List.take r [a, b]) ++ w :: List.map Tm.enc (List.drop (r + 1) [a, b]) = ps from hsp.symm]
      simp [reb, innerW]
    · cases e; exact so_call
  | bin h a b =>
    match ps, hlen with
    | [x, y], _ =>
      refine .node (pre := List.take r [a, b]) (post := List.drop (r + 1) [a, b]) (b := w) ⟨⟨⟨_, rfl⟩, fun x r' e => ?_⟩, fun y e => ?_, fun y e => ?_, fun y z e => ?_⟩ ?_ ?_ (fun s' r' e => ?_) h1 h2 h3 hw
      · cases e; exact ⟨⟨_, rfl⟩, fun s' e => by cases e; exact Tm.so_h ht.1⟩
      · simp [reb] at e
      · simp [reb] at e
      · simp [reb] at e; obtain ⟨rfl, _⟩ := e
        rcases ht.1 with q | q | q <;> simp at q
      · rcases ht.1 with rfl | rfl | rfl <;> rfl
      · rw [show List.map Tm.enc (List.take r [a, b]) ++ w :: List.map Tm.enc (List.drop (r + 1) [a, b]) = [x, y] from hsp.symm]
        have hc : h ≠ "call" := by rcases ht.1 with rfl | rfl | rfl <;> simp
        show (if h = "call" then _ else _) = _
        rw [if_neg hc, if_pos (ht.1.elim .inl fun q => .inr (q.elim .inl fun q => .inr (.inl q)))]
      · cases e; exact Tm.so_h ht.1
  | ite a b c =>
    match ps, hlen with
    | [x, y, z], _ =>
      refine .node (pre := List.take r [a, b, c]) (post := List.drop (r + 1) [a, b, c]) (b := w) ⟨⟨⟨_, rfl⟩, fun x r' e => ?_⟩, fun y e => ?_, fun y e => ?_, fun y z e => ?_⟩ rfl ?_ (fun s' r' e => ?_) h1 h2 h3 hw
      · cases e; exact ⟨⟨_, rfl⟩, fun s' e => by cases e; exact so_if⟩
      · simp [reb] at e
      · simp [reb] at e
      · simp [reb] at e
      · rw [show List.map Tm.enc (List.take r [a, b, c]) ++ w :: List.map Tm.enc (List.drop (r + 1) [a, b, c]) = [x, y, z] from hsp.symm]
        simp [reb, innerW]
      · cases e; exact so_if
  | val i => simp [Tm.kids] at hr
  | arg i => simp [Tm.kids] at hr
  | cell i => simp [Tm.kids] at hr
  | tick => simp [Tm.kids] at hr
  | call0 i => simp [Tm.kids] at hr
def c_draw : Fn := f_law_draw
theorem draw_at {p : Nat} {m : Int} {L : LH} (hp : PoolOk p L) (hm : 0 < m) (hm2 : m < 1073741824) : Ev (f_law_draw [.ref p, .int m] L) fun w L' => ∃ r : Int, w = .int r ∧ 0 ≤ r ∧ r < m ∧ Upd p L L' := draw_ok hp hm hm2
theorem eqX_int {L : LH} {i j : Int} {Q : W → LH → Prop} : EvO (oEq (.int i) (.int j) L) Q = Q (.bl (i == j)) L := by
  simp only [oEq, oB, eqX_ii, Option.map, evo_some]
theorem Bent.ty {L L' : LH} {w : W} (h : Bent L many w) (u : ∀ {w : W} {t : String}, tyName w L = some t → tyName w L' = some t) : Bent L' many w := by
  have fk : ∀ {w : W}, FK L w → FK L' w := fun h =>
    ⟨⟨h.hk.ty.imp fun t e => u e, fun x r e => ⟨(h.hk.fst x r e).1.imp fun t q => u q, (h.hk.fst x r e).2⟩⟩, fun y e => (h.arg y e).imp fun t q => u q, h.cell, fun y z e => ⟨(h.call y z e).1, (h.call y z e).2.imp fun t q => u q⟩⟩
  induction h with
  | odd hf hb => exact .odd (fk hf) hb
  | node hf hb hi hs h1 h2 hl _ ih => exact .node (fk hf) hb hi hs h1 h2 hl ih
theorem ty_set {L : LH} {n : Nat} {xs ys : List W} (h : L[n]? = some (.lst xs)) {w : W} {t : String} (e : tyName w L = some t) : tyName w (L.set n (.lst ys)) = some t := by
  cases w with
  | ref m =>
    simp only [tyName] at e ⊢
    by_cases hm : n = m
    · subst hm
      rw [h] at e
      rw [set_at h]
      exact e
    · rw [List.getElem?_set_ne hm]; exact e
  | _ => exact e
def BtS (many : Int) (self : Fn) (d : Nat) : Prop := ∀ (t : Tm) (p : Nat) (odd : W) (L : LH), t.ok many → t.dep ≤ d → PoolOk p L → Bent L many odd → Ev (self [.ref p, t.enc, odd] L) fun w L' => Upd p L L' ∧ Bent L' many w
def c_bent (self : Fn) : Fn := f_law_bent f_law_inner f_law_draw self
theorem bent_step {self : Fn} {d : Nat} (h : BtS many self d) : BtS many (c_bent self) (d + 1) := fun t p odd L ht hd hp ho => by
  have hk3 := Tm.kids_len t
  simp only [c_bent, f_law_bent, wipeE, ev_ok, ev_bind, ev_only, ev_ofO, ev_ofOB, ev_ite, evs_ite, evo_some, evs_toS, evs_seq, ev_C, ev_var, ev_op2, ev_op1, ev_opL, ev_nil, ev_cons, ev_call, ev_bVal, ev_bTru, ev_bNot, ev_bAnd, ev_bOr, ev_bYes, ev_cIf, ev_cNot, ev_cAnd, ev_cOr, ev_chain, ev_part_none, ev_part_some, ev_sl, ev_mth, evs_skip, evs_set, evs_ret, evs_expr, evs_if, evs_par, evs_as, ev_gN, ev_gsNil, ev_gsCons, ev_gTup, ev_gIx, evs_aug, ev_defF, evs_for, ev_rng1, ev_iSeq, ev_lc, o_addI, o_subI, o_addS, o_addT, o_mulI, o_modI, o_divI, o_powI, o_cmpI, o_intI, o_intB, o_absI, o_lst, o_tup, bl_bl, List.map_cons, List.map_nil, List.cons_append, List.nil_append, List.append_nil, List.getElem?_cons_zero, List.getElem?_cons_succ, List.set_cons_zero, List.set_cons_succ, List.length_cons, List.length_nil, List.replicate, Nat.reduceAdd, Nat.reduceSub, Nat.reduceLeDiff, true_and, and_true, if_true, decide_eq_true_eq, Nat.zero_add]
  refine (law_inner_ok ht).mono fun w L1 q => ?_
  obtain ⟨np, rfl, hnp, p1, hnpf⟩ := q
  have hpl : p < L.length := by obtain ⟨a, b, e, _⟩ := hp; exact (List.getElem?_eq_some_iff.mp e).1
  have hne : np ≠ p := by omega
  have u1 : Upd p L (L1 ++ [LO.lst []]) := .of_pre hp (p1.trans pre_last)
  simp only [oEq, oB, eq_nil (pre_at pre_last hnp) at_last, Option.map, evo_some, blW]
  cases hz : (t.kids.map Tm.enc).isEmpty with
  | true => simp only [if_true]; exact ⟨u1, ho.upd hp u1⟩
  | false =>
    simp only [Bool.false_eq_true, if_false]
    refine (draw_at u1.pool (by decide) (by decide)).mono fun w L2 q => ?_
    obtain ⟨r0, rfl, _, _, u2⟩ := q
    have u02 := u1.trans u2
    simp only [eqX_ii, Option.map, evo_some, blW]
    cases hr0 : (r0 == 0) with
    | true => simp only [if_true]; exact ⟨u02, ho.upd hp u02⟩
    | false =>
      have hkl : 0 < t.kids.length := by
        cases e : t.kids with
        | nil => rw [e] at hz; cases hz
        | cons a r => simp
      have hn2 : L2[np]? = some (.lst (t.kids.map Tm.enc)) := u2.old _ _ hne (pre_at pre_last hnp)
      simp only [Bool.false_eq_true, if_false, oLen_at hn2, List.length_map, evo_some]
      refine (draw_at u2.pool (by omega) (by omega)).mono fun w L3 q => ?_
      obtain ⟨r, rfl, hr0', hrlt, u3⟩ := q
      obtain ⟨rn, rfl⟩ : ∃ rn : Nat, r = rn := ⟨r.toNat, by omega⟩
      have hrn : rn < t.kids.length := by omega
      have hn3 := u3.old _ _ hne hn2
      have hat : atI (t.kids.map Tm.enc) (rn : Int) = some t.kids[rn].enc := atI_nat (by rw [List.getElem?_map, List.getElem?_eq_getElem hrn]; rfl)
      simp only [ix_at hn3, hat]
      have hkm : t.kids[rn] ∈ t.kids := List.getElem_mem hrn
      have u03 := u02.trans u3
      refine (h t.kids[rn] p odd L3 (Tm.kids_ok ht hkm) (by have := Tm.dep_kid hkm; omega) u3.pool (ho.upd hp u03)).mono fun w L4 q => ?_
      obtain ⟨u4, hw⟩ := q
      have hn4 := u4.old _ _ hne hn3
      simp only [put_at hn4 (show rn < (t.kids.map Tm.enc).length by rw [List.length_map]; exact hrn)]
      have pool5 : PoolOk p (L4.set np (.lst ((t.kids.map Tm.enc).set rn w))) := Upd.setN (o := .lst []) u4.pool hne
      have u04 := u03.trans u4
      have hLn : L.length ≤ np := hnpf
      have u5 : Upd p L (L4.set np (.lst ((t.kids.map Tm.enc).set rn w))) := ⟨by rw [List.length_set]; exact u04.len, fun n o hn e => by
        have := (List.getElem?_eq_some_iff.mp e).1
        rw [List.getElem?_set_ne (by omega)]; exact u04.old n o hn e, pool5⟩
      have hn5 : (L4.set np (.lst ((t.kids.map Tm.enc).set rn w)))[np]? = some (.lst ((t.kids.map Tm.enc).set rn w)) := set_at hn4
      have hw5 : Bent (L4.set np (.lst ((t.kids.map Tm.enc).set rn w))) many w := hw.ty fun e => ty_set hn4 e
      have hb5 := reb_bent ht hrn hw5
      have hlen : ((t.kids.map Tm.enc).set rn w).length = t.kids.length := by rw [List.length_set, List.length_map]
      generalize L4.set np (.lst ((t.kids.map Tm.enc).set rn w)) = L5 at u5 hn5 hb5 ⊢
      generalize (t.kids.map Tm.enc).set rn w = ps at hn5 hb5 hlen ⊢
      have tu : oTuple [.ref np] L5 = some (.tup ps, L5) := by simp only [oTuple, seqL_at hn5]
      cases t with
      | call2 s a b =>
        simp only [Tm.enc, ix_tup0, ix_tup1, evo_some, eqX_ss so_call so_call, beq_self_eq_true, Option.map, blW, if_true, tu, o_tup]
        exact ⟨u5, hb5⟩
      | bin hh a b =>
        have hc : (hh == ("call" : Str)) = false := by rcases ht.1 with rfl | rfl | rfl <;> simp
        simp only [Tm.enc, ix_tup0, ix_tup1, evo_some, eqX_ss (Tm.so_h ht.1) so_call, hc, Option.map, blW, Bool.false_eq_true, if_false, tu, o_tup, o_addT]
        refine ⟨?_, u5, hb5⟩
        rw [hlen]; show 1 + _ ≤ _; simp only [Tm.kids, List.length_cons, List.length_nil]; decide
      | ite a b c =>
        have hc : (("if" : Str) == ("call" : Str)) = false := by simp
        simp only [Tm.enc, ix_tup0, ix_tup1, evo_some, eqX_ss so_if so_call, hc, Option.map, blW, Bool.false_eq_true, if_false, tu, o_tup, o_addT]
        refine ⟨?_, u5, hb5⟩
        rw [hlen]; show 1 + _ ≤ _; simp only [Tm.kids, List.length_cons, List.length_nil]; decide
      | val i => simp [Tm.kids] at hkl
      | arg i => simp [Tm.kids] at hkl
      | cell i => simp [Tm.kids] at hkl
      | tick => simp [Tm.kids] at hkl
      | call0 i => simp [Tm.kids] at hkl
theorem bent_base (self : Fn) : BtS many self 0 := fun t p o L ht hd => by have := Tm.dep_pos t; omega
end Z

/-! YD: _law_pick, _law_term. -/
namespace Z
open PySem PySem.Spec PyProof.Rows L2
variable {many : Int}
def c_pick : Fn := f_law_pick f_law_draw
theorem pick_at {p n : Nat} {L : LH} {ws : List W} (hp : PoolOk p L) (hn : L[n]? = some (.lst ws)) (hne : n ≠ p) (h0 : 0 < ws.length) (h1 : ws.length < 1073741824) : Ev (c_pick [.ref p, .ref n] L) fun w L' => w ∈ ws ∧ Upd p L L' := by
  simp only [c_pick, f_law_pick, wipeE, ev_ok, ev_bind, ev_only, ev_ofO, ev_ofOB, ev_ite, evs_ite, evo_some, evs_toS, evs_seq, ev_C, ev_var, ev_op2, ev_op1, ev_opL, ev_nil, ev_cons, ev_call, ev_bVal, ev_bTru, ev_bNot, ev_bAnd, ev_bOr, ev_bYes, ev_cIf, ev_cNot, ev_cAnd, ev_cOr, ev_chain, ev_part_none, ev_part_some, ev_sl, ev_mth, evs_skip, evs_set, evs_ret, evs_expr, evs_if, evs_par, evs_as, ev_gN, ev_gsNil, ev_gsCons, ev_gTup, ev_gIx, evs_aug, ev_defF, evs_for, ev_rng1, ev_iSeq, ev_lc, o_addI, o_subI, o_addS, o_addT, o_mulI, o_modI, o_divI, o_powI, o_cmpI, o_intI, o_intB, o_absI, o_lst, o_tup, bl_bl, List.map_cons, List.map_nil, List.cons_append, List.nil_append, List.append_nil, List.getElem?_cons_zero, List.getElem?_cons_succ, List.set_cons_zero, List.set_cons_succ, List.length_cons, List.length_nil, List.replicate, Nat.reduceAdd, Nat.reduceSub, Nat.reduceLeDiff, true_and, and_true, if_true, decide_eq_true_eq, Nat.zero_add, oLen_at hn]
  refine (draw_at hp (by omega) (by omega)).mono fun w L1 q => ?_
  obtain ⟨r, rfl, hr0, hr1, u⟩ := q
  obtain ⟨rn, rfl⟩ : ∃ rn : Nat, r = rn := ⟨r.toNat, by omega⟩
  have hrn : rn < ws.length := by omega
  have hat : atI ws (rn : Int) = some ws[rn] := atI_nat (List.getElem?_eq_getElem hrn)
  rw [ix_at (u.old _ _ hne hn), hat]
  exact ⟨List.getElem_mem hrn, u⟩
structure BOk (L : LH) (nb nc nf f0 f1 : Nat) (n0 n1 n2 n3 : Str) : Prop where
  d : L[nb]? = some (.dic [(.inr "cells", .ref nc), (.inr "functions", .ref nf)])
  c : L[nc]? = some (.lst [.tup [.str n0, .str "table"], .tup [.str n1, .str "frozen"]])
  f : L[nf]? = some (.lst [.ref f0, .ref f1])
  g0 : L[f0]? = some (.dic [(.inr "name", .str n2), (.inr "many", .int 2)])
  g1 : L[f1]? = some (.dic [(.inr "name", .str n3), (.inr "many", .int 0)])
  o0 : Tm.NameOk n0
  o1 : Tm.NameOk n1
  o2 : Tm.NameOk n2
  o3 : Tm.NameOk n3
theorem PoolOk.ne {p n : Nat} {L : LH} {o : LO} (h : PoolOk p L) (e : L[n]? = some o) (ho : ∀ a b : Int, o ≠ .lst [.int a, .int b]) : n ≠ p := by
  rintro rfl
  obtain ⟨a, b, e1, _⟩ := h
  rw [e] at e1; cases e1
  exact ho a b rfl
section
variable {L L' : LH} {p nb nc nf f0 f1 : Nat} {n0 n1 n2 n3 : Str}
theorem BOk.nec (B : BOk L nb nc nf f0 f1 n0 n1 n2 n3) (hp : PoolOk p L) : nc ≠ p := hp.ne B.c fun _ _ e => by cases e
theorem BOk.nef (B : BOk L nb nc nf f0 f1 n0 n1 n2 n3) (hp : PoolOk p L) : nf ≠ p := hp.ne B.f fun _ _ e => by cases e
theorem BOk.upd (B : BOk L nb nc nf f0 f1 n0 n1 n2 n3) (hp : PoolOk p L) (u : Upd p L L') : BOk L' nb nc nf f0 f1 n0 n1 n2 n3 :=
  ⟨u.old _ _ (hp.ne B.d fun _ _ e => by cases e) B.d, u.old _ _ (B.nec hp) B.c, u.old _ _ (B.nef hp) B.f, u.old _ _ (hp.ne B.g0 fun _ _ e => by cases e) B.g0, u.old _ _ (hp.ne B.g1 fun _ _ e => by cases e) B.g1, B.o0, B.o1, B.o2, B.o3⟩
end
def sb : Nat → Nat
  | 0 => 1
  | n + 1 => 1 + 3 * sb n
theorem sb_pos : ∀ n, 1 ≤ sb n
  | 0 => Nat.le_refl _
  | n + 1 => by unfold sb; omega
def GT (many : Int) (deep : Nat) (w : W) : Prop := ∃ t : Tm, w = t.enc ∧ t.ok many ∧ t.dep ≤ deep + 1 ∧ t.size ≤ sb deep
def TmS (many : Int) (self : Fn) (n : Nat) : Prop := ∀ (deep : Nat), deep < n → ∀ (p nb nc nf f0 f1 : Nat) (n0 n1 n2 n3 : Str) (L : LH), BOk L nb nc nf f0 f1 n0 n1 n2 n3 → PoolOk p L →
  Ev (self [.ref p, .ref nb, .int many, .int deep] L) fun w L' => Upd p L L' ∧ GT many deep w
theorem lc_rng {p j k : Nat} {e : Ex} {env : Env} {L0 : LH} {G : W → Prop} (hk : k ≤ 1000) (hp : PoolOk p L0) (he : ∀ v L, Upd p L0 L → Ev (e (env.set j (some v)) L) fun y L' => Upd p L L' ∧ G y) :
    Ev (lcLoop (srcR 0 k) (.one j) bYes e env ((srcR 0 k).len + 1) 0 L0 []) fun acc L' => acc.length = k ∧ (∀ y ∈ acc, G y) ∧ Upd p L0 L' := by
  refine lc_inv (P := fun i L acc => acc.length = i ∧ (∀ y ∈ acc, G y) ∧ Upd p L0 L) (n := k) (fun i L acc hi q => ?_) (fun L acc q => ?_) k 0 L0 [] (by omega) ⟨rfl, by simp, .refl hp⟩
  · obtain ⟨h1, h2, u⟩ := q
    refine ⟨.int (0 + i), by simp [srcR, hi], _, rfl, ?_⟩
    rw [ev_bYes]
    simp only [if_true]
    refine (he _ L u).mono fun y L' q => ?_
    refine ⟨by omega, by rw [List.length_append, h1]; rfl, fun z hz => ?_, u.trans q.1⟩
    rcases List.mem_append.mp hz with hz | hz
    · exact h2 z hz
    · rw [List.mem_singleton.mp hz]; exact q.2
  · exact ⟨by simp [srcR], q⟩
theorem ev_draw {p : Nat} {m : Int} {L : LH} (hp : PoolOk p L) (hm : 0 < m) (hm2 : m < 1073741824) {Q : W → LH → Prop} (h : ∀ r : Int, 0 ≤ r → r < m → ∀ L', Upd p L L' → Q (.int r) L') : Ev (f_law_draw [.ref p, .int m] L) Q :=
  (draw_at hp hm hm2).mono fun w L' q => by
    obtain ⟨r, rfl, h1, h2, u⟩ := q
    exact h r h1 h2 L' u
def c_term (self : Fn) : Fn := f_law_term f_law_draw c_pick self
theorem term_base (self : Fn) : TmS many self 0 := fun deep h => absurd h (Nat.not_lt_zero _)
theorem in_ints {L : LH} {n : Nat} {i : Int} {is : List Int} (h : L[n]? = some (.lst (is.map .int))) : oInD (.int i) (.ref n) L = some (.bl (is.contains i), L) := by
  rw [in_lst (neg := false) h rfl (by rw [List.all_map, List.all_eq_true]; intro _ _; rfl)]
  congr 3
  rw [List.any_map, List.contains_eq_any_beq]
  congr 1
  funext x
  show (x == i) = (i == x)
  rw [Bool.eq_iff_iff, beq_iff_eq, beq_iff_eq]; exact eq_comm
theorem ne_nil {L : LH} {n m : Nat} {ws : List W} (h : L[n]? = some (.lst ws)) (hm : L[m]? = some (.lst [])) : oNe (.ref n) (.ref m) L = some (.bl (!ws.isEmpty), L) := by
  simp only [oNe, eq_nil h hm, Option.map, oB]
theorem eq_nil2 {L : LH} {n m : Nat} {ws : List W} (h : L[n]? = some (.lst ws)) (hm : L[m]? = some (.lst [])) : oEq (.ref n) (.ref m) L = some (.bl ws.isEmpty, L) := by
  simp only [oEq, eq_nil h hm, Option.map, oB]
def tI0 : Sx := (sSet 4 (cCall f_law_draw [] (cCons (cVar 0) (cCons (cIf (bVal (cOp2 oGt (cVar 3) (cC (.int 0)))) (cC (.int 9)) (cC (.int 4))) cNil))))
def tI1 : Sx := (sIf (bOr (bVal (cOp2 oEq (cVar 4) (cC (.int 0)))) (bOr (bAnd (bVal (cOp2 oEq (cVar 4) (cC (.int 1)))) (bVal (cOp2 oEq (cVar 2) (cC (.int 0))))) (bAnd (bVal (cOp2 oInD (cVar 4) (cOpL oLst (cCons (cC (.int 2)) (cCons (cC (.int 8)) cNil))))) (bVal (cOp2 oEq (cOp2 oIx (cVar 1) (cC (.str "cells"))) (cOpL oLst cNil)))))) (sRet (cCall f_law_draw [] (cCons (cVar 0) (cCons (cC (.int 3)) cNil)))) sSkip)
def tI2 : Sx := (sIf (bVal (cOp2 oEq (cVar 4) (cC (.int 1)))) (sRet (cOpL oTup (cCons (cC (.str "arg")) (cCons (cCall f_law_draw [] (cCons (cVar 0) (cCons (cVar 2) cNil))) cNil)))) sSkip)
def tI3 : Sx := (sIf (bOr (bVal (cOp2 oEq (cVar 4) (cC (.int 2)))) (bVal (cOp2 oEq (cVar 4) (cC (.int 8))))) (sRet (cOpL oTup (cCons (cC (.str "cell")) (cCons (cOp2 oIx (cCall c_pick [] (cCons (cVar 0) (cCons (cOp2 oIx (cVar 1) (cC (.str "cells"))) cNil))) (cC (.int 0))) cNil)))) sSkip)
def tI4 : Sx := (sIf (bVal (cOp2 oEq (cVar 4) (cC (.int 3)))) (sRet (cIf (bVal (cOp2 oEq (cCall f_law_draw [] (cCons (cVar 0) (cCons (cC (.int 3)) cNil))) (cC (.int 0)))) (cOpL oTup (cCons (cC (.str "tick")) cNil)) (cCall f_law_draw [] (cCons (cVar 0) (cCons (cC (.int 3)) cNil))))) sSkip)
def tI5 (self : Fn) : Sx := (sIf (bAnd (bVal (cOp2 oEq (cVar 4) (cC (.int 4)))) (bVal (cOp2 oNe (cOp2 oIx (cVar 1) (cC (.str "functions"))) (cOpL oLst cNil)))) (sSeq (sSet 6 (cCall c_pick [] (cCons (cVar 0) (cCons (cOp2 oIx (cVar 1) (cC (.str "functions"))) cNil)))) (sRet (cOpL oTup (cCons (cC (.str "call")) (cCons (cOp2 oIx (cVar 6) (cC (.str "name"))) (cCons (cOpL oTuple (cCons (cLc [7] (iRng1 (cCons (cOp2 oIx (cVar 6) (cC (.str "many"))) cNil)) (CT.one 7) bYes (cCall self [] (cCons (cVar 0) (cCons (cVar 1) (cCons (cVar 2) (cCons (cC (.int 0)) cNil)))))) cNil)) cNil)))))) sSkip)
def tI6 (self : Fn) : Sx := (sIf (bVal (cOp2 oEq (cVar 4) (cC (.int 7)))) (sRet (cOp2 oAdd (cOpL oTup (cCons (cC (.str "if")) cNil)) (cOpL oTuple (cCons (cLc [7] (iRng1 (cCons (cC (.int 3)) cNil)) (CT.one 7) bYes (cCall self [] (cCons (cVar 0) (cCons (cVar 1) (cCons (cVar 2) (cCons (cOp2 oSub (cVar 3) (cC (.int 1))) cNil)))))) cNil)))) sSkip)
def tI7 : Sx := (sSet 5 (cCall c_pick [] (cCons (cVar 0) (cCons (cOpL oLst (cCons (cC (.str "plus")) (cCons (cC (.str "less")) (cCons (cC (.str "same")) cNil)))) cNil))))
def tI8 (self : Fn) : Sx := sRet (cOpL oTup (cCons (cVar 5) (cCons (cCall self [] (cCons (cVar 0) (cCons (cVar 1) (cCons (cVar 2) (cCons (cOp2 oSub (cVar 3) (cC (.int 1))) cNil))))) (cCons (cCall self [] (cCons (cVar 0) (cCons (cVar 1) (cCons (cVar 2) (cCons (cOp2 oSub (cVar 3) (cC (.int 1))) cNil))))) cNil))))
theorem c_term_eq (self : Fn) : c_term self = defF 8 4 (sSeq tI0 (sSeq tI1 (sSeq tI2 (sSeq tI3 (sSeq tI4 (sSeq (tI5 self) (sSeq (tI6 self) (sSeq tI7 ((tI8 self)))))))))) := rfl
section
variable {L : LH} {p nb nc nf f0 f1 : Nat} {n0 n1 n2 n3 : Str} {deep : Nat} {k : Int} {x5 x6 x7 : Option W} {N : Env → LH → Prop} {R : W → LH → Prop}
abbrev tEnv (p nb : Nat) (many : Int) (deep : Nat) (k : Int) (x5 x6 x7 : Option W) : Env := [some (.ref p), some (.ref nb), some (.int many), some (.int deep), some (.int k), x5, x6, x7]
theorem vcells : valW [((.inr "cells" : Key), W.ref nc), (.inr "functions", .ref nf)] (.inr "cells") = some (.ref nc) := by simp [val_cons]
theorem vfuns : valW [((.inr "cells" : Key), W.ref nc), (.inr "functions", .ref nf)] (.inr "functions") = some (.ref nf) := by simp [val_cons]
theorem tI1_ok (B : BOk L nb nc nf f0 f1 n0 n1 n2 n3) (hp : PoolOk p L) (hr : ∀ L' i, Upd p L L' → 0 ≤ i → i < 3 → R (.int i) L') (hn : ∀ L', Upd p L L' → k ≠ 0 → ¬ (k = 1 ∧ many = 0) → N (tEnv p nb many deep k x5 x6 x7) L') : EvS (tI1 (tEnv p nb many deep k x5 x6 x7) L) N R := by
  have key : k ≠ 0 → ¬ (k = 1 ∧ many = 0) → EvO (oInD (W.int k) (W.ref (List.length L)) (L ++ [LO.lst [W.int 2, W.int 8]])) (fun a L1 => match blW a with
      | some b => if b = true then EvO (oIx (W.ref nb) (W.str (Str.ofString "cells")) L1) fun a L1 => EvO (oEq a (W.ref (List.length L1)) (L1 ++ [LO.lst []])) fun a L1 => match blW a with
            | some b => if b = true then Ev (f_law_draw [W.ref p, W.int 3] L1) R else N (tEnv p nb many deep k x5 x6 x7) L1
            | none => False
        else N (tEnv p nb many deep k x5 x6 x7) L1
      | none => False) := fun h0 h1 => by
    have hi : (L ++ [LO.lst [W.int 2, W.int 8]])[L.length]? = some (.lst (([2, 8] : List Int).map .int)) := at_last
    rw [in_ints hi, evo_some]
    simp only [blW]
    split
    · have hb : (L ++ [LO.lst [W.int 2, W.int 8]])[nb]? = _ := pre_at pre_last B.d
      rw [ix_dic1 hb, vcells]
      simp only
      rw [eq_nil2 (pre_at pre_last (pre_at pre_last B.c)) at_last, evo_some]
      simp only [List.isEmpty, Bool.false_eq_true, if_false]
      exact hn _ (.of_pre hp (pre_last.trans pre_last)) h0 h1
    · exact hn _ (.of_pre hp pre_last) h0 h1
  simp only [tI1, tEnv, wipeE, ev_ok, ev_bind, ev_only, ev_ofO, ev_ofOB, ev_ite, evs_ite, evo_some, evs_toS, evs_seq, ev_C, ev_var, ev_op2, ev_op1, ev_opL, ev_nil, ev_cons, ev_call, ev_bVal, ev_bTru, ev_bNot, ev_bAnd, ev_bOr, ev_bYes, ev_cIf, ev_cNot, ev_cAnd, ev_cOr, ev_chain, ev_part_none, ev_part_some, ev_sl, ev_mth, evs_skip, evs_set, evs_ret, evs_expr, evs_if, evs_par, evs_as, ev_gN, ev_gsNil, ev_gsCons, ev_gTup, ev_gIx, evs_aug, ev_defF, evs_for, ev_rng1, ev_iSeq, ev_lc, o_addI, o_subI, o_addS, o_addT, o_mulI, o_modI, o_divI, o_powI, o_cmpI, o_intI, o_intB, o_absI, o_lst, o_tup, bl_bl, List.map_cons, List.map_nil, List.cons_append, List.nil_append, List.append_nil, List.getElem?_cons_zero, List.getElem?_cons_succ, List.set_cons_zero, List.set_cons_succ, List.length_cons, List.length_nil, List.replicate, Nat.reduceAdd, Nat.reduceSub, Nat.reduceLeDiff, true_and, and_true, if_true, decide_eq_true_eq, Nat.zero_add, eqX_int]
  by_cases h0 : k = 0
  · subst h0
    simp only [beq_self_eq_true, blW, if_true]
    exact ev_draw hp (by decide) (by decide) fun r h1 h2 L' u => hr L' r u h1 h2
  · have b0 : (k == 0) = false := beq_eq_false_iff_ne.mpr h0
    simp only [b0, blW, Bool.false_eq_true, if_false]
    by_cases h1 : k = 1
    · subst h1
      simp only [beq_self_eq_true, if_true]
      by_cases hm : many = 0
      · subst hm
        simp only [beq_self_eq_true, if_true]
        exact ev_draw hp (by decide) (by decide) fun r h1 h2 L' u => hr L' r u h1 h2
      · have b1 : (many == 0) = false := beq_eq_false_iff_ne.mpr hm
        simp only [b1, Bool.false_eq_true, if_false]
        exact key h0 (fun q => hm q.2)
    · have b1 : (k == 1) = false := beq_eq_false_iff_ne.mpr h1
      simp only [b1, Bool.false_eq_true, if_false]
      exact key h0 (fun q => h1 q.1)
theorem tI2_ok (hp : PoolOk p L) (hm2 : many ≤ 2) (hk : k = 1 → 0 < many) (hr : ∀ L' i, Upd p L L' → 0 ≤ i → i < many → R (.tup [.str "arg", .int i]) L') (hn : k ≠ 1 → N (tEnv p nb many deep k x5 x6 x7) L) : EvS (tI2 (tEnv p nb many deep k x5 x6 x7) L) N R := by
  simp only [tI2, tEnv, wipeE, ev_ok, ev_bind, ev_only, ev_ofO, ev_ofOB, ev_ite, evs_ite, evo_some, evs_toS, evs_seq, ev_C, ev_var, ev_op2, ev_op1, ev_opL, ev_nil, ev_cons, ev_call, ev_bVal, ev_bTru, ev_bNot, ev_bAnd, ev_bOr, ev_bYes, ev_cIf, ev_cNot, ev_cAnd, ev_cOr, ev_chain, ev_part_none, ev_part_some, ev_sl, ev_mth, evs_skip, evs_set, evs_ret, evs_expr, evs_if, evs_par, evs_as, ev_gN, ev_gsNil, ev_gsCons, ev_gTup, ev_gIx, evs_aug, ev_defF, evs_for, ev_rng1, ev_iSeq, ev_lc, o_addI, o_subI, o_addS, o_addT, o_mulI, o_modI, o_divI, o_powI, o_cmpI, o_intI, o_intB, o_absI, o_lst, o_tup, bl_bl, List.map_cons, List.map_nil, List.cons_append, List.nil_append, List.append_nil, List.getElem?_cons_zero, List.getElem?_cons_succ, List.set_cons_zero, List.set_cons_succ, List.length_cons, List.length_nil, List.replicate, Nat.reduceAdd, Nat.reduceSub, Nat.reduceLeDiff, true_and, and_true, if_true, decide_eq_true_eq, Nat.zero_add, eqX_int]
  by_cases h1 : k = 1
  · subst h1
    simp only [beq_self_eq_true, blW, if_true]
    exact ev_draw hp (hk rfl) (by omega) fun r h1 h2 L' u => hr L' r u h1 h2
  · have b1 : (k == 1) = false := beq_eq_false_iff_ne.mpr h1
    simp only [b1, blW, Bool.false_eq_true, if_false]
    exact hn h1
theorem tI3_ok (B : BOk L nb nc nf f0 f1 n0 n1 n2 n3) (hp : PoolOk p L) (hr : ∀ L' s, Upd p L L' → Tm.NameOk s → R (.tup [.str "cell", .str s]) L') (hn : k ≠ 2 → k ≠ 8 → N (tEnv p nb many deep k x5 x6 x7) L) : EvS (tI3 (tEnv p nb many deep k x5 x6 x7) L) N R := by
  have key : Ev (c_pick [.ref p, .ref nc] L) fun a L1 => EvO (oIx a (W.int 0) L1) fun a L1 => R (W.tup [W.str (Str.ofString "cell"), a]) L1 := by
    refine (pick_at hp B.c (B.nec hp) (by simp) (by simp)).mono fun w L1 q => ?_
    obtain ⟨hw, u⟩ := q
    simp only [List.mem_cons, List.mem_nil_iff, or_false] at hw
    rcases hw with rfl | rfl
    · rw [ix_tup0, evo_some]; exact hr _ _ u B.o0
    · rw [ix_tup0, evo_some]; exact hr _ _ u B.o1
  simp only [tI3, tEnv, wipeE, ev_ok, ev_bind, ev_only, ev_ofO, ev_ofOB, ev_ite, evs_ite, evo_some, evs_toS, evs_seq, ev_C, ev_var, ev_op2, ev_op1, ev_opL, ev_nil, ev_cons, ev_call, ev_bVal, ev_bTru, ev_bNot, ev_bAnd, ev_bOr, ev_bYes, ev_cIf, ev_cNot, ev_cAnd, ev_cOr, ev_chain, ev_part_none, ev_part_some, ev_sl, ev_mth, evs_skip, evs_set, evs_ret, evs_expr, evs_if, evs_par, evs_as, ev_gN, ev_gsNil, ev_gsCons, ev_gTup, ev_gIx, evs_aug, ev_defF, evs_for, ev_rng1, ev_iSeq, ev_lc, o_addI, o_subI, o_addS, o_addT, o_mulI, o_modI, o_divI, o_powI, o_cmpI, o_intI, o_intB, o_absI, o_lst, o_tup, bl_bl, List.map_cons, List.map_nil, List.cons_append, List.nil_append, List.append_nil, List.getElem?_cons_zero, List.getElem?_cons_succ, List.set_cons_zero, List.set_cons_succ, List.length_cons, List.length_nil, List.replicate, Nat.reduceAdd, Nat.reduceSub, Nat.reduceLeDiff, true_and, and_true, if_true, decide_eq_true_eq, Nat.zero_add, eqX_int, ix_dic1 B.d, vcells]
  by_cases h1 : k = 2
  · subst h1
    simp only [beq_self_eq_true, blW, if_true]
    exact key
  · have b1 : (k == 2) = false := beq_eq_false_iff_ne.mpr h1
    simp only [b1, blW, Bool.false_eq_true, if_false]
    by_cases h2 : k = 8
    · subst h2
      simp only [beq_self_eq_true, if_true]
      exact key
    · have b2 : (k == 8) = false := beq_eq_false_iff_ne.mpr h2
      simp only [b2, Bool.false_eq_true, if_false]
      exact hn h1 h2
theorem tI4_ok (hp : PoolOk p L) (hr : ∀ L' i, Upd p L L' → 0 ≤ i → i < 3 → R (.int i) L') (ht : ∀ L', Upd p L L' → R (.tup [.str "tick"]) L') (hn : k ≠ 3 → N (tEnv p nb many deep k x5 x6 x7) L) : EvS (tI4 (tEnv p nb many deep k x5 x6 x7) L) N R := by
  simp only [tI4, tEnv, wipeE, ev_ok, ev_bind, ev_only, ev_ofO, ev_ofOB, ev_ite, evs_ite, evo_some, evs_toS, evs_seq, ev_C, ev_var, ev_op2, ev_op1, ev_opL, ev_nil, ev_cons, ev_call, ev_bVal, ev_bTru, ev_bNot, ev_bAnd, ev_bOr, ev_bYes, ev_cIf, ev_cNot, ev_cAnd, ev_cOr, ev_chain, ev_part_none, ev_part_some, ev_sl, ev_mth, evs_skip, evs_set, evs_ret, evs_expr, evs_if, evs_par, evs_as, ev_gN, ev_gsNil, ev_gsCons, ev_gTup, ev_gIx, evs_aug, ev_defF, evs_for, ev_rng1, ev_iSeq, ev_lc, o_addI, o_subI, o_addS, o_addT, o_mulI, o_modI, o_divI, o_powI, o_cmpI, o_intI, o_intB, o_absI, o_lst, o_tup, bl_bl, List.map_cons, List.map_nil, List.cons_append, List.nil_append, List.append_nil, List.getElem?_cons_zero, List.getElem?_cons_succ, List.set_cons_zero, List.set_cons_succ, List.length_cons, List.length_nil, List.replicate, Nat.reduceAdd, Nat.reduceSub, Nat.reduceLeDiff, true_and, and_true, if_true, decide_eq_true_eq, Nat.zero_add, eqX_int]
  by_cases h1 : k = 3
  · subst h1
    simp only [beq_self_eq_true, blW, if_true]
    refine ev_draw hp (by decide) (by decide) fun r h1 h2 L' u => ?_
    simp only [eqX_int]
    split
    · exact ht L' u
    · exact ev_draw u.pool (by decide) (by decide) fun r h1 h2 L2 u2 => hr L2 r (u.trans u2) h1 h2
  · have b1 : (k == 3) = false := beq_eq_false_iff_ne.mpr h1
    simp only [b1, blW, Bool.false_eq_true, if_false]
    exact hn h1
def SelfOk (many : Int) (self : Fn) (p nb nc nf f0 f1 : Nat) (n0 n1 n2 n3 : Str) (m : Nat) : Prop := ∀ L, BOk L nb nc nf f0 f1 n0 n1 n2 n3 → PoolOk p L → Ev (self [.ref p, .ref nb, .int many, .int m] L) fun w L' => Upd p L L' ∧ GT many m w
theorem two {G : W → Prop} {acc : List W} (h : acc.length = 2) (hg : ∀ y ∈ acc, G y) : ∃ a b, acc = [a, b] ∧ G a ∧ G b := by
  match acc, h with
  | [a, b], _ => exact ⟨a, b, rfl, hg _ (by simp), hg _ (by simp)⟩
theorem three {G : W → Prop} {acc : List W} (h : acc.length = 3) (hg : ∀ y ∈ acc, G y) : ∃ a b c, acc = [a, b, c] ∧ G a ∧ G b ∧ G c := by
  match acc, h with
  | [a, b, c], _ => exact ⟨a, b, c, rfl, hg _ (by simp), hg _ (by simp), hg _ (by simp)⟩
theorem tI5_ok {self : Fn} {m : Nat} (B : BOk L nb nc nf f0 f1 n0 n1 n2 n3) (hp : PoolOk p L) (hs : SelfOk many self p nb nc nf f0 f1 n0 n1 n2 n3 0) (hr : ∀ L' w, Upd p L L' → GT many (m + 1) w → R w L') (hn : ∀ L', Upd p L L' → k ≠ 4 → N (tEnv p nb many (m + 1) k x5 x6 x7) L') : EvS (tI5 self (tEnv p nb many (m + 1) k x5 x6 x7) L) N R := by
  have vn : ∀ {s : Str} {i : Int}, valW [((.inr "name" : Key), W.str s), (.inr "many", .int i)] (.inr "name") = some (.str s) := by intros; simp [val_cons]
  have vm : ∀ {s : Str} {i : Int}, valW [((.inr "name" : Key), W.str s), (.inr "many", .int i)] (.inr "many") = some (.int i) := by intros; simp [val_cons]
  simp only [tI5, tEnv, wipeE, ev_ok, ev_bind, ev_only, ev_ofO, ev_ofOB, ev_ite, evs_ite, evo_some, evs_toS, evs_seq, ev_C, ev_var, ev_op2, ev_op1, ev_opL, ev_nil, ev_cons, ev_call, ev_bVal, ev_bTru, ev_bNot, ev_bAnd, ev_bOr, ev_bYes, ev_cIf, ev_cNot, ev_cAnd, ev_cOr, ev_chain, ev_part_none, ev_part_some, ev_sl, ev_mth, evs_skip, evs_set, evs_ret, evs_expr, evs_if, evs_par, evs_as, ev_gN, ev_gsNil, ev_gsCons, ev_gTup, ev_gIx, evs_aug, ev_defF, evs_for, ev_rng1, ev_iSeq, ev_lc, o_addI, o_subI, o_addS, o_addT, o_mulI, o_modI, o_divI, o_powI, o_cmpI, o_intI, o_intB, o_absI, o_lst, o_tup, bl_bl, List.map_cons, List.map_nil, List.cons_append, List.nil_append, List.append_nil, List.getElem?_cons_zero, List.getElem?_cons_succ, List.set_cons_zero, List.set_cons_succ, List.length_cons, List.length_nil, List.replicate, Nat.reduceAdd, Nat.reduceSub, Nat.reduceLeDiff, true_and, and_true, if_true, decide_eq_true_eq, Nat.zero_add, eqX_int, ix_dic1 B.d, vfuns]
  by_cases h1 : k = 4
  · subst h1
    have u1 : Upd p L (L ++ [LO.lst []]) := .of_pre hp pre_last
    have B1 := B.upd hp u1
    simp only [beq_self_eq_true, blW, if_true, ne_nil B1.f at_last, evo_some, List.isEmpty, Bool.not_false, ix_dic1 B1.d, vfuns]
    refine (pick_at u1.pool B1.f (B1.nef u1.pool) (by simp) (by simp)).mono fun w L2 q => ?_
    obtain ⟨hw, u2⟩ := q
    have u02 := u1.trans u2
    have B2 := B1.upd u1.pool u2
    have he : ∀ (x : Option W) v L', Upd p L2 L' → Ev (cCall self [] (cCons (cVar 0) (cCons (cVar 1) (cCons (cVar 2) (cCons (cC (.int 0)) cNil)))) ([some (.ref p), some (.ref nb), some (.int many), some (.int ((m + 1 : Nat) : Int)), some (.int 4), x5, x, none].set 7 (some v)) L') fun y L'' => Upd p L' L'' ∧ GT many 0 y := fun x v L' u => by
      simp only [wipeE, ev_ok, ev_bind, ev_only, ev_ofO, ev_ofOB, ev_ite, evs_ite, evo_some, evs_toS, evs_seq, ev_C, ev_var, ev_op2, ev_op1, ev_opL, ev_nil, ev_cons, ev_call, ev_bVal, ev_bTru, ev_bNot, ev_bAnd, ev_bOr, ev_bYes, ev_cIf, ev_cNot, ev_cAnd, ev_cOr, ev_chain, ev_part_none, ev_part_some, ev_sl, ev_mth, evs_skip, evs_set, evs_ret, evs_expr, evs_if, evs_par, evs_as, ev_gN, ev_gsNil, ev_gsCons, ev_gTup, ev_gIx, evs_aug, ev_defF, evs_for, ev_rng1, ev_iSeq, ev_lc, o_addI, o_subI, o_addS, o_addT, o_mulI, o_modI, o_divI, o_powI, o_cmpI, o_intI, o_intB, o_absI, o_lst, o_tup, bl_bl, List.map_cons, List.map_nil, List.cons_append, List.nil_append, List.append_nil, List.getElem?_cons_zero, List.getElem?_cons_succ, List.set_cons_zero, List.set_cons_succ, List.length_cons, List.length_nil, List.replicate, Nat.reduceAdd, Nat.reduceSub, Nat.reduceLeDiff, true_and, and_true, if_true, decide_eq_true_eq, Nat.zero_add]
      exact hs L' (B2.upd u2.pool u) u.pool
    simp only [List.mem_cons, List.mem_nil_iff, or_false] at hw
    rcases hw with rfl | rfl
    · simp only [ix_dic1 B2.g0, vn, vm, wipeE, ev_ok, ev_bind, ev_only, ev_ofO, ev_ofOB, ev_ite, evs_ite, evo_some, evs_toS, evs_seq, ev_C, ev_var, ev_op2, ev_op1, ev_opL, ev_nil, ev_cons, ev_call, ev_bVal, ev_bTru, ev_bNot, ev_bAnd, ev_bOr, ev_bYes, ev_cIf, ev_cNot, ev_cAnd, ev_cOr, ev_chain, ev_part_none, ev_part_some, ev_sl, ev_mth, evs_skip, evs_set, evs_ret, evs_expr, evs_if, evs_par, evs_as, ev_gN, ev_gsNil, ev_gsCons, ev_gTup, ev_gIx, evs_aug, ev_defF, evs_for, ev_rng1, ev_iSeq, ev_lc, o_addI, o_subI, o_addS, o_addT, o_mulI, o_modI, o_divI, o_powI, o_cmpI, o_intI, o_intB, o_absI, o_lst, o_tup, bl_bl, List.map_cons, List.map_nil, List.cons_append, List.nil_append, List.append_nil, List.getElem?_cons_zero, List.getElem?_cons_succ, List.set_cons_zero, List.set_cons_succ, List.length_cons, List.length_nil, List.replicate, Nat.reduceAdd, Nat.reduceSub, Nat.reduceLeDiff, true_and, and_true, if_true, decide_eq_true_eq, Nat.zero_add]
      refine ⟨by decide, ?_⟩
      refine (lc_rng (k := 2) (by decide) u2.pool (fun v L' u => he _ v L' u)).mono fun acc L3 q => ?_
      obtain ⟨hl, hg, u3⟩ := q
      obtain ⟨a, b, rfl, ⟨ta, rfl, oa, da, sa⟩, ⟨tb, rfl, ob, db, sbb⟩⟩ := two hl hg
      have tu : oTuple [.ref L3.length] (L3 ++ [.lst [ta.enc, tb.enc]]) = some (.tup [ta.enc, tb.enc], L3 ++ [.lst [ta.enc, tb.enc]]) := by simp only [oTuple, seqL_at at_last]
      rw [tu, evo_some]
      refine hr _ _ (u02.trans (u3.trans (.of_pre u3.pool pre_last))) ⟨.call2 n2 ta tb, rfl, ⟨B.o2, oa, ob⟩, ?_, ?_⟩
      · simp only [Tm.dep]; omega
      · have := sb_pos m
        simp only [Tm.size]; unfold sb; simp only [sb] at sa sbb; omega
    · simp only [ix_dic1 B2.g1, vn, vm, wipeE, ev_ok, ev_bind, ev_only, ev_ofO, ev_ofOB, ev_ite, evs_ite, evo_some, evs_toS, evs_seq, ev_C, ev_var, ev_op2, ev_op1, ev_opL, ev_nil, ev_cons, ev_call, ev_bVal, ev_bTru, ev_bNot, ev_bAnd, ev_bOr, ev_bYes, ev_cIf, ev_cNot, ev_cAnd, ev_cOr, ev_chain, ev_part_none, ev_part_some, ev_sl, ev_mth, evs_skip, evs_set, evs_ret, evs_expr, evs_if, evs_par, evs_as, ev_gN, ev_gsNil, ev_gsCons, ev_gTup, ev_gIx, evs_aug, ev_defF, evs_for, ev_rng1, ev_iSeq, ev_lc, o_addI, o_subI, o_addS, o_addT, o_mulI, o_modI, o_divI, o_powI, o_cmpI, o_intI, o_intB, o_absI, o_lst, o_tup, bl_bl, List.map_cons, List.map_nil, List.cons_append, List.nil_append, List.append_nil, List.getElem?_cons_zero, List.getElem?_cons_succ, List.set_cons_zero, List.set_cons_succ, List.length_cons, List.length_nil, List.replicate, Nat.reduceAdd, Nat.reduceSub, Nat.reduceLeDiff, true_and, and_true, if_true, decide_eq_true_eq, Nat.zero_add]
      refine ⟨by decide, ?_⟩
      refine (lc_rng (k := 0) (by decide) u2.pool (fun v L' u => he _ v L' u)).mono fun acc L3 q => ?_
      obtain ⟨hl, hg, u3⟩ := q
      obtain rfl := List.length_eq_zero_iff.mp hl
      have tu : oTuple [.ref L3.length] (L3 ++ [.lst []]) = some (.tup [], L3 ++ [.lst []]) := by simp only [oTuple, seqL_at at_last]
      rw [tu, evo_some]
      refine hr _ _ (u02.trans (u3.trans (.of_pre u3.pool pre_last))) ⟨.call0 n3, rfl, B.o3, ?_, ?_⟩
      · simp only [Tm.dep]; omega
      · simp only [Tm.size]; unfold sb; omega
  · have b1 : (k == 4) = false := beq_eq_false_iff_ne.mpr h1
    simp only [b1, blW, Bool.false_eq_true, if_false]
    exact hn _ (.refl hp) h1
theorem tI6_ok {self : Fn} {m : Nat} (B : BOk L nb nc nf f0 f1 n0 n1 n2 n3) (hp : PoolOk p L) (hs : SelfOk many self p nb nc nf f0 f1 n0 n1 n2 n3 m) (hr : ∀ L' w, Upd p L L' → GT many (m + 1) w → R w L') (hn : k ≠ 7 → N (tEnv p nb many (m + 1) k x5 x6 x7) L) : EvS (tI6 self (tEnv p nb many (m + 1) k x5 x6 x7) L) N R := by
  have e1 : ((m + 1 : Nat) : Int) - 1 = m := by omega
  simp only [tI6, tEnv, wipeE, ev_ok, ev_bind, ev_only, ev_ofO, ev_ofOB, ev_ite, evs_ite, evo_some, evs_toS, evs_seq, ev_C, ev_var, ev_op2, ev_op1, ev_opL, ev_nil, ev_cons, ev_call, ev_bVal, ev_bTru, ev_bNot, ev_bAnd, ev_bOr, ev_bYes, ev_cIf, ev_cNot, ev_cAnd, ev_cOr, ev_chain, ev_part_none, ev_part_some, ev_sl, ev_mth, evs_skip, evs_set, evs_ret, evs_expr, evs_if, evs_par, evs_as, ev_gN, ev_gsNil, ev_gsCons, ev_gTup, ev_gIx, evs_aug, ev_defF, evs_for, ev_rng1, ev_iSeq, ev_lc, o_addI, o_subI, o_addS, o_addT, o_mulI, o_modI, o_divI, o_powI, o_cmpI, o_intI, o_intB, o_absI, o_lst, o_tup, bl_bl, List.map_cons, List.map_nil, List.cons_append, List.nil_append, List.append_nil, List.getElem?_cons_zero, List.getElem?_cons_succ, List.set_cons_zero, List.set_cons_succ, List.length_cons, List.length_nil, List.replicate, Nat.reduceAdd, Nat.reduceSub, Nat.reduceLeDiff, true_and, and_true, if_true, decide_eq_true_eq, Nat.zero_add, eqX_int]
  by_cases h1 : k = 7
  · subst h1
    simp only [beq_self_eq_true, blW, if_true]
    have he : ∀ v L', Upd p L L' → Ev (cCall self [] (cCons (cVar 0) (cCons (cVar 1) (cCons (cVar 2) (cCons (cOp2 oSub (cVar 3) (cC (.int 1))) cNil)))) ([some (.ref p), some (.ref nb), some (.int many), some (.int ((m + 1 : Nat) : Int)), some (.int 7), x5, x6, none].set 7 (some v)) L') fun y L'' => Upd p L' L'' ∧ GT many m y := fun v L' u => by
      simp only [wipeE, ev_ok, ev_bind, ev_only, ev_ofO, ev_ofOB, ev_ite, evs_ite, evo_some, evs_toS, evs_seq, ev_C, ev_var, ev_op2, ev_op1, ev_opL, ev_nil, ev_cons, ev_call, ev_bVal, ev_bTru, ev_bNot, ev_bAnd, ev_bOr, ev_bYes, ev_cIf, ev_cNot, ev_cAnd, ev_cOr, ev_chain, ev_part_none, ev_part_some, ev_sl, ev_mth, evs_skip, evs_set, evs_ret, evs_expr, evs_if, evs_par, evs_as, ev_gN, ev_gsNil, ev_gsCons, ev_gTup, ev_gIx, evs_aug, ev_defF, evs_for, ev_rng1, ev_iSeq, ev_lc, o_addI, o_subI, o_addS, o_addT, o_mulI, o_modI, o_divI, o_powI, o_cmpI, o_intI, o_intB, o_absI, o_lst, o_tup, bl_bl, List.map_cons, List.map_nil, List.cons_append, List.nil_append, List.append_nil, List.getElem?_cons_zero, List.getElem?_cons_succ, List.set_cons_zero, List.set_cons_succ, List.length_cons, List.length_nil, List.replicate, Nat.reduceAdd, Nat.reduceSub, Nat.reduceLeDiff, true_and, and_true, if_true, decide_eq_true_eq, Nat.zero_add, e1]
      exact hs L' (B.upd hp u) u.pool
    refine ⟨by decide, ?_⟩
    refine (lc_rng (k := 3) (by decide) hp (fun v L' u => he v L' u)).mono fun acc L3 q => ?_
    obtain ⟨hl, hg, u3⟩ := q
    obtain ⟨a, b, c, rfl, ⟨ta, rfl, oa, da, sa⟩, ⟨tb, rfl, ob, db, sbb⟩, ⟨tc, rfl, oc, dc, sc⟩⟩ := three hl hg
    have tu : oTuple [.ref L3.length] (L3 ++ [.lst [ta.enc, tb.enc, tc.enc]]) = some (.tup [ta.enc, tb.enc, tc.enc], L3 ++ [.lst [ta.enc, tb.enc, tc.enc]]) := by simp only [oTuple, seqL_at at_last]
    rw [tu, evo_some, o_addT]
    refine ⟨by simp, hr _ _ (u3.trans (.of_pre u3.pool pre_last)) ⟨.ite ta tb tc, rfl, ⟨oa, ob, oc⟩, ?_, ?_⟩⟩
    · simp only [Tm.dep]; omega
    · simp only [Tm.size]; unfold sb; omega
  · have b1 : (k == 7) = false := beq_eq_false_iff_ne.mpr h1
    simp only [b1, blW, Bool.false_eq_true, if_false]
    exact hn h1
theorem tI78_ok {self : Fn} {m : Nat} (B : BOk L nb nc nf f0 f1 n0 n1 n2 n3) (hp : PoolOk p L) (hs : SelfOk many self p nb nc nf f0 f1 n0 n1 n2 n3 m) (hr : ∀ L' w, Upd p L L' → GT many (m + 1) w → R w L') : EvS (sSeq tI7 (tI8 self) (tEnv p nb many (m + 1) k x5 x6 x7) L) N R := by
  have e1 : ((m + 1 : Nat) : Int) - 1 = m := by omega
  simp only [tI7, tI8, tEnv, wipeE, ev_ok, ev_bind, ev_only, ev_ofO, ev_ofOB, ev_ite, evs_ite, evo_some, evs_toS, evs_seq, ev_C, ev_var, ev_op2, ev_op1, ev_opL, ev_nil, ev_cons, ev_call, ev_bVal, ev_bTru, ev_bNot, ev_bAnd, ev_bOr, ev_bYes, ev_cIf, ev_cNot, ev_cAnd, ev_cOr, ev_chain, ev_part_none, ev_part_some, ev_sl, ev_mth, evs_skip, evs_set, evs_ret, evs_expr, evs_if, evs_par, evs_as, ev_gN, ev_gsNil, ev_gsCons, ev_gTup, ev_gIx, evs_aug, ev_defF, evs_for, ev_rng1, ev_iSeq, ev_lc, o_addI, o_subI, o_addS, o_addT, o_mulI, o_modI, o_divI, o_powI, o_cmpI, o_intI, o_intB, o_absI, o_lst, o_tup, bl_bl, List.map_cons, List.map_nil, List.cons_append, List.nil_append, List.append_nil, List.getElem?_cons_zero, List.getElem?_cons_succ, List.set_cons_zero, List.set_cons_succ, List.length_cons, List.length_nil, List.replicate, Nat.reduceAdd, Nat.reduceSub, Nat.reduceLeDiff, true_and, and_true, if_true, decide_eq_true_eq, Nat.zero_add]
  have u1 : Upd p L (L ++ [LO.lst [W.str "plus", W.str "less", W.str "same"]]) := .of_pre hp pre_last
  have hne : L.length ≠ p := by
    obtain ⟨a, b, e, _⟩ := hp
    have := (List.getElem?_eq_some_iff.mp e).1
    omega
  refine (pick_at u1.pool at_last hne (by decide) (by decide)).mono fun w L2 q => ?_
  obtain ⟨hw, u2⟩ := q
  have u02 := u1.trans u2
  obtain ⟨hh, rfl, ho⟩ : ∃ hh : Str, w = .str hh ∧ (hh = "plus" ∨ hh = "less" ∨ hh = "same") := by
    simp only [List.mem_cons, List.mem_nil_iff, or_false] at hw
    rcases hw with rfl | rfl | rfl
    · exact ⟨_, rfl, .inl rfl⟩
    · exact ⟨_, rfl, .inr (.inl rfl)⟩
    · exact ⟨_, rfl, .inr (.inr rfl)⟩
  simp only [e1]
  refine (hs L2 (B.upd hp u02) u02.pool).mono fun w L3 q => ?_
  obtain ⟨u3, ta, rfl, oa, da, sa⟩ := q
  have u03 := u02.trans u3
  refine (hs L3 (B.upd hp u03) u03.pool).mono fun w L4 q => ?_
  obtain ⟨u4, tb, rfl, ob, db, sbb⟩ := q
  refine hr _ _ (u03.trans u4) ⟨.bin hh ta tb, rfl, ⟨ho, oa, ob⟩, ?_, ?_⟩
  · simp only [Tm.dep]; omega
  · simp only [Tm.size]; unfold sb; omega
end
theorem term_step {self : Fn} {n : Nat} (hm0 : 0 ≤ many) (hm2 : many ≤ 2) (h : TmS many self n) : TmS many (c_term self) (n + 1) := fun deep hd p nb nc nf f0 f1 n0 n1 n2 n3 L B hp => by
  have leaf : ∀ {L1 : LH} {t : Tm}, Upd p L L1 → t.ok many → t.dep = 1 → t.size = 1 → Upd p L L1 ∧ GT many deep t.enc := fun {L1 t} u h1 h2 h3 => ⟨u, t, rfl, h1, by omega, by have := sb_pos deep; omega⟩
  have rest : ∀ (L1 : LH) (k : Int), Upd p L L1 → 0 ≤ k → (deep = 0 → k < 4) →
      EvS (sSeq tI1 (sSeq tI2 (sSeq tI3 (sSeq tI4 (sSeq (tI5 self) (sSeq (tI6 self) (sSeq tI7 (tI8 self))))))) (tEnv p nb many deep k none none none) L1) (fun _ _ => False) (fun w L' => Upd p L L' ∧ GT many deep w) := fun L1 k u1 hk0 hk => by
    have B1 := B.upd hp u1
    rw [evs_seq]
    refine tI1_ok B1 u1.pool (fun L' i u h1 h2 => leaf (t := .val i) (u1.trans u) ⟨h1, by omega⟩ rfl rfl) fun L2 u2 k0 k1 => ?_
    have u2 := u1.trans u2
    have B2 := B.upd hp u2
    rw [evs_seq]
    refine tI2_ok u2.pool hm2 (fun e => by have := fun q => k1 ⟨e, q⟩; omega) (fun L' i u h1 h2 => leaf (t := .arg i) (u2.trans u) ⟨h1, h2⟩ rfl rfl) fun k2 => ?_
    rw [evs_seq]
    refine tI3_ok B2 u2.pool (fun L' s u hs => leaf (t := .cell s) (u2.trans u) hs rfl rfl) fun k3 k4 => ?_
    rw [evs_seq]
    refine tI4_ok u2.pool (fun L' i u h1 h2 => leaf (t := .val i) (u2.trans u) ⟨h1, by omega⟩ rfl rfl) (fun L' u => leaf (t := .tick) (u2.trans u) trivial rfl rfl) fun k5 => ?_
    cases deep with
    | zero => have := hk rfl; omega
    | succ m =>
      have s0 : SelfOk many self p nb nc nf f0 f1 n0 n1 n2 n3 0 := fun L' B' hp' => h 0 (by omega) p nb nc nf f0 f1 n0 n1 n2 n3 L' B' hp'
      have sm : SelfOk many self p nb nc nf f0 f1 n0 n1 n2 n3 m := fun L' B' hp' => h m (by omega) p nb nc nf f0 f1 n0 n1 n2 n3 L' B' hp'
      rw [evs_seq]
      refine tI5_ok B2 u2.pool s0 (fun L' w u g => ⟨u2.trans u, g⟩) fun L3 u3 k6 => ?_
      have u3 := u2.trans u3
      have B3 := B.upd hp u3
      rw [evs_seq]
      refine tI6_ok B3 u3.pool sm (fun L' w u g => ⟨u3.trans u, g⟩) fun k7 => ?_
      exact tI78_ok B3 u3.pool sm (fun L' w u g => ⟨u3.trans u, g⟩)
  rw [c_term_eq, ev_defF]
  refine ⟨rfl, ?_⟩
  rw [evs_seq]
  simp only [tI0, wipeE, ev_ok, ev_bind, ev_only, ev_ofO, ev_ofOB, ev_ite, evs_ite, evo_some, evs_toS, evs_seq, ev_C, ev_var, ev_op2, ev_op1, ev_opL, ev_nil, ev_cons, ev_call, ev_bVal, ev_bTru, ev_bNot, ev_bAnd, ev_bOr, ev_bYes, ev_cIf, ev_cNot, ev_cAnd, ev_cOr, ev_chain, ev_part_none, ev_part_some, ev_sl, ev_mth, evs_skip, evs_set, evs_ret, evs_expr, evs_if, evs_par, evs_as, ev_gN, ev_gsNil, ev_gsCons, ev_gTup, ev_gIx, evs_aug, ev_defF, evs_for, ev_rng1, ev_iSeq, ev_lc, o_addI, o_subI, o_addS, o_addT, o_mulI, o_modI, o_divI, o_powI, o_cmpI, o_intI, o_intB, o_absI, o_lst, o_tup, bl_bl, List.map_cons, List.map_nil, List.cons_append, List.nil_append, List.append_nil, List.getElem?_cons_zero, List.getElem?_cons_succ, List.set_cons_zero, List.set_cons_succ, List.length_cons, List.length_nil, List.replicate, Nat.reduceAdd, Nat.reduceSub, Nat.reduceLeDiff, true_and, and_true, if_true, decide_eq_true_eq, Nat.zero_add, oGt, o_cmpI]
  split
  · refine ev_draw hp (by decide) (by decide) fun r h1 h2 L' u => ?_
    have hh := (rest L' r u h1 (by omega)).mono (N' := fun _ L' => Upd p L L' ∧ GT many deep .non) (fun _ _ q => q.elim) fun _ _ q => q
    simp only [evs_seq] at hh
    exact hh
  · refine ev_draw hp (by decide) (by decide) fun r h1 h2 L' u => ?_
    have hh := (rest L' r u h1 (by omega)).mono (N' := fun _ L' => Upd p L L' ∧ GT many deep .non) (fun _ _ q => q.elim) fun _ _ q => q
    simp only [evs_seq] at hh
    exact hh
end Z

/-! YE: _law_pool, _law_names. -/
namespace Z
open PySem PySem.Spec PyProof.Rows L2
theorem lc_rngI {p j k : Nat} {e : Ex} {env : Env} {L0 : LH} {G : W → Prop} (hk : k ≤ 1000) (hp : PoolOk p L0) (he : ∀ (i : Nat) L, i < k → Upd p L0 L → Ev (e (env.set j (some (.int i))) L) fun y L' => Upd p L L' ∧ G y) :
    Ev (lcLoop (srcR 0 k) (.one j) bYes e env ((srcR 0 k).len + 1) 0 L0 []) fun acc L' => acc.length = k ∧ (∀ y ∈ acc, G y) ∧ Upd p L0 L' := by
  refine lc_inv (P := fun i L acc => acc.length = i ∧ (∀ y ∈ acc, G y) ∧ Upd p L0 L) (n := k) (fun i L acc hi q => ?_) (fun L acc q => ?_) k 0 L0 [] (by omega) ⟨rfl, by simp, .refl hp⟩
  · obtain ⟨h1, h2, u⟩ := q
    refine ⟨.int i, by simp [srcR, hi], _, rfl, ?_⟩
    rw [ev_bYes]
    simp only [if_true]
    refine (he i L hi u).mono fun y L' q => ?_
    refine ⟨by omega, by rw [List.length_append, h1]; rfl, fun z hz => ?_, u.trans q.1⟩
    rcases List.mem_append.mp hz with hz | hz
    · exact h2 z hz
    · rw [List.mem_singleton.mp hz]; exact q.2
  · exact ⟨by simp [srcR], q⟩
def endsL : List (Str × Str) := [("", ""), ("", "q"), ("ab", ""), ("abcdefg", ""), ("", "abcdefg")]
theorem ends_ok : endsL.all (fun e => letters.cps.toList.all fun c => nameB (e.1 ++ ⟨#[c]⟩ ++ e.2) && PyData.strOk (e.1 ++ ⟨#[c]⟩ ++ e.2) && decide (e.1.length + 1 ≤ 100 ∧ (e.1 ++ ⟨#[c]⟩).length + e.2.length ≤ 100)) = true := by decide +kernel
theorem letters_len : letters.cps.toList.length = 26 := by decide +kernel
theorem ix_letters {L : LH} {r : Int} (h0 : 0 ≤ r) (h1 : r < 26) : ∃ c ∈ letters.cps.toList, oIx (.str letters) (.int r) L = some (.str ⟨#[c]⟩, L) := by
  obtain ⟨rn, rfl⟩ : ∃ rn : Nat, r = rn := ⟨r.toNat, by omega⟩
  have hrn : rn < letters.cps.toList.length := by rw [letters_len]; omega
  refine ⟨letters.cps.toList[rn], List.getElem_mem hrn, ?_⟩
  have hl : letters.length ≤ 16777216 := by decide +kernel
  unfold oIx
  show oIxS _ _ _ = _
  unfold oIxS
  simp only [if_pos hl, atI_nat (List.getElem?_eq_getElem hrn), Option.map]
theorem names_ok {p : Nat} {L : LH} (hp : PoolOk p L) : Ev (f_law_names f_law_draw c_pick [.ref p, .int 4] L) fun w L' => Upd p L L' ∧ ∃ n s0 s1 s2 s3, w = .ref n ∧ L.length ≤ n ∧ L'[n]? = some (.lst [.str s0, .str s1, .str s2, .str s3]) ∧ Tm.NameOk s0 ∧ Tm.NameOk s1 ∧ Tm.NameOk s2 ∧ Tm.NameOk s3 := by
  have hlp : p < L.length := by obtain ⟨a, b, e, _⟩ := hp; exact (List.getElem?_eq_some_iff.mp e).1
  simp only [f_law_names, wipeE, ev_ok, ev_bind, ev_only, ev_ofO, ev_ofOB, ev_ite, evs_ite, evo_some, evs_toS, evs_seq, ev_C, ev_var, ev_op2, ev_op1, ev_opL, ev_nil, ev_cons, ev_call, ev_bVal, ev_bTru, ev_bNot, ev_bAnd, ev_bOr, ev_bYes, ev_cIf, ev_cNot, ev_cAnd, ev_cOr, ev_chain, ev_part_none, ev_part_some, ev_sl, ev_mth, evs_skip, evs_set, evs_ret, evs_expr, evs_if, evs_par, evs_as, ev_gN, ev_gsNil, ev_gsCons, ev_gTup, ev_gIx, evs_aug, ev_defF, evs_for, ev_rng1, ev_iSeq, ev_lc, o_addI, o_subI, o_addS, o_addT, o_mulI, o_modI, o_divI, o_powI, o_cmpI, o_intI, o_intB, o_absI, o_lst, o_tup, bl_bl, List.map_cons, List.map_nil, List.cons_append, List.nil_append, List.append_nil, List.getElem?_cons_zero, List.getElem?_cons_succ, List.set_cons_zero, List.set_cons_succ, List.length_cons, List.length_nil, List.replicate, Nat.reduceAdd, Nat.reduceSub, Nat.reduceLeDiff, true_and, and_true, if_true, decide_eq_true_eq, Nat.zero_add]
  refine ev_draw hp (by decide) (by decide) fun og og0 og1 L1 u1 => ?_
  refine ev_draw u1.pool (by decide) (by decide) fun st st0 st1 L2 u2 => ?_
  have u02 := u1.trans u2
  simp only [wipeE, ev_ok, ev_bind, ev_only, ev_ofO, ev_ofOB, ev_ite, evs_ite, evo_some, evs_toS, evs_seq, ev_C, ev_var, ev_op2, ev_op1, ev_opL, ev_nil, ev_cons, ev_call, ev_bVal, ev_bTru, ev_bNot, ev_bAnd, ev_bOr, ev_bYes, ev_cIf, ev_cNot, ev_cAnd, ev_cOr, ev_chain, ev_part_none, ev_part_some, ev_sl, ev_mth, evs_skip, evs_set, evs_ret, evs_expr, evs_if, evs_par, evs_as, ev_gN, ev_gsNil, ev_gsCons, ev_gTup, ev_gIx, evs_aug, ev_defF, evs_for, ev_rng1, ev_iSeq, ev_lc, o_addI, o_subI, o_addS, o_addT, o_mulI, o_modI, o_divI, o_powI, o_cmpI, o_intI, o_intB, o_absI, o_lst, o_tup, bl_bl, List.map_cons, List.map_nil, List.cons_append, List.nil_append, List.append_nil, List.getElem?_cons_zero, List.getElem?_cons_succ, List.set_cons_zero, List.set_cons_succ, List.length_cons, List.length_nil, List.replicate, Nat.reduceAdd, Nat.reduceSub, Nat.reduceLeDiff, true_and, and_true, if_true, decide_eq_true_eq, Nat.zero_add]
  refine ⟨.inl (by decide), ?_⟩
  generalize hE : [W.tup [W.str "", W.str ""], W.tup [W.str "", W.str "q"], W.tup [W.str "ab", W.str ""], W.tup [W.str "abcdefg", W.str ""], W.tup [W.str "", W.str "abcdefg"]] = E
  have u3 : Upd p L2 (L2 ++ [LO.lst E]) := .of_pre u2.pool pre_last
  have hle : L.length ≤ L2.length := u02.len
  refine (pick_at u3.pool at_last (by omega) (by rw [← hE]; decide) (by rw [← hE]; decide)).mono fun w L3 q => ?_
  obtain ⟨hw, u4⟩ := q
  have u24 := u02.trans (u3.trans u4)
  obtain ⟨hd, tl, rfl, hm⟩ : ∃ hd tl : Str, w = .tup [.str hd, .str tl] ∧ (hd, tl) ∈ endsL := by
    rw [← hE] at hw
    simp only [List.mem_cons, List.mem_nil_iff, or_false] at hw
    rcases hw with rfl | rfl | rfl | rfl | rfl <;> exact ⟨_, _, rfl, by simp [endsL]⟩
  simp only [wipeE, ev_ok, ev_bind, ev_only, ev_ofO, ev_ofOB, ev_ite, evs_ite, evo_some, evs_toS, evs_seq, ev_C, ev_var, ev_op2, ev_op1, ev_opL, ev_nil, ev_cons, ev_call, ev_bVal, ev_bTru, ev_bNot, ev_bAnd, ev_bOr, ev_bYes, ev_cIf, ev_cNot, ev_cAnd, ev_cOr, ev_chain, ev_part_none, ev_part_some, ev_sl, ev_mth, evs_skip, evs_set, evs_ret, evs_expr, evs_if, evs_par, evs_as, ev_gN, ev_gsNil, ev_gsCons, ev_gTup, ev_gIx, evs_aug, ev_defF, evs_for, ev_rng1, ev_iSeq, ev_lc, o_addI, o_subI, o_addS, o_addT, o_mulI, o_modI, o_divI, o_powI, o_cmpI, o_intI, o_intB, o_absI, o_lst, o_tup, bl_bl, List.map_cons, List.map_nil, List.cons_append, List.nil_append, List.append_nil, List.getElem?_cons_zero, List.getElem?_cons_succ, List.set_cons_zero, List.set_cons_succ, List.length_cons, List.length_nil, List.replicate, Nat.reduceAdd, Nat.reduceSub, Nat.reduceLeDiff, true_and, and_true, if_true, decide_eq_true_eq, Nat.zero_add]
  have hall := List.all_eq_true.mp ends_ok _ hm
  refine ⟨by decide, ?_⟩
  refine (lc_rngI (k := 4) (G := fun y => ∃ s, y = .str s ∧ Tm.NameOk s) (by decide) u24.pool (fun i L' hi u => ?_)).mono fun acc L4 q => ?_
  · have r0 := Int.emod_nonneg (og + (1 + 2 * st) * (i : Int)) (show (26 : Int) ≠ 0 by decide)
    have r1 := Int.emod_lt_of_pos (og + (1 + 2 * st) * (i : Int)) (show (0 : Int) < 26 by decide)
    obtain ⟨c, hc, hx⟩ := ix_letters (L := L') r0 r1
    have hok := List.all_eq_true.mp hall c hc
    rw [Bool.and_eq_true, Bool.and_eq_true, decide_eq_true_eq] at hok
    have hx' : oIx (.str "abcdefghijklmnopqrstuvwxyz") (.int ((og + (1 + 2 * st) * (i : Int)) % 26)) L' = some (.str ⟨#[c]⟩, L') := hx
    simp only [wipeE, ev_ok, ev_bind, ev_only, ev_ofO, ev_ofOB, ev_ite, evs_ite, evo_some, evs_toS, evs_seq, ev_C, ev_var, ev_op2, ev_op1, ev_opL, ev_nil, ev_cons, ev_call, ev_bVal, ev_bTru, ev_bNot, ev_bAnd, ev_bOr, ev_bYes, ev_cIf, ev_cNot, ev_cAnd, ev_cOr, ev_chain, ev_part_none, ev_part_some, ev_sl, ev_mth, evs_skip, evs_set, evs_ret, evs_expr, evs_if, evs_par, evs_as, ev_gN, ev_gsNil, ev_gsCons, ev_gTup, ev_gIx, evs_aug, ev_defF, evs_for, ev_rng1, ev_iSeq, ev_lc, o_addI, o_subI, o_addS, o_addT, o_mulI, o_modI, o_divI, o_powI, o_cmpI, o_intI, o_intB, o_absI, o_lst, o_tup, bl_bl, List.map_cons, List.map_nil, List.cons_append, List.nil_append, List.append_nil, List.getElem?_cons_zero, List.getElem?_cons_succ, List.set_cons_zero, List.set_cons_succ, List.length_cons, List.length_nil, List.replicate, Nat.reduceAdd, Nat.reduceSub, Nat.reduceLeDiff, true_and, and_true, if_true, decide_eq_true_eq, Nat.zero_add, hx', o_addS]
    refine ⟨.inr ⟨by omega, by omega⟩, by decide, ?_, ?_, .refl u.pool, _, rfl, ⟨hok.1.1, hok.1.2⟩⟩
    · exact Nat.le_trans hok.2.1 (by decide)
    · exact Nat.le_trans hok.2.2 (by decide)
  · obtain ⟨hl, hg, u5⟩ := q
    match acc, hl with
    | [a, b, c, d], _ =>
      obtain ⟨s0, rfl, k0⟩ := hg a (by simp)
      obtain ⟨s1, rfl, k1⟩ := hg b (by simp)
      obtain ⟨s2, rfl, k2⟩ := hg c (by simp)
      obtain ⟨s3, rfl, k3⟩ := hg d (by simp)
      have ul := (u24.trans u5).len
      exact ⟨(u24.trans u5).trans (.of_pre u5.pool pre_last), _, s0, s1, s2, s3, rfl, ul, at_last, k0, k1, k2, k3⟩
@[irreducible] def sPoolR : Sx := (sSeq (sSet 3 (cOpL oAbs (cCons (cVar 2) cNil))) (sSeq (sSet 4 (cOp2 oAdd (cOp2 oAdd (cOp2 oAdd (cOp2 oMod (cOpL oInt (cCons (cVar 3) cNil)) (cC (.int 2147483629))) (cOp2 oMul (cOp2 oMul (cC (.int 7919)) (cVar 1)) (cVar 1))) (cOp2 oMul (cC (.int 31)) (cVar 1))) (cC (.int 17)))) (sSeq (sSet 4 (cOp2 oMod (cOpL oInt (cCons (cOp2 oMul (cVar 4) (cC (.int 48271))) cNil)) (cC (.int 2147483647)))) (sRet (cOpL oLst (cCons (cOp2 oMul (cVar 3) (cOpL oInt (cCons (cOp2 oGe (cVar 3) (cOp2 oPow (cC (.int 10)) (cC (.int 18)))) cNil))) (cCons (cOp2 oMod (cOpL oInt (cCons (cOp2 oMul (cVar 4) (cVar 4)) cNil)) (cC (.int 2147483629))) cNil)))))))
theorem f_law_pool_eq : f_law_pool = defF 5 2 (sSeq (sSet 2 (cIf (bVal (cOp2 oLt (cVar 1) (cOpL oLen (cCons (cVar 0) cNil)))) (cOp2 oIx (cVar 0) (cVar 1)) (cOp2 oAdd (cOp2 oMul (cC (.int 7)) (cOpL oSum (cCons (cSl (cVar 0) none (some (cC (.int 63)))) cNil))) (cVar 1)))) sPoolR) := by
  unfold sPoolR
  rfl
-- sPoolR stays closed
theorem poolR_ok {ns : List Int} {k : Nat} {L L1 : LH} {z : Int} {N : Env → LH → Prop} (hk : k ≤ 1) (p1 : L <+: L1) : EvS (sPoolR [some (.scr ns), some (.int k), some (.int z), none, none] L1) N fun w L' => ∃ p, w = .ref p ∧ L.length ≤ p ∧ L <+: L' ∧ PoolOk p L' := by
  simp only [sPoolR, wipeE, ev_ok, ev_bind, ev_only, ev_ofO, ev_ofOB, ev_ite, evs_ite, evo_some, evs_toS, evs_seq, ev_C, ev_var, ev_op2, ev_op1, ev_opL, ev_nil, ev_cons, ev_call, ev_bVal, ev_bTru, ev_bNot, ev_bAnd, ev_bOr, ev_bYes, ev_cIf, ev_cNot, ev_cAnd, ev_cOr, ev_chain, ev_part_none, ev_part_some, ev_sl, ev_mth, evs_skip, evs_set, evs_ret, evs_expr, evs_if, evs_par, evs_as, ev_gN, ev_gsNil, ev_gsCons, ev_gTup, ev_gIx, evs_aug, ev_defF, evs_for, ev_rng1, ev_iSeq, ev_lc, o_addI, o_subI, o_addS, o_addT, o_mulI, o_modI, o_divI, o_powI, o_cmpI, o_intI, o_intB, o_absI, o_lst, o_tup, bl_bl, List.map_cons, List.map_nil, List.cons_append, List.nil_append, List.append_nil, List.getElem?_cons_zero, List.getElem?_cons_succ, List.set_cons_zero, List.set_cons_succ, List.length_cons, List.length_nil, List.replicate, Nat.reduceAdd, Nat.reduceSub, Nat.reduceLeDiff, true_and, and_true, if_true, decide_eq_true_eq, Nat.zero_add, oGe, o_cmpI]
  have hs : 0 ≤ (if z < 0 then -z else z) := by split <;> omega
  generalize (if z < 0 then -z else z) = s at hs ⊢
  have hm0 := Int.emod_nonneg ((s % 2147483629 + 7919 * (k : Int) * (k : Int) + 31 * (k : Int) + 17) * 48271) (show (2147483647 : Int) ≠ 0 by decide)
  have hm1 := Int.emod_lt_of_pos ((s % 2147483629 + 7919 * (k : Int) * (k : Int) + 31 * (k : Int) + 17) * 48271) (show (0 : Int) < 2147483647 by decide)
  generalize (s % 2147483629 + 7919 * (k : Int) * (k : Int) + 31 * (k : Int) + 17) * 48271 % 2147483647 = m at hm0 hm1 ⊢
  have hb : 0 ≤ (if (10 : Int) ^ Int.toNat 18 ≤ s then (1 : Int) else 0) ∧ (if (10 : Int) ^ Int.toNat 18 ≤ s then (1 : Int) else 0) ≤ 1 := by split <;> decide
  generalize (if (10 : Int) ^ Int.toNat 18 ≤ s then (1 : Int) else 0) = b at hb ⊢
  refine ⟨by decide, .inl (by decide), .inr ⟨by omega, by omega⟩, .inl (by decide), .inr (by decide), by decide, ⟨by decide, by decide, by decide⟩, .inr ⟨by omega, by omega⟩, .inl ⟨by omega, by omega⟩, by decide, _, rfl, p1.length_le, p1.trans pre_last, _, _, at_last, Int.mul_nonneg hs hb.1, Int.emod_nonneg _ (by decide), ?_⟩
  exact Int.lt_trans (Int.emod_lt_of_pos _ (by decide)) (by decide)
theorem scr_len {ns : List Int} {L : LH} : oLen [.scr ns] L = some (.int ns.length, L) := oLen_eq (by simp only [lenW, dicW, seqW, Option.map, List.length_map])
theorem scr_ix {ns : List Int} {k : Nat} {L : LH} (h : k < ns.length) : oIx (.scr ns) (.int k) L = some (.int ns[k], L) := by
  unfold oIx
  show oIxS _ _ _ = _
  unfold oIxS
  simp only [seqW]
  rw [atI_nat (j := k) (by rw [List.getElem?_map, List.getElem?_eq_getElem h]; rfl)]
  rfl
theorem scr_sl {ns : List Int} {L : LH} {b : Int} : ∃ ms : List Int, oSl (.scr ns) none (some b) L = some (.ref L.length, L ++ [.lst (ms.map .int)]) := by
  refine ⟨(ns.drop (HT.sIx ns.length 0 none)).take (HT.sIx ns.length ns.length (some b) - HT.sIx ns.length 0 none), ?_⟩
  simp only [oSl, seqW, cutW, List.length_map]
  rw [List.map_take, List.map_drop]
def xCell : Ex := cIf (bVal (cOp2 oLt (cVar 1) (cOpL oLen (cCons (cVar 0) cNil)))) (cOp2 oIx (cVar 0) (cVar 1)) (cOp2 oAdd (cOp2 oMul (cC (.int 7)) (cOpL oSum (cCons (cSl (cVar 0) none (some (cC (.int 63)))) cNil))) (cVar 1))
theorem f_law_pool_eq2 : f_law_pool = defF 5 2 (sSeq (sSet 2 xCell) sPoolR) := f_law_pool_eq
theorem cell_ok {ns : List Int} {k : Nat} {L : LH} {x2 x3 x4 : Option W} : Ev (xCell [some (.scr ns), some (.int k), x2, x3, x4] L) fun w L1 => ∃ z : Int, w = .int z ∧ L <+: L1 := by
  simp only [xCell, wipeE, ev_ok, ev_bind, ev_only, ev_ofO, ev_ofOB, ev_ite, evs_ite, evo_some, evs_toS, evs_seq, ev_C, ev_var, ev_op2, ev_op1, ev_opL, ev_nil, ev_cons, ev_call, ev_bVal, ev_bTru, ev_bNot, ev_bAnd, ev_bOr, ev_bYes, ev_cIf, ev_cNot, ev_cAnd, ev_cOr, ev_chain, ev_part_none, ev_part_some, ev_sl, ev_mth, evs_skip, evs_set, evs_ret, evs_expr, evs_if, evs_par, evs_as, ev_gN, ev_gsNil, ev_gsCons, ev_gTup, ev_gIx, evs_aug, ev_defF, evs_for, ev_rng1, ev_iSeq, ev_lc, o_addI, o_subI, o_addS, o_addT, o_mulI, o_modI, o_divI, o_powI, o_cmpI, o_intI, o_intB, o_absI, o_lst, o_tup, bl_bl, List.map_cons, List.map_nil, List.cons_append, List.nil_append, List.append_nil, List.getElem?_cons_zero, List.getElem?_cons_succ, List.set_cons_zero, List.set_cons_succ, List.length_cons, List.length_nil, List.replicate, Nat.reduceAdd, Nat.reduceSub, Nat.reduceLeDiff, true_and, and_true, if_true, decide_eq_true_eq, Nat.zero_add, scr_len, oLt, o_cmpI]
  split
  · rename_i h
    have hlt : k < ns.length := by omega
    rw [scr_ix hlt, evo_some]
    exact ⟨_, rfl, List.prefix_refl _⟩
  · obtain ⟨ms, e⟩ := scr_sl (ns := ns) (L := L) (b := 63)
    rw [e, evo_some, sum_at at_last, evo_some]
    simp only [wipeE, ev_ok, ev_bind, ev_only, ev_ofO, ev_ofOB, ev_ite, evs_ite, evo_some, evs_toS, evs_seq, ev_C, ev_var, ev_op2, ev_op1, ev_opL, ev_nil, ev_cons, ev_call, ev_bVal, ev_bTru, ev_bNot, ev_bAnd, ev_bOr, ev_bYes, ev_cIf, ev_cNot, ev_cAnd, ev_cOr, ev_chain, ev_part_none, ev_part_some, ev_sl, ev_mth, evs_skip, evs_set, evs_ret, evs_expr, evs_if, evs_par, evs_as, ev_gN, ev_gsNil, ev_gsCons, ev_gTup, ev_gIx, evs_aug, ev_defF, evs_for, ev_rng1, ev_iSeq, ev_lc, o_addI, o_subI, o_addS, o_addT, o_mulI, o_modI, o_divI, o_powI, o_cmpI, o_intI, o_intB, o_absI, o_lst, o_tup, bl_bl, List.map_cons, List.map_nil, List.cons_append, List.nil_append, List.append_nil, List.getElem?_cons_zero, List.getElem?_cons_succ, List.set_cons_zero, List.set_cons_succ, List.length_cons, List.length_nil, List.replicate, Nat.reduceAdd, Nat.reduceSub, Nat.reduceLeDiff, true_and, and_true, if_true, decide_eq_true_eq, Nat.zero_add]
    exact ⟨.inl (by decide), _, rfl, pre_last⟩
theorem pool_ok {ns : List Int} {k : Nat} {L : LH} (hk : k ≤ 1) : Ev (f_law_pool [.scr ns, .int k] L) fun w L' => ∃ p, w = .ref p ∧ L.length ≤ p ∧ L <+: L' ∧ PoolOk p L' := by
  rw [f_law_pool_eq2, ev_defF]
  refine ⟨rfl, ?_⟩
  rw [evs_seq, evs_set]
  refine Ev.mono cell_ok fun w L1 q => ?_
  obtain ⟨z, rfl, p1⟩ := q
  exact poolR_ok hk p1
end Z

/-! YF: the parts of law_k03. -/
namespace Z
open PySem PySem.Spec PyProof.Rows L2
variable {many : Int}
theorem nameB_A : nameB "A" = false := by decide +kernel
theorem nameB_F : nameB "F" = false := by decide +kernel
theorem so_f : PyData.strOk "f" = true := by decide +kernel
theorem so_Plus : PyData.strOk "Plus" = true := by decide +kernel
@[simp] theorem sn_Plus_arg : (Str.ofString "Plus" = Str.ofString "arg") = False := eq_false (by decide +kernel)
@[simp] theorem sn_Plus_cell : (Str.ofString "Plus" = Str.ofString "cell") = False := eq_false (by decide +kernel)
@[simp] theorem sn_Plus_call : (Str.ofString "Plus" = Str.ofString "call") = False := eq_false (by decide +kernel)
def oddsOf (many : Int) (r1 r2 : Nat) : List W := [.non, .int 3, .int (-1), .bl true, .str "1", .tup [], .tup [.str "arg", .int many], .tup [.str "arg", .bl true], .tup [.str "cell", .str "A"], .tup [.str "cell"], .tup [.str "tick", .int 1], .ref r1] ++ [.tup [.str "plus", .int 1], .tup [.str "less", .int 0, .int 1, .int 2], .tup [.str "if", .int 1, .int 1], .tup [.str "call", .str "f", .ref r2], .tup [.str "call", .str "f", .tup [.int 1, .int 1, .int 1]], .tup [.str "call", .str "F", .tup []]] ++ [.tup [.str "Plus", .int 1, .int 1], .tup [.str "same", .int 0, .non], .tup [.int 1, .int 1, .int 1], .tup [.str "call", .str "f"], .tup [.str "call", .str "f", .tup [.non]]]
/-- no tuple -/
theorem fk_flat {L : LH} {w : W} (h : ∃ t, tyName w L = some t) (hn : ∀ ws, w ≠ .tup ws) : FK L w :=
  ⟨⟨h, fun x r e => absurd e (hn _)⟩, fun y e => absurd e (hn _), fun y e => absurd e (hn _), fun y z e => absurd e (hn _)⟩
theorem fk_tup {L : LH} {s : Str} {r : List W} (so : PyData.strOk s = true) (ha : ∀ y, s = "arg" → r = [y] → ∃ t, tyName y L = some t) (hc : ∀ y, s = "cell" → r = [y] → ∃ z, y = .str z ∧ z.length ≤ 16777216)
    (hf : ∀ y z, s = "call" → r = [y, z] → (∃ z, y = .str z ∧ z.length ≤ 16777216) ∧ ∃ t, tyName z L = some t) : FK L (.tup (.str s :: r)) := by
  refine ⟨⟨⟨_, rfl⟩, fun x r' e => ?_⟩, fun y e => ?_, fun y e => ?_, fun y z e => ?_⟩
  · cases e; exact ⟨⟨_, rfl⟩, fun s' e => by cases e; exact so⟩
  · cases e; exact ha y rfl rfl
  · cases e; exact hc y rfl rfl
  · cases e; exact hf y z rfl rfl
theorem fk_call {L : LH} {y : Str} {z : W} (hy : y.length ≤ 16777216) (hz : ∃ t, tyName z L = some t) : FK L (.tup [.str "call", .str y, z]) :=
  fk_tup so_call (fun _ e => by simp at e) (fun _ e => by simp at e) (fun _ _ _ e => by cases e; exact ⟨⟨_, rfl, hy⟩, hz⟩)
theorem len_f : Str.length "f" ≤ 16777216 := by decide +kernel
theorem len_F : Str.length "F" ≤ 16777216 := by decide +kernel
theorem len_A : Str.length "A" ≤ 16777216 := by decide +kernel
theorem odd_bent {L : LH} {r1 r2 : Nat} {x1 x2 : List W} (h1 : L[r1]? = some (.lst x1)) (h2 : L[r2]? = some (.lst x2)) : ∀ w ∈ oddsOf many r1 r2, Bent L many w := by
  have t1 : tyName (.ref r1) L = some "list" := by simp only [tyName, h1]
  have t2 : tyName (.ref r2) L = some "list" := by simp only [tyName, h2]
  intro w hw
  simp only [oddsOf, List.cons_append, List.nil_append, List.mem_cons, List.mem_nil_iff, or_false] at hw
  rcases hw with rfl | rfl | rfl | rfl | rfl | rfl | rfl | rfl | rfl | rfl | rfl | rfl | rfl | rfl | rfl | rfl | rfl | rfl | rfl | rfl | rfl | rfl | rfl
  · exact .odd (fk_flat ⟨_, rfl⟩ (fun _ e => by cases e)) rfl
  · exact .odd (fk_flat ⟨_, rfl⟩ (fun _ e => by cases e)) rfl
  · exact .odd (fk_flat ⟨_, rfl⟩ (fun _ e => by cases e)) rfl
  · exact .odd (fk_flat ⟨_, rfl⟩ (fun _ e => by cases e)) rfl
  · exact .odd (fk_flat ⟨_, rfl⟩ (fun _ e => by cases e)) rfl
  · exact .odd ⟨⟨⟨_, rfl⟩, fun x r e => (by cases e)⟩, fun y e => (by cases e), fun y e => (by cases e), fun y z e => (by cases e)⟩ rfl
  · refine .odd (fk_tup so_arg (fun y _ e => by cases e; exact ⟨_, rfl⟩) (fun _ e => by simp at e) (fun _ _ e => by simp at e)) ?_
    show btw (.int many) 0 (many - 1) = false
    show (decide (0 ≤ many) && decide (many ≤ many - 1)) = false
    have : ¬ many ≤ many - 1 := by omega
    simp [this]
  · exact .odd (fk_tup so_arg (fun y _ e => by cases e; exact ⟨_, rfl⟩) (fun _ e => by simp at e) (fun _ _ e => by simp at e)) rfl
  · refine .odd (fk_tup so_cell (fun y e => by simp at e) (fun _ _ e => by cases e; exact ⟨_, rfl, len_A⟩) (fun _ _ e => by simp at e)) ?_
    exact nameB_A
  · exact .odd (fk_tup so_cell (fun y e => by simp at e) (fun _ _ e => by cases e) (fun _ _ e => by simp at e)) rfl
  · exact .odd (fk_tup so_tick (fun y e => by simp at e) (fun _ e => by simp at e) (fun _ _ e => by simp at e)) rfl
  · exact .odd (fk_flat ⟨_, t1⟩ (fun _ e => by cases e)) rfl
  · exact .odd (fk_tup so_plus (fun y e => by simp at e) (fun _ e => by simp at e) (fun _ _ e => by simp at e)) rfl
  · exact .odd (fk_tup so_less (fun y e => by simp at e) (fun _ e => by simp at e) (fun _ _ e => by simp at e)) rfl
  · exact .odd (fk_tup so_if (fun y e => by simp at e) (fun _ e => by simp at e) (fun _ _ e => by simp at e)) rfl
  · exact .odd (fk_call len_f ⟨_, t2⟩) rfl
  · refine .odd (fk_call len_f ⟨_, rfl⟩) ?_
    show (nameB "f" && decide (3 ≤ 2)) = false
    simp
  · refine .odd (fk_call len_F ⟨_, rfl⟩) ?_
    show (nameB "F" && decide (0 ≤ 2)) = false
    rw [nameB_F]; rfl
  · exact .odd (fk_tup so_Plus (fun y e => by simp at e) (fun _ e => by simp at e) (fun _ _ e => by simp at e)) rfl
  · refine .node (pre := [.val 0]) (post := []) (b := .non) (fk_tup so_same (fun y e => by simp at e) (fun _ e => by simp at e) (fun _ _ e => by simp at e)) rfl ?_ (fun s r e => by cases e; exact so_same) (fun t ht => by simp at ht; subst ht; exact ⟨by decide, by decide⟩) (by simp) (by decide) (.odd (fk_flat ⟨_, rfl⟩ (fun _ e => by cases e)) rfl)
    simp [innerW, Tm.enc]
  · exact .odd ⟨⟨⟨_, rfl⟩, fun x r e => (by cases e; exact ⟨⟨_, rfl⟩, fun s e => (by cases e)⟩)⟩, fun y e => (by cases e), fun y e => (by cases e), fun y z e => (by cases e)⟩ rfl
  · exact .odd (fk_tup so_call (fun y e => by simp at e) (fun _ e => by simp at e) (fun _ _ _ e => by cases e)) rfl
  · refine .node (pre := []) (post := []) (b := .non) (fk_call len_f ⟨_, rfl⟩) ?_ ?_ (fun s r e => by cases e; exact so_call) (by simp) (by simp) (by decide) (.odd (fk_flat ⟨_, rfl⟩ (fun _ e => by cases e)) rfl)
    · show (nameB "f" && decide (1 ≤ 2)) = true
      decide +kernel
    · simp [innerW]
/-! lists compared that are the same -/
theorem eqvAll_strs : ∀ ss : List Str, PyData.eqvAll (ss.map .str) (ss.map .str) = true
  | [] => rfl
  | s :: r => by simp [PyData.eqvAll, PyData.eqv, eqvAll_strs r]
theorem pd_strs : ∀ ss : List Str, PDats (ss.map .str) = some (ss.map .str)
  | [] => rfl
  | s :: r => by simp only [List.map_cons, PDats, PDat, pd_strs r]
theorem wd_strs : ∀ ss : List Str, wdeps (ss.map .str) = 0
  | [] => rfl
  | s :: r => by simp only [List.map_cons, wdeps, wdep, wd_strs r]; rfl
theorem dd_strs : ∀ ss : List Str, PyData.depthAll (ss.map .str) = 0
  | [] => rfl
  | s :: r => by simp only [List.map_cons, PyData.depthAll, PyData.depth, dd_strs r]; rfl
theorem lay_strs : ∀ {ss : List Str}, (∀ s ∈ ss, PyData.strOk s = true) → PyData.canLayAll0 (ss.map .str) = true
  | [], _ => rfl
  | s :: r, h => by
    simp only [List.map_cons, PyData.canLayAll0, PyData.canLay0, h s List.mem_cons_self, Bool.true_and]
    exact lay_strs fun x hx => h x (List.mem_cons_of_mem _ hx)
theorem ne_same {L : LH} {n m : Nat} {ws : List W} {ds : List PyData} (h : L[n]? = some (.lst ws)) (hm : L[m]? = some (.lst ws)) (hd : PDats ws = some ds) (hw : wdeps ws ≤ 15) (hl : PyData.canLayAll0 ds = true) (hdd : PyData.depthAll ds ≤ 60) (he : PyData.eqvAll ds ds = true) : oNe (.ref n) (.ref m) L = some (.bl false, L) := by
  have e1 : ∀ {k : Nat}, L[k]? = some (.lst ws) → toD L 40 (.ref k) = some (.list ds) := fun {k} hk => by
    unfold toD
    rw [seqL_at hk]
    simp only
    rw [toDs_of 39 ws ds hd (by omega)]; rfl
  have sh : SeqAt.shaped (.list ds) = true := by
    unfold SeqAt.shaped
    rw [Bool.and_eq_true]
    exact ⟨hl, decide_eq_true (by simp only [PyData.depth]; omega)⟩
  have hq : eqX L (.ref n) (.ref m) = some true := by
    unfold eqX lenDiff
    simp only [seqL_at h, seqL_at hm, bne_self_eq_false, Bool.false_eq_true, if_false]
    unfold eqD
    rw [e1 h, e1 hm]
    simp only [sh, and_self, if_true, PyData.eqv, he]
  simp only [oNe, hq, Option.map, oB, Bool.not_true]
theorem ne_strs {L : LH} {n m : Nat} {ss : List Str} (h : L[n]? = some (.lst (ss.map .str))) (hm : L[m]? = some (.lst (ss.map .str))) (ho : ∀ s ∈ ss, PyData.strOk s = true) : oNe (.ref n) (.ref m) L = some (.bl false, L) :=
  ne_same h hm (pd_strs ss) (by rw [wd_strs]; decide) (lay_strs ho) (by rw [dd_strs]; decide) (eqvAll_strs ss)
theorem ne_ints {L : LH} {n m : Nat} {a b : Int} (h : L[n]? = some (.lst [.int a, .int b])) (hm : L[m]? = some (.lst [.int a, .int b])) : oNe (.ref n) (.ref m) L = some (.bl false, L) :=
  ne_same (ds := [.int a, .int b]) h hm rfl (by simp [wdeps, wdep]) rfl (by simp [PyData.depthAll, PyData.depth]) (by simp [PyData.eqvAll, PyData.eqv])
theorem ne_bl {L : LH} {b : Bool} : oNe (.bl b) (.bl b) L = some (.bl false, L) := by
  have : eqX L (.bl b) (.bl b) = some true := by
    have e : eqX L (.bl b) (.bl b) = eqD L (.bl b) (.bl b) := rfl
    rw [e]; unfold eqD toD
    cases b <;> rfl
  simp only [oNe, this, Option.map, oB, Bool.not_true]
theorem cnt_ok {kd : Str} {t : Tm} (ht : t.ok many) : ∀ s ∈ srtS (t.cnt kd), PyData.strOk s = true := fun s hs => by
  have h1 := (srtS_perm _).mem_iff.mp hs
  rw [cnt_mem t, List.mem_filterMap] at h1
  obtain ⟨u, hu, he⟩ := h1
  have ho := Tm.pre_ok ht u hu
  cases u <;> simp [Tm.nm] at he
  · obtain ⟨_, rfl⟩ := he; exact Tm.NameOk.so ho
  · obtain ⟨_, rfl⟩ := he; exact Tm.NameOk.so ho
  · obtain ⟨_, rfl⟩ := he; exact Tm.NameOk.so ho.1
end Z

/-! YG: law_k03, block by block. -/
namespace Z
open PySem PySem.Spec PyProof.Rows L2
structure LF where
  T : Fn
  C : Fn
  SZ : Fn
  DP : Fn
  LV : Fn
  LV2 : Fn
  BT : Fn
def qPool (F : LF) : Sx := sSet 2 (cCall f_law_pool [] (cCons (cVar 0) (cCons (cVar 1) cNil)))
def qPar (F : LF) : Sx := sPar 5 6 (cCons (cCall (f_law_names f_law_draw c_pick) [] (cCons (cVar 2) (cCons (cC (.int 4)) cNil))) (cCons (cCall f_law_draw [] (cCons (cVar 2) (cCons (cC (.int 3)) cNil))) cNil))
def qDict (F : LF) : Sx := sSet 3 (cDict [(cC (.str "cells"), cOpL oLst (cCons (cOpL oTup (cCons (cOp2 oIx (cVar 5) (cC (.int 0))) (cCons (cC (.str "table")) cNil))) (cCons (cOpL oTup (cCons (cOp2 oIx (cVar 5) (cC (.int 1))) (cCons (cC (.str "frozen")) cNil))) cNil))), (cC (.str "functions"), cOpL oLst cNil)])
def qFunB (F : LF) : Sx := sExpr (cMth isLst oAppend (cOp2 oIx (cVar 3) (cC (.str "functions"))) (cCons (cDict [(cC (.str "name"), cVar 7), (cC (.str "many"), cVar 8)]) cNil))
def qFun (F : LF) : Sx := sFor (iSeq (cOpL oLst (cCons (cOpL oTup (cCons (cOp2 oIx (cVar 5) (cC (.int 2))) (cCons (cC (.int 2)) cNil))) (cCons (cOpL oTup (cCons (cOp2 oIx (cVar 5) (cC (.int 3))) (cCons (cC (.int 0)) cNil))) cNil)))) (gTupW 2 (gsCons (gN 7) (gsCons (gN 8) gsNil))) (qFunB F)
def qC1 (F : LF) : Sx := sIf (bOr (bVal (cOp2 oIsNot (cCall c_is_term [] (cCons (cVar 9) (cCons (cVar 6) cNil))) (cC (.bl true)))) (bVal (cOp2 oNe (cOpL oLst (cCons (cCall F.SZ [] (cCons (cVar 9) cNil)) (cCons (cCall F.DP [] (cCons (cVar 9) cNil)) cNil))) (cOpL oLst (cCons (cOp2 oIx (cVar 10) (cC (.str "size"))) (cCons (cOp2 oIx (cVar 10) (cC (.str "depth"))) cNil)))))) (sRet (cC (.bl false))) sSkip
def qC2 (F : LF) : Sx := sIf (bVal (cOp2 oNe (cCall (f_cells_in (f_names_with F.LV)) [] (cCons (cVar 9) cNil)) (cOpL oSortedS (cCons (cLc [7] (iSeq (cOp2 oIx (cVar 10) (cC (.str "cell")))) (CT.one 7) bYes (cOpL oStr (cCons (cVar 7) cNil))) cNil)))) (sRet (cC (.bl false))) sSkip
def qC3 (F : LF) : Sx := sIf (bOr (bVal (cOp2 oNe (cCall (f_calls_in (f_names_with F.LV)) [] (cCons (cVar 9) cNil)) (cOpL oSortedS (cCons (cLc [7] (iSeq (cOp2 oIx (cVar 10) (cC (.str "call")))) (CT.one 7) bYes (cOpL oStr (cCons (cVar 7) cNil))) cNil)))) (bVal (cOp2 oNe (cCall (f_has_tick F.LV2) [] (cCons (cVar 9) cNil)) (cOp2 oIx (cVar 10) (cC (.str "tick")))))) (sRet (cC (.bl false))) sSkip
def qO1 (F : LF) : Sx := sSet 11 (cOpL oLst (cCons (cC .non) (cCons (cC (.int 3)) (cCons (cOp1 oNeg (cC (.int 1))) (cCons (cC (.bl true)) (cCons (cC (.str "1")) (cCons (cOpL oTup cNil) (cCons (cOpL oTup (cCons (cC (.str "arg")) (cCons (cVar 6) cNil))) (cCons (cOpL oTup (cCons (cC (.str "arg")) (cCons (cC (.bl true)) cNil))) (cCons (cOpL oTup (cCons (cC (.str "cell")) (cCons (cC (.str "A")) cNil))) (cCons (cOpL oTup (cCons (cC (.str "cell")) cNil)) (cCons (cOpL oTup (cCons (cC (.str "tick")) (cCons (cC (.int 1)) cNil))) (cCons (cOpL oLst (cCons (cC (.str "tick")) cNil)) cNil)))))))))))))
def qO2 (F : LF) : Sx := sSet 11 (cOp2 oAdd (cVar 11) (cOpL oLst (cCons (cOpL oTup (cCons (cC (.str "plus")) (cCons (cC (.int 1)) cNil))) (cCons (cOpL oTup (cCons (cC (.str "less")) (cCons (cC (.int 0)) (cCons (cC (.int 1)) (cCons (cC (.int 2)) cNil))))) (cCons (cOpL oTup (cCons (cC (.str "if")) (cCons (cC (.int 1)) (cCons (cC (.int 1)) cNil)))) (cCons (cOpL oTup (cCons (cC (.str "call")) (cCons (cC (.str "f")) (cCons (cOpL oLst (cCons (cC (.int 1)) cNil)) cNil)))) (cCons (cOpL oTup (cCons (cC (.str "call")) (cCons (cC (.str "f")) (cCons (cOpL oTup (cCons (cC (.int 1)) (cCons (cC (.int 1)) (cCons (cC (.int 1)) cNil)))) cNil)))) (cCons (cOpL oTup (cCons (cC (.str "call")) (cCons (cC (.str "F")) (cCons (cOpL oTup cNil) cNil)))) cNil))))))))
def qOddB (F : LF) : Sx := sIf (bVal (cOp2 oIsNot (cCall c_is_term [] (cCons (cCall F.BT [] (cCons (cVar 2) (cCons (cVar 9) (cCons (cVar 12) cNil)))) (cCons (cVar 6) cNil))) (cC (.bl false)))) (sRet (cC (.bl false))) sSkip
def qOdd (F : LF) : Sx := sFor (iSeq (cOp2 oAdd (cVar 11) (cOpL oLst (cCons (cOpL oTup (cCons (cC (.str "Plus")) (cCons (cC (.int 1)) (cCons (cC (.int 1)) cNil)))) (cCons (cOpL oTup (cCons (cC (.str "same")) (cCons (cC (.int 0)) (cCons (cC .non) cNil)))) (cCons (cOpL oTup (cCons (cC (.int 1)) (cCons (cC (.int 1)) (cCons (cC (.int 1)) cNil)))) (cCons (cOpL oTup (cCons (cC (.str "call")) (cCons (cC (.str "f")) cNil))) (cCons (cOpL oTup (cCons (cC (.str "call")) (cCons (cC (.str "f")) (cCons (cOpL oTup (cCons (cC .non) cNil)) cNil)))) cNil)))))))) (gN 12) (qOddB F)
def qChk (F : LF) : Sx := sSeq (qC1 F) (sSeq (qC2 F) (sSeq (qC3 F) (sSeq (qO1 F) (sSeq (qO2 F) (qOdd F)))))
def qT9 (F : LF) : Sx := sSet 9 (cCall F.T [] (cCons (cVar 2) (cCons (cVar 3) (cCons (cVar 6) (cCons (cCall f_law_draw [] (cCons (cVar 2) (cCons (cC (.int 4)) cNil))) cNil)))))
def qT10 (F : LF) : Sx := sSet 10 (cCall F.C [] (cCons (cVar 9) cNil))
def qTB (F : LF) : Sx := sSeq (qT9 F) (sSeq (qT10 F) (sIf (bVal (cOp2 oLe (cOp2 oIx (cVar 10) (cC (.str "size"))) (cC (.int 30)))) (qChk F) sSkip))
def qTurns (F : LF) : Sx := sFor (iRng1 (cCons (cC (.int 12)) cNil)) (gN 4) (qTB F)
def qBody (F : LF) : Sx := sSeq (qPool F) (sSeq (qPar F) (sSeq (qDict F) (sSeq (qFun F) (qTurns F))))
def qLaw (F : LF) : Sx := sSeq (sFor (iRng1 (cCons (cOpL oMax (cCons (cC (.int 1)) (cCons (cOpL oMin (cCons (cOpL oLen (cCons (cVar 0) cNil)) (cCons (cC (.int 2)) cNil))) cNil))) cNil)) (gN 1) (qBody F)) (sRet (cC (.bl true)))
def lawF (F : LF) : Fn := f_law f_law_pool (f_law_names f_law_draw c_pick) f_law_draw F.T F.C c_is_term F.SZ F.DP (f_cells_in (f_names_with F.LV)) (f_calls_in (f_names_with F.LV)) (f_has_tick F.LV2) F.BT
theorem lawF_eq (F : LF) : lawF F = defF 13 1 (qLaw F) := rfl

structure LFok (F : LF) : Prop where
  T : ∀ many : Int, 0 ≤ many → many ≤ 2 → TmS many F.T 4
  C : ∀ many : Int, CtS many F.C 9
  SZ : ∀ many : Int, SizeS many F.SZ 9
  DP : ∀ many : Int, DepS many F.DP 9
  LV : ∀ many : Int, LvS many F.LV 9
  LV2 : ∀ many : Int, LvS many F.LV2 9
  BT : ∀ many : Int, BtS many F.BT 9
abbrev qE (e0 e1 : Option W) (p nb : Nat) (e4 e5 : Option W) (many : Int) (e7 e8 e9 e10 e11 e12 : Option W) : Env := [e0, e1, some (.ref p), some (.ref nb), e4, e5, some (.int many), e7, e8, e9, e10, e11, e12]
theorem Told.mono {L L' : LH} {t : Tm} {ne mc ml : Nat} (h : Told L t ne mc ml) (p : L <+: L') : Told L' t ne mc ml := ⟨pre_at p h.d, pre_at p h.c, pre_at p h.l⟩
theorem isNot_bl {a b : Bool} {L : LH} {Q : W → LH → Prop} : EvO (oIsNot (.bl a) (.bl b) L) Q = Q (.bl (!decide (a = b))) L := rfl
section
variable {F : LF} {many : Int} {L : LH} {p nb ne mc ml : Nat} {e0 e1 e4 e5 e7 e8 e11 e12 : Option W} {t : Tm} {N : Env → LH → Prop} {R : W → LH → Prop}
theorem qC1_ok (FK : LFok F) (ht : t.ok many) (hs : t.size ≤ 30) (hd : t.dep ≤ 4) (td : Told L t ne mc ml) (k : ∀ L', L <+: L' → N (qE e0 e1 p nb e4 e5 many e7 e8 (some t.enc) (some (.ref ne)) e11 e12) L') :
    EvS (qC1 F (qE e0 e1 p nb e4 e5 many e7 e8 (some t.enc) (some (.ref ne)) e11 e12) L) N R := by
  simp only [qC1, qE, wipeE, ev_ok, ev_bind, ev_only, ev_ofO, ev_ofOB, ev_ite, evs_ite, evo_some, evs_toS, evs_seq, ev_C, ev_var, ev_op2, ev_op1, ev_opL, ev_nil, ev_cons, ev_call, ev_bVal, ev_bTru, ev_bNot, ev_bAnd, ev_bOr, ev_bYes, ev_cIf, ev_cNot, ev_cAnd, ev_cOr, ev_chain, ev_part_none, ev_part_some, ev_sl, ev_mth, evs_skip, evs_set, evs_ret, evs_expr, evs_if, evs_par, evs_as, ev_gN, ev_gsNil, ev_gsCons, ev_gTup, ev_gIx, evs_aug, ev_defF, evs_for, ev_rng1, ev_iSeq, ev_lc, o_addI, o_subI, o_addS, o_addT, o_mulI, o_modI, o_divI, o_powI, o_cmpI, o_intI, o_intB, o_absI, o_lst, o_tup, bl_bl, List.map_cons, List.map_nil, List.cons_append, List.nil_append, List.append_nil, List.getElem?_cons_zero, List.getElem?_cons_succ, List.set_cons_zero, List.set_cons_succ, List.length_cons, List.length_nil, List.replicate, Nat.reduceAdd, Nat.reduceSub, Nat.reduceLeDiff, true_and, and_true, if_true, decide_eq_true_eq, Nat.zero_add]
  refine (is_term_ok ht hs (by omega)).mono fun w L1 q => ?_
  obtain ⟨rfl, p1⟩ := q
  simp only [isNot_bl, blW, decide_true, Bool.not_true, Bool.false_eq_true, if_false]
  refine (FK.SZ many t L1 ht (by omega)).mono fun w L2 q => ?_
  obtain ⟨rfl, p2⟩ := q
  refine (FK.DP many t L2 ht (by omega) (by omega)).mono fun w L3 q => ?_
  obtain ⟨rfl, p3⟩ := q
  have p03 := p1.trans (p2.trans p3)
  have td3 := td.mono (p03.trans (pre_last (o := .lst [.int t.size, .int t.dep])))
  simp only [ix_dic1 td3.d, v_sizeD, v_depth]
  rw [ne_ints (pre_at pre_last at_last) at_last, evo_some]
  simp only [Bool.false_eq_true, if_false]
  exact k _ (p03.trans (pre_last.trans pre_last))
theorem sorted_due {kd : Str} {m : Nat} {env : Env} {Q : W → LH → Prop} (hL : L[m]? = some (.lst ((t.cnt kd).map .str))) (hs : t.size ≤ 30) (hlen : env.length = 13)
    (k : ∀ L' n, L <+: L' → L'[n]? = some (.lst ((srtS (t.cnt kd)).map .str)) → Q (.ref n) L') :
    (match srcOf (.ref m) L with
      | some S => Ev (lcLoop S (CT.one 7) bYes (cOpL oStr (cCons (cVar 7) cNil)) (env.set 7 none) (S.len + 1) 0 L []) fun acc L2 => EvO (oSortedS [W.ref L2.length] (L2 ++ [LO.lst acc])) Q
      | none => False) := by
  obtain ⟨S, e1, hS⟩ := srcOf_at hL
  rw [e1]
  simp only
  have hcl := cnt_len kd t
  refine (lc_map (ts := t.cnt kd) (f := .str) (g := .str) hS (by omega) fun s hs L1 p1 => ?_).mono fun acc L1 q => ?_
  · have g7 : ((env.set 7 none).set 7 (some (.str s)))[7]? = some (some (.str s)) := by rw [List.getElem?_set_self]; rw [List.length_set]; omega
    simp only [wipeE, ev_ok, ev_bind, ev_only, ev_ofO, ev_ofOB, ev_ite, evs_ite, evo_some, evs_toS, evs_seq, ev_C, ev_var, ev_op2, ev_op1, ev_opL, ev_nil, ev_cons, ev_call, ev_bVal, ev_bTru, ev_bNot, ev_bAnd, ev_bOr, ev_bYes, ev_cIf, ev_cNot, ev_cAnd, ev_cOr, ev_chain, ev_part_none, ev_part_some, ev_sl, ev_mth, evs_skip, evs_set, evs_ret, evs_expr, evs_if, evs_par, evs_as, ev_gN, ev_gsNil, ev_gsCons, ev_gTup, ev_gIx, evs_aug, ev_defF, evs_for, ev_rng1, ev_iSeq, ev_lc, o_addI, o_subI, o_addS, o_addT, o_mulI, o_modI, o_divI, o_powI, o_cmpI, o_intI, o_intB, o_absI, o_lst, o_tup, bl_bl, List.map_cons, List.map_nil, List.cons_append, List.nil_append, List.append_nil, List.getElem?_cons_zero, List.getElem?_cons_succ, List.set_cons_zero, List.set_cons_succ, List.length_cons, List.length_nil, List.replicate, Nat.reduceAdd, Nat.reduceSub, Nat.reduceLeDiff, true_and, and_true, if_true, decide_eq_true_eq, Nat.zero_add, g7, oStr]
    exact List.prefix_refl _
  · obtain ⟨rfl, p1⟩ := q
    rw [sorted_at at_last (by omega), evo_some]
    exact k _ _ (p1.trans (pre_last.trans pre_last)) at_last
theorem qC2_ok (FK : LFok F) (ht : t.ok many) (hs : t.size ≤ 30) (hd : t.dep ≤ 4) (td : Told L t ne mc ml) (k : ∀ L', L <+: L' → N (qE e0 e1 p nb e4 e5 many e7 e8 (some t.enc) (some (.ref ne)) e11 e12) L') :
    EvS (qC2 F (qE e0 e1 p nb e4 e5 many e7 e8 (some t.enc) (some (.ref ne)) e11 e12) L) N R := by
  simp only [qC2, qE, wipeE, ev_ok, ev_bind, ev_only, ev_ofO, ev_ofOB, ev_ite, evs_ite, evo_some, evs_toS, evs_seq, ev_C, ev_var, ev_op2, ev_op1, ev_opL, ev_nil, ev_cons, ev_call, ev_bVal, ev_bTru, ev_bNot, ev_bAnd, ev_bOr, ev_bYes, ev_cIf, ev_cNot, ev_cAnd, ev_cOr, ev_chain, ev_part_none, ev_part_some, ev_sl, ev_mth, evs_skip, evs_set, evs_ret, evs_expr, evs_if, evs_par, evs_as, ev_gN, ev_gsNil, ev_gsCons, ev_gTup, ev_gIx, evs_aug, ev_defF, evs_for, ev_rng1, ev_iSeq, ev_lc, o_addI, o_subI, o_addS, o_addT, o_mulI, o_modI, o_divI, o_powI, o_cmpI, o_intI, o_intB, o_absI, o_lst, o_tup, bl_bl, List.map_cons, List.map_nil, List.cons_append, List.nil_append, List.append_nil, List.getElem?_cons_zero, List.getElem?_cons_succ, List.set_cons_zero, List.set_cons_succ, List.length_cons, List.length_nil, List.replicate, Nat.reduceAdd, Nat.reduceSub, Nat.reduceLeDiff, true_and, and_true, if_true, decide_eq_true_eq, Nat.zero_add, f_cells_in]
  refine (names_with_ok (FK.LV many) ht (by omega) hs (.inl rfl)).mono fun w L1 q => ?_
  obtain ⟨n, rfl, hn, p1⟩ := q
  have td1 := td.mono p1
  simp only [ix_dic1 td1.d, v_cellD]
  refine sorted_due (env := qE e0 e1 p nb e4 e5 many e7 e8 (some t.enc) (some (.ref ne)) e11 e12) td1.c hs rfl fun L2 n2 p2 h2 => ?_
  rw [srt_names] at hn
  rw [ne_strs (pre_at p2 hn) h2 (cnt_ok ht), evo_some]
  simp only [blW, Bool.false_eq_true, if_false]
  exact k _ (p1.trans p2)
theorem qC3_ok (FK : LFok F) (ht : t.ok many) (hs : t.size ≤ 30) (hd : t.dep ≤ 4) (td : Told L t ne mc ml) (k : ∀ L', L <+: L' → N (qE e0 e1 p nb e4 e5 many e7 e8 (some t.enc) (some (.ref ne)) e11 e12) L') :
    EvS (qC3 F (qE e0 e1 p nb e4 e5 many e7 e8 (some t.enc) (some (.ref ne)) e11 e12) L) N R := by
  simp only [qC3, qE, wipeE, ev_ok, ev_bind, ev_only, ev_ofO, ev_ofOB, ev_ite, evs_ite, evo_some, evs_toS, evs_seq, ev_C, ev_var, ev_op2, ev_op1, ev_opL, ev_nil, ev_cons, ev_call, ev_bVal, ev_bTru, ev_bNot, ev_bAnd, ev_bOr, ev_bYes, ev_cIf, ev_cNot, ev_cAnd, ev_cOr, ev_chain, ev_part_none, ev_part_some, ev_sl, ev_mth, evs_skip, evs_set, evs_ret, evs_expr, evs_if, evs_par, evs_as, ev_gN, ev_gsNil, ev_gsCons, ev_gTup, ev_gIx, evs_aug, ev_defF, evs_for, ev_rng1, ev_iSeq, ev_lc, o_addI, o_subI, o_addS, o_addT, o_mulI, o_modI, o_divI, o_powI, o_cmpI, o_intI, o_intB, o_absI, o_lst, o_tup, bl_bl, List.map_cons, List.map_nil, List.cons_append, List.nil_append, List.append_nil, List.getElem?_cons_zero, List.getElem?_cons_succ, List.set_cons_zero, List.set_cons_succ, List.length_cons, List.length_nil, List.replicate, Nat.reduceAdd, Nat.reduceSub, Nat.reduceLeDiff, true_and, and_true, if_true, decide_eq_true_eq, Nat.zero_add, f_calls_in]
  refine (names_with_ok (FK.LV many) ht (by omega) hs (.inr rfl)).mono fun w L1 q => ?_
  obtain ⟨n, rfl, hn, p1⟩ := q
  have td1 := td.mono p1
  simp only [ix_dic1 td1.d, v_callD]
  refine sorted_due (env := qE e0 e1 p nb e4 e5 many e7 e8 (some t.enc) (some (.ref ne)) e11 e12) td1.l hs rfl fun L2 n2 p2 h2 => ?_
  rw [srt_names] at hn
  rw [ne_strs (pre_at p2 hn) h2 (cnt_ok ht), evo_some]
  simp only [blW, Bool.false_eq_true, if_false]
  refine (has_tick_ok (FK.LV2 many) ht (by omega) hs (by omega)).mono fun w L3 q => ?_
  obtain ⟨rfl, p3⟩ := q
  have td3 := td1.mono (p2.trans p3)
  simp only [ix_dic1 td3.d, v_tickD]
  rw [ne_bl, evo_some]
  simp only [Bool.false_eq_true, if_false]
  exact k _ (p1.trans (p2.trans p3))
theorem neg_int {i : Int} {Q : W → LH → Prop} : EvO (oNeg (.int i) L) Q = Q (.int (-i)) L := rfl
theorem qO_ok {e9 e10 : Option W} {q : Sx} (k : ∀ L' n r1 r2 x1 x2, L <+: L' → L.length ≤ n → L'[n]? = some (.lst ((oddsOf many r1 r2).take 18)) → L'[r1]? = some (.lst x1) → L'[r2]? = some (.lst x2) → EvS (q (qE e0 e1 p nb e4 e5 many e7 e8 e9 e10 (some (.ref n)) e12) L') N R) :
    EvS (sSeq (qO1 F) (sSeq (qO2 F) q) (qE e0 e1 p nb e4 e5 many e7 e8 e9 e10 e11 e12) L) N R := by
  simp only [qO1, qO2, qE, wipeE, ev_ok, ev_bind, ev_only, ev_ofO, ev_ofOB, ev_ite, evs_ite, evo_some, evs_toS, evs_seq, ev_C, ev_var, ev_op2, ev_op1, ev_opL, ev_nil, ev_cons, ev_call, ev_bVal, ev_bTru, ev_bNot, ev_bAnd, ev_bOr, ev_bYes, ev_cIf, ev_cNot, ev_cAnd, ev_cOr, ev_chain, ev_part_none, ev_part_some, ev_sl, ev_mth, evs_skip, evs_set, evs_ret, evs_expr, evs_if, evs_par, evs_as, ev_gN, ev_gsNil, ev_gsCons, ev_gTup, ev_gIx, evs_aug, ev_defF, evs_for, ev_rng1, ev_iSeq, ev_lc, o_addI, o_subI, o_addS, o_addT, o_mulI, o_modI, o_divI, o_powI, o_cmpI, o_intI, o_intB, o_absI, o_lst, o_tup, bl_bl, List.map_cons, List.map_nil, List.cons_append, List.nil_append, List.append_nil, List.getElem?_cons_zero, List.getElem?_cons_succ, List.set_cons_zero, List.set_cons_succ, List.length_cons, List.length_nil, List.replicate, Nat.reduceAdd, Nat.reduceSub, Nat.reduceLeDiff, true_and, and_true, if_true, decide_eq_true_eq, Nat.zero_add, neg_int]
  rw [add_lst (pre_at pre_last (pre_at pre_last at_last)) at_last (by simp), evo_some]
  refine k _ _ L.length _ _ _ (pre_last.trans (pre_last.trans (pre_last.trans (pre_last.trans pre_last)))) ?_ ?_ (pre_at pre_last (pre_at pre_last (pre_at pre_last (pre_at pre_last at_last)))) (pre_at pre_last (pre_at pre_last at_last))
  · simp only [List.length_append]; omega
  · rw [at_last]; rfl
theorem qOdd_ok (FK : LFok F) (ht : t.ok many) (hd : t.dep ≤ 4) (hp : PoolOk p L) {n r1 r2 : Nat} {e1' : Option W} {x1 x2 : List W} {e10 : Option W} (hpn : L.length > n) (hn : L[n]? = some (.lst ((oddsOf many r1 r2).take 18))) (h1 : L[r1]? = some (.lst x1)) (h2 : L[r2]? = some (.lst x2))
    (k : ∀ L' e12', Upd p L L' → N (qE e0 e1' p nb e4 e5 many e7 e8 (some t.enc) e10 (some (.ref n)) e12') L') : EvS (qOdd F (qE e0 e1' p nb e4 e5 many e7 e8 (some t.enc) e10 (some (.ref n)) e12) L) N R := by
  simp only [qOdd, qE, wipeE, ev_ok, ev_bind, ev_only, ev_ofO, ev_ofOB, ev_ite, evs_ite, evo_some, evs_toS, evs_seq, ev_C, ev_var, ev_op2, ev_op1, ev_opL, ev_nil, ev_cons, ev_call, ev_bVal, ev_bTru, ev_bNot, ev_bAnd, ev_bOr, ev_bYes, ev_cIf, ev_cNot, ev_cAnd, ev_cOr, ev_chain, ev_part_none, ev_part_some, ev_sl, ev_mth, evs_skip, evs_set, evs_ret, evs_expr, evs_if, evs_par, evs_as, ev_gN, ev_gsNil, ev_gsCons, ev_gTup, ev_gIx, evs_aug, ev_defF, evs_for, ev_rng1, ev_iSeq, ev_lc, o_addI, o_subI, o_addS, o_addT, o_mulI, o_modI, o_divI, o_powI, o_cmpI, o_intI, o_intB, o_absI, o_lst, o_tup, bl_bl, List.map_cons, List.map_nil, List.cons_append, List.nil_append, List.append_nil, List.getElem?_cons_zero, List.getElem?_cons_succ, List.set_cons_zero, List.set_cons_succ, List.length_cons, List.length_nil, List.replicate, Nat.reduceAdd, Nat.reduceSub, Nat.reduceLeDiff, true_and, and_true, if_true, decide_eq_true_eq, Nat.zero_add]
  rw [add_lst (pre_at pre_last hn) at_last (by simp [oddsOf]), evo_some]
  generalize hL2 : (L ++ [LO.lst [W.tup [W.str (Str.ofString "Plus"), W.int 1, W.int 1], W.tup [W.str (Str.ofString "same"), W.int 0, W.non], W.tup [W.int 1, W.int 1, W.int 1], W.tup [W.str (Str.ofString "call"), W.str (Str.ofString "f")], W.tup [W.str (Str.ofString "call"), W.str (Str.ofString "f"), W.tup [W.non]]]]) = L2
  have p2 : L <+: L2 := by rw [← hL2]; exact pre_last
  generalize hodd : (oddsOf many r1 r2).take 18 ++ [W.tup [W.str (Str.ofString "Plus"), W.int 1, W.int 1], W.tup [W.str (Str.ofString "same"), W.int 0, W.non], W.tup [W.int 1, W.int 1, W.int 1], W.tup [W.str (Str.ofString "call"), W.str (Str.ofString "f")], W.tup [W.str (Str.ofString "call"), W.str (Str.ofString "f"), W.tup [W.non]]] = odds
  have hodds : odds = oddsOf many r1 r2 := hodd.symm
  have hlp : p < L.length := by obtain ⟨a, b, e, _⟩ := hp; exact (List.getElem?_eq_some_iff.mp e).1
  have hno : L2.length ≠ p := by have := p2.length_le; omega
  have hL3 : (L2 ++ [LO.lst odds])[L2.length]? = some (.lst odds) := at_last
  have u3 : Upd p L (L2 ++ [LO.lst odds]) := .of_pre hp (p2.trans pre_last)
  have hb : ∀ w ∈ odds, Bent L many w := by rw [hodds]; exact odd_bent h1 h2
  generalize L2.length = no at hno hL3 ⊢
  generalize L2 ++ [LO.lst odds] = L3 at hL3 u3 ⊢
  obtain ⟨S, e1, hS⟩ := srcOf_at hL3
  simp only [e1]
  have hget : ∀ L' : LH, L'[no]? = some (.lst odds) → ∀ i, S.get L' i = some odds[i]? := fun L' h i => by
    simp only [srcOf, seqL_at hL3] at e1
    cases e1
    simp only [seqL_at h, Option.map]
  refine for_inv (fun i env L' => Upd p L L' ∧ L'[no]? = some (.lst odds) ∧ ∃ x12, env = qE e0 e1' p nb e4 e5 many e7 e8 (some t.enc) e10 (some (.ref n)) x12)
    (n := odds.length) (fun i env L4 hi hp4 => ?_) (fun env L4 hp4 => ?_) S.len 0 _ _ (by rw [hS.1]; omega) ⟨u3, hL3, _, rfl⟩
  · obtain ⟨u4, h4, x12, rfl⟩ := hp4
    refine ⟨odds[i], by rw [hget L4 h4, List.getElem?_eq_getElem hi], ?_⟩
    simp only [qOddB, qE, wipeE, ev_ok, ev_bind, ev_only, ev_ofO, ev_ofOB, ev_ite, evs_ite, evo_some, evs_toS, evs_seq, ev_C, ev_var, ev_op2, ev_op1, ev_opL, ev_nil, ev_cons, ev_call, ev_bVal, ev_bTru, ev_bNot, ev_bAnd, ev_bOr, ev_bYes, ev_cIf, ev_cNot, ev_cAnd, ev_cOr, ev_chain, ev_part_none, ev_part_some, ev_sl, ev_mth, evs_skip, evs_set, evs_ret, evs_expr, evs_if, evs_par, evs_as, ev_gN, ev_gsNil, ev_gsCons, ev_gTup, ev_gIx, evs_aug, ev_defF, evs_for, ev_rng1, ev_iSeq, ev_lc, o_addI, o_subI, o_addS, o_addT, o_mulI, o_modI, o_divI, o_powI, o_cmpI, o_intI, o_intB, o_absI, o_lst, o_tup, bl_bl, List.map_cons, List.map_nil, List.cons_append, List.nil_append, List.append_nil, List.getElem?_cons_zero, List.getElem?_cons_succ, List.set_cons_zero, List.set_cons_succ, List.length_cons, List.length_nil, List.replicate, Nat.reduceAdd, Nat.reduceSub, Nat.reduceLeDiff, true_and, and_true, if_true, decide_eq_true_eq, Nat.zero_add]
    refine (FK.BT many t p odds[i] L4 ht (by omega) u4.pool ((hb _ (List.getElem_mem hi)).upd hp u4)).mono fun w L5 q => ?_
    obtain ⟨u5, hw⟩ := q
    refine (is_term_bent hw).mono fun w L6 q => ?_
    obtain ⟨rfl, p6⟩ := q
    simp only [isNot_bl, blW, decide_true, Bool.not_true, Bool.false_eq_true, if_false]
    have u6 := u5.trans (.of_pre u5.pool p6)
    exact ⟨u4.trans u6, u6.old _ _ hno h4, _, rfl⟩
  · obtain ⟨u4, h4, x12, rfl⟩ := hp4
    exact ⟨by rw [hget L4 h4, List.getElem?_eq_none (Nat.le_refl _)], k L4 x12 u4⟩
end
end Z

/-! YH: law_k03, whole. -/
namespace Z
open PySem PySem.Spec PyProof.Rows L2
section
variable {F : LF} {many : Int} {L : LH} {p nb nc nf f0 f1 : Nat} {n0 n1 n2 n3 : Str} {e0 e1 e4 e5 e7 e8 e9 e10 e11 e12 : Option W} {N : Env → LH → Prop} {R : W → LH → Prop}
theorem chk_ok {t : Tm} {ne mc ml : Nat} (FK : LFok F) (ht : t.ok many) (hs : t.size ≤ 30) (hd : t.dep ≤ 4) (hp : PoolOk p L) (td : Told L t ne mc ml) (k : ∀ L' e11' e12', Upd p L L' → N (qE e0 e1 p nb e4 e5 many e7 e8 (some t.enc) (some (.ref ne)) e11' e12') L') :
    EvS (qChk F (qE e0 e1 p nb e4 e5 many e7 e8 (some t.enc) (some (.ref ne)) e11 e12) L) N R := by
  unfold qChk
  rw [evs_seq]
  refine qC1_ok FK ht hs hd td fun L1 p1 => ?_
  rw [evs_seq]
  refine qC2_ok FK ht hs hd (td.mono p1) fun L2 p2 => ?_
  rw [evs_seq]
  refine qC3_ok FK ht hs hd (td.mono (p1.trans p2)) fun L3 p3 => ?_
  refine qO_ok fun L4 n r1 r2 x1 x2 p4 hln hn h1 h2 => ?_
  have pr := p1.trans (p2.trans (p3.trans p4))
  have u4 : Upd p L L4 := .of_pre hp pr
  exact qOdd_ok FK ht hd u4.pool (List.getElem?_eq_some_iff.mp hn).1 hn h1 h2 fun L5 x u5 => k L5 _ x (u4.trans u5)
theorem turn_ok (FK : LFok F) (hm0 : 0 ≤ many) (hm2 : many ≤ 2) (B : BOk L nb nc nf f0 f1 n0 n1 n2 n3) (hp : PoolOk p L) (k : ∀ L' e9' e10' e11' e12', Upd p L L' → N (qE e0 e1 p nb e4 e5 many e7 e8 e9' e10' e11' e12') L') :
    EvS (qTB F (qE e0 e1 p nb e4 e5 many e7 e8 e9 e10 e11 e12) L) N R := by
  simp only [qTB, qT9, qT10, qE, wipeE, ev_ok, ev_bind, ev_only, ev_ofO, ev_ofOB, ev_ite, evs_ite, evo_some, evs_toS, evs_seq, ev_C, ev_var, ev_op2, ev_op1, ev_opL, ev_nil, ev_cons, ev_call, ev_bVal, ev_bTru, ev_bNot, ev_bAnd, ev_bOr, ev_bYes, ev_cIf, ev_cNot, ev_cAnd, ev_cOr, ev_chain, ev_part_none, ev_part_some, ev_sl, ev_mth, evs_skip, evs_set, evs_ret, evs_expr, evs_if, evs_par, evs_as, ev_gN, ev_gsNil, ev_gsCons, ev_gTup, ev_gIx, evs_aug, ev_defF, evs_for, ev_rng1, ev_iSeq, ev_lc, o_addI, o_subI, o_addS, o_addT, o_mulI, o_modI, o_divI, o_powI, o_cmpI, o_intI, o_intB, o_absI, o_lst, o_tup, bl_bl, List.map_cons, List.map_nil, List.cons_append, List.nil_append, List.append_nil, List.getElem?_cons_zero, List.getElem?_cons_succ, List.set_cons_zero, List.set_cons_succ, List.length_cons, List.length_nil, List.replicate, Nat.reduceAdd, Nat.reduceSub, Nat.reduceLeDiff, true_and, and_true, if_true, decide_eq_true_eq, Nat.zero_add, oLe]
  refine ev_draw hp (by decide) (by decide) fun r hr0 hr1 L1 u1 => ?_
  obtain ⟨rn, rfl⟩ : ∃ rn : Nat, r = rn := ⟨r.toNat, by omega⟩
  refine (FK.T many hm0 hm2 rn (by omega) p nb nc nf f0 f1 n0 n1 n2 n3 L1 (B.upd hp u1) u1.pool).mono fun w L2 q => ?_
  obtain ⟨u2, t, rfl, ht, hd, hs⟩ := q
  have hs40 : t.size ≤ 40 := by
    refine Nat.le_trans hs ?_
    match rn, hr1 with
    | 0, _ => decide
    | 1, _ => decide
    | 2, _ => decide
    | 3, _ => decide
    | n + 4, h => omega
  have hd4 : t.dep ≤ 4 := by omega
  refine (FK.C many t L2 ht (by omega) (by omega) (by omega)).mono fun w L3 q => ?_
  obtain ⟨p3, ne, mc, ml, rfl, _, td⟩ := q
  have u3 := (u1.trans u2).trans (.of_pre u2.pool p3)
  simp only [ix_dic1 td.d, v_sizeD, o_cmpI, blW, decide_eq_true_eq]
  split
  · rename_i h
    exact chk_ok FK ht (by omega) hd4 u3.pool td fun L4 x y u4 => k L4 _ _ x y (u3.trans u4)
  · exact k L3 _ _ _ _ u3
theorem turns_ok (FK : LFok F) (hm0 : 0 ≤ many) (hm2 : many ≤ 2) (B : BOk L nb nc nf f0 f1 n0 n1 n2 n3) (hp : PoolOk p L) (k : ∀ L' e4' e9' e10' e11' e12', N (qE e0 e1 p nb e4' e5 many e7 e8 e9' e10' e11' e12') L') :
    EvS (qTurns F (qE e0 e1 p nb e4 e5 many e7 e8 e9 e10 e11 e12) L) N R := by
  simp only [qTurns, qE, wipeE, ev_ok, ev_bind, ev_only, ev_ofO, ev_ofOB, ev_ite, evs_ite, evo_some, evs_toS, evs_seq, ev_C, ev_var, ev_op2, ev_op1, ev_opL, ev_nil, ev_cons, ev_call, ev_bVal, ev_bTru, ev_bNot, ev_bAnd, ev_bOr, ev_bYes, ev_cIf, ev_cNot, ev_cAnd, ev_cOr, ev_chain, ev_part_none, ev_part_some, ev_sl, ev_mth, evs_skip, evs_set, evs_ret, evs_expr, evs_if, evs_par, evs_as, ev_gN, ev_gsNil, ev_gsCons, ev_gTup, ev_gIx, evs_aug, ev_defF, evs_for, ev_rng1, ev_iSeq, ev_lc, o_addI, o_subI, o_addS, o_addT, o_mulI, o_modI, o_divI, o_powI, o_cmpI, o_intI, o_intB, o_absI, o_lst, o_tup, bl_bl, List.map_cons, List.map_nil, List.cons_append, List.nil_append, List.append_nil, List.getElem?_cons_zero, List.getElem?_cons_succ, List.set_cons_zero, List.set_cons_succ, List.length_cons, List.length_nil, List.replicate, Nat.reduceAdd, Nat.reduceSub, Nat.reduceLeDiff, true_and, and_true, if_true, decide_eq_true_eq, Nat.zero_add]
  refine ⟨by decide, ?_⟩
  refine for_inv (fun i env L' => Upd p L L' ∧ ∃ x4 x9 x10 x11 x12, env = qE e0 e1 p nb x4 e5 many e7 e8 x9 x10 x11 x12) (n := 12) (fun i env L' hi hq => ?_) (fun env L' hq => ?_) 12 0 _ _ rfl ⟨.refl hp, _, _, _, _, _, rfl⟩
  · obtain ⟨u, x4, x9, x10, x11, x12, rfl⟩ := hq
    refine ⟨.int (0 + i), by simp [srcR, hi], ?_⟩
    simp only [wipeE, ev_ok, ev_bind, ev_only, ev_ofO, ev_ofOB, ev_ite, evs_ite, evo_some, evs_toS, evs_seq, ev_C, ev_var, ev_op2, ev_op1, ev_opL, ev_nil, ev_cons, ev_call, ev_bVal, ev_bTru, ev_bNot, ev_bAnd, ev_bOr, ev_bYes, ev_cIf, ev_cNot, ev_cAnd, ev_cOr, ev_chain, ev_part_none, ev_part_some, ev_sl, ev_mth, evs_skip, evs_set, evs_ret, evs_expr, evs_if, evs_par, evs_as, ev_gN, ev_gsNil, ev_gsCons, ev_gTup, ev_gIx, evs_aug, ev_defF, evs_for, ev_rng1, ev_iSeq, ev_lc, o_addI, o_subI, o_addS, o_addT, o_mulI, o_modI, o_divI, o_powI, o_cmpI, o_intI, o_intB, o_absI, o_lst, o_tup, bl_bl, List.map_cons, List.map_nil, List.cons_append, List.nil_append, List.append_nil, List.getElem?_cons_zero, List.getElem?_cons_succ, List.set_cons_zero, List.set_cons_succ, List.length_cons, List.length_nil, List.replicate, Nat.reduceAdd, Nat.reduceSub, Nat.reduceLeDiff, true_and, and_true, if_true, decide_eq_true_eq, Nat.zero_add, qE]
    exact turn_ok FK hm0 hm2 (B.upd hp u) u.pool fun L2 a b c d u2 => ⟨u.trans u2, _, a, b, c, d, rfl⟩
  · obtain ⟨u, x4, x9, x10, x11, x12, rfl⟩ := hq
    exact ⟨by simp [srcR], k L' _ _ _ _ _⟩
end
/-! the book of the law -/
theorem vfuns' {nc nf : Nat} : valW [((.inr "cells" : Key), W.ref nc), (.inr "functions", .ref nf)] (.inr "functions") = some (.ref nf) := by simp [val_cons]
theorem m_book {nc nf : Nat} : mergeW [] [((.inr "cells" : Key), W.ref nc), (.inr "functions", .ref nf)] = [((.inr "cells" : Key), W.ref nc), (.inr "functions", .ref nf)] := by simp [mergeW, putW]
theorem m_fun {s : Str} {i : Int} : mergeW [] [((.inr "name" : Key), W.str s), (.inr "many", .int i)] = [((.inr "name" : Key), W.str s), (.inr "many", .int i)] := by simp [mergeW, putW]
theorem append_at {L : LH} {n : Nat} {xs : List W} {w : W} (h : L[n]? = some (.lst xs)) (hl : xs.length < 16777216) : oAppend (.ref n) [w] L = some (.non, L.set n (.lst (xs ++ [w]))) := by
  simp only [oAppend, h]
  rw [if_pos hl]
theorem isLst_at {L : LH} {n : Nat} {xs : List W} (h : L[n]? = some (.lst xs)) : isLst (.ref n) L = true := by simp only [isLst, h]
section
variable {F : LF} {many : Int} {L : LH} {p nb nc nf nn : Nat} {n0 n1 n2 n3 : Str} {e0 e1 e4 e7 e8 e9 e10 e11 e12 : Option W} {N : Env → LH → Prop} {R : W → LH → Prop}
theorem fun_ok (hp : PoolOk p L) (hb : L[nb]? = some (.dic [(.inr "cells", .ref nc), (.inr "functions", .ref nf)])) (hc : L[nc]? = some (.lst [.tup [.str n0, .str "table"], .tup [.str n1, .str "frozen"]])) (hf : L[nf]? = some (.lst [])) (hne : nf ≠ p)
    (hn : L[nn]? = some (.lst [.str n0, .str n1, .str n2, .str n3])) (o0 : Tm.NameOk n0) (o1 : Tm.NameOk n1) (o2 : Tm.NameOk n2) (o3 : Tm.NameOk n3)
    (k : ∀ L' f0 f1 e7' e8', PoolOk p L' → BOk L' nb nc nf f0 f1 n0 n1 n2 n3 → N (qE e0 e1 p nb e4 (some (.ref nn)) many e7' e8' e9 e10 e11 e12) L') :
    EvS (qFun F (qE e0 e1 p nb e4 (some (.ref nn)) many e7 e8 e9 e10 e11 e12) L) N R := by
  have a2 : atI [W.str n0, .str n1, .str n2, .str n3] (2 : Int) = some (.str n2) := atI_nat (j := 2) rfl
  have a3 : atI [W.str n0, .str n1, .str n2, .str n3] (3 : Int) = some (.str n3) := atI_nat (j := 3) rfl
  have hbf : nb ≠ nf := by rintro rfl; rw [hb] at hf; cases hf
  have hcf : nc ≠ nf := by rintro rfl; rw [hc] at hf; cases hf
  have hfl : nf < L.length := (List.getElem?_eq_some_iff.mp hf).1
  simp only [qFun, qE, wipeE, ev_ok, ev_bind, ev_only, ev_ofO, ev_ofOB, ev_ite, evs_ite, evo_some, evs_toS, evs_seq, ev_C, ev_var, ev_op2, ev_op1, ev_opL, ev_nil, ev_cons, ev_call, ev_bVal, ev_bTru, ev_bNot, ev_bAnd, ev_bOr, ev_bYes, ev_cIf, ev_cNot, ev_cAnd, ev_cOr, ev_chain, ev_part_none, ev_part_some, ev_sl, ev_mth, evs_skip, evs_set, evs_ret, evs_expr, evs_if, evs_par, evs_as, ev_gN, ev_gsNil, ev_gsCons, ev_gTup, ev_gIx, evs_aug, ev_defF, evs_for, ev_rng1, ev_iSeq, ev_lc, o_addI, o_subI, o_addS, o_addT, o_mulI, o_modI, o_divI, o_powI, o_cmpI, o_intI, o_intB, o_absI, o_lst, o_tup, bl_bl, List.map_cons, List.map_nil, List.cons_append, List.nil_append, List.append_nil, List.getElem?_cons_zero, List.getElem?_cons_succ, List.set_cons_zero, List.set_cons_succ, List.length_cons, List.length_nil, List.replicate, Nat.reduceAdd, Nat.reduceSub, Nat.reduceLeDiff, true_and, and_true, if_true, decide_eq_true_eq, Nat.zero_add, ix_at hn, a2, a3]
  obtain ⟨S, e1', hS⟩ := srcOf_at (L := L ++ [LO.lst [W.tup [W.str n2, W.int 2], W.tup [W.str n3, W.int 0]]]) (n := L.length) at_last
  simp only [e1']
  have hget : ∀ L' : LH, L'[L.length]? = some (.lst [W.tup [W.str n2, W.int 2], W.tup [W.str n3, W.int 0]]) → ∀ i, S.get L' i = some [W.tup [W.str n2, W.int 2], W.tup [W.str n3, W.int 0]][i]? := fun L' h i => by
    simp only [srcOf, seqL_at at_last] at e1'
    cases e1'
    simp only [seqL_at h, Option.map]
  have step : ∀ (L1 : LH) (xs : List W) (s : Str) (i : Int), But nf L L1 → L1[nf]? = some (.lst xs) → xs.length ≤ 2 → ∀ (x7 x8 : Option W) (N' : Env → LH → Prop), (∀ L2 fi, But nf L1 L2 → L2[nf]? = some (.lst (xs ++ [.ref fi])) → L2[fi]? = some (.dic [(.inr "name", .str s), (.inr "many", .int i)]) → N' (qE e0 e1 p nb e4 (some (.ref nn)) many (some (.str s)) (some (.int i)) e9 e10 e11 e12) L2) →
      EvS (qFunB F (qE e0 e1 p nb e4 (some (.ref nn)) many (some (.str s)) (some (.int i)) e9 e10 e11 e12) L1) N' R := fun L1 xs s i b1 h1 hl x7 x8 N' kk => by
    have hb1 := b1.2 _ _ hbf hb
    simp only [qFunB, qE, wipeE, ev_ok, ev_bind, ev_only, ev_ofO, ev_ofOB, ev_ite, evs_ite, evo_some, evs_toS, evs_seq, ev_C, ev_var, ev_op2, ev_op1, ev_opL, ev_nil, ev_cons, ev_call, ev_bVal, ev_bTru, ev_bNot, ev_bAnd, ev_bOr, ev_bYes, ev_cIf, ev_cNot, ev_cAnd, ev_cOr, ev_chain, ev_part_none, ev_part_some, ev_sl, ev_mth, evs_skip, evs_set, evs_ret, evs_expr, evs_if, evs_par, evs_as, ev_gN, ev_gsNil, ev_gsCons, ev_gTup, ev_gIx, evs_aug, ev_defF, evs_for, ev_rng1, ev_iSeq, ev_lc, o_addI, o_subI, o_addS, o_addT, o_mulI, o_modI, o_divI, o_powI, o_cmpI, o_intI, o_intB, o_absI, o_lst, o_tup, bl_bl, List.map_cons, List.map_nil, List.cons_append, List.nil_append, List.append_nil, List.getElem?_cons_zero, List.getElem?_cons_succ, List.set_cons_zero, List.set_cons_succ, List.length_cons, List.length_nil, List.replicate, Nat.reduceAdd, Nat.reduceSub, Nat.reduceLeDiff, true_and, and_true, if_true, decide_eq_true_eq, Nat.zero_add, ix_dic1 hb1, vfuns', isLst_at h1, ev_dict, ev_pairs_cons, ev_pairs_nil, keysW, keyW, m_fun]
    rw [append_at (pre_at pre_last h1) (by omega), evo_some]
    have hlt : nf < L1.length := (List.getElem?_eq_some_iff.mp h1).1
    refine kk _ L1.length ((But.of_pre pre_last).trans .set) (set_at (pre_at pre_last h1)) ?_
    rw [List.getElem?_set_ne (by omega)]; exact at_last
  refine for_inv (fun j env L1 => But nf L L1 ∧ L1[L.length]? = some (.lst [W.tup [W.str n2, W.int 2], W.tup [W.str n3, W.int 0]]) ∧ (∃ x7 x8, env = qE e0 e1 p nb e4 (some (.ref nn)) many x7 x8 e9 e10 e11 e12) ∧
      (if j = 0 then L1[nf]? = some (.lst []) else ∃ f0, L1[f0]? = some (.dic [(.inr "name", .str n2), (.inr "many", .int 2)]) ∧ if j = 1 then L1[nf]? = some (.lst [.ref f0]) else ∃ f1, L1[nf]? = some (.lst [.ref f0, .ref f1]) ∧ L1[f1]? = some (.dic [(.inr "name", .str n3), (.inr "many", .int 0)])))
    (n := 2) (fun j env L1 hj hq => ?_) (fun env L1 hq => ?_) S.len 0 _ _ (by rw [hS.1]; rfl) ⟨.of_pre pre_last, at_last, ⟨_, _, rfl⟩, by rw [if_pos rfl]; exact pre_at pre_last hf⟩
  · obtain ⟨b1, h1, ⟨x7, x8, rfl⟩, hq⟩ := hq
    have hlk : L.length ≠ nf := by omega
    match j, hj, hq with
    | 0, _, hq =>
      rw [if_pos rfl] at hq
      refine ⟨_, by rw [hget L1 h1]; rfl, ?_⟩
      simp only [wipeE, ev_ok, ev_bind, ev_only, ev_ofO, ev_ofOB, ev_ite, evs_ite, evo_some, evs_toS, evs_seq, ev_C, ev_var, ev_op2, ev_op1, ev_opL, ev_nil, ev_cons, ev_call, ev_bVal, ev_bTru, ev_bNot, ev_bAnd, ev_bOr, ev_bYes, ev_cIf, ev_cNot, ev_cAnd, ev_cOr, ev_chain, ev_part_none, ev_part_some, ev_sl, ev_mth, evs_skip, evs_set, evs_ret, evs_expr, evs_if, evs_par, evs_as, ev_gN, ev_gsNil, ev_gsCons, ev_gTup, ev_gIx, evs_aug, ev_defF, evs_for, ev_rng1, ev_iSeq, ev_lc, o_addI, o_subI, o_addS, o_addT, o_mulI, o_modI, o_divI, o_powI, o_cmpI, o_intI, o_intB, o_absI, o_lst, o_tup, bl_bl, List.map_cons, List.map_nil, List.cons_append, List.nil_append, List.append_nil, List.getElem?_cons_zero, List.getElem?_cons_succ, List.set_cons_zero, List.set_cons_succ, List.length_cons, List.length_nil, List.replicate, Nat.reduceAdd, Nat.reduceSub, Nat.reduceLeDiff, true_and, and_true, if_true, decide_eq_true_eq, Nat.zero_add, qE]
      refine step L1 [] n2 2 b1 hq (by decide) none none _ fun L2 fi b2 h2 h3 => ?_
      refine ⟨b1.trans b2, b2.2 _ _ hlk h1, ⟨_, _, rfl⟩, ?_⟩
      rw [if_neg (by decide)]
      exact ⟨fi, h3, h2⟩
    | 1, _, hq =>
      rw [if_neg (by decide)] at hq
      obtain ⟨f0, h0, hq⟩ := hq
      rw [if_pos rfl] at hq
      refine ⟨_, by rw [hget L1 h1]; rfl, ?_⟩
      simp only [wipeE, ev_ok, ev_bind, ev_only, ev_ofO, ev_ofOB, ev_ite, evs_ite, evo_some, evs_toS, evs_seq, ev_C, ev_var, ev_op2, ev_op1, ev_opL, ev_nil, ev_cons, ev_call, ev_bVal, ev_bTru, ev_bNot, ev_bAnd, ev_bOr, ev_bYes, ev_cIf, ev_cNot, ev_cAnd, ev_cOr, ev_chain, ev_part_none, ev_part_some, ev_sl, ev_mth, evs_skip, evs_set, evs_ret, evs_expr, evs_if, evs_par, evs_as, ev_gN, ev_gsNil, ev_gsCons, ev_gTup, ev_gIx, evs_aug, ev_defF, evs_for, ev_rng1, ev_iSeq, ev_lc, o_addI, o_subI, o_addS, o_addT, o_mulI, o_modI, o_divI, o_powI, o_cmpI, o_intI, o_intB, o_absI, o_lst, o_tup, bl_bl, List.map_cons, List.map_nil, List.cons_append, List.nil_append, List.append_nil, List.getElem?_cons_zero, List.getElem?_cons_succ, List.set_cons_zero, List.set_cons_succ, List.length_cons, List.length_nil, List.replicate, Nat.reduceAdd, Nat.reduceSub, Nat.reduceLeDiff, true_and, and_true, if_true, decide_eq_true_eq, Nat.zero_add, qE]
      have hf0 : f0 ≠ nf := by rintro rfl; rw [h0] at hq; cases hq
      refine step L1 [.ref f0] n3 0 b1 hq (by simp) none none _ fun L2 fi b2 h2 h3 => ?_
      refine ⟨b1.trans b2, b2.2 _ _ hlk h1, ⟨_, _, rfl⟩, ?_⟩
      rw [if_neg (by decide)]
      refine ⟨f0, b2.2 _ _ hf0 h0, ?_⟩
      rw [if_neg (by decide)]
      exact ⟨fi, h2, h3⟩
    | j + 2, h, _ => omega
  · obtain ⟨b1, h1, ⟨x7, x8, rfl⟩, hq⟩ := hq
    rw [if_neg (by decide)] at hq
    obtain ⟨f0, h0, hq⟩ := hq
    rw [if_neg (by decide)] at hq
    obtain ⟨f1, h2, h3⟩ := hq
    refine ⟨by rw [hget L1 h1]; rfl, k L1 f0 f1 x7 x8 ?_ ⟨b1.2 _ _ hbf hb, b1.2 _ _ hcf hc, h2, h0, h3, o0, o1, o2, o3⟩⟩
    obtain ⟨a, b, e, q⟩ := hp
    exact ⟨a, b, b1.2 _ _ (Ne.symm hne) e, q⟩
theorem body_ok {ns : List Int} {kk : Nat} {e2 e3 e5 e6 : Option W} (FK : LFok F) (hk : kk ≤ 1) (k : ∀ L' (r : Env), r.length = 12 → N (some (.scr ns) :: r) L') :
    EvS (qBody F [some (.scr ns), some (.int kk), e2, e3, e4, e5, e6, e7, e8, e9, e10, e11, e12] L) N R := by
  unfold qBody
  rw [evs_seq]
  simp only [qPool, wipeE, ev_ok, ev_bind, ev_only, ev_ofO, ev_ofOB, ev_ite, evs_ite, evo_some, evs_toS, evs_seq, ev_C, ev_var, ev_op2, ev_op1, ev_opL, ev_nil, ev_cons, ev_call, ev_bVal, ev_bTru, ev_bNot, ev_bAnd, ev_bOr, ev_bYes, ev_cIf, ev_cNot, ev_cAnd, ev_cOr, ev_chain, ev_part_none, ev_part_some, ev_sl, ev_mth, evs_skip, evs_set, evs_ret, evs_expr, evs_if, evs_par, evs_as, ev_gN, ev_gsNil, ev_gsCons, ev_gTup, ev_gIx, evs_aug, ev_defF, evs_for, ev_rng1, ev_iSeq, ev_lc, o_addI, o_subI, o_addS, o_addT, o_mulI, o_modI, o_divI, o_powI, o_cmpI, o_intI, o_intB, o_absI, o_lst, o_tup, bl_bl, List.map_cons, List.map_nil, List.cons_append, List.nil_append, List.append_nil, List.getElem?_cons_zero, List.getElem?_cons_succ, List.set_cons_zero, List.set_cons_succ, List.length_cons, List.length_nil, List.replicate, Nat.reduceAdd, Nat.reduceSub, Nat.reduceLeDiff, true_and, and_true, if_true, decide_eq_true_eq, Nat.zero_add]
  refine (pool_ok hk).mono fun w L1 q => ?_
  obtain ⟨p, rfl, _, p1, hp⟩ := q
  simp only [qPar, wipeE, ev_ok, ev_bind, ev_only, ev_ofO, ev_ofOB, ev_ite, evs_ite, evo_some, evs_toS, evs_seq, ev_C, ev_var, ev_op2, ev_op1, ev_opL, ev_nil, ev_cons, ev_call, ev_bVal, ev_bTru, ev_bNot, ev_bAnd, ev_bOr, ev_bYes, ev_cIf, ev_cNot, ev_cAnd, ev_cOr, ev_chain, ev_part_none, ev_part_some, ev_sl, ev_mth, evs_skip, evs_set, evs_ret, evs_expr, evs_if, evs_par, evs_as, ev_gN, ev_gsNil, ev_gsCons, ev_gTup, ev_gIx, evs_aug, ev_defF, evs_for, ev_rng1, ev_iSeq, ev_lc, o_addI, o_subI, o_addS, o_addT, o_mulI, o_modI, o_divI, o_powI, o_cmpI, o_intI, o_intB, o_absI, o_lst, o_tup, bl_bl, List.map_cons, List.map_nil, List.cons_append, List.nil_append, List.append_nil, List.getElem?_cons_zero, List.getElem?_cons_succ, List.set_cons_zero, List.set_cons_succ, List.length_cons, List.length_nil, List.replicate, Nat.reduceAdd, Nat.reduceSub, Nat.reduceLeDiff, true_and, and_true, if_true, decide_eq_true_eq, Nat.zero_add]
  refine (names_ok hp).mono fun w L2 q => ?_
  obtain ⟨u2, nn, s0, s1, s2, s3, rfl, hln, hn, o0, o1, o2, o3⟩ := q
  refine ev_draw u2.pool (by decide) (by decide) fun mn hm0 hm1 L3 u3 => ?_
  have hnn : nn ≠ p := by
    obtain ⟨a, b, e, _⟩ := hp
    have := (List.getElem?_eq_some_iff.mp e).1
    omega
  have hn3 := u3.old _ _ hnn hn
  have a0 : atI [W.str s0, .str s1, .str s2, .str s3] (0 : Int) = some (.str s0) := at0
  have a1 : atI [W.str s0, .str s1, .str s2, .str s3] (1 : Int) = some (.str s1) := at1
  simp only [qDict, wipeE, ev_ok, ev_bind, ev_only, ev_ofO, ev_ofOB, ev_ite, evs_ite, evo_some, evs_toS, evs_seq, ev_C, ev_var, ev_op2, ev_op1, ev_opL, ev_nil, ev_cons, ev_call, ev_bVal, ev_bTru, ev_bNot, ev_bAnd, ev_bOr, ev_bYes, ev_cIf, ev_cNot, ev_cAnd, ev_cOr, ev_chain, ev_part_none, ev_part_some, ev_sl, ev_mth, evs_skip, evs_set, evs_ret, evs_expr, evs_if, evs_par, evs_as, ev_gN, ev_gsNil, ev_gsCons, ev_gTup, ev_gIx, evs_aug, ev_defF, evs_for, ev_rng1, ev_iSeq, ev_lc, o_addI, o_subI, o_addS, o_addT, o_mulI, o_modI, o_divI, o_powI, o_cmpI, o_intI, o_intB, o_absI, o_lst, o_tup, bl_bl, List.map_cons, List.map_nil, List.cons_append, List.nil_append, List.append_nil, List.getElem?_cons_zero, List.getElem?_cons_succ, List.set_cons_zero, List.set_cons_succ, List.length_cons, List.length_nil, List.replicate, Nat.reduceAdd, Nat.reduceSub, Nat.reduceLeDiff, true_and, and_true, if_true, decide_eq_true_eq, Nat.zero_add, ev_dict, ev_pairs_cons, ev_pairs_nil, keysW, keyW, ix_at hn3, a0, a1, m_book]
  generalize hLa : L3 ++ [LO.lst [W.tup [W.str s0, W.str (Str.ofString "table")], W.tup [W.str s1, W.str (Str.ofString "frozen")]]] = La
  have pa : L3 <+: La := by rw [← hLa]; exact pre_last
  have ha : La[L3.length]? = some (.lst [W.tup [W.str s0, W.str (Str.ofString "table")], W.tup [W.str s1, W.str (Str.ofString "frozen")]]) := by rw [← hLa]; exact at_last
  have hpl : p < L3.length := by obtain ⟨a, b, e, _⟩ := u3.pool; exact (List.getElem?_eq_some_iff.mp e).1
  have hLl : L3.length ≤ La.length := pa.length_le
  have pp := pa.trans (pre_last (L := La) (o := .lst [])) |>.trans (pre_last (o := .dic [((.inr "cells" : Key), W.ref L3.length), (.inr "functions", .ref La.length)]))
  refine fun_ok (u3.pool.pre pp) at_last (pre_at pre_last (pre_at pre_last ha)) (pre_at pre_last at_last) (by omega) (pre_at pp hn3) o0 o1 o2 o3 fun L4 f0 f1 x7 x8 hp4 B => ?_
  exact turns_ok FK hm0 (by omega) B hp4 fun L5 a b c d e => k L5 _ rfl
end
theorem law_ok {F : LF} (FK : LFok F) (ns : List Int) (L : LH) : Ev (lawF F [.scr ns] L) fun w _ => w = .bl true := by
  rw [lawF_eq, ev_defF]
  refine ⟨rfl, ?_⟩
  simp only [qLaw, wipeE, ev_ok, ev_bind, ev_only, ev_ofO, ev_ofOB, ev_ite, evs_ite, evo_some, evs_toS, evs_seq, ev_C, ev_var, ev_op2, ev_op1, ev_opL, ev_nil, ev_cons, ev_call, ev_bVal, ev_bTru, ev_bNot, ev_bAnd, ev_bOr, ev_bYes, ev_cIf, ev_cNot, ev_cAnd, ev_cOr, ev_chain, ev_part_none, ev_part_some, ev_sl, ev_mth, evs_skip, evs_set, evs_ret, evs_expr, evs_if, evs_par, evs_as, ev_gN, ev_gsNil, ev_gsCons, ev_gTup, ev_gIx, evs_aug, ev_defF, evs_for, ev_rng1, ev_iSeq, ev_lc, o_addI, o_subI, o_addS, o_addT, o_mulI, o_modI, o_divI, o_powI, o_cmpI, o_intI, o_intB, o_absI, o_lst, o_tup, bl_bl, List.map_cons, List.map_nil, List.cons_append, List.nil_append, List.append_nil, List.getElem?_cons_zero, List.getElem?_cons_succ, List.set_cons_zero, List.set_cons_succ, List.length_cons, List.length_nil, List.replicate, Nat.reduceAdd, Nat.reduceSub, Nat.reduceLeDiff, true_and, and_true, if_true, decide_eq_true_eq, Nat.zero_add, scr_len]
  have hmin : ∀ Q : W → LH → Prop, EvO (oMin [W.int ns.length, W.int 2] L) Q = Q (.int (if (2 : Int) < ns.length then 2 else ns.length)) L := fun Q => rfl
  have hmax : ∀ (x : Int) (Q : W → LH → Prop), EvO (oMax [W.int 1, W.int x] L) Q = Q (.int (if x > 1 then x else 1)) L := fun x Q => rfl
  simp only [hmin, hmax]
  have hb : 1 ≤ (if (if (2 : Int) < ns.length then 2 else (ns.length : Int)) > 1 then (if (2 : Int) < ns.length then 2 else (ns.length : Int)) else 1) ∧ (if (if (2 : Int) < ns.length then 2 else (ns.length : Int)) > 1 then (if (2 : Int) < ns.length then 2 else (ns.length : Int)) else 1) ≤ 2 := by
    by_cases h : (2 : Int) < ns.length
    · simp only [h, if_true]; decide
    · simp only [h, if_false]
      by_cases h2 : (ns.length : Int) > 1
      · simp only [h2, if_true]; omega
      · simp only [h2, if_false]; decide
  generalize (if (if (2 : Int) < ns.length then 2 else (ns.length : Int)) > 1 then (if (2 : Int) < ns.length then 2 else (ns.length : Int)) else 1) = m at hb ⊢
  obtain ⟨mn, rfl⟩ : ∃ mn : Nat, m = mn := ⟨m.toNat, by omega⟩
  refine ⟨⟨by omega, by omega⟩, ?_⟩
  rw [Int.toNat_natCast]
  refine for_inv (fun i env L' => ∃ r : Env, r.length = 12 ∧ env = some (.scr ns) :: r) (n := mn) (fun i env L' hi hq => ?_) (fun env L' hq => ?_) mn 0 _ _ (by omega) ⟨_, rfl, rfl⟩
  · obtain ⟨r, hr, rfl⟩ := hq
    refine ⟨.int i, by simp [srcR, hi], ?_⟩
    match r, hr with
    | [e1, e2, e3, e4, e5, e6, e7, e8, e9, e10, e11, e12], _ =>
      simp only [wipeE, ev_ok, ev_bind, ev_only, ev_ofO, ev_ofOB, ev_ite, evs_ite, evo_some, evs_toS, evs_seq, ev_C, ev_var, ev_op2, ev_op1, ev_opL, ev_nil, ev_cons, ev_call, ev_bVal, ev_bTru, ev_bNot, ev_bAnd, ev_bOr, ev_bYes, ev_cIf, ev_cNot, ev_cAnd, ev_cOr, ev_chain, ev_part_none, ev_part_some, ev_sl, ev_mth, evs_skip, evs_set, evs_ret, evs_expr, evs_if, evs_par, evs_as, ev_gN, ev_gsNil, ev_gsCons, ev_gTup, ev_gIx, evs_aug, ev_defF, evs_for, ev_rng1, ev_iSeq, ev_lc, o_addI, o_subI, o_addS, o_addT, o_mulI, o_modI, o_divI, o_powI, o_cmpI, o_intI, o_intB, o_absI, o_lst, o_tup, bl_bl, List.map_cons, List.map_nil, List.cons_append, List.nil_append, List.append_nil, List.getElem?_cons_zero, List.getElem?_cons_succ, List.set_cons_zero, List.set_cons_succ, List.length_cons, List.length_nil, List.replicate, Nat.reduceAdd, Nat.reduceSub, Nat.reduceLeDiff, true_and, and_true, if_true, decide_eq_true_eq, Nat.zero_add]
      exact body_ok FK (by omega) fun L2 r hr => ⟨r, hr, rfl⟩
  · exact ⟨by simp [srcR], trivial⟩
end Z

/-! printed by gen.py -/
namespace K03
open PySem PySem.Spec PyProof.Rows L2 Z
def topS (i : Nat) : Stmt := PySem.Challenge.pw_looseties_k03_whole_terms.main.body.getD i (.Pass ⟨0, 0, 0, 0⟩)
abbrev s0 : Stmt := topS 4
abbrev s1 : Stmt := topS 5
abbrev s2 : Stmt := topS 6
abbrev s3 : Stmt := topS 7
abbrev s4 : Stmt := topS 8
abbrev s5 : Stmt := topS 14
abbrev s6 : Stmt := topS 15
abbrev s7 : Stmt := topS 16
abbrev s8 : Stmt := topS 17
abbrev s9 : Stmt := topS 18
abbrev s10 : Stmt := topS 19
abbrev s11 : Stmt := topS 20
abbrev s12 : Stmt := topS 21
abbrev s13 : Stmt := topS 22
abbrev s14 : Stmt := topS 23
abbrev s15 : Stmt := topS 25
abbrev s16 : Stmt := topS 26
abbrev s17 : Stmt := topS 27
abbrev s18 : Stmt := topS 28
abbrev s19 : Stmt := topS 29
abbrev s20 : Stmt := topS 30
abbrev s21 : Stmt := topS 31
abbrev s22 : Stmt := topS 32
abbrev s23 : Stmt := topS 33
def w_LETTERS : W := (.str "abcdefghijklmnopqrstuvwxyz")
def w_MOST_ARGUMENTS : W := (.int 2)
def w_MOST_DEPTH : W := (.int 8)
def w_MOST_LETTERS : W := (.int 8)
def w_MOST_PARTS : W := (.int 30)
def w_MOST_VALUE : W := (.int 2)
def w_PAIRS : W := (.tup [(.str "plus"), (.str "less"), (.str "same")])
/-- is_integer -/
def B0 (G : Tab) : Sx := sRet (cAnd (cOpL oIsi (cCons (cVar 0) (cCons (cC (.ty "int")) cNil))) (cNot (cOpL oIsi (cCons (cVar 0) (cCons (cC (.ty "bool")) cNil)))))
def F0 (G : Tab) : Fn := defF 1 1 (B0 G)
theorem sc0 : FnScope ["value"] ["value"] (defScope s0) := ⟨rfl, rfl, rfl, by decide +kernel, rfl, by decide +kernel, by decide +kernel⟩
/-- is_between -/
def B1 (G : Tab) : Sx := sRet (cAnd (cCall (G 0) [] (cCons (cVar 0) cNil)) (cChain oLe oLe (cVar 1) (cVar 0) (cVar 2)))
def F1 (G : Tab) : Fn := defF 3 3 (B1 G)
theorem sc1 : FnScope ["value", "least", "most"] ["value", "least", "most"] (defScope s1) := ⟨rfl, rfl, rfl, by decide +kernel, rfl, by decide +kernel, by decide +kernel⟩
/-- is_value -/
def B2 (G : Tab) : Sx := sRet (cCall (G 1) [] (cCons (cVar 0) (cCons (cC (.int 0)) (cCons (cC w_MOST_VALUE) cNil))))
def F2 (G : Tab) : Fn := defF 1 1 (B2 G)
theorem sc2 : FnScope ["value"] ["value"] (defScope s2) := ⟨rfl, rfl, rfl, by decide +kernel, rfl, by decide +kernel, by decide +kernel⟩
/-- is_name -/
def B3 (G : Tab) : Sx := sRet (cAnd (cOpL oIsi (cCons (cVar 0) (cCons (cC (.ty "str")) cNil))) (cAnd (cChain oLe oLe (cC (.int 1)) (cOpL oLen (cCons (cVar 0) cNil)) (cC w_MOST_LETTERS)) (cOpL oAll (cCons (cLc [1] (iSeq (cVar 0)) (CT.one 1) bYes (cOp2 oInD (cVar 1) (cC w_LETTERS))) cNil))))
def F3 (G : Tab) : Fn := defF 2 1 (B3 G)
theorem sc3 : FnScope ["value", "sign"] ["value"] (defScope s3) := ⟨rfl, rfl, rfl, by decide +kernel, rfl, by decide +kernel, by decide +kernel⟩
/-- has_kind -/
def B4 (G : Tab) : Sx := sRet (cAnd (cOpL oIsi (cCons (cVar 0) (cCons (cC (.ty "tuple")) cNil))) (cAnd (cOp2 oEq (cOpL oLen (cCons (cVar 0) cNil)) (cVar 2)) (cAnd (cOpL oIsi (cCons (cOp2 oIx (cVar 0) (cC (.int 0))) (cCons (cC (.ty "str")) cNil))) (cOp2 oEq (cOp2 oIx (cVar 0) (cC (.int 0))) (cVar 1)))))
def F4 (G : Tab) : Fn := defF 3 3 (B4 G)
theorem sc4 : FnScope ["value", "kind", "many"] ["value", "kind", "many"] (defScope s4) := ⟨rfl, rfl, rfl, by decide +kernel, rfl, by decide +kernel, by decide +kernel⟩
/-- inner_terms -/
def B5 (G : Tab) : Sx := sSeq (sIf (bNot (bTru (cOpL oIsi (cCons (cVar 0) (cCons (cC (.ty "tuple")) cNil))))) (sRet (cOpL oTup cNil)) sSkip) (sSeq (sIf (bVal (cOp2 oEq (cOp2 oIx (cVar 0) (cC (.int 0))) (cC (.str "call")))) (sRet (cOp2 oIx (cVar 0) (cC (.int 2)))) sSkip) (sRet (cIf (bOr (bVal (cOp2 oInD (cOp2 oIx (cVar 0) (cC (.int 0))) (cC w_PAIRS))) (bVal (cOp2 oEq (cOp2 oIx (cVar 0) (cC (.int 0))) (cC (.str "if"))))) (cSl (cVar 0) (some (cC (.int 1))) none) (cOpL oTup cNil))))
def F5 (G : Tab) : Fn := defF 1 1 (B5 G)
theorem sc5 : FnScope ["term"] ["term"] (defScope s5) := ⟨rfl, rfl, rfl, by decide +kernel, rfl, by decide +kernel, by decide +kernel⟩
/-- has_form -/
def B6 (G : Tab) : Sx := sSeq (sIf (bOr (bTru (cCall (G 2) [] (cCons (cVar 0) cNil))) (bTru (cCall (G 4) [] (cCons (cVar 0) (cCons (cC (.str "tick")) (cCons (cC (.int 1)) cNil)))))) (sRet (cC (.bl true))) sSkip) (sSeq (sIf (bTru (cCall (G 4) [] (cCons (cVar 0) (cCons (cC (.str "arg")) (cCons (cC (.int 2)) cNil))))) (sRet (cCall (G 1) [] (cCons (cOp2 oIx (cVar 0) (cC (.int 1))) (cCons (cC (.int 0)) (cCons (cOp2 oSub (cVar 1) (cC (.int 1))) cNil))))) sSkip) (sSeq (sIf (bTru (cCall (G 4) [] (cCons (cVar 0) (cCons (cC (.str "cell")) (cCons (cC (.int 2)) cNil))))) (sRet (cCall (G 3) [] (cCons (cOp2 oIx (cVar 0) (cC (.int 1))) cNil))) sSkip) (sSeq (sIf (bTru (cCall (G 4) [] (cCons (cVar 0) (cCons (cC (.str "call")) (cCons (cC (.int 3)) cNil))))) (sRet (cAnd (cCall (G 3) [] (cCons (cOp2 oIx (cVar 0) (cC (.int 1))) cNil)) (cAnd (cOpL oIsi (cCons (cOp2 oIx (cVar 0) (cC (.int 2))) (cCons (cC (.ty "tuple")) cNil))) (cOp2 oLe (cOpL oLen (cCons (cOp2 oIx (cVar 0) (cC (.int 2))) cNil)) (cC w_MOST_ARGUMENTS))))) sSkip) (sRet (cOr (cOpL oAny (cCons (cLc [2] (iSeq (cC w_PAIRS)) (CT.one 2) bYes (cCall (G 4) [] (cCons (cVar 0) (cCons (cVar 2) (cCons (cC (.int 3)) cNil))))) cNil)) (cCall (G 4) [] (cCons (cVar 0) (cCons (cC (.str "if")) (cCons (cC (.int 4)) cNil)))))))))
def F6 (G : Tab) : Fn := defF 3 2 (B6 G)
theorem sc6 : FnScope ["value", "arguments", "kind"] ["value", "arguments"] (defScope s6) := ⟨rfl, rfl, rfl, by decide +kernel, rfl, by decide +kernel, by decide +kernel⟩
/-- is_term -/
def B7 (G : Tab) : Sx := sSeq (sPar 3 4 (cCons (cOpL oLst (cCons (cVar 0) cNil)) (cCons (cC (.int 0)) cNil))) (sSeq (sFor (iRng1 (cCons (cC w_MOST_DEPTH) cNil)) (gN 2) (sSeq (sAug 4 (oAug oAdd) (cOpL oLen (cCons (cVar 3) cNil))) (sSeq (sIf (bOr (bVal (cOp2 oGt (cVar 4) (cC w_MOST_PARTS))) (bNot (bTru (cOpL oAll (cCons (cLc [6] (iSeq (cVar 3)) (CT.one 6) bYes (cCall (G 6) [] (cCons (cVar 6) (cCons (cVar 1) cNil)))) cNil))))) (sRet (cC (.bl false))) sSkip) (sSeq (sSet 3 (cLc2 [5, 6] [6] (iSeq (cVar 3)) (CT.one 5) bYes (iSeq (cCall (G 5) [] (cCons (cVar 5) cNil))) (CT.one 6) bYes (cVar 6))) (sIf (bVal (cOp2 oEq (cVar 3) (cOpL oLst cNil))) (sRet (cC (.bl true))) sSkip))))) (sRet (cC (.bl false))))
def F7 (G : Tab) : Fn := defF 7 2 (B7 G)
theorem sc7 : FnScope ["value", "arguments", "turn", "layer", "parts", "term", "part"] ["value", "arguments"] (defScope s7) := ⟨rfl, rfl, rfl, by decide +kernel, rfl, by decide +kernel, by decide +kernel⟩
/-- term_size -/
def B8 (G : Tab) : Sx := sRet (cOp2 oAdd (cC (.int 1)) (cOpL oSum (cCons (cLc [1] (iSeq (cCall (G 5) [] (cCons (cVar 0) cNil))) (CT.one 1) bYes (cCall (G 8) [] (cCons (cVar 1) cNil))) cNil)))
def F8 (G : Tab) : Fn := defF 2 1 (B8 G)
theorem sc8 : FnScope ["term", "part"] ["term"] (defScope s8) := ⟨rfl, rfl, rfl, by decide +kernel, rfl, by decide +kernel, by decide +kernel⟩
/-- term_depth -/
def B9 (G : Tab) : Sx := sSeq (sIf (bVal (cOp2 oEq (cCall (G 5) [] (cCons (cVar 0) cNil)) (cOpL oTup cNil))) (sRet (cC (.int 1))) sSkip) (sRet (cOp2 oAdd (cC (.int 1)) (cOpL oMax (cCons (cLc [1] (iSeq (cCall (G 5) [] (cCons (cVar 0) cNil))) (CT.one 1) bYes (cOpL oInt (cCons (cCall (G 9) [] (cCons (cVar 1) cNil)) cNil))) cNil))))
def F9 (G : Tab) : Fn := defF 2 1 (B9 G)
theorem sc9 : FnScope ["term", "part"] ["term"] (defScope s9) := ⟨rfl, rfl, rfl, by decide +kernel, rfl, by decide +kernel, by decide +kernel⟩
/-- leaves -/
def B10 (G : Tab) : Sx := sSeq (sSet 1 (cOpL oLst (cCons (cVar 0) cNil))) (sSeq (sFor (iSeq (cCall (G 5) [] (cCons (cVar 0) cNil))) (gN 2) (sExpr (cMth isLst oExtend (cVar 1) (cCons (cCall (G 10) [] (cCons (cVar 2) cNil)) cNil)))) (sRet (cVar 1)))
def F10 (G : Tab) : Fn := defF 3 1 (B10 G)
theorem sc10 : FnScope ["term", "found", "part"] ["term"] (defScope s10) := ⟨rfl, rfl, rfl, by decide +kernel, rfl, by decide +kernel, by decide +kernel⟩
/-- names_with -/
def B11 (G : Tab) : Sx := sSeq (sSet 2 (cDc [3] (iSeq (cCall (G 10) [] (cCons (cVar 0) cNil))) (CT.one 3) (bAnd (bTru (cOpL oIsi (cCons (cVar 3) (cCons (cC (.ty "tuple")) cNil)))) (bVal (cOp2 oEq (cOp2 oIx (cVar 3) (cC (.int 0))) (cVar 1)))) (cOp2 oIx (cVar 3) (cC (.int 1))) (cC (.bl true)))) (sRet (cOpL oSortedS (cCons (lockE (cVar 2) (cLc [4] (iKy (cVar 2)) (CT.one 4) bYes (cOpL oStr (cCons (cVar 4) cNil)))) cNil)))
def F11 (G : Tab) : Fn := defF 5 2 (B11 G)
theorem sc11 : FnScope ["term", "kind", "found", "part", "name"] ["term", "kind"] (defScope s11) := ⟨rfl, rfl, rfl, by decide +kernel, rfl, by decide +kernel, by decide +kernel⟩
/-- cells_in -/
def B12 (G : Tab) : Sx := sRet (cCall (G 11) [] (cCons (cVar 0) (cCons (cC (.str "cell")) cNil)))
def F12 (G : Tab) : Fn := defF 1 1 (B12 G)
theorem sc12 : FnScope ["term"] ["term"] (defScope s12) := ⟨rfl, rfl, rfl, by decide +kernel, rfl, by decide +kernel, by decide +kernel⟩
/-- calls_in -/
def B13 (G : Tab) : Sx := sRet (cCall (G 11) [] (cCons (cVar 0) (cCons (cC (.str "call")) cNil)))
def F13 (G : Tab) : Fn := defF 1 1 (B13 G)
theorem sc13 : FnScope ["term"] ["term"] (defScope s13) := ⟨rfl, rfl, rfl, by decide +kernel, rfl, by decide +kernel, by decide +kernel⟩
/-- has_tick -/
def B14 (G : Tab) : Sx := sRet (cOp2 oInD (cOpL oTup (cCons (cC (.str "tick")) cNil)) (cCall (G 10) [] (cCons (cVar 0) cNil)))
def F14 (G : Tab) : Fn := defF 1 1 (B14 G)
theorem sc14 : FnScope ["term"] ["term"] (defScope s14) := ⟨rfl, rfl, rfl, by decide +kernel, rfl, by decide +kernel, by decide +kernel⟩
/-- _law_pool -/
def B15 (G : Tab) : Sx := sSeq (sSet 2 (cIf (bVal (cOp2 oLt (cVar 1) (cOpL oLen (cCons (cVar 0) cNil)))) (cOp2 oIx (cVar 0) (cVar 1)) (cOp2 oAdd (cOp2 oMul (cC (.int 7)) (cOpL oSum (cCons (cSl (cVar 0) none (some (cC (.int 63)))) cNil))) (cVar 1)))) (sSeq (sSet 3 (cOpL oAbs (cCons (cVar 2) cNil))) (sSeq (sSet 4 (cOp2 oAdd (cOp2 oAdd (cOp2 oAdd (cOp2 oMod (cOpL oInt (cCons (cVar 3) cNil)) (cC (.int 2147483629))) (cOp2 oMul (cOp2 oMul (cC (.int 7919)) (cVar 1)) (cVar 1))) (cOp2 oMul (cC (.int 31)) (cVar 1))) (cC (.int 17)))) (sSeq (sSet 4 (cOp2 oMod (cOpL oInt (cCons (cOp2 oMul (cVar 4) (cC (.int 48271))) cNil)) (cC (.int 2147483647)))) (sRet (cOpL oLst (cCons (cOp2 oMul (cVar 3) (cOpL oInt (cCons (cOp2 oGe (cVar 3) (cOp2 oPow (cC (.int 10)) (cC (.int 18)))) cNil))) (cCons (cOp2 oMod (cOpL oInt (cCons (cOp2 oMul (cVar 4) (cVar 4)) cNil)) (cC (.int 2147483629))) cNil)))))))
def F15 (G : Tab) : Fn := defF 5 2 (B15 G)
theorem sc15 : FnScope ["script", "k", "cell", "size", "mixed"] ["script", "k"] (defScope s15) := ⟨rfl, rfl, rfl, by decide +kernel, rfl, by decide +kernel, by decide +kernel⟩
/-- _law_draw -/
def B16 (G : Tab) : Sx := sSeq (sIf (bVal (cOp2 oGt (cOp2 oIx (cVar 0) (cC (.int 0))) (cC (.int 0)))) (sSeq (sSet 2 (cOp2 oMod (cOpL oInt (cCons (cOp2 oIx (cVar 0) (cC (.int 0))) cNil)) (cVar 1))) (sSeq (sAs (cOp2 oDiv (cOp2 oIx (cVar 0) (cC (.int 0))) (cVar 1)) (gIx (cVar 0) (cC (.int 0)))) (sRet (cVar 2)))) sSkip) (sSeq (sAs (cOp2 oMod (cOpL oInt (cCons (cOp2 oAdd (cOp2 oMul (cOp2 oIx (cVar 0) (cC (.int 1))) (cC (.int 48271))) (cC (.int 11))) cNil)) (cC (.int 2147483647))) (gIx (cVar 0) (cC (.int 1)))) (sRet (cOp2 oMod (cOpL oInt (cCons (cOp2 oDiv (cOp2 oMod (cOpL oInt (cCons (cOp2 oMul (cOp2 oIx (cVar 0) (cC (.int 1))) (cOp2 oIx (cVar 0) (cC (.int 1)))) cNil)) (cC (.int 2147483629))) (cC (.int 16))) cNil)) (cVar 1))))
def F16 (G : Tab) : Fn := defF 3 2 (B16 G)
theorem sc16 : FnScope ["pool", "many", "found"] ["pool", "many"] (defScope s16) := ⟨rfl, rfl, rfl, by decide +kernel, rfl, by decide +kernel, by decide +kernel⟩
/-- _law_pick -/
def B17 (G : Tab) : Sx := sRet (cOp2 oIx (cVar 1) (cCall (G 16) [] (cCons (cVar 0) (cCons (cOpL oLen (cCons (cVar 1) cNil)) cNil))))
def F17 (G : Tab) : Fn := defF 2 2 (B17 G)
theorem sc17 : FnScope ["pool", "row"] ["pool", "row"] (defScope s17) := ⟨rfl, rfl, rfl, by decide +kernel, rfl, by decide +kernel, by decide +kernel⟩
/-- _law_names -/
def B18 (G : Tab) : Sx := sSeq (sSet 2 (cC (.str "abcdefghijklmnopqrstuvwxyz"))) (sSeq (sAs (cOpL oTup (cCons (cCall (G 16) [] (cCons (cVar 0) (cCons (cC (.int 26)) cNil))) (cCons (cOp2 oAdd (cC (.int 1)) (cOp2 oMul (cC (.int 2)) (cCall (G 16) [] (cCons (cVar 0) (cCons (cC (.int 6)) cNil))))) cNil))) (gTupW 2 (gsCons (gN 4) (gsCons (gN 5) gsNil)))) (sSeq (sSet 3 (cOpL oLst (cCons (cOpL oTup (cCons (cC (.str "")) (cCons (cC (.str "")) cNil))) (cCons (cOpL oTup (cCons (cC (.str "")) (cCons (cC (.str "q")) cNil))) (cCons (cOpL oTup (cCons (cC (.str "ab")) (cCons (cC (.str "")) cNil))) (cCons (cOpL oTup (cCons (cC (.str "abcdefg")) (cCons (cC (.str "")) cNil))) (cCons (cOpL oTup (cCons (cC (.str "")) (cCons (cC (.str "abcdefg")) cNil))) cNil))))))) (sSeq (sAs (cCall (G 17) [] (cCons (cVar 0) (cCons (cVar 3) cNil))) (gTupW 2 (gsCons (gN 6) (gsCons (gN 7) gsNil)))) (sRet (cLc [8] (iRng1 (cCons (cVar 1) cNil)) (CT.one 8) bYes (cOp2 oAdd (cOp2 oAdd (cVar 6) (cOp2 oIx (cVar 2) (cOp2 oMod (cOpL oInt (cCons (cOp2 oAdd (cVar 4) (cOp2 oMul (cVar 5) (cVar 8))) cNil)) (cC (.int 26))))) (cVar 7)))))))
def F18 (G : Tab) : Fn := defF 9 2 (B18 G)
theorem sc18 : FnScope ["pool", "count", "signs", "ends", "origin", "step", "head", "tail", "k"] ["pool", "count"] (defScope s18) := ⟨rfl, rfl, rfl, by decide +kernel, rfl, by decide +kernel, by decide +kernel⟩
/-- _law_term -/
def B19 (G : Tab) : Sx := sSeq (sSet 4 (cCall (G 16) [] (cCons (cVar 0) (cCons (cIf (bVal (cOp2 oGt (cVar 3) (cC (.int 0)))) (cC (.int 9)) (cC (.int 4))) cNil)))) (sSeq (sIf (bOr (bVal (cOp2 oEq (cVar 4) (cC (.int 0)))) (bOr (bAnd (bVal (cOp2 oEq (cVar 4) (cC (.int 1)))) (bVal (cOp2 oEq (cVar 2) (cC (.int 0))))) (bAnd (bVal (cOp2 oInD (cVar 4) (cOpL oLst (cCons (cC (.int 2)) (cCons (cC (.int 8)) cNil))))) (bVal (cOp2 oEq (cOp2 oIx (cVar 1) (cC (.str "cells"))) (cOpL oLst cNil)))))) (sRet (cCall (G 16) [] (cCons (cVar 0) (cCons (cC (.int 3)) cNil)))) sSkip) (sSeq (sIf (bVal (cOp2 oEq (cVar 4) (cC (.int 1)))) (sRet (cOpL oTup (cCons (cC (.str "arg")) (cCons (cCall (G 16) [] (cCons (cVar 0) (cCons (cVar 2) cNil))) cNil)))) sSkip) (sSeq (sIf (bOr (bVal (cOp2 oEq (cVar 4) (cC (.int 2)))) (bVal (cOp2 oEq (cVar 4) (cC (.int 8))))) (sRet (cOpL oTup (cCons (cC (.str "cell")) (cCons (cOp2 oIx (cCall (G 17) [] (cCons (cVar 0) (cCons (cOp2 oIx (cVar 1) (cC (.str "cells"))) cNil))) (cC (.int 0))) cNil)))) sSkip) (sSeq (sIf (bVal (cOp2 oEq (cVar 4) (cC (.int 3)))) (sRet (cIf (bVal (cOp2 oEq (cCall (G 16) [] (cCons (cVar 0) (cCons (cC (.int 3)) cNil))) (cC (.int 0)))) (cOpL oTup (cCons (cC (.str "tick")) cNil)) (cCall (G 16) [] (cCons (cVar 0) (cCons (cC (.int 3)) cNil))))) sSkip) (sSeq (sIf (bAnd (bVal (cOp2 oEq (cVar 4) (cC (.int 4)))) (bVal (cOp2 oNe (cOp2 oIx (cVar 1) (cC (.str "functions"))) (cOpL oLst cNil)))) (sSeq (sSet 6 (cCall (G 17) [] (cCons (cVar 0) (cCons (cOp2 oIx (cVar 1) (cC (.str "functions"))) cNil)))) (sRet (cOpL oTup (cCons (cC (.str "call")) (cCons (cOp2 oIx (cVar 6) (cC (.str "name"))) (cCons (cOpL oTuple (cCons (cLc [7] (iRng1 (cCons (cOp2 oIx (cVar 6) (cC (.str "many"))) cNil)) (CT.one 7) bYes (cCall (G 19) [] (cCons (cVar 0) (cCons (cVar 1) (cCons (cVar 2) (cCons (cC (.int 0)) cNil)))))) cNil)) cNil)))))) sSkip) (sSeq (sIf (bVal (cOp2 oEq (cVar 4) (cC (.int 7)))) (sRet (cOp2 oAdd (cOpL oTup (cCons (cC (.str "if")) cNil)) (cOpL oTuple (cCons (cLc [7] (iRng1 (cCons (cC (.int 3)) cNil)) (CT.one 7) bYes (cCall (G 19) [] (cCons (cVar 0) (cCons (cVar 1) (cCons (cVar 2) (cCons (cOp2 oSub (cVar 3) (cC (.int 1))) cNil)))))) cNil)))) sSkip) (sSeq (sSet 5 (cCall (G 17) [] (cCons (cVar 0) (cCons (cOpL oLst (cCons (cC (.str "plus")) (cCons (cC (.str "less")) (cCons (cC (.str "same")) cNil)))) cNil)))) (sRet (cOpL oTup (cCons (cVar 5) (cCons (cCall (G 19) [] (cCons (cVar 0) (cCons (cVar 1) (cCons (cVar 2) (cCons (cOp2 oSub (cVar 3) (cC (.int 1))) cNil))))) (cCons (cCall (G 19) [] (cCons (cVar 0) (cCons (cVar 1) (cCons (cVar 2) (cCons (cOp2 oSub (cVar 3) (cC (.int 1))) cNil))))) cNil))))))))))))
def F19 (G : Tab) : Fn := defF 8 4 (B19 G)
theorem sc19 : FnScope ["pool", "b", "many", "deep", "kind", "head", "f", "at"] ["pool", "b", "many", "deep"] (defScope s19) := ⟨rfl, rfl, rfl, by decide +kernel, rfl, by decide +kernel, by decide +kernel⟩
/-- _law_inner -/
def B20 (G : Tab) : Sx := sSeq (sIf (bOr (bNot (bTru (cOpL oIsi (cCons (cVar 0) (cCons (cC (.ty "tuple")) cNil))))) (bVal (cOp2 oInD (cOp2 oIx (cVar 0) (cC (.int 0))) (cOpL oLst (cCons (cC (.str "arg")) (cCons (cC (.str "cell")) (cCons (cC (.str "tick")) cNil))))))) (sRet (cOpL oLst cNil)) sSkip) (sRet (cIf (bVal (cOp2 oEq (cOp2 oIx (cVar 0) (cC (.int 0))) (cC (.str "call")))) (cOpL oList (cCons (cOp2 oIx (cVar 0) (cC (.int 2))) cNil)) (cOpL oList (cCons (cSl (cVar 0) (some (cC (.int 1))) none) cNil))))
def F20 (G : Tab) : Fn := defF 1 1 (B20 G)
theorem sc20 : FnScope ["term"] ["term"] (defScope s20) := ⟨rfl, rfl, rfl, by decide +kernel, rfl, by decide +kernel, by decide +kernel⟩
/-- _law_counts -/
def B21 (G : Tab) : Sx := sSeq (sAs (cOpL oTup (cCons (cDict [(cC (.str "size"), cC (.int 1)), (cC (.str "cell"), cOpL oLst cNil), (cC (.str "call"), cOpL oLst cNil), (cC (.str "tick"), cC (.bl false))]) (cCons (cCall (G 20) [] (cCons (cVar 0) cNil)) cNil))) (gTupW 2 (gsCons (gN 3) (gsCons (gN 4) gsNil)))) (sSeq (sSet 1 (cC (.int 0))) (sSeq (sIf (bAnd (bTru (cOpL oIsi (cCons (cVar 0) (cCons (cC (.ty "tuple")) cNil)))) (bVal (cOp2 oInD (cOp2 oIx (cVar 0) (cC (.int 0))) (cOpL oLst (cCons (cC (.str "cell")) (cCons (cC (.str "call")) cNil)))))) (sAs (cOpL oLst (cCons (cOp2 oIx (cVar 0) (cC (.int 1))) cNil)) (gIx (cVar 3) (cOp2 oIx (cVar 0) (cC (.int 0))))) sSkip) (sSeq (sAs (cOp2 oEq (cVar 0) (cOpL oTup (cCons (cC (.str "tick")) cNil))) (gIx (cVar 3) (cC (.str "tick")))) (sSeq (sFor (iSeq (cVar 4)) (gN 2) (sSeq (sSet 5 (cCall (G 21) [] (cCons (cVar 2) cNil))) (sSeq (sAs (cOpL oTup (cCons (cOp2 oAdd (cOp2 oIx (cVar 3) (cC (.str "size"))) (cOp2 oIx (cVar 5) (cC (.str "size")))) (cCons (cOr (cOp2 oIx (cVar 3) (cC (.str "tick"))) (cOp2 oIx (cVar 5) (cC (.str "tick")))) cNil))) (gTupW 2 (gsCons (gIx (cVar 3) (cC (.str "size"))) (gsCons (gIx (cVar 3) (cC (.str "tick"))) gsNil)))) (sSeq (sSet 1 (cOpL oMax (cCons (cOpL oInt (cCons (cVar 1) cNil)) (cCons (cOpL oInt (cCons (cOp2 oIx (cVar 5) (cC (.str "depth"))) cNil)) cNil)))) (sFor (iSeq (cOpL oLst (cCons (cC (.str "cell")) (cCons (cC (.str "call")) cNil)))) (gN 6) (sAs (cOp2 oAdd (cOp2 oIx (cVar 3) (cVar 6)) (cLc [7] (iSeq (cOp2 oIx (cVar 5) (cVar 6))) (CT.one 7) (bVal (cOp2 oNotInD (cVar 7) (cOp2 oIx (cVar 3) (cVar 6)))) (cVar 7))) (gIx (cVar 3) (cVar 6)))))))) (sSeq (sAs (cOp2 oAdd (cC (.int 1)) (cVar 1)) (gIx (cVar 3) (cC (.str "depth")))) (sRet (cVar 3)))))))
def F21 (G : Tab) : Fn := defF 8 1 (B21 G)
theorem sc21 : FnScope ["term", "deepest", "part", "found", "parts", "told", "kind", "word"] ["term"] (defScope s21) := ⟨rfl, rfl, rfl, by decide +kernel, rfl, by decide +kernel, by decide +kernel⟩
/-- _law_bent -/
def B22 (G : Tab) : Sx := sSeq (sSet 3 (cCall (G 20) [] (cCons (cVar 1) cNil))) (sSeq (sIf (bOr (bVal (cOp2 oEq (cVar 3) (cOpL oLst cNil))) (bVal (cOp2 oEq (cCall (G 16) [] (cCons (cVar 0) (cCons (cC (.int 3)) cNil))) (cC (.int 0))))) (sRet (cVar 2)) sSkip) (sSeq (sSet 4 (cCall (G 16) [] (cCons (cVar 0) (cCons (cOpL oLen (cCons (cVar 3) cNil)) cNil)))) (sSeq (sAs (cCall (G 22) [] (cCons (cVar 0) (cCons (cOp2 oIx (cVar 3) (cVar 4)) (cCons (cVar 2) cNil)))) (gIx (cVar 3) (cVar 4))) (sRet (cIf (bVal (cOp2 oEq (cOp2 oIx (cVar 1) (cC (.int 0))) (cC (.str "call")))) (cOpL oTup (cCons (cOp2 oIx (cVar 1) (cC (.int 0))) (cCons (cOp2 oIx (cVar 1) (cC (.int 1))) (cCons (cOpL oTuple (cCons (cVar 3) cNil)) cNil)))) (cOp2 oAdd (cOpL oTup (cCons (cOp2 oIx (cVar 1) (cC (.int 0))) cNil)) (cOpL oTuple (cCons (cVar 3) cNil))))))))
def F22 (G : Tab) : Fn := defF 5 3 (B22 G)
theorem sc22 : FnScope ["pool", "term", "odd", "parts", "at"] ["pool", "term", "odd"] (defScope s22) := ⟨rfl, rfl, rfl, by decide +kernel, rfl, by decide +kernel, by decide +kernel⟩
/-- law -/
def B23 (G : Tab) : Sx := sSeq (sFor (iRng1 (cCons (cOpL oMax (cCons (cC (.int 1)) (cCons (cOpL oMin (cCons (cOpL oLen (cCons (cVar 0) cNil)) (cCons (cC (.int 2)) cNil))) cNil))) cNil)) (gN 1) (sSeq (sSet 2 (cCall (G 15) [] (cCons (cVar 0) (cCons (cVar 1) cNil)))) (sSeq (sPar 5 6 (cCons (cCall (G 18) [] (cCons (cVar 2) (cCons (cC (.int 4)) cNil))) (cCons (cCall (G 16) [] (cCons (cVar 2) (cCons (cC (.int 3)) cNil))) cNil))) (sSeq (sSet 3 (cDict [(cC (.str "cells"), cOpL oLst (cCons (cOpL oTup (cCons (cOp2 oIx (cVar 5) (cC (.int 0))) (cCons (cC (.str "table")) cNil))) (cCons (cOpL oTup (cCons (cOp2 oIx (cVar 5) (cC (.int 1))) (cCons (cC (.str "frozen")) cNil))) cNil))), (cC (.str "functions"), cOpL oLst cNil)])) (sSeq (sFor (iSeq (cOpL oLst (cCons (cOpL oTup (cCons (cOp2 oIx (cVar 5) (cC (.int 2))) (cCons (cC (.int 2)) cNil))) (cCons (cOpL oTup (cCons (cOp2 oIx (cVar 5) (cC (.int 3))) (cCons (cC (.int 0)) cNil))) cNil)))) (gTupW 2 (gsCons (gN 7) (gsCons (gN 8) gsNil))) (sExpr (cMth isLst oAppend (cOp2 oIx (cVar 3) (cC (.str "functions"))) (cCons (cDict [(cC (.str "name"), cVar 7), (cC (.str "many"), cVar 8)]) cNil)))) (sFor (iRng1 (cCons (cC (.int 12)) cNil)) (gN 4) (sSeq (sSet 9 (cCall (G 19) [] (cCons (cVar 2) (cCons (cVar 3) (cCons (cVar 6) (cCons (cCall (G 16) [] (cCons (cVar 2) (cCons (cC (.int 4)) cNil))) cNil)))))) (sSeq (sSet 10 (cCall (G 21) [] (cCons (cVar 9) cNil))) (sIf (bVal (cOp2 oLe (cOp2 oIx (cVar 10) (cC (.str "size"))) (cC (.int 30)))) (sSeq (sIf (bOr (bVal (cOp2 oIsNot (cCall (G 7) [] (cCons (cVar 9) (cCons (cVar 6) cNil))) (cC (.bl true)))) (bVal (cOp2 oNe (cOpL oLst (cCons (cCall (G 8) [] (cCons (cVar 9) cNil)) (cCons (cCall (G 9) [] (cCons (cVar 9) cNil)) cNil))) (cOpL oLst (cCons (cOp2 oIx (cVar 10) (cC (.str "size"))) (cCons (cOp2 oIx (cVar 10) (cC (.str "depth"))) cNil)))))) (sRet (cC (.bl false))) sSkip) (sSeq (sIf (bVal (cOp2 oNe (cCall (G 12) [] (cCons (cVar 9) cNil)) (cOpL oSortedS (cCons (cLc [7] (iSeq (cOp2 oIx (cVar 10) (cC (.str "cell")))) (CT.one 7) bYes (cOpL oStr (cCons (cVar 7) cNil))) cNil)))) (sRet (cC (.bl false))) sSkip) (sSeq (sIf (bOr (bVal (cOp2 oNe (cCall (G 13) [] (cCons (cVar 9) cNil)) (cOpL oSortedS (cCons (cLc [7] (iSeq (cOp2 oIx (cVar 10) (cC (.str "call")))) (CT.one 7) bYes (cOpL oStr (cCons (cVar 7) cNil))) cNil)))) (bVal (cOp2 oNe (cCall (G 14) [] (cCons (cVar 9) cNil)) (cOp2 oIx (cVar 10) (cC (.str "tick")))))) (sRet (cC (.bl false))) sSkip) (sSeq (sSet 11 (cOpL oLst (cCons (cC .non) (cCons (cC (.int 3)) (cCons (cOp1 oNeg (cC (.int 1))) (cCons (cC (.bl true)) (cCons (cC (.str "1")) (cCons (cOpL oTup cNil) (cCons (cOpL oTup (cCons (cC (.str "arg")) (cCons (cVar 6) cNil))) (cCons (cOpL oTup (cCons (cC (.str "arg")) (cCons (cC (.bl true)) cNil))) (cCons (cOpL oTup (cCons (cC (.str "cell")) (cCons (cC (.str "A")) cNil))) (cCons (cOpL oTup (cCons (cC (.str "cell")) cNil)) (cCons (cOpL oTup (cCons (cC (.str "tick")) (cCons (cC (.int 1)) cNil))) (cCons (cOpL oLst (cCons (cC (.str "tick")) cNil)) cNil)))))))))))))) (sSeq (sSet 11 (cOp2 oAdd (cVar 11) (cOpL oLst (cCons (cOpL oTup (cCons (cC (.str "plus")) (cCons (cC (.int 1)) cNil))) (cCons (cOpL oTup (cCons (cC (.str "less")) (cCons (cC (.int 0)) (cCons (cC (.int 1)) (cCons (cC (.int 2)) cNil))))) (cCons (cOpL oTup (cCons (cC (.str "if")) (cCons (cC (.int 1)) (cCons (cC (.int 1)) cNil)))) (cCons (cOpL oTup (cCons (cC (.str "call")) (cCons (cC (.str "f")) (cCons (cOpL oLst (cCons (cC (.int 1)) cNil)) cNil)))) (cCons (cOpL oTup (cCons (cC (.str "call")) (cCons (cC (.str "f")) (cCons (cOpL oTup (cCons (cC (.int 1)) (cCons (cC (.int 1)) (cCons (cC (.int 1)) cNil)))) cNil)))) (cCons (cOpL oTup (cCons (cC (.str "call")) (cCons (cC (.str "F")) (cCons (cOpL oTup cNil) cNil)))) cNil))))))))) (sFor (iSeq (cOp2 oAdd (cVar 11) (cOpL oLst (cCons (cOpL oTup (cCons (cC (.str "Plus")) (cCons (cC (.int 1)) (cCons (cC (.int 1)) cNil)))) (cCons (cOpL oTup (cCons (cC (.str "same")) (cCons (cC (.int 0)) (cCons (cC .non) cNil)))) (cCons (cOpL oTup (cCons (cC (.int 1)) (cCons (cC (.int 1)) (cCons (cC (.int 1)) cNil)))) (cCons (cOpL oTup (cCons (cC (.str "call")) (cCons (cC (.str "f")) cNil))) (cCons (cOpL oTup (cCons (cC (.str "call")) (cCons (cC (.str "f")) (cCons (cOpL oTup (cCons (cC .non) cNil)) cNil)))) cNil)))))))) (gN 12) (sIf (bVal (cOp2 oIsNot (cCall (G 7) [] (cCons (cCall (G 22) [] (cCons (cVar 2) (cCons (cVar 9) (cCons (cVar 12) cNil)))) (cCons (cVar 6) cNil))) (cC (.bl false)))) (sRet (cC (.bl false))) sSkip))))))) sSkip))))))))) (sRet (cC (.bl true)))
def F23 (G : Tab) : Fn := defF 13 1 (B23 G)
theorem sc23 : FnScope ["script", "k", "pool", "b", "turn", "names", "many", "word", "arguments", "term", "due", "odds", "odd"] ["script"] (defScope s23) := ⟨rfl, rfl, rfl, by decide +kernel, rfl, by decide +kernel, by decide +kernel⟩
def zstep (G : Tab) : Tab := fun i => match i with
  | 0 => F0 G
  | 1 => F1 G
  | 2 => F2 G
  | 3 => F3 G
  | 4 => F4 G
  | 5 => F5 G
  | 6 => F6 G
  | 7 => F7 G
  | 8 => F8 G
  | 9 => F9 G
  | 10 => F10 G
  | 11 => F11 G
  | 12 => F12 G
  | 13 => F13 G
  | 14 => F14 G
  | 15 => F15 G
  | 16 => F16 G
  | 17 => F17 G
  | 18 => F18 G
  | 19 => F19 G
  | 20 => F20 G
  | 21 => F21 G
  | 22 => F22 G
  | 23 => F23 G
  | _ => fun _ _ => .stk
def zlev : Nat → Tab
  | 0 => fun _ _ _ => .stk
  | k + 1 => zstep (zlev k)
/-- what the top has written -/
structure Fx (K : PySem.W.Frag) (mg : Str → Option Value) (Γ : Z.Ctx) (fd : Nat → FuncData) : Prop where
  hK : Γ.K = K
  u0 : Fun K "is_integer" "is_integer" s0 (Γ.fns 0) (fd 0)
  m0 : mg "is_integer" = some (.ref (Γ.fns 0))
  b0 : Binds K (fd 0) ["value"] []
  u1 : Fun K "is_between" "is_between" s1 (Γ.fns 1) (fd 1)
  m1 : mg "is_between" = some (.ref (Γ.fns 1))
  b1 : Binds K (fd 1) ["value", "least", "most"] []
  u2 : Fun K "is_value" "is_value" s2 (Γ.fns 2) (fd 2)
  m2 : mg "is_value" = some (.ref (Γ.fns 2))
  b2 : Binds K (fd 2) ["value"] []
  u3 : Fun K "is_name" "is_name" s3 (Γ.fns 3) (fd 3)
  m3 : mg "is_name" = some (.ref (Γ.fns 3))
  b3 : Binds K (fd 3) ["value"] []
  u4 : Fun K "has_kind" "has_kind" s4 (Γ.fns 4) (fd 4)
  m4 : mg "has_kind" = some (.ref (Γ.fns 4))
  b4 : Binds K (fd 4) ["value", "kind", "many"] []
  u5 : Fun K "inner_terms" "inner_terms" s5 (Γ.fns 5) (fd 5)
  m5 : mg "inner_terms" = some (.ref (Γ.fns 5))
  b5 : Binds K (fd 5) ["term"] []
  u6 : Fun K "has_form" "has_form" s6 (Γ.fns 6) (fd 6)
  m6 : mg "has_form" = some (.ref (Γ.fns 6))
  b6 : Binds K (fd 6) ["value", "arguments"] []
  u7 : Fun K "is_term" "is_term" s7 (Γ.fns 7) (fd 7)
  m7 : mg "is_term" = some (.ref (Γ.fns 7))
  b7 : Binds K (fd 7) ["value", "arguments"] []
  u8 : Fun K "term_size" "term_size" s8 (Γ.fns 8) (fd 8)
  m8 : mg "term_size" = some (.ref (Γ.fns 8))
  b8 : Binds K (fd 8) ["term"] []
  u9 : Fun K "term_depth" "term_depth" s9 (Γ.fns 9) (fd 9)
  m9 : mg "term_depth" = some (.ref (Γ.fns 9))
  b9 : Binds K (fd 9) ["term"] []
  u10 : Fun K "leaves" "leaves" s10 (Γ.fns 10) (fd 10)
  m10 : mg "leaves" = some (.ref (Γ.fns 10))
  b10 : Binds K (fd 10) ["term"] []
  u11 : Fun K "names_with" "names_with" s11 (Γ.fns 11) (fd 11)
  m11 : mg "names_with" = some (.ref (Γ.fns 11))
  b11 : Binds K (fd 11) ["term", "kind"] []
  u12 : Fun K "cells_in" "cells_in" s12 (Γ.fns 12) (fd 12)
  m12 : mg "cells_in" = some (.ref (Γ.fns 12))
  b12 : Binds K (fd 12) ["term"] []
  u13 : Fun K "calls_in" "calls_in" s13 (Γ.fns 13) (fd 13)
  m13 : mg "calls_in" = some (.ref (Γ.fns 13))
  b13 : Binds K (fd 13) ["term"] []
  u14 : Fun K "has_tick" "has_tick" s14 (Γ.fns 14) (fd 14)
  m14 : mg "has_tick" = some (.ref (Γ.fns 14))
  b14 : Binds K (fd 14) ["term"] []
  u15 : Fun K "_law_pool" "_law_pool" s15 (Γ.fns 15) (fd 15)
  m15 : mg "_law_pool" = some (.ref (Γ.fns 15))
  b15 : Binds K (fd 15) ["script", "k"] []
  u16 : Fun K "_law_draw" "_law_draw" s16 (Γ.fns 16) (fd 16)
  m16 : mg "_law_draw" = some (.ref (Γ.fns 16))
  b16 : Binds K (fd 16) ["pool", "many"] []
  u17 : Fun K "_law_pick" "_law_pick" s17 (Γ.fns 17) (fd 17)
  m17 : mg "_law_pick" = some (.ref (Γ.fns 17))
  b17 : Binds K (fd 17) ["pool", "row"] []
  u18 : Fun K "_law_names" "_law_names" s18 (Γ.fns 18) (fd 18)
  m18 : mg "_law_names" = some (.ref (Γ.fns 18))
  b18 : Binds K (fd 18) ["pool", "count"] []
  u19 : Fun K "_law_term" "_law_term" s19 (Γ.fns 19) (fd 19)
  m19 : mg "_law_term" = some (.ref (Γ.fns 19))
  b19 : Binds K (fd 19) ["pool", "b", "many", "deep"] []
  u20 : Fun K "_law_inner" "_law_inner" s20 (Γ.fns 20) (fd 20)
  m20 : mg "_law_inner" = some (.ref (Γ.fns 20))
  b20 : Binds K (fd 20) ["term"] []
  u21 : Fun K "_law_counts" "_law_counts" s21 (Γ.fns 21) (fd 21)
  m21 : mg "_law_counts" = some (.ref (Γ.fns 21))
  b21 : Binds K (fd 21) ["term"] []
  u22 : Fun K "_law_bent" "_law_bent" s22 (Γ.fns 22) (fd 22)
  m22 : mg "_law_bent" = some (.ref (Γ.fns 22))
  b22 : Binds K (fd 22) ["pool", "term", "odd"] []
  u23 : Fun K "law" "law" s23 (Γ.fns 23) (fd 23)
  m23 : mg "law" = some (.ref (Γ.fns 23))
  b23 : Binds K (fd 23) ["script"] []
  z_abs : mg "abs" = none
  z_all : mg "all" = none
  z_any : mg "any" = none
  z_bool : mg "bool" = none
  z_int : mg "int" = none
  z_isinstance : mg "isinstance" = none
  z_len : mg "len" = none
  z_list : mg "list" = none
  z_max : mg "max" = none
  z_min : mg "min" = none
  z_range : mg "range" = none
  z_sorted : mg "sorted" = none
  z_str : mg "str" = none
  z_sum : mg "sum" = none
  z_tuple : mg "tuple" = none
  g_LETTERS : GW Γ mg "LETTERS" w_LETTERS
  g_MOST_ARGUMENTS : GW Γ mg "MOST_ARGUMENTS" w_MOST_ARGUMENTS
  g_MOST_DEPTH : GW Γ mg "MOST_DEPTH" w_MOST_DEPTH
  g_MOST_LETTERS : GW Γ mg "MOST_LETTERS" w_MOST_LETTERS
  g_MOST_PARTS : GW Γ mg "MOST_PARTS" w_MOST_PARTS
  g_MOST_VALUE : GW Γ mg "MOST_VALUE" w_MOST_VALUE
  g_PAIRS : GW Γ mg "PAIRS" w_PAIRS
structure TabOk (P : Program) (w : World) (K : PySem.W.Frag) (mg : Str → Option Value) (base : Heap) (Γ : Z.Ctx) (k : Nat) (G : Tab) : Prop where
  f0 : FnS P w K mg base Γ k (Γ.fns 0) ["value"] [] (G 0)
  f1 : FnS P w K mg base Γ k (Γ.fns 1) ["value", "least", "most"] [] (G 1)
  f2 : FnS P w K mg base Γ k (Γ.fns 2) ["value"] [] (G 2)
  f3 : FnS P w K mg base Γ k (Γ.fns 3) ["value"] [] (G 3)
  f4 : FnS P w K mg base Γ k (Γ.fns 4) ["value", "kind", "many"] [] (G 4)
  f5 : FnS P w K mg base Γ k (Γ.fns 5) ["term"] [] (G 5)
  f6 : FnS P w K mg base Γ k (Γ.fns 6) ["value", "arguments"] [] (G 6)
  f7 : FnS P w K mg base Γ k (Γ.fns 7) ["value", "arguments"] [] (G 7)
  f8 : FnS P w K mg base Γ k (Γ.fns 8) ["term"] [] (G 8)
  f9 : FnS P w K mg base Γ k (Γ.fns 9) ["term"] [] (G 9)
  f10 : FnS P w K mg base Γ k (Γ.fns 10) ["term"] [] (G 10)
  f11 : FnS P w K mg base Γ k (Γ.fns 11) ["term", "kind"] [] (G 11)
  f12 : FnS P w K mg base Γ k (Γ.fns 12) ["term"] [] (G 12)
  f13 : FnS P w K mg base Γ k (Γ.fns 13) ["term"] [] (G 13)
  f14 : FnS P w K mg base Γ k (Γ.fns 14) ["term"] [] (G 14)
  f15 : FnS P w K mg base Γ k (Γ.fns 15) ["script", "k"] [] (G 15)
  f16 : FnS P w K mg base Γ k (Γ.fns 16) ["pool", "many"] [] (G 16)
  f17 : FnS P w K mg base Γ k (Γ.fns 17) ["pool", "row"] [] (G 17)
  f18 : FnS P w K mg base Γ k (Γ.fns 18) ["pool", "count"] [] (G 18)
  f19 : FnS P w K mg base Γ k (Γ.fns 19) ["pool", "b", "many", "deep"] [] (G 19)
  f20 : FnS P w K mg base Γ k (Γ.fns 20) ["term"] [] (G 20)
  f21 : FnS P w K mg base Γ k (Γ.fns 21) ["term"] [] (G 21)
  f22 : FnS P w K mg base Γ k (Γ.fns 22) ["pool", "term", "odd"] [] (G 22)
  f23 : FnS P w K mg base Γ k (Γ.fns 23) ["script"] [] (G 23)
section
variable {P : Program} {w : World} {K : PySem.W.Frag} {mg : Str → Option Value} {base : Heap} {Γ : Z.Ctx} {fd : Nat → FuncData} {k : Nat} {G : Tab}
theorem d0 (Z : Fx K mg Γ fd) (T : TabOk P w K mg base Γ k G) (f : Addr) (cdv : Value) (A : Around) (outer : List PySem.Env) (s : Shared) (H : Hp) (E : XK) : DSs (CxD P w K mg base ["value"] "is_integer" (defScope s0) f cdv A outer s H E) Γ k (WxD E) (defBody s0) (B0 G) :=
  dss_one (ds_ret (d_and (d_isi Z.z_isinstance (da_cons (d_var 0) (da_cons (d_ty (n := "int") (hm := Z.z_int)) da_nil))) (d_one (d_not (d_isi Z.z_isinstance (da_cons (d_var 0) (da_cons (d_ty (n := "bool") (hm := Z.z_bool)) da_nil)))))))
theorem d1 (Z : Fx K mg Γ fd) (T : TabOk P w K mg base Γ k G) (f : Addr) (cdv : Value) (A : Around) (outer : List PySem.Env) (s : Shared) (H : Hp) (E : XK) : DSs (CxD P w K mg base ["value", "least", "most"] "is_between" (defScope s1) f cdv A outer s H E) Γ k (WxD E) (defBody s1) (B1 G) :=
  dss_one (ds_ret (d_and (d_call T.f0 Z.m0 (da_cons (d_var 0) da_nil)) (d_one (d_chain o_le o_le (d_var 1) (d_var 0) (d_var 2)))))
theorem d2 (Z : Fx K mg Γ fd) (T : TabOk P w K mg base Γ k G) (f : Addr) (cdv : Value) (A : Around) (outer : List PySem.Env) (s : Shared) (H : Hp) (E : XK) : DSs (CxD P w K mg base ["value"] "is_value" (defScope s2) f cdv A outer s H E) Γ k (WxD E) (defBody s2) (B2 G) :=
  dss_one (ds_ret (d_call T.f1 Z.m1 (da_cons (d_var 0) (da_cons d_int (da_cons (d_gw Z.g_MOST_VALUE) da_nil)))))
theorem d3 (Z : Fx K mg Γ fd) (T : TabOk P w K mg base Γ k G) (f : Addr) (cdv : Value) (A : Around) (outer : List PySem.Env) (s : Shared) (H : Hp) (E : XK) : DSs (CxD P w K mg base ["value", "sign"] "is_name" (defScope s3) f cdv A outer s H E) Γ k (WxD E) (defBody s3) (B3 G) :=
  dss_one (ds_ret (d_and (d_isi Z.z_isinstance (da_cons (d_var 0) (da_cons (d_ty (n := "str") (hm := Z.z_str)) da_nil))) (d_and (d_chain o_le o_le d_int (d_len Z.z_len (da_cons (d_var 0) da_nil)) (d_gw Z.g_MOST_LETTERS)) (d_one (d_all Z.z_all (da_cons (d_lc (own := [("sign", 1)]) (c := CT.one 1) (di_seq (d_var 0)) (blkOk_by (N := ["value", "sign"]) (sc := defScope s3) (by decide +kernel)) (by decide) (fun _ _ _ _ _ nd _ => ctg_one 1 nd) (fun _ _ _ _ _ => dts_nil) (fun _ _ _ _ _ => d_in (d_var 1) (d_gw Z.g_LETTERS))) da_nil))))))
theorem d4 (Z : Fx K mg Γ fd) (T : TabOk P w K mg base Γ k G) (f : Addr) (cdv : Value) (A : Around) (outer : List PySem.Env) (s : Shared) (H : Hp) (E : XK) : DSs (CxD P w K mg base ["value", "kind", "many"] "has_kind" (defScope s4) f cdv A outer s H E) Γ k (WxD E) (defBody s4) (B4 G) :=
  dss_one (ds_ret (d_and (d_isi Z.z_isinstance (da_cons (d_var 0) (da_cons (d_ty (n := "tuple") (hm := Z.z_tuple)) da_nil))) (d_and (d_cmp o_eq (d_len Z.z_len (da_cons (d_var 0) da_nil)) (d_var 2)) (d_and (d_isi Z.z_isinstance (da_cons (d_ix (d_var 0) d_int) (da_cons (d_ty (n := "str") (hm := Z.z_str)) da_nil))) (d_one (d_cmp o_eq (d_ix (d_var 0) d_int) (d_var 1)))))))
theorem d5 (Z : Fx K mg Γ fd) (T : TabOk P w K mg base Γ k G) (f : Addr) (cdv : Value) (A : Around) (outer : List PySem.Env) (s : Shared) (H : Hp) (E : XK) : DSs (CxD P w K mg base ["term"] "inner_terms" (defScope s5) f cdv A outer s H E) Γ k (WxD E) (defBody s5) (B5 G) :=
  dss_cons (ds_if (b_not (d_tru (d_isi Z.z_isinstance (da_cons (d_var 0) (da_cons (d_ty (n := "tuple") (hm := Z.z_tuple)) da_nil))))) (dss_one (ds_ret (d_tup da_nil))) dss_nil) (dss_cons (ds_if (b_cmp o_eq (d_ix (d_var 0) d_int) d_str) (dss_one (ds_ret (d_ix (d_var 0) d_int))) dss_nil) (dss_one (ds_ret (d_if (b_w (w_or (b_in (d_ix (d_var 0) d_int) (d_gw Z.g_PAIRS)) (w_or1 (b_cmp o_eq (d_ix (d_var 0) d_int) d_str)))) (d_sl (d_var 0) (do_some d_int) do_none) (d_tup da_nil)))))
theorem d6 (Z : Fx K mg Γ fd) (T : TabOk P w K mg base Γ k G) (f : Addr) (cdv : Value) (A : Around) (outer : List PySem.Env) (s : Shared) (H : Hp) (E : XK) : DSs (CxD P w K mg base ["value", "arguments", "kind"] "has_form" (defScope s6) f cdv A outer s H E) Γ k (WxD E) (defBody s6) (B6 G) :=
  dss_cons (ds_if (b_w (w_or (d_tru (d_call T.f2 Z.m2 (da_cons (d_var 0) da_nil))) (w_or1 (d_tru (d_call T.f4 Z.m4 (da_cons (d_var 0) (da_cons d_str (da_cons d_int da_nil)))))))) (dss_one (ds_ret d_bl)) dss_nil) (dss_cons (ds_if (d_tru (d_call T.f4 Z.m4 (da_cons (d_var 0) (da_cons d_str (da_cons d_int da_nil))))) (dss_one (ds_ret (d_call T.f1 Z.m1 (da_cons (d_ix (d_var 0) d_int) (da_cons d_int (da_cons (d_op o_sub (d_var 1) d_int) da_nil)))))) dss_nil) (dss_cons (ds_if (d_tru (d_call T.f4 Z.m4 (da_cons (d_var 0) (da_cons d_str (da_cons d_int da_nil))))) (dss_one (ds_ret (d_call T.f3 Z.m3 (da_cons (d_ix (d_var 0) d_int) da_nil)))) dss_nil) (dss_cons (ds_if (d_tru (d_call T.f4 Z.m4 (da_cons (d_var 0) (da_cons d_str (da_cons d_int da_nil))))) (dss_one (ds_ret (d_and (d_call T.f3 Z.m3 (da_cons (d_ix (d_var 0) d_int) da_nil)) (d_and (d_isi Z.z_isinstance (da_cons (d_ix (d_var 0) d_int) (da_cons (d_ty (n := "tuple") (hm := Z.z_tuple)) da_nil))) (d_one (d_cmp o_le (d_len Z.z_len (da_cons (d_ix (d_var 0) d_int) da_nil)) (d_gw Z.g_MOST_ARGUMENTS))))))) dss_nil) (dss_one (ds_ret (d_or (d_any Z.z_any (da_cons (d_lc (own := [("kind", 2)]) (c := CT.one 2) (di_seq (d_gw Z.g_PAIRS)) (blkOk_by (N := ["value", "arguments", "kind"]) (sc := defScope s6) (by decide +kernel)) (by decide) (fun _ _ _ _ _ nd _ => ctg_one 2 nd) (fun _ _ _ _ _ => dts_nil) (fun _ _ _ _ _ => d_call T.f4 Z.m4 (da_cons (d_var 0) (da_cons (d_var 2) (da_cons d_int da_nil))))) da_nil)) (d_one (d_call T.f4 Z.m4 (da_cons (d_var 0) (da_cons d_str (da_cons d_int da_nil)))))))))))
theorem d7 (Z : Fx K mg Γ fd) (T : TabOk P w K mg base Γ k G) (f : Addr) (cdv : Value) (A : Around) (outer : List PySem.Env) (s : Shared) (H : Hp) (E : XK) : DSs (CxD P w K mg base ["value", "arguments", "turn", "layer", "parts", "term", "part"] "is_term" (defScope s7) f cdv A outer s H E) Γ k (WxD E) (defBody s7) (B7 G) :=
  dss_cons (ds_par 3 4 (da_cons (d_lst (da_cons (d_var 0) da_nil)) (da_cons d_int da_nil))) (dss_cons (ds_for (di_rng1 Z.z_range (da_cons (d_gw Z.g_MOST_DEPTH) da_nil)) (dg_name 2) (dss_cons (ds_aug 4 ip_addI (d_len Z.z_len (da_cons (d_var 3) da_nil))) (dss_cons (ds_if (b_w (w_or (b_cmp o_gt (d_var 4) (d_gw Z.g_MOST_PARTS)) (w_or1 (b_not (d_tru (d_all Z.z_all (da_cons (d_lc (own := [("part", 6)]) (c := CT.one 6) (di_seq (d_var 3)) (blkOk_by (N := ["value", "arguments", "turn", "layer", "parts", "term", "part"]) (sc := defScope s7) (by decide +kernel)) (by decide) (fun _ _ _ _ _ nd _ => ctg_one 6 nd) (fun _ _ _ _ _ => dts_nil) (fun _ _ _ _ _ => d_call T.f6 Z.m6 (da_cons (d_var 6) (da_cons (d_var 1) da_nil)))) da_nil))))))) (dss_one (ds_ret d_bl)) dss_nil) (dss_cons (ds_setLc2 3 (own := [("term", 5), ("part", 6)]) (vs1 := [6]) (c := CT.one 5) (c1 := CT.one 6) (di_seq (d_var 3)) (blkOk_by (N := ["value", "arguments", "turn", "layer", "parts", "term", "part"]) (sc := defScope s7) (by decide +kernel)) (by decide) (by decide) (by decide) (fun _ _ _ _ _ nd _ => ctg_one 5 nd) (fun _ _ _ _ _ => dts_nil) (fun _ _ _ _ _ => di_seq (d_call T.f5 Z.m5 (da_cons (d_var 5) da_nil))) (fun _ _ _ _ _ nd _ => ctg_one 6 nd) (fun _ _ _ _ _ => dts_nil) (fun _ _ _ _ _ => d_var 6) (sw_true rfl rfl (by decide) (by decide +kernel))) (dss_one (ds_if (b_cmp o_eq (d_var 3) (d_lst da_nil)) (dss_one (ds_ret d_bl)) dss_nil)))))) (dss_one (ds_ret d_bl)))
theorem d8 (Z : Fx K mg Γ fd) (T : TabOk P w K mg base Γ k G) (f : Addr) (cdv : Value) (A : Around) (outer : List PySem.Env) (s : Shared) (H : Hp) (E : XK) : DSs (CxD P w K mg base ["term", "part"] "term_size" (defScope s8) f cdv A outer s H E) Γ k (WxD E) (defBody s8) (B8 G) :=
  dss_one (ds_ret (d_op o_add d_int (d_sum Z.z_sum (da_cons (d_lc (own := [("part", 1)]) (c := CT.one 1) (di_seq (d_call T.f5 Z.m5 (da_cons (d_var 0) da_nil))) (blkOk_by (N := ["term", "part"]) (sc := defScope s8) (by decide +kernel)) (by decide) (fun _ _ _ _ _ nd _ => ctg_one 1 nd) (fun _ _ _ _ _ => dts_nil) (fun _ _ _ _ _ => d_call T.f8 Z.m8 (da_cons (d_var 1) da_nil))) da_nil))))
theorem d9 (Z : Fx K mg Γ fd) (T : TabOk P w K mg base Γ k G) (f : Addr) (cdv : Value) (A : Around) (outer : List PySem.Env) (s : Shared) (H : Hp) (E : XK) : DSs (CxD P w K mg base ["term", "part"] "term_depth" (defScope s9) f cdv A outer s H E) Γ k (WxD E) (defBody s9) (B9 G) :=
  dss_cons (ds_if (b_cmp o_eq (d_call T.f5 Z.m5 (da_cons (d_var 0) da_nil)) (d_tup da_nil)) (dss_one (ds_ret d_int)) dss_nil) (dss_one (ds_ret (d_op o_add d_int (d_max Z.z_max (da_cons (d_lc (own := [("part", 1)]) (c := CT.one 1) (di_seq (d_call T.f5 Z.m5 (da_cons (d_var 0) da_nil))) (blkOk_by (N := ["term", "part"]) (sc := defScope s9) (by decide +kernel)) (by decide) (fun _ _ _ _ _ nd _ => ctg_one 1 nd) (fun _ _ _ _ _ => dts_nil) (fun _ _ _ _ _ => d_intC Z.z_int (da_cons (d_call T.f9 Z.m9 (da_cons (d_var 1) da_nil)) da_nil))) da_nil)))))
theorem d10 (Z : Fx K mg Γ fd) (T : TabOk P w K mg base Γ k G) (f : Addr) (cdv : Value) (A : Around) (outer : List PySem.Env) (s : Shared) (H : Hp) (E : XK) : DSs (CxD P w K mg base ["term", "found", "part"] "leaves" (defScope s10) f cdv A outer s H E) Γ k (WxD E) (defBody s10) (B10 G) :=
  dss_cons (ds_set 1 (d_lst (da_cons (d_var 0) da_nil))) (dss_cons (ds_for (di_seq (d_call T.f5 Z.m5 (da_cons (d_var 0) da_nil))) (dg_name 2) (dss_one (ds_expr (d_extend (d_var 1) (da_cons (d_call T.f10 Z.m10 (da_cons (d_var 2) da_nil)) da_nil))))) (dss_one (ds_ret (d_var 1))))
theorem d11 (Z : Fx K mg Γ fd) (T : TabOk P w K mg base Γ k G) (f : Addr) (cdv : Value) (A : Around) (outer : List PySem.Env) (s : Shared) (H : Hp) (E : XK) : DSs (CxD P w K mg base ["term", "kind", "found", "part", "name"] "names_with" (defScope s11) f cdv A outer s H E) Γ k (WxD E) (defBody s11) (B11 G) :=
  dss_cons (ds_setDc 2 (own := [("part", 3)]) (c := CT.one 3) (di_seq (d_call T.f10 Z.m10 (da_cons (d_var 0) da_nil))) (blkOk_by (N := ["term", "kind", "found", "part", "name"]) (sc := defScope s11) (by decide +kernel)) (by decide) (fun _ _ _ _ _ nd _ => ctg_one 3 nd) (fun _ _ _ _ _ => dts_one (b_w (w_and (d_tru (d_isi Z.z_isinstance (da_cons (d_var 3) (da_cons (d_ty (n := "tuple") (hm := Z.z_tuple)) da_nil)))) (w_and1 (b_cmp o_eq (d_ix (d_var 3) d_int) (d_var 1)))))) (fun _ _ _ _ _ => d_ix (d_var 3) d_int) (fun _ _ _ _ _ => d_bl) (sw_trueD rfl rfl (by decide) (by decide +kernel))) (dss_one (ds_ret (d_sortedS Z.z_sorted (da_cons (d_lock (cVar 2) (d_lc (own := [("name", 4)]) (c := CT.one 4) (di_keys (d_var 2)) (blkOk_by (N := ["term", "kind", "found", "part", "name"]) (sc := defScope s11) (by decide +kernel)) (by decide) (fun _ _ _ _ _ nd _ => ctg_one 4 nd) (fun _ _ _ _ _ => dts_nil) (fun _ _ _ _ _ => d_strC Z.z_str (da_cons (d_var 4) da_nil)))) da_nil))))
theorem d12 (Z : Fx K mg Γ fd) (T : TabOk P w K mg base Γ k G) (f : Addr) (cdv : Value) (A : Around) (outer : List PySem.Env) (s : Shared) (H : Hp) (E : XK) : DSs (CxD P w K mg base ["term"] "cells_in" (defScope s12) f cdv A outer s H E) Γ k (WxD E) (defBody s12) (B12 G) :=
  dss_one (ds_ret (d_call T.f11 Z.m11 (da_cons (d_var 0) (da_cons d_str da_nil))))
theorem d13 (Z : Fx K mg Γ fd) (T : TabOk P w K mg base Γ k G) (f : Addr) (cdv : Value) (A : Around) (outer : List PySem.Env) (s : Shared) (H : Hp) (E : XK) : DSs (CxD P w K mg base ["term"] "calls_in" (defScope s13) f cdv A outer s H E) Γ k (WxD E) (defBody s13) (B13 G) :=
  dss_one (ds_ret (d_call T.f11 Z.m11 (da_cons (d_var 0) (da_cons d_str da_nil))))
theorem d14 (Z : Fx K mg Γ fd) (T : TabOk P w K mg base Γ k G) (f : Addr) (cdv : Value) (A : Around) (outer : List PySem.Env) (s : Shared) (H : Hp) (E : XK) : DSs (CxD P w K mg base ["term"] "has_tick" (defScope s14) f cdv A outer s H E) Γ k (WxD E) (defBody s14) (B14 G) :=
  dss_one (ds_ret (d_in (d_tup (da_cons d_str da_nil)) (d_call T.f10 Z.m10 (da_cons (d_var 0) da_nil))))
theorem d15 (Z : Fx K mg Γ fd) (T : TabOk P w K mg base Γ k G) (f : Addr) (cdv : Value) (A : Around) (outer : List PySem.Env) (s : Shared) (H : Hp) (E : XK) : DSs (CxD P w K mg base ["script", "k", "cell", "size", "mixed"] "_law_pool" (defScope s15) f cdv A outer s H E) Γ k (WxD E) (defBody s15) (B15 G) :=
  dss_cons (ds_set 2 (d_if (b_cmp o_lt (d_var 1) (d_len Z.z_len (da_cons (d_var 0) da_nil))) (d_ix (d_var 0) (d_var 1)) (d_op o_add (d_op o_mul d_int (d_sum Z.z_sum (da_cons (d_sl (d_var 0) do_none (do_some d_int)) da_nil))) (d_var 1)))) (dss_cons (ds_set 3 (d_abs Z.z_abs (da_cons (d_var 2) da_nil))) (dss_cons (ds_set 4 (d_op o_add (d_op o_add (d_op o_add (d_op o_mod (d_intC Z.z_int (da_cons (d_var 3) da_nil)) d_int) (d_op o_mul (d_op o_mul d_int (d_var 1)) (d_var 1))) (d_op o_mul d_int (d_var 1))) d_int)) (dss_cons (ds_set 4 (d_op o_mod (d_intC Z.z_int (da_cons (d_op o_mul (d_var 4) d_int) da_nil)) d_int)) (dss_one (ds_ret (d_lst (da_cons (d_op o_mul (d_var 3) (d_intC Z.z_int (da_cons (d_cmp o_ge (d_var 3) (d_op o_pow d_int d_int)) da_nil))) (da_cons (d_op o_mod (d_intC Z.z_int (da_cons (d_op o_mul (d_var 4) (d_var 4)) da_nil)) d_int) da_nil))))))))
theorem d16 (Z : Fx K mg Γ fd) (T : TabOk P w K mg base Γ k G) (f : Addr) (cdv : Value) (A : Around) (outer : List PySem.Env) (s : Shared) (H : Hp) (E : XK) : DSs (CxD P w K mg base ["pool", "many", "found"] "_law_draw" (defScope s16) f cdv A outer s H E) Γ k (WxD E) (defBody s16) (B16 G) :=
  dss_cons (ds_if (b_cmp o_gt (d_ix (d_var 0) d_int) d_int) (dss_cons (ds_set 2 (d_op o_mod (d_intC Z.z_int (da_cons (d_ix (d_var 0) d_int) da_nil)) (d_var 1))) (dss_cons (ds_asg (d_op o_div (d_ix (d_var 0) d_int) (d_var 1)) (dg_sub (d_var 0) d_int)) (dss_one (ds_ret (d_var 2))))) dss_nil) (dss_cons (ds_asg (d_op o_mod (d_intC Z.z_int (da_cons (d_op o_add (d_op o_mul (d_ix (d_var 0) d_int) d_int) d_int) da_nil)) d_int) (dg_sub (d_var 0) d_int)) (dss_one (ds_ret (d_op o_mod (d_intC Z.z_int (da_cons (d_op o_div (d_op o_mod (d_intC Z.z_int (da_cons (d_op o_mul (d_ix (d_var 0) d_int) (d_ix (d_var 0) d_int)) da_nil)) d_int) d_int) da_nil)) (d_var 1)))))
theorem d17 (Z : Fx K mg Γ fd) (T : TabOk P w K mg base Γ k G) (f : Addr) (cdv : Value) (A : Around) (outer : List PySem.Env) (s : Shared) (H : Hp) (E : XK) : DSs (CxD P w K mg base ["pool", "row"] "_law_pick" (defScope s17) f cdv A outer s H E) Γ k (WxD E) (defBody s17) (B17 G) :=
  dss_one (ds_ret (d_ix (d_var 1) (d_call T.f16 Z.m16 (da_cons (d_var 0) (da_cons (d_len Z.z_len (da_cons (d_var 1) da_nil)) da_nil)))))
theorem d18 (Z : Fx K mg Γ fd) (T : TabOk P w K mg base Γ k G) (f : Addr) (cdv : Value) (A : Around) (outer : List PySem.Env) (s : Shared) (H : Hp) (E : XK) : DSs (CxD P w K mg base ["pool", "count", "signs", "ends", "origin", "step", "head", "tail", "k"] "_law_names" (defScope s18) f cdv A outer s H E) Γ k (WxD E) (defBody s18) (B18 G) :=
  dss_cons (ds_set 2 d_str) (dss_cons (ds_asg (d_tup (da_cons (d_call T.f16 Z.m16 (da_cons (d_var 0) (da_cons d_int da_nil))) (da_cons (d_op o_add d_int (d_op o_mul d_int (d_call T.f16 Z.m16 (da_cons (d_var 0) (da_cons d_int da_nil))))) da_nil))) (dg_tup (dgs_cons (dg_name 4) (dgs_cons (dg_name 5) dgs_nil)))) (dss_cons (ds_set 3 (d_lst (da_cons (d_tup (da_cons d_str (da_cons d_str da_nil))) (da_cons (d_tup (da_cons d_str (da_cons d_str da_nil))) (da_cons (d_tup (da_cons d_str (da_cons d_str da_nil))) (da_cons (d_tup (da_cons d_str (da_cons d_str da_nil))) (da_cons (d_tup (da_cons d_str (da_cons d_str da_nil))) da_nil))))))) (dss_cons (ds_asg (d_call T.f17 Z.m17 (da_cons (d_var 0) (da_cons (d_var 3) da_nil))) (dg_tup (dgs_cons (dg_name 6) (dgs_cons (dg_name 7) dgs_nil)))) (dss_one (ds_ret (d_lc (own := [("k", 8)]) (c := CT.one 8) (di_rng1 Z.z_range (da_cons (d_var 1) da_nil)) (blkOk_by (N := ["pool", "count", "signs", "ends", "origin", "step", "head", "tail", "k"]) (sc := defScope s18) (by decide +kernel)) (by decide) (fun _ _ _ _ _ nd _ => ctg_one 8 nd) (fun _ _ _ _ _ => dts_nil) (fun _ _ _ _ _ => d_op o_add (d_op o_add (d_var 6) (d_ix (d_var 2) (d_op o_mod (d_intC Z.z_int (da_cons (d_op o_add (d_var 4) (d_op o_mul (d_var 5) (d_var 8))) da_nil)) d_int))) (d_var 7))))))))
theorem d19 (Z : Fx K mg Γ fd) (T : TabOk P w K mg base Γ k G) (f : Addr) (cdv : Value) (A : Around) (outer : List PySem.Env) (s : Shared) (H : Hp) (E : XK) : DSs (CxD P w K mg base ["pool", "b", "many", "deep", "kind", "head", "f", "at"] "_law_term" (defScope s19) f cdv A outer s H E) Γ k (WxD E) (defBody s19) (B19 G) :=
  dss_cons (ds_set 4 (d_call T.f16 Z.m16 (da_cons (d_var 0) (da_cons (d_if (b_cmp o_gt (d_var 3) d_int) d_int d_int) da_nil)))) (dss_cons (ds_if (b_w (w_or (b_cmp o_eq (d_var 4) d_int) (w_or (b_w (w_and (b_cmp o_eq (d_var 4) d_int) (w_and1 (b_cmp o_eq (d_var 2) d_int)))) (w_or1 (b_w (w_and (b_in (d_var 4) (d_lst (da_cons d_int (da_cons d_int da_nil)))) (w_and1 (b_cmp o_eq (d_ix (d_var 1) d_str) (d_lst da_nil))))))))) (dss_one (ds_ret (d_call T.f16 Z.m16 (da_cons (d_var 0) (da_cons d_int da_nil))))) dss_nil) (dss_cons (ds_if (b_cmp o_eq (d_var 4) d_int) (dss_one (ds_ret (d_tup (da_cons d_str (da_cons (d_call T.f16 Z.m16 (da_cons (d_var 0) (da_cons (d_var 2) da_nil))) da_nil))))) dss_nil) (dss_cons (ds_if (b_w (w_or (b_cmp o_eq (d_var 4) d_int) (w_or1 (b_cmp o_eq (d_var 4) d_int)))) (dss_one (ds_ret (d_tup (da_cons d_str (da_cons (d_ix (d_call T.f17 Z.m17 (da_cons (d_var 0) (da_cons (d_ix (d_var 1) d_str) da_nil))) d_int) da_nil))))) dss_nil) (dss_cons (ds_if (b_cmp o_eq (d_var 4) d_int) (dss_one (ds_ret (d_if (b_cmp o_eq (d_call T.f16 Z.m16 (da_cons (d_var 0) (da_cons d_int da_nil))) d_int) (d_tup (da_cons d_str da_nil)) (d_call T.f16 Z.m16 (da_cons (d_var 0) (da_cons d_int da_nil)))))) dss_nil) (dss_cons (ds_if (b_w (w_and (b_cmp o_eq (d_var 4) d_int) (w_and1 (b_cmp o_ne (d_ix (d_var 1) d_str) (d_lst da_nil))))) (dss_cons (ds_set 6 (d_call T.f17 Z.m17 (da_cons (d_var 0) (da_cons (d_ix (d_var 1) d_str) da_nil)))) (dss_one (ds_ret (d_tup (da_cons d_str (da_cons (d_ix (d_var 6) d_str) (da_cons (d_tupleC Z.z_tuple (da_cons (d_lc (own := [("at", 7)]) (c := CT.one 7) (di_rng1 Z.z_range (da_cons (d_ix (d_var 6) d_str) da_nil)) (blkOk_by (N := ["pool", "b", "many", "deep", "kind", "head", "f", "at"]) (sc := defScope s19) (by decide +kernel)) (by decide) (fun _ _ _ _ _ nd _ => ctg_one 7 nd) (fun _ _ _ _ _ => dts_nil) (fun _ _ _ _ _ => d_call T.f19 Z.m19 (da_cons (d_var 0) (da_cons (d_var 1) (da_cons (d_var 2) (da_cons d_int da_nil)))))) da_nil)) da_nil))))))) dss_nil) (dss_cons (ds_if (b_cmp o_eq (d_var 4) d_int) (dss_one (ds_ret (d_op o_add (d_tup (da_cons d_str da_nil)) (d_tupleC Z.z_tuple (da_cons (d_lc (own := [("at", 7)]) (c := CT.one 7) (di_rng1 Z.z_range (da_cons d_int da_nil)) (blkOk_by (N := ["pool", "b", "many", "deep", "kind", "head", "f", "at"]) (sc := defScope s19) (by decide +kernel)) (by decide) (fun _ _ _ _ _ nd _ => ctg_one 7 nd) (fun _ _ _ _ _ => dts_nil) (fun _ _ _ _ _ => d_call T.f19 Z.m19 (da_cons (d_var 0) (da_cons (d_var 1) (da_cons (d_var 2) (da_cons (d_op o_sub (d_var 3) d_int) da_nil)))))) da_nil))))) dss_nil) (dss_cons (ds_set 5 (d_call T.f17 Z.m17 (da_cons (d_var 0) (da_cons (d_lst (da_cons d_str (da_cons d_str (da_cons d_str da_nil)))) da_nil)))) (dss_one (ds_ret (d_tup (da_cons (d_var 5) (da_cons (d_call T.f19 Z.m19 (da_cons (d_var 0) (da_cons (d_var 1) (da_cons (d_var 2) (da_cons (d_op o_sub (d_var 3) d_int) da_nil))))) (da_cons (d_call T.f19 Z.m19 (da_cons (d_var 0) (da_cons (d_var 1) (da_cons (d_var 2) (da_cons (d_op o_sub (d_var 3) d_int) da_nil))))) da_nil)))))))))))))
theorem d20 (Z : Fx K mg Γ fd) (T : TabOk P w K mg base Γ k G) (f : Addr) (cdv : Value) (A : Around) (outer : List PySem.Env) (s : Shared) (H : Hp) (E : XK) : DSs (CxD P w K mg base ["term"] "_law_inner" (defScope s20) f cdv A outer s H E) Γ k (WxD E) (defBody s20) (B20 G) :=
  dss_cons (ds_if (b_w (w_or (b_not (d_tru (d_isi Z.z_isinstance (da_cons (d_var 0) (da_cons (d_ty (n := "tuple") (hm := Z.z_tuple)) da_nil))))) (w_or1 (b_in (d_ix (d_var 0) d_int) (d_lst (da_cons d_str (da_cons d_str (da_cons d_str da_nil)))))))) (dss_one (ds_ret (d_lst da_nil))) dss_nil) (dss_one (ds_ret (d_if (b_cmp o_eq (d_ix (d_var 0) d_int) d_str) (d_list Z.z_list (da_cons (d_ix (d_var 0) d_int) da_nil)) (d_list Z.z_list (da_cons (d_sl (d_var 0) (do_some d_int) do_none) da_nil)))))
theorem d21 (Z : Fx K mg Γ fd) (T : TabOk P w K mg base Γ k G) (f : Addr) (cdv : Value) (A : Around) (outer : List PySem.Env) (s : Shared) (H : Hp) (E : XK) : DSs (CxD P w K mg base ["term", "deepest", "part", "found", "parts", "told", "kind", "word"] "_law_counts" (defScope s21) f cdv A outer s H E) Γ k (WxD E) (defBody s21) (B21 G) :=
  dss_cons (ds_asg (d_tup (da_cons (d_dict (dps_cons d_str d_int (dps_cons d_str (d_lst da_nil) (dps_cons d_str (d_lst da_nil) (dps_cons d_str d_bl dps_nil))))) (da_cons (d_call T.f20 Z.m20 (da_cons (d_var 0) da_nil)) da_nil))) (dg_tup (dgs_cons (dg_name 3) (dgs_cons (dg_name 4) dgs_nil)))) (dss_cons (ds_set 1 d_int) (dss_cons (ds_if (b_w (w_and (d_tru (d_isi Z.z_isinstance (da_cons (d_var 0) (da_cons (d_ty (n := "tuple") (hm := Z.z_tuple)) da_nil)))) (w_and1 (b_in (d_ix (d_var 0) d_int) (d_lst (da_cons d_str (da_cons d_str da_nil))))))) (dss_one (ds_asg (d_lst (da_cons (d_ix (d_var 0) d_int) da_nil)) (dg_sub (d_var 3) (d_ix (d_var 0) d_int)))) dss_nil) (dss_cons (ds_asg (d_cmp o_eq (d_var 0) (d_tup (da_cons d_str da_nil))) (dg_sub (d_var 3) d_str)) (dss_cons (ds_for (di_seq (d_var 4)) (dg_name 2) (dss_cons (ds_set 5 (d_call T.f21 Z.m21 (da_cons (d_var 2) da_nil))) (dss_cons (ds_asg (d_tup (da_cons (d_op o_add (d_ix (d_var 3) d_str) (d_ix (d_var 5) d_str)) (da_cons (d_or (d_ix (d_var 3) d_str) (d_one (d_ix (d_var 5) d_str))) da_nil))) (dg_tup (dgs_cons (dg_sub (d_var 3) d_str) (dgs_cons (dg_sub (d_var 3) d_str) dgs_nil)))) (dss_cons (ds_set 1 (d_max Z.z_max (da_cons (d_intC Z.z_int (da_cons (d_var 1) da_nil)) (da_cons (d_intC Z.z_int (da_cons (d_ix (d_var 5) d_str) da_nil)) da_nil)))) (dss_one (ds_for (di_seq (d_lst (da_cons d_str (da_cons d_str da_nil)))) (dg_name 6) (dss_one (ds_asg (d_op o_add (d_ix (d_var 3) (d_var 6)) (d_lc (own := [("word", 7)]) (c := CT.one 7) (di_seq (d_ix (d_var 5) (d_var 6))) (blkOk_by (N := ["term", "deepest", "part", "found", "parts", "told", "kind", "word"]) (sc := defScope s21) (by decide +kernel)) (by decide) (fun _ _ _ _ _ nd _ => ctg_one 7 nd) (fun _ _ _ _ _ => dts_one (b_notIn (d_var 7) (d_ix (d_var 3) (d_var 6)))) (fun _ _ _ _ _ => d_var 7))) (dg_sub (d_var 3) (d_var 6)))))))))) (dss_cons (ds_asg (d_op o_add d_int (d_var 1)) (dg_sub (d_var 3) d_str)) (dss_one (ds_ret (d_var 3))))))))
theorem d22 (Z : Fx K mg Γ fd) (T : TabOk P w K mg base Γ k G) (f : Addr) (cdv : Value) (A : Around) (outer : List PySem.Env) (s : Shared) (H : Hp) (E : XK) : DSs (CxD P w K mg base ["pool", "term", "odd", "parts", "at"] "_law_bent" (defScope s22) f cdv A outer s H E) Γ k (WxD E) (defBody s22) (B22 G) :=
  dss_cons (ds_set 3 (d_call T.f20 Z.m20 (da_cons (d_var 1) da_nil))) (dss_cons (ds_if (b_w (w_or (b_cmp o_eq (d_var 3) (d_lst da_nil)) (w_or1 (b_cmp o_eq (d_call T.f16 Z.m16 (da_cons (d_var 0) (da_cons d_int da_nil))) d_int)))) (dss_one (ds_ret (d_var 2))) dss_nil) (dss_cons (ds_set 4 (d_call T.f16 Z.m16 (da_cons (d_var 0) (da_cons (d_len Z.z_len (da_cons (d_var 3) da_nil)) da_nil)))) (dss_cons (ds_asg (d_call T.f22 Z.m22 (da_cons (d_var 0) (da_cons (d_ix (d_var 3) (d_var 4)) (da_cons (d_var 2) da_nil)))) (dg_sub (d_var 3) (d_var 4))) (dss_one (ds_ret (d_if (b_cmp o_eq (d_ix (d_var 1) d_int) d_str) (d_tup (da_cons (d_ix (d_var 1) d_int) (da_cons (d_ix (d_var 1) d_int) (da_cons (d_tupleC Z.z_tuple (da_cons (d_var 3) da_nil)) da_nil)))) (d_op o_add (d_tup (da_cons (d_ix (d_var 1) d_int) da_nil)) (d_tupleC Z.z_tuple (da_cons (d_var 3) da_nil)))))))))
theorem d23 (Z : Fx K mg Γ fd) (T : TabOk P w K mg base Γ k G) (f : Addr) (cdv : Value) (A : Around) (outer : List PySem.Env) (s : Shared) (H : Hp) (E : XK) : DSs (CxD P w K mg base ["script", "k", "pool", "b", "turn", "names", "many", "word", "arguments", "term", "due", "odds", "odd"] "law" (defScope s23) f cdv A outer s H E) Γ k (WxD E) (defBody s23) (B23 G) :=
  dss_cons (ds_for (di_rng1 Z.z_range (da_cons (d_max Z.z_max (da_cons d_int (da_cons (d_min Z.z_min (da_cons (d_len Z.z_len (da_cons (d_var 0) da_nil)) (da_cons d_int da_nil))) da_nil))) da_nil)) (dg_name 1) (dss_cons (ds_set 2 (d_call T.f15 Z.m15 (da_cons (d_var 0) (da_cons (d_var 1) da_nil)))) (dss_cons (ds_par 5 6 (da_cons (d_call T.f18 Z.m18 (da_cons (d_var 2) (da_cons d_int da_nil))) (da_cons (d_call T.f16 Z.m16 (da_cons (d_var 2) (da_cons d_int da_nil))) da_nil))) (dss_cons (ds_set 3 (d_dict (dps_cons d_str (d_lst (da_cons (d_tup (da_cons (d_ix (d_var 5) d_int) (da_cons d_str da_nil))) (da_cons (d_tup (da_cons (d_ix (d_var 5) d_int) (da_cons d_str da_nil))) da_nil))) (dps_cons d_str (d_lst da_nil) dps_nil)))) (dss_cons (ds_for (di_seq (d_lst (da_cons (d_tup (da_cons (d_ix (d_var 5) d_int) (da_cons d_int da_nil))) (da_cons (d_tup (da_cons (d_ix (d_var 5) d_int) (da_cons d_int da_nil))) da_nil)))) (dg_tup (dgs_cons (dg_name 7) (dgs_cons (dg_name 8) dgs_nil))) (dss_one (ds_expr (d_append (d_ix (d_var 3) d_str) (da_cons (d_dict (dps_cons d_str (d_var 7) (dps_cons d_str (d_var 8) dps_nil))) da_nil))))) (dss_one (ds_for (di_rng1 Z.z_range (da_cons d_int da_nil)) (dg_name 4) (dss_cons (ds_set 9 (d_call T.f19 Z.m19 (da_cons (d_var 2) (da_cons (d_var 3) (da_cons (d_var 6) (da_cons (d_call T.f16 Z.m16 (da_cons (d_var 2) (da_cons d_int da_nil))) da_nil)))))) (dss_cons (ds_set 10 (d_call T.f21 Z.m21 (da_cons (d_var 9) da_nil))) (dss_one (ds_if (b_cmp o_le (d_ix (d_var 10) d_str) d_int) (dss_cons (ds_if (b_w (w_or (b_cmp o_isNot (d_call T.f7 Z.m7 (da_cons (d_var 9) (da_cons (d_var 6) da_nil))) d_bl) (w_or1 (b_cmp o_ne (d_lst (da_cons (d_call T.f8 Z.m8 (da_cons (d_var 9) da_nil)) (da_cons (d_call T.f9 Z.m9 (da_cons (d_var 9) da_nil)) da_nil))) (d_lst (da_cons (d_ix (d_var 10) d_str) (da_cons (d_ix (d_var 10) d_str) da_nil))))))) (dss_one (ds_ret d_bl)) dss_nil) (dss_cons (ds_if (b_cmp o_ne (d_call T.f12 Z.m12 (da_cons (d_var 9) da_nil)) (d_sortedS Z.z_sorted (da_cons (d_lc (own := [("word", 7)]) (c := CT.one 7) (di_seq (d_ix (d_var 10) d_str)) (blkOk_by (N := ["script", "k", "pool", "b", "turn", "names", "many", "word", "arguments", "term", "due", "odds", "odd"]) (sc := defScope s23) (by decide +kernel)) (by decide) (fun _ _ _ _ _ nd _ => ctg_one 7 nd) (fun _ _ _ _ _ => dts_nil) (fun _ _ _ _ _ => d_strC Z.z_str (da_cons (d_var 7) da_nil))) da_nil))) (dss_one (ds_ret d_bl)) dss_nil) (dss_cons (ds_if (b_w (w_or (b_cmp o_ne (d_call T.f13 Z.m13 (da_cons (d_var 9) da_nil)) (d_sortedS Z.z_sorted (da_cons (d_lc (own := [("word", 7)]) (c := CT.one 7) (di_seq (d_ix (d_var 10) d_str)) (blkOk_by (N := ["script", "k", "pool", "b", "turn", "names", "many", "word", "arguments", "term", "due", "odds", "odd"]) (sc := defScope s23) (by decide +kernel)) (by decide) (fun _ _ _ _ _ nd _ => ctg_one 7 nd) (fun _ _ _ _ _ => dts_nil) (fun _ _ _ _ _ => d_strC Z.z_str (da_cons (d_var 7) da_nil))) da_nil))) (w_or1 (b_cmp o_ne (d_call T.f14 Z.m14 (da_cons (d_var 9) da_nil)) (d_ix (d_var 10) d_str))))) (dss_one (ds_ret d_bl)) dss_nil) (dss_cons (ds_set 11 (d_lst (da_cons d_non (da_cons d_int (da_cons (d_neg d_int) (da_cons d_bl (da_cons d_str (da_cons (d_tup da_nil) (da_cons (d_tup (da_cons d_str (da_cons (d_var 6) da_nil))) (da_cons (d_tup (da_cons d_str (da_cons d_bl da_nil))) (da_cons (d_tup (da_cons d_str (da_cons d_str da_nil))) (da_cons (d_tup (da_cons d_str da_nil)) (da_cons (d_tup (da_cons d_str (da_cons d_int da_nil))) (da_cons (d_lst (da_cons d_str da_nil)) da_nil)))))))))))))) (dss_cons (ds_set 11 (d_op o_add (d_var 11) (d_lst (da_cons (d_tup (da_cons d_str (da_cons d_int da_nil))) (da_cons (d_tup (da_cons d_str (da_cons d_int (da_cons d_int (da_cons d_int da_nil))))) (da_cons (d_tup (da_cons d_str (da_cons d_int (da_cons d_int da_nil)))) (da_cons (d_tup (da_cons d_str (da_cons d_str (da_cons (d_lst (da_cons d_int da_nil)) da_nil)))) (da_cons (d_tup (da_cons d_str (da_cons d_str (da_cons (d_tup (da_cons d_int (da_cons d_int (da_cons d_int da_nil)))) da_nil)))) (da_cons (d_tup (da_cons d_str (da_cons d_str (da_cons (d_tup da_nil) da_nil)))) da_nil))))))))) (dss_one (ds_for (di_seq (d_op o_add (d_var 11) (d_lst (da_cons (d_tup (da_cons d_str (da_cons d_int (da_cons d_int da_nil)))) (da_cons (d_tup (da_cons d_str (da_cons d_int (da_cons d_non da_nil)))) (da_cons (d_tup (da_cons d_int (da_cons d_int (da_cons d_int da_nil)))) (da_cons (d_tup (da_cons d_str (da_cons d_str da_nil))) (da_cons (d_tup (da_cons d_str (da_cons d_str (da_cons (d_tup (da_cons d_non da_nil)) da_nil)))) da_nil)))))))) (dg_name 12) (dss_one (ds_if (b_cmp o_isNot (d_call T.f7 Z.m7 (da_cons (d_call T.f22 Z.m22 (da_cons (d_var 2) (da_cons (d_var 9) (da_cons (d_var 12) da_nil)))) (da_cons (d_var 6) da_nil))) d_bl) (dss_one (ds_ret d_bl)) dss_nil))))))))) dss_nil))))))))))) (dss_one (ds_ret d_bl))
theorem all_ok (Z : Fx K mg Γ fd) : ∀ k, TabOk P w K mg base Γ k (zlev k)
  | 0 => { f0 := ⟨⟨fd 0, [], [], fn_stk, Z.b0, .nil, fun _ _ => .nil⟩, Z.u0.kp⟩, f1 := ⟨⟨fd 1, [], [], fn_stk, Z.b1, .nil, fun _ _ => .nil⟩, Z.u1.kp⟩, f2 := ⟨⟨fd 2, [], [], fn_stk, Z.b2, .nil, fun _ _ => .nil⟩, Z.u2.kp⟩, f3 := ⟨⟨fd 3, [], [], fn_stk, Z.b3, .nil, fun _ _ => .nil⟩, Z.u3.kp⟩, f4 := ⟨⟨fd 4, [], [], fn_stk, Z.b4, .nil, fun _ _ => .nil⟩, Z.u4.kp⟩, f5 := ⟨⟨fd 5, [], [], fn_stk, Z.b5, .nil, fun _ _ => .nil⟩, Z.u5.kp⟩, f6 := ⟨⟨fd 6, [], [], fn_stk, Z.b6, .nil, fun _ _ => .nil⟩, Z.u6.kp⟩, f7 := ⟨⟨fd 7, [], [], fn_stk, Z.b7, .nil, fun _ _ => .nil⟩, Z.u7.kp⟩, f8 := ⟨⟨fd 8, [], [], fn_stk, Z.b8, .nil, fun _ _ => .nil⟩, Z.u8.kp⟩, f9 := ⟨⟨fd 9, [], [], fn_stk, Z.b9, .nil, fun _ _ => .nil⟩, Z.u9.kp⟩, f10 := ⟨⟨fd 10, [], [], fn_stk, Z.b10, .nil, fun _ _ => .nil⟩, Z.u10.kp⟩, f11 := ⟨⟨fd 11, [], [], fn_stk, Z.b11, .nil, fun _ _ => .nil⟩, Z.u11.kp⟩, f12 := ⟨⟨fd 12, [], [], fn_stk, Z.b12, .nil, fun _ _ => .nil⟩, Z.u12.kp⟩, f13 := ⟨⟨fd 13, [], [], fn_stk, Z.b13, .nil, fun _ _ => .nil⟩, Z.u13.kp⟩, f14 := ⟨⟨fd 14, [], [], fn_stk, Z.b14, .nil, fun _ _ => .nil⟩, Z.u14.kp⟩, f15 := ⟨⟨fd 15, [], [], fn_stk, Z.b15, .nil, fun _ _ => .nil⟩, Z.u15.kp⟩, f16 := ⟨⟨fd 16, [], [], fn_stk, Z.b16, .nil, fun _ _ => .nil⟩, Z.u16.kp⟩, f17 := ⟨⟨fd 17, [], [], fn_stk, Z.b17, .nil, fun _ _ => .nil⟩, Z.u17.kp⟩, f18 := ⟨⟨fd 18, [], [], fn_stk, Z.b18, .nil, fun _ _ => .nil⟩, Z.u18.kp⟩, f19 := ⟨⟨fd 19, [], [], fn_stk, Z.b19, .nil, fun _ _ => .nil⟩, Z.u19.kp⟩, f20 := ⟨⟨fd 20, [], [], fn_stk, Z.b20, .nil, fun _ _ => .nil⟩, Z.u20.kp⟩, f21 := ⟨⟨fd 21, [], [], fn_stk, Z.b21, .nil, fun _ _ => .nil⟩, Z.u21.kp⟩, f22 := ⟨⟨fd 22, [], [], fn_stk, Z.b22, .nil, fun _ _ => .nil⟩, Z.u22.kp⟩, f23 := ⟨⟨fd 23, [], [], fn_stk, Z.b23, .nil, fun _ _ => .nil⟩, Z.u23.kp⟩ }
  | k + 1 =>
    have T := all_ok Z k
    { f0 := ⟨⟨fd 0, [], [], fn_ok Z.u0 sc0 Z.hK (fun cdv A outer s H E => d0 Z T (Γ.fns 0) cdv A outer s H E), Z.b0, .nil, fun _ _ => .nil⟩, Z.u0.kp⟩,
      f1 := ⟨⟨fd 1, [], [], fn_ok Z.u1 sc1 Z.hK (fun cdv A outer s H E => d1 Z T (Γ.fns 1) cdv A outer s H E), Z.b1, .nil, fun _ _ => .nil⟩, Z.u1.kp⟩,
      f2 := ⟨⟨fd 2, [], [], fn_ok Z.u2 sc2 Z.hK (fun cdv A outer s H E => d2 Z T (Γ.fns 2) cdv A outer s H E), Z.b2, .nil, fun _ _ => .nil⟩, Z.u2.kp⟩,
      f3 := ⟨⟨fd 3, [], [], fn_ok Z.u3 sc3 Z.hK (fun cdv A outer s H E => d3 Z T (Γ.fns 3) cdv A outer s H E), Z.b3, .nil, fun _ _ => .nil⟩, Z.u3.kp⟩,
      f4 := ⟨⟨fd 4, [], [], fn_ok Z.u4 sc4 Z.hK (fun cdv A outer s H E => d4 Z T (Γ.fns 4) cdv A outer s H E), Z.b4, .nil, fun _ _ => .nil⟩, Z.u4.kp⟩,
      f5 := ⟨⟨fd 5, [], [], fn_ok Z.u5 sc5 Z.hK (fun cdv A outer s H E => d5 Z T (Γ.fns 5) cdv A outer s H E), Z.b5, .nil, fun _ _ => .nil⟩, Z.u5.kp⟩,
      f6 := ⟨⟨fd 6, [], [], fn_ok Z.u6 sc6 Z.hK (fun cdv A outer s H E => d6 Z T (Γ.fns 6) cdv A outer s H E), Z.b6, .nil, fun _ _ => .nil⟩, Z.u6.kp⟩,
      f7 := ⟨⟨fd 7, [], [], fn_ok Z.u7 sc7 Z.hK (fun cdv A outer s H E => d7 Z T (Γ.fns 7) cdv A outer s H E), Z.b7, .nil, fun _ _ => .nil⟩, Z.u7.kp⟩,
      f8 := ⟨⟨fd 8, [], [], fn_ok Z.u8 sc8 Z.hK (fun cdv A outer s H E => d8 Z T (Γ.fns 8) cdv A outer s H E), Z.b8, .nil, fun _ _ => .nil⟩, Z.u8.kp⟩,
      f9 := ⟨⟨fd 9, [], [], fn_ok Z.u9 sc9 Z.hK (fun cdv A outer s H E => d9 Z T (Γ.fns 9) cdv A outer s H E), Z.b9, .nil, fun _ _ => .nil⟩, Z.u9.kp⟩,
      f10 := ⟨⟨fd 10, [], [], fn_ok Z.u10 sc10 Z.hK (fun cdv A outer s H E => d10 Z T (Γ.fns 10) cdv A outer s H E), Z.b10, .nil, fun _ _ => .nil⟩, Z.u10.kp⟩,
      f11 := ⟨⟨fd 11, [], [], fn_ok Z.u11 sc11 Z.hK (fun cdv A outer s H E => d11 Z T (Γ.fns 11) cdv A outer s H E), Z.b11, .nil, fun _ _ => .nil⟩, Z.u11.kp⟩,
      f12 := ⟨⟨fd 12, [], [], fn_ok Z.u12 sc12 Z.hK (fun cdv A outer s H E => d12 Z T (Γ.fns 12) cdv A outer s H E), Z.b12, .nil, fun _ _ => .nil⟩, Z.u12.kp⟩,
      f13 := ⟨⟨fd 13, [], [], fn_ok Z.u13 sc13 Z.hK (fun cdv A outer s H E => d13 Z T (Γ.fns 13) cdv A outer s H E), Z.b13, .nil, fun _ _ => .nil⟩, Z.u13.kp⟩,
      f14 := ⟨⟨fd 14, [], [], fn_ok Z.u14 sc14 Z.hK (fun cdv A outer s H E => d14 Z T (Γ.fns 14) cdv A outer s H E), Z.b14, .nil, fun _ _ => .nil⟩, Z.u14.kp⟩,
      f15 := ⟨⟨fd 15, [], [], fn_ok Z.u15 sc15 Z.hK (fun cdv A outer s H E => d15 Z T (Γ.fns 15) cdv A outer s H E), Z.b15, .nil, fun _ _ => .nil⟩, Z.u15.kp⟩,
      f16 := ⟨⟨fd 16, [], [], fn_ok Z.u16 sc16 Z.hK (fun cdv A outer s H E => d16 Z T (Γ.fns 16) cdv A outer s H E), Z.b16, .nil, fun _ _ => .nil⟩, Z.u16.kp⟩,
      f17 := ⟨⟨fd 17, [], [], fn_ok Z.u17 sc17 Z.hK (fun cdv A outer s H E => d17 Z T (Γ.fns 17) cdv A outer s H E), Z.b17, .nil, fun _ _ => .nil⟩, Z.u17.kp⟩,
      f18 := ⟨⟨fd 18, [], [], fn_ok Z.u18 sc18 Z.hK (fun cdv A outer s H E => d18 Z T (Γ.fns 18) cdv A outer s H E), Z.b18, .nil, fun _ _ => .nil⟩, Z.u18.kp⟩,
      f19 := ⟨⟨fd 19, [], [], fn_ok Z.u19 sc19 Z.hK (fun cdv A outer s H E => d19 Z T (Γ.fns 19) cdv A outer s H E), Z.b19, .nil, fun _ _ => .nil⟩, Z.u19.kp⟩,
      f20 := ⟨⟨fd 20, [], [], fn_ok Z.u20 sc20 Z.hK (fun cdv A outer s H E => d20 Z T (Γ.fns 20) cdv A outer s H E), Z.b20, .nil, fun _ _ => .nil⟩, Z.u20.kp⟩,
      f21 := ⟨⟨fd 21, [], [], fn_ok Z.u21 sc21 Z.hK (fun cdv A outer s H E => d21 Z T (Γ.fns 21) cdv A outer s H E), Z.b21, .nil, fun _ _ => .nil⟩, Z.u21.kp⟩,
      f22 := ⟨⟨fd 22, [], [], fn_ok Z.u22 sc22 Z.hK (fun cdv A outer s H E => d22 Z T (Γ.fns 22) cdv A outer s H E), Z.b22, .nil, fun _ _ => .nil⟩, Z.u22.kp⟩,
      f23 := ⟨⟨fd 23, [], [], fn_ok Z.u23 sc23 Z.hK (fun cdv A outer s H E => d23 Z T (Γ.fns 23) cdv A outer s H E), Z.b23, .nil, fun _ _ => .nil⟩, Z.u23.kp⟩ }
theorem lawOk (Z : Fx K mg Γ fd) : FnOk P w K mg base (L2.CX P w) 40 (Γ.fns 23) (fd 23) ["script"] (spG Γ (zlev 40 23)) :=
  fn_ok Z.u23 sc23 Z.hK (fun cdv A outer s H E => d23 Z (all_ok Z 39) (Γ.fns 23) cdv A outer s H E)
end
end K03

namespace K03
open PySem PySem.Spec PyProof.Rows L2 Z
theorem z8 (k : Nat) : zlev (k + 2) 8 = f_term_size f_inner_terms (zlev (k + 1) 8) := rfl
theorem z9 (k : Nat) : zlev (k + 2) 9 = f_term_depth f_inner_terms (zlev (k + 1) 9) := rfl
theorem z10 (k : Nat) : zlev (k + 2) 10 = f_leaves f_inner_terms (zlev (k + 1) 10) := rfl
theorem z19 (k : Nat) : zlev (k + 3) 19 = c_term (zlev (k + 2) 19) := rfl
theorem z21 (k : Nat) : zlev (k + 2) 21 = c_counts (zlev (k + 1) 21) := rfl
theorem z22 (k : Nat) : zlev (k + 2) 22 = c_bent (zlev (k + 1) 22) := rfl
theorem q8 (m : Int) (k : Nat) : ∀ d, SizeS m (zlev (k + d + 1) 8) d
  | 0 => size_base _
  | d + 1 => by rw [show k + (d + 1) + 1 = (k + d) + 2 from rfl, z8]; exact size_step (q8 m k d)
theorem q9 (m : Int) (k : Nat) : ∀ d, DepS m (zlev (k + d + 1) 9) d
  | 0 => dep_base _
  | d + 1 => by rw [show k + (d + 1) + 1 = (k + d) + 2 from rfl, z9]; exact dep_step (q9 m k d)
theorem q10 (m : Int) (k : Nat) : ∀ d, LvS m (zlev (k + d + 1) 10) d
  | 0 => lv_base _
  | d + 1 => by rw [show k + (d + 1) + 1 = (k + d) + 2 from rfl, z10]; exact lv_step (q10 m k d)
theorem q21 (m : Int) (k : Nat) : ∀ d, CtS m (zlev (k + d + 1) 21) d
  | 0 => cnt_base _
  | d + 1 => by rw [show k + (d + 1) + 1 = (k + d) + 2 from rfl, z21]; exact cnt_step (q21 m k d)
theorem q22 (m : Int) (k : Nat) : ∀ d, BtS m (zlev (k + d + 1) 22) d
  | 0 => bent_base _
  | d + 1 => by rw [show k + (d + 1) + 1 = (k + d) + 2 from rfl, z22]; exact bent_step (q22 m k d)
theorem q19 (m : Int) (h0 : 0 ≤ m) (h2 : m ≤ 2) (k : Nat) : ∀ d, TmS m (zlev (k + d + 2) 19) d
  | 0 => term_base _
  | d + 1 => by rw [show k + (d + 1) + 2 = (k + d) + 3 from rfl, z19]; exact term_step h0 h2 (q19 m h0 h2 k d)
def FF : LF := ⟨zlev 39 19, zlev 39 21, zlev 39 8, zlev 39 9, zlev 37 10, zlev 38 10, zlev 39 22⟩
theorem zlaw : zlev 40 23 = lawF FF := rfl
theorem ffok : LFok FF :=
  ⟨fun m h0 h2 => q19 m h0 h2 33 4, fun m => q21 m 29 9, fun m => q8 m 29 9, fun m => q9 m 29 9, fun m => q10 m 27 9, fun m => q10 m 28 9, fun m => q22 m 29 9⟩
theorem law_true : ∀ ns : List Int, ns.length ≤ 63 → ∃ L, zlev 40 23 [.scr ns] [] = .ok (.bl true) L := fun ns _ => by
  rw [zlaw]
  obtain ⟨w, L, e, rfl⟩ := (law_ok ffok ns []).ex
  exact ⟨L, e⟩
end K03

namespace K03
open PySem PySem.Spec PyProof.Rows L2 Z
def spL (K : PySem.W.Frag) : Sp := fun vs H Q _ => ∃ (a : Addr) (ns : List Int), vs = [.ref a] ∧ SqL K H a (ns.map V.int) ∧ ns.length ≤ 63 ∧ Only H ∧ ∀ H1, Q (.bl true) H1
theorem all_mk {w : World} {K : PySem.W.Frag} {h : Heap} {mg : Str → Option Value} {fa : Addr}
    {f0 : Addr} {od0 an0 : Option Addr} {sl0 : Array (Option Value)} {oc0 kV0 dc0 pm0 cd0 ct0 : Value}
    {f1 : Addr} {od1 an1 : Option Addr} {sl1 : Array (Option Value)} {oc1 kV1 dc1 pm1 cd1 ct1 : Value}
    {f2 : Addr} {od2 an2 : Option Addr} {sl2 : Array (Option Value)} {oc2 kV2 dc2 pm2 cd2 ct2 : Value}
    {f3 : Addr} {od3 an3 : Option Addr} {sl3 : Array (Option Value)} {oc3 kV3 dc3 pm3 cd3 ct3 : Value}
    {f4 : Addr} {od4 an4 : Option Addr} {sl4 : Array (Option Value)} {oc4 kV4 dc4 pm4 cd4 ct4 : Value}
    {f5 : Addr} {od5 an5 : Option Addr} {sl5 : Array (Option Value)} {oc5 kV5 dc5 pm5 cd5 ct5 : Value}
    {f6 : Addr} {od6 an6 : Option Addr} {sl6 : Array (Option Value)} {oc6 kV6 dc6 pm6 cd6 ct6 : Value}
    {f7 : Addr} {od7 an7 : Option Addr} {sl7 : Array (Option Value)} {oc7 kV7 dc7 pm7 cd7 ct7 : Value}
    {f8 : Addr} {od8 an8 : Option Addr} {sl8 : Array (Option Value)} {oc8 kV8 dc8 pm8 cd8 ct8 : Value}
    {f9 : Addr} {od9 an9 : Option Addr} {sl9 : Array (Option Value)} {oc9 kV9 dc9 pm9 cd9 ct9 : Value}
    {f10 : Addr} {od10 an10 : Option Addr} {sl10 : Array (Option Value)} {oc10 kV10 dc10 pm10 cd10 ct10 : Value}
    {f11 : Addr} {od11 an11 : Option Addr} {sl11 : Array (Option Value)} {oc11 kV11 dc11 pm11 cd11 ct11 : Value}
    {f12 : Addr} {od12 an12 : Option Addr} {sl12 : Array (Option Value)} {oc12 kV12 dc12 pm12 cd12 ct12 : Value}
    {f13 : Addr} {od13 an13 : Option Addr} {sl13 : Array (Option Value)} {oc13 kV13 dc13 pm13 cd13 ct13 : Value}
    {f14 : Addr} {od14 an14 : Option Addr} {sl14 : Array (Option Value)} {oc14 kV14 dc14 pm14 cd14 ct14 : Value}
    {f15 : Addr} {od15 an15 : Option Addr} {sl15 : Array (Option Value)} {oc15 kV15 dc15 pm15 cd15 ct15 : Value}
    {f16 : Addr} {od16 an16 : Option Addr} {sl16 : Array (Option Value)} {oc16 kV16 dc16 pm16 cd16 ct16 : Value}
    {f17 : Addr} {od17 an17 : Option Addr} {sl17 : Array (Option Value)} {oc17 kV17 dc17 pm17 cd17 ct17 : Value}
    {f18 : Addr} {od18 an18 : Option Addr} {sl18 : Array (Option Value)} {oc18 kV18 dc18 pm18 cd18 ct18 : Value}
    {f19 : Addr} {od19 an19 : Option Addr} {sl19 : Array (Option Value)} {oc19 kV19 dc19 pm19 cd19 ct19 : Value}
    {f20 : Addr} {od20 an20 : Option Addr} {sl20 : Array (Option Value)} {oc20 kV20 dc20 pm20 cd20 ct20 : Value}
    {f21 : Addr} {od21 an21 : Option Addr} {sl21 : Array (Option Value)} {oc21 kV21 dc21 pm21 cd21 ct21 : Value}
    {f22 : Addr} {od22 an22 : Option Addr} {sl22 : Array (Option Value)} {oc22 kV22 dc22 pm22 cd22 ct22 : Value}
    {f23 : Addr} {od23 an23 : Option Addr} {sl23 : Array (Option Value)} {oc23 kV23 dc23 pm23 cd23 ct23 : Value}
    {t_LETTERS : Tok}
    {t_MOST_ARGUMENTS : Tok}
    {t_MOST_DEPTH : Tok}
    {t_MOST_LETTERS : Tok}
    {t_MOST_PARTS : Tok}
    {t_MOST_VALUE : Tok}
    {a_PAIRS : Addr} {d_PAIRS : Option Addr} {n_PAIRS : Nat} {sl_PAIRS : Array (Option Value)} {t_PAIRS0 t_PAIRS1 t_PAIRS2 : Tok}
    (LT : ∀ ns : List Int, ns.length ≤ 63 → ∃ L, zlev 40 23 [.scr ns] [] = .ok (.bl true) L) (X : K.In h) (G : h.Ns mainGlobals mg) (hfa : mg "law" = some (.ref fa))
    (a0 : PySem.W.nsIn K mainGlobals "is_integer" = some (some (.ref f0)))
    (l0 : K.lookup f0 = some ⟨oc0, od0, .func (PySem.W.fnOf "is_integer" "is_integer" (defArgs s0) (defBody s0) (defScope s0) .none kV0 dc0 pm0 an0 cd0 ct0), sl0⟩)
    (c0 : PySem.W.codeIn K cd0 "is_integer" = true)
    (k0 : PySem.W.keepIn K (.ref f0) = true)
    (a1 : PySem.W.nsIn K mainGlobals "is_between" = some (some (.ref f1)))
    (l1 : K.lookup f1 = some ⟨oc1, od1, .func (PySem.W.fnOf "is_between" "is_between" (defArgs s1) (defBody s1) (defScope s1) .none kV1 dc1 pm1 an1 cd1 ct1), sl1⟩)
    (c1 : PySem.W.codeIn K cd1 "is_between" = true)
    (k1 : PySem.W.keepIn K (.ref f1) = true)
    (a2 : PySem.W.nsIn K mainGlobals "is_value" = some (some (.ref f2)))
    (l2 : K.lookup f2 = some ⟨oc2, od2, .func (PySem.W.fnOf "is_value" "is_value" (defArgs s2) (defBody s2) (defScope s2) .none kV2 dc2 pm2 an2 cd2 ct2), sl2⟩)
    (c2 : PySem.W.codeIn K cd2 "is_value" = true)
    (k2 : PySem.W.keepIn K (.ref f2) = true)
    (a3 : PySem.W.nsIn K mainGlobals "is_name" = some (some (.ref f3)))
    (l3 : K.lookup f3 = some ⟨oc3, od3, .func (PySem.W.fnOf "is_name" "is_name" (defArgs s3) (defBody s3) (defScope s3) .none kV3 dc3 pm3 an3 cd3 ct3), sl3⟩)
    (c3 : PySem.W.codeIn K cd3 "is_name" = true)
    (k3 : PySem.W.keepIn K (.ref f3) = true)
    (a4 : PySem.W.nsIn K mainGlobals "has_kind" = some (some (.ref f4)))
    (l4 : K.lookup f4 = some ⟨oc4, od4, .func (PySem.W.fnOf "has_kind" "has_kind" (defArgs s4) (defBody s4) (defScope s4) .none kV4 dc4 pm4 an4 cd4 ct4), sl4⟩)
    (c4 : PySem.W.codeIn K cd4 "has_kind" = true)
    (k4 : PySem.W.keepIn K (.ref f4) = true)
    (a5 : PySem.W.nsIn K mainGlobals "inner_terms" = some (some (.ref f5)))
    (l5 : K.lookup f5 = some ⟨oc5, od5, .func (PySem.W.fnOf "inner_terms" "inner_terms" (defArgs s5) (defBody s5) (defScope s5) .none kV5 dc5 pm5 an5 cd5 ct5), sl5⟩)
    (c5 : PySem.W.codeIn K cd5 "inner_terms" = true)
    (k5 : PySem.W.keepIn K (.ref f5) = true)
    (a6 : PySem.W.nsIn K mainGlobals "has_form" = some (some (.ref f6)))
    (l6 : K.lookup f6 = some ⟨oc6, od6, .func (PySem.W.fnOf "has_form" "has_form" (defArgs s6) (defBody s6) (defScope s6) .none kV6 dc6 pm6 an6 cd6 ct6), sl6⟩)
    (c6 : PySem.W.codeIn K cd6 "has_form" = true)
    (k6 : PySem.W.keepIn K (.ref f6) = true)
    (a7 : PySem.W.nsIn K mainGlobals "is_term" = some (some (.ref f7)))
    (l7 : K.lookup f7 = some ⟨oc7, od7, .func (PySem.W.fnOf "is_term" "is_term" (defArgs s7) (defBody s7) (defScope s7) .none kV7 dc7 pm7 an7 cd7 ct7), sl7⟩)
    (c7 : PySem.W.codeIn K cd7 "is_term" = true)
    (k7 : PySem.W.keepIn K (.ref f7) = true)
    (a8 : PySem.W.nsIn K mainGlobals "term_size" = some (some (.ref f8)))
    (l8 : K.lookup f8 = some ⟨oc8, od8, .func (PySem.W.fnOf "term_size" "term_size" (defArgs s8) (defBody s8) (defScope s8) .none kV8 dc8 pm8 an8 cd8 ct8), sl8⟩)
    (c8 : PySem.W.codeIn K cd8 "term_size" = true)
    (k8 : PySem.W.keepIn K (.ref f8) = true)
    (a9 : PySem.W.nsIn K mainGlobals "term_depth" = some (some (.ref f9)))
    (l9 : K.lookup f9 = some ⟨oc9, od9, .func (PySem.W.fnOf "term_depth" "term_depth" (defArgs s9) (defBody s9) (defScope s9) .none kV9 dc9 pm9 an9 cd9 ct9), sl9⟩)
    (c9 : PySem.W.codeIn K cd9 "term_depth" = true)
    (k9 : PySem.W.keepIn K (.ref f9) = true)
    (a10 : PySem.W.nsIn K mainGlobals "leaves" = some (some (.ref f10)))
    (l10 : K.lookup f10 = some ⟨oc10, od10, .func (PySem.W.fnOf "leaves" "leaves" (defArgs s10) (defBody s10) (defScope s10) .none kV10 dc10 pm10 an10 cd10 ct10), sl10⟩)
    (c10 : PySem.W.codeIn K cd10 "leaves" = true)
    (k10 : PySem.W.keepIn K (.ref f10) = true)
    (a11 : PySem.W.nsIn K mainGlobals "names_with" = some (some (.ref f11)))
    (l11 : K.lookup f11 = some ⟨oc11, od11, .func (PySem.W.fnOf "names_with" "names_with" (defArgs s11) (defBody s11) (defScope s11) .none kV11 dc11 pm11 an11 cd11 ct11), sl11⟩)
    (c11 : PySem.W.codeIn K cd11 "names_with" = true)
    (k11 : PySem.W.keepIn K (.ref f11) = true)
    (a12 : PySem.W.nsIn K mainGlobals "cells_in" = some (some (.ref f12)))
    (l12 : K.lookup f12 = some ⟨oc12, od12, .func (PySem.W.fnOf "cells_in" "cells_in" (defArgs s12) (defBody s12) (defScope s12) .none kV12 dc12 pm12 an12 cd12 ct12), sl12⟩)
    (c12 : PySem.W.codeIn K cd12 "cells_in" = true)
    (k12 : PySem.W.keepIn K (.ref f12) = true)
    (a13 : PySem.W.nsIn K mainGlobals "calls_in" = some (some (.ref f13)))
    (l13 : K.lookup f13 = some ⟨oc13, od13, .func (PySem.W.fnOf "calls_in" "calls_in" (defArgs s13) (defBody s13) (defScope s13) .none kV13 dc13 pm13 an13 cd13 ct13), sl13⟩)
    (c13 : PySem.W.codeIn K cd13 "calls_in" = true)
    (k13 : PySem.W.keepIn K (.ref f13) = true)
    (a14 : PySem.W.nsIn K mainGlobals "has_tick" = some (some (.ref f14)))
    (l14 : K.lookup f14 = some ⟨oc14, od14, .func (PySem.W.fnOf "has_tick" "has_tick" (defArgs s14) (defBody s14) (defScope s14) .none kV14 dc14 pm14 an14 cd14 ct14), sl14⟩)
    (c14 : PySem.W.codeIn K cd14 "has_tick" = true)
    (k14 : PySem.W.keepIn K (.ref f14) = true)
    (a15 : PySem.W.nsIn K mainGlobals "_law_pool" = some (some (.ref f15)))
    (l15 : K.lookup f15 = some ⟨oc15, od15, .func (PySem.W.fnOf "_law_pool" "_law_pool" (defArgs s15) (defBody s15) (defScope s15) .none kV15 dc15 pm15 an15 cd15 ct15), sl15⟩)
    (c15 : PySem.W.codeIn K cd15 "_law_pool" = true)
    (k15 : PySem.W.keepIn K (.ref f15) = true)
    (a16 : PySem.W.nsIn K mainGlobals "_law_draw" = some (some (.ref f16)))
    (l16 : K.lookup f16 = some ⟨oc16, od16, .func (PySem.W.fnOf "_law_draw" "_law_draw" (defArgs s16) (defBody s16) (defScope s16) .none kV16 dc16 pm16 an16 cd16 ct16), sl16⟩)
    (c16 : PySem.W.codeIn K cd16 "_law_draw" = true)
    (k16 : PySem.W.keepIn K (.ref f16) = true)
    (a17 : PySem.W.nsIn K mainGlobals "_law_pick" = some (some (.ref f17)))
    (l17 : K.lookup f17 = some ⟨oc17, od17, .func (PySem.W.fnOf "_law_pick" "_law_pick" (defArgs s17) (defBody s17) (defScope s17) .none kV17 dc17 pm17 an17 cd17 ct17), sl17⟩)
    (c17 : PySem.W.codeIn K cd17 "_law_pick" = true)
    (k17 : PySem.W.keepIn K (.ref f17) = true)
    (a18 : PySem.W.nsIn K mainGlobals "_law_names" = some (some (.ref f18)))
    (l18 : K.lookup f18 = some ⟨oc18, od18, .func (PySem.W.fnOf "_law_names" "_law_names" (defArgs s18) (defBody s18) (defScope s18) .none kV18 dc18 pm18 an18 cd18 ct18), sl18⟩)
    (c18 : PySem.W.codeIn K cd18 "_law_names" = true)
    (k18 : PySem.W.keepIn K (.ref f18) = true)
    (a19 : PySem.W.nsIn K mainGlobals "_law_term" = some (some (.ref f19)))
    (l19 : K.lookup f19 = some ⟨oc19, od19, .func (PySem.W.fnOf "_law_term" "_law_term" (defArgs s19) (defBody s19) (defScope s19) .none kV19 dc19 pm19 an19 cd19 ct19), sl19⟩)
    (c19 : PySem.W.codeIn K cd19 "_law_term" = true)
    (k19 : PySem.W.keepIn K (.ref f19) = true)
    (a20 : PySem.W.nsIn K mainGlobals "_law_inner" = some (some (.ref f20)))
    (l20 : K.lookup f20 = some ⟨oc20, od20, .func (PySem.W.fnOf "_law_inner" "_law_inner" (defArgs s20) (defBody s20) (defScope s20) .none kV20 dc20 pm20 an20 cd20 ct20), sl20⟩)
    (c20 : PySem.W.codeIn K cd20 "_law_inner" = true)
    (k20 : PySem.W.keepIn K (.ref f20) = true)
    (a21 : PySem.W.nsIn K mainGlobals "_law_counts" = some (some (.ref f21)))
    (l21 : K.lookup f21 = some ⟨oc21, od21, .func (PySem.W.fnOf "_law_counts" "_law_counts" (defArgs s21) (defBody s21) (defScope s21) .none kV21 dc21 pm21 an21 cd21 ct21), sl21⟩)
    (c21 : PySem.W.codeIn K cd21 "_law_counts" = true)
    (k21 : PySem.W.keepIn K (.ref f21) = true)
    (a22 : PySem.W.nsIn K mainGlobals "_law_bent" = some (some (.ref f22)))
    (l22 : K.lookup f22 = some ⟨oc22, od22, .func (PySem.W.fnOf "_law_bent" "_law_bent" (defArgs s22) (defBody s22) (defScope s22) .none kV22 dc22 pm22 an22 cd22 ct22), sl22⟩)
    (c22 : PySem.W.codeIn K cd22 "_law_bent" = true)
    (k22 : PySem.W.keepIn K (.ref f22) = true)
    (a23 : PySem.W.nsIn K mainGlobals "law" = some (some (.ref f23)))
    (l23 : K.lookup f23 = some ⟨oc23, od23, .func (PySem.W.fnOf "law" "law" (defArgs s23) (defBody s23) (defScope s23) .none kV23 dc23 pm23 an23 cd23 ct23), sl23⟩)
    (c23 : PySem.W.codeIn K cd23 "law" = true)
    (k23 : PySem.W.keepIn K (.ref f23) = true)
    (z_abs : PySem.W.nsIn K mainGlobals "abs" = some none)
    (z_all : PySem.W.nsIn K mainGlobals "all" = some none)
    (z_any : PySem.W.nsIn K mainGlobals "any" = some none)
    (z_bool : PySem.W.nsIn K mainGlobals "bool" = some none)
    (z_int : PySem.W.nsIn K mainGlobals "int" = some none)
    (z_isinstance : PySem.W.nsIn K mainGlobals "isinstance" = some none)
    (z_len : PySem.W.nsIn K mainGlobals "len" = some none)
    (z_list : PySem.W.nsIn K mainGlobals "list" = some none)
    (z_max : PySem.W.nsIn K mainGlobals "max" = some none)
    (z_min : PySem.W.nsIn K mainGlobals "min" = some none)
    (z_range : PySem.W.nsIn K mainGlobals "range" = some none)
    (z_sorted : PySem.W.nsIn K mainGlobals "sorted" = some none)
    (z_str : PySem.W.nsIn K mainGlobals "str" = some none)
    (z_sum : PySem.W.nsIn K mainGlobals "sum" = some none)
    (z_tuple : PySem.W.nsIn K mainGlobals "tuple" = some none)
    (g_LETTERS : PySem.W.nsIn K mainGlobals "LETTERS" = some (some (.str "abcdefghijklmnopqrstuvwxyz" t_LETTERS)))
    (g_MOST_ARGUMENTS : PySem.W.nsIn K mainGlobals "MOST_ARGUMENTS" = some (some (.int 2 t_MOST_ARGUMENTS)))
    (g_MOST_DEPTH : PySem.W.nsIn K mainGlobals "MOST_DEPTH" = some (some (.int 8 t_MOST_DEPTH)))
    (g_MOST_LETTERS : PySem.W.nsIn K mainGlobals "MOST_LETTERS" = some (some (.int 8 t_MOST_LETTERS)))
    (g_MOST_PARTS : PySem.W.nsIn K mainGlobals "MOST_PARTS" = some (some (.int 30 t_MOST_PARTS)))
    (g_MOST_VALUE : PySem.W.nsIn K mainGlobals "MOST_VALUE" = some (some (.int 2 t_MOST_VALUE)))
    (g_PAIRS : PySem.W.nsIn K mainGlobals "PAIRS" = some (some (.ref a_PAIRS)))
    (h_PAIRS : K.lookup a_PAIRS = some ⟨.type "tuple", d_PAIRS, .seq ([.str "plus" t_PAIRS0, .str "less" t_PAIRS1, .str "same" t_PAIRS2] : List Value).toArray n_PAIRS, sl_PAIRS⟩)
    : ∃ fd : FuncData, (∀ (s : Shared) (v : Value), BindsTo s fd ⟨[v], []⟩ [("script", v)]) ∧ ∀ base : Heap, K.In base → base.Ns mainGlobals mg → FnOk PySem.Challenge.rw_looseties_k03_whole_terms.prog w K mg base (L2.CX PySem.Challenge.rw_looseties_k03_whole_terms.prog w) 40 fa fd ["script"] (spL K) := by
  have e := hfa.symm.trans (PySem.W.mg_of X G a23)
  cases e
  have F0 := fun_mk (st := s0) l0 c0 k0
  have F1 := fun_mk (st := s1) l1 c1 k1
  have F2 := fun_mk (st := s2) l2 c2 k2
  have F3 := fun_mk (st := s3) l3 c3 k3
  have F4 := fun_mk (st := s4) l4 c4 k4
  have F5 := fun_mk (st := s5) l5 c5 k5
  have F6 := fun_mk (st := s6) l6 c6 k6
  have F7 := fun_mk (st := s7) l7 c7 k7
  have F8 := fun_mk (st := s8) l8 c8 k8
  have F9 := fun_mk (st := s9) l9 c9 k9
  have F10 := fun_mk (st := s10) l10 c10 k10
  have F11 := fun_mk (st := s11) l11 c11 k11
  have F12 := fun_mk (st := s12) l12 c12 k12
  have F13 := fun_mk (st := s13) l13 c13 k13
  have F14 := fun_mk (st := s14) l14 c14 k14
  have F15 := fun_mk (st := s15) l15 c15 k15
  have F16 := fun_mk (st := s16) l16 c16 k16
  have F17 := fun_mk (st := s17) l17 c17 k17
  have F18 := fun_mk (st := s18) l18 c18 k18
  have F19 := fun_mk (st := s19) l19 c19 k19
  have F20 := fun_mk (st := s20) l20 c20 k20
  have F21 := fun_mk (st := s21) l21 c21 k21
  have F22 := fun_mk (st := s22) l22 c22 k22
  have F23 := fun_mk (st := s23) l23 c23 k23
  let Γ : Z.Ctx := ⟨K, fun _ => 0, fun i => match i with | 0 => f0 | 1 => f1 | 2 => f2 | 3 => f3 | 4 => f4 | 5 => f5 | 6 => f6 | 7 => f7 | 8 => f8 | 9 => f9 | 10 => f10 | 11 => f11 | 12 => f12 | 13 => f13 | 14 => f14 | 15 => f15 | 16 => f16 | 17 => f17 | 18 => f18 | 19 => f19 | 20 => f20 | 21 => f21 | 22 => f22 | 23 => fa | _ => 0⟩
  let fd : Nat → FuncData := fun i => match i with | 0 => PySem.W.fnOf "is_integer" "is_integer" (defArgs s0) (defBody s0) (defScope s0) .none kV0 dc0 pm0 an0 cd0 ct0 | 1 => PySem.W.fnOf "is_between" "is_between" (defArgs s1) (defBody s1) (defScope s1) .none kV1 dc1 pm1 an1 cd1 ct1 | 2 => PySem.W.fnOf "is_value" "is_value" (defArgs s2) (defBody s2) (defScope s2) .none kV2 dc2 pm2 an2 cd2 ct2 | 3 => PySem.W.fnOf "is_name" "is_name" (defArgs s3) (defBody s3) (defScope s3) .none kV3 dc3 pm3 an3 cd3 ct3 | 4 => PySem.W.fnOf "has_kind" "has_kind" (defArgs s4) (defBody s4) (defScope s4) .none kV4 dc4 pm4 an4 cd4 ct4 | 5 => PySem.W.fnOf "inner_terms" "inner_terms" (defArgs s5) (defBody s5) (defScope s5) .none kV5 dc5 pm5 an5 cd5 ct5 | 6 => PySem.W.fnOf "has_form" "has_form" (defArgs s6) (defBody s6) (defScope s6) .none kV6 dc6 pm6 an6 cd6 ct6 | 7 => PySem.W.fnOf "is_term" "is_term" (defArgs s7) (defBody s7) (defScope s7) .none kV7 dc7 pm7 an7 cd7 ct7 | 8 => PySem.W.fnOf "term_size" "term_size" (defArgs s8) (defBody s8) (defScope s8) .none kV8 dc8 pm8 an8 cd8 ct8 | 9 => PySem.W.fnOf "term_depth" "term_depth" (defArgs s9) (defBody s9) (defScope s9) .none kV9 dc9 pm9 an9 cd9 ct9 | 10 => PySem.W.fnOf "leaves" "leaves" (defArgs s10) (defBody s10) (defScope s10) .none kV10 dc10 pm10 an10 cd10 ct10 | 11 => PySem.W.fnOf "names_with" "names_with" (defArgs s11) (defBody s11) (defScope s11) .none kV11 dc11 pm11 an11 cd11 ct11 | 12 => PySem.W.fnOf "cells_in" "cells_in" (defArgs s12) (defBody s12) (defScope s12) .none kV12 dc12 pm12 an12 cd12 ct12 | 13 => PySem.W.fnOf "calls_in" "calls_in" (defArgs s13) (defBody s13) (defScope s13) .none kV13 dc13 pm13 an13 cd13 ct13 | 14 => PySem.W.fnOf "has_tick" "has_tick" (defArgs s14) (defBody s14) (defScope s14) .none kV14 dc14 pm14 an14 cd14 ct14 | 15 => PySem.W.fnOf "_law_pool" "_law_pool" (defArgs s15) (defBody s15) (defScope s15) .none kV15 dc15 pm15 an15 cd15 ct15 | 16 => PySem.W.fnOf "_law_draw" "_law_draw" (defArgs s16) (defBody s16) (defScope s16) .none kV16 dc16 pm16 an16 cd16 ct16 | 17 => PySem.W.fnOf "_law_pick" "_law_pick" (defArgs s17) (defBody s17) (defScope s17) .none kV17 dc17 pm17 an17 cd17 ct17 | 18 => PySem.W.fnOf "_law_names" "_law_names" (defArgs s18) (defBody s18) (defScope s18) .none kV18 dc18 pm18 an18 cd18 ct18 | 19 => PySem.W.fnOf "_law_term" "_law_term" (defArgs s19) (defBody s19) (defScope s19) .none kV19 dc19 pm19 an19 cd19 ct19 | 20 => PySem.W.fnOf "_law_inner" "_law_inner" (defArgs s20) (defBody s20) (defScope s20) .none kV20 dc20 pm20 an20 cd20 ct20 | 21 => PySem.W.fnOf "_law_counts" "_law_counts" (defArgs s21) (defBody s21) (defScope s21) .none kV21 dc21 pm21 an21 cd21 ct21 | 22 => PySem.W.fnOf "_law_bent" "_law_bent" (defArgs s22) (defBody s22) (defScope s22) .none kV22 dc22 pm22 an22 cd22 ct22 | 23 => PySem.W.fnOf "law" "law" (defArgs s23) (defBody s23) (defScope s23) .none kV23 dc23 pm23 an23 cd23 ct23 | _ => PySem.W.fnOf "law" "law" (defArgs s23) (defBody s23) (defScope s23) .none kV23 dc23 pm23 an23 cd23 ct23
  have Zf : Fx K mg Γ fd := {
      hK := rfl,
      u0 := F0,
      m0 := PySem.W.mg_of X G a0,
      b0 := F0.binds (fun _ _ _ _ _ _ us hl => match us, hl with | [_], _ => rfl),
      u1 := F1,
      m1 := PySem.W.mg_of X G a1,
      b1 := F1.binds (fun _ _ _ _ _ _ us hl => match us, hl with | [_, _, _], _ => rfl),
      u2 := F2,
      m2 := PySem.W.mg_of X G a2,
      b2 := F2.binds (fun _ _ _ _ _ _ us hl => match us, hl with | [_], _ => rfl),
      u3 := F3,
      m3 := PySem.W.mg_of X G a3,
      b3 := F3.binds (fun _ _ _ _ _ _ us hl => match us, hl with | [_], _ => rfl),
      u4 := F4,
      m4 := PySem.W.mg_of X G a4,
      b4 := F4.binds (fun _ _ _ _ _ _ us hl => match us, hl with | [_, _, _], _ => rfl),
      u5 := F5,
      m5 := PySem.W.mg_of X G a5,
      b5 := F5.binds (fun _ _ _ _ _ _ us hl => match us, hl with | [_], _ => rfl),
      u6 := F6,
      m6 := PySem.W.mg_of X G a6,
      b6 := F6.binds (fun _ _ _ _ _ _ us hl => match us, hl with | [_, _], _ => rfl),
      u7 := F7,
      m7 := PySem.W.mg_of X G a7,
      b7 := F7.binds (fun _ _ _ _ _ _ us hl => match us, hl with | [_, _], _ => rfl),
      u8 := F8,
      m8 := PySem.W.mg_of X G a8,
      b8 := F8.binds (fun _ _ _ _ _ _ us hl => match us, hl with | [_], _ => rfl),
      u9 := F9,
      m9 := PySem.W.mg_of X G a9,
      b9 := F9.binds (fun _ _ _ _ _ _ us hl => match us, hl with | [_], _ => rfl),
      u10 := F10,
      m10 := PySem.W.mg_of X G a10,
      b10 := F10.binds (fun _ _ _ _ _ _ us hl => match us, hl with | [_], _ => rfl),
      u11 := F11,
      m11 := PySem.W.mg_of X G a11,
      b11 := F11.binds (fun _ _ _ _ _ _ us hl => match us, hl with | [_, _], _ => rfl),
      u12 := F12,
      m12 := PySem.W.mg_of X G a12,
      b12 := F12.binds (fun _ _ _ _ _ _ us hl => match us, hl with | [_], _ => rfl),
      u13 := F13,
      m13 := PySem.W.mg_of X G a13,
      b13 := F13.binds (fun _ _ _ _ _ _ us hl => match us, hl with | [_], _ => rfl),
      u14 := F14,
      m14 := PySem.W.mg_of X G a14,
      b14 := F14.binds (fun _ _ _ _ _ _ us hl => match us, hl with | [_], _ => rfl),
      u15 := F15,
      m15 := PySem.W.mg_of X G a15,
      b15 := F15.binds (fun _ _ _ _ _ _ us hl => match us, hl with | [_, _], _ => rfl),
      u16 := F16,
      m16 := PySem.W.mg_of X G a16,
      b16 := F16.binds (fun _ _ _ _ _ _ us hl => match us, hl with | [_, _], _ => rfl),
      u17 := F17,
      m17 := PySem.W.mg_of X G a17,
      b17 := F17.binds (fun _ _ _ _ _ _ us hl => match us, hl with | [_, _], _ => rfl),
      u18 := F18,
      m18 := PySem.W.mg_of X G a18,
      b18 := F18.binds (fun _ _ _ _ _ _ us hl => match us, hl with | [_, _], _ => rfl),
      u19 := F19,
      m19 := PySem.W.mg_of X G a19,
      b19 := F19.binds (fun _ _ _ _ _ _ us hl => match us, hl with | [_, _, _, _], _ => rfl),
      u20 := F20,
      m20 := PySem.W.mg_of X G a20,
      b20 := F20.binds (fun _ _ _ _ _ _ us hl => match us, hl with | [_], _ => rfl),
      u21 := F21,
      m21 := PySem.W.mg_of X G a21,
      b21 := F21.binds (fun _ _ _ _ _ _ us hl => match us, hl with | [_], _ => rfl),
      u22 := F22,
      m22 := PySem.W.mg_of X G a22,
      b22 := F22.binds (fun _ _ _ _ _ _ us hl => match us, hl with | [_, _, _], _ => rfl),
      u23 := F23,
      m23 := PySem.W.mg_of X G a23,
      b23 := F23.binds (fun _ _ _ _ _ _ us hl => match us, hl with | [_], _ => rfl),
      z_abs := PySem.W.mg_none_of X G z_abs,
      z_all := PySem.W.mg_none_of X G z_all,
      z_any := PySem.W.mg_none_of X G z_any,
      z_bool := PySem.W.mg_none_of X G z_bool,
      z_int := PySem.W.mg_none_of X G z_int,
      z_isinstance := PySem.W.mg_none_of X G z_isinstance,
      z_len := PySem.W.mg_none_of X G z_len,
      z_list := PySem.W.mg_none_of X G z_list,
      z_max := PySem.W.mg_none_of X G z_max,
      z_min := PySem.W.mg_none_of X G z_min,
      z_range := PySem.W.mg_none_of X G z_range,
      z_sorted := PySem.W.mg_none_of X G z_sorted,
      z_str := PySem.W.mg_none_of X G z_str,
      z_sum := PySem.W.mg_none_of X G z_sum,
      z_tuple := PySem.W.mg_none_of X G z_tuple,
      g_LETTERS := gw_str (PySem.W.mg_of X G g_LETTERS),
      g_MOST_ARGUMENTS := gw_int (PySem.W.mg_of X G g_MOST_ARGUMENTS),
      g_MOST_DEPTH := gw_int (PySem.W.mg_of X G g_MOST_DEPTH),
      g_MOST_LETTERS := gw_int (PySem.W.mg_of X G g_MOST_LETTERS),
      g_MOST_PARTS := gw_int (PySem.W.mg_of X G g_MOST_PARTS),
      g_MOST_VALUE := gw_int (PySem.W.mg_of X G g_MOST_VALUE),
      g_PAIRS := gw_tup rfl (PySem.W.mg_of X G g_PAIRS) h_PAIRS (RFlat.str (RFlat.str (RFlat.str (RFlat.nil)))) (Nat.le_of_ble_eq_true rfl) }
  refine ⟨fd 23, fun s v => .of_eq rfl, fun base _ _ => ?_⟩
  have T2 := lawOk (P := PySem.Challenge.rw_looseties_k03_whole_terms.prog) (w := w) (base := base) Zf
  refine T2.imp fun vs H Q E hq => ?_
  obtain ⟨a, ns, rfl, hS, hl, hO, hQ⟩ := hq
  exact law_end2 (Γ := Γ) rfl hO hS (LT ns hl) hQ
end K03
open PySem PySem.W PyProof.Rows
set_option maxHeartbeats 0 in
theorem PySem.Challenge.cw_looseties_k03_whole_terms_holds : PySem.Challenge.rw_looseties_k03_whole_terms.Holds := by
  w_on; o_law; k_head; (case hw => w_witness2)
  k_fill
  refine L2.walk_of (l := PySem.Challenge.rw_looseties_k03_whole_terms) (n := 63) (k := 40) (x := "script") (CX := fun w => L2.CX PySem.Challenge.rw_looseties_k03_whole_terms.prog w) (sp := fun w => K03.spL _) rfl (by decide) rfl ⟨rfl, by decide, by decide⟩ (fun w h Y => PySem.W.kIn_of Y) ?F (fun _ _ a ns hl hO hS => ⟨a, ns, rfl, hS, hl, hO, fun _ => rfl⟩) (fun _ _ _ _ _ h => by obtain ⟨_, _, _, _, _, _, _, _, _, _, _, _, z⟩ := h; exact z)
  case F =>
    intro w mg fa h KX G hmg
    refine' K03.all_mk K03.law_true KX G hmg ?a0 ?l0 ?c0 ?k0 ?a1 ?l1 ?c1 ?k1 ?a2 ?l2 ?c2 ?k2 ?a3 ?l3 ?c3 ?k3 ?a4 ?l4 ?c4 ?k4 ?a5 ?l5 ?c5 ?k5 ?a6 ?l6 ?c6 ?k6 ?a7 ?l7 ?c7 ?k7 ?a8 ?l8 ?c8 ?k8 ?a9 ?l9 ?c9 ?k9 ?a10 ?l10 ?c10 ?k10 ?a11 ?l11 ?c11 ?k11 ?a12 ?l12 ?c12 ?k12 ?a13 ?l13 ?c13 ?k13 ?a14 ?l14 ?c14 ?k14 ?a15 ?l15 ?c15 ?k15 ?a16 ?l16 ?c16 ?k16 ?a17 ?l17 ?c17 ?k17 ?a18 ?l18 ?c18 ?k18 ?a19 ?l19 ?c19 ?k19 ?a20 ?l20 ?c20 ?k20 ?a21 ?l21 ?c21 ?k21 ?a22 ?l22 ?c22 ?k22 ?a23 ?l23 ?c23 ?k23 ?z_abs ?z_all ?z_any ?z_bool ?z_int ?z_isinstance ?z_len ?z_list ?z_max ?z_min ?z_range ?z_sorted ?z_str ?z_sum ?z_tuple ?g_LETTERS ?g_MOST_ARGUMENTS ?g_MOST_DEPTH ?g_MOST_LETTERS ?g_MOST_PARTS ?g_MOST_VALUE ?g_PAIRS ?h_PAIRS
    (case a0 => k_is)
    (case l0 => k_is)
    (case c0 => k_is)
    (case k0 => k_is)
    (case a1 => k_is)
    (case l1 => k_is)
    (case c1 => k_is)
    (case k1 => k_is)
    (case a2 => k_is)
    (case l2 => k_is)
    (case c2 => k_is)
    (case k2 => k_is)
    (case a3 => k_is)
    (case l3 => k_is)
    (case c3 => k_is)
    (case k3 => k_is)
    (case a4 => k_is)
    (case l4 => k_is)
    (case c4 => k_is)
    (case k4 => k_is)
    (case a5 => k_is)
    (case l5 => k_is)
    (case c5 => k_is)
    (case k5 => k_is)
    (case a6 => k_is)
    (case l6 => k_is)
    (case c6 => k_is)
    (case k6 => k_is)
    (case a7 => k_is)
    (case l7 => k_is)
    (case c7 => k_is)
    (case k7 => k_is)
    (case a8 => k_is)
    (case l8 => k_is)
    (case c8 => k_is)
    (case k8 => k_is)
    (case a9 => k_is)
    (case l9 => k_is)
    (case c9 => k_is)
    (case k9 => k_is)
    (case a10 => k_is)
    (case l10 => k_is)
    (case c10 => k_is)
    (case k10 => k_is)
    (case a11 => k_is)
    (case l11 => k_is)
    (case c11 => k_is)
    (case k11 => k_is)
    (case a12 => k_is)
    (case l12 => k_is)
    (case c12 => k_is)
    (case k12 => k_is)
    (case a13 => k_is)
    (case l13 => k_is)
    (case c13 => k_is)
    (case k13 => k_is)
    (case a14 => k_is)
    (case l14 => k_is)
    (case c14 => k_is)
    (case k14 => k_is)
    (case a15 => k_is)
    (case l15 => k_is)
    (case c15 => k_is)
    (case k15 => k_is)
    (case a16 => k_is)
    (case l16 => k_is)
    (case c16 => k_is)
    (case k16 => k_is)
    (case a17 => k_is)
    (case l17 => k_is)
    (case c17 => k_is)
    (case k17 => k_is)
    (case a18 => k_is)
    (case l18 => k_is)
    (case c18 => k_is)
    (case k18 => k_is)
    (case a19 => k_is)
    (case l19 => k_is)
    (case c19 => k_is)
    (case k19 => k_is)
    (case a20 => k_is)
    (case l20 => k_is)
    (case c20 => k_is)
    (case k20 => k_is)
    (case a21 => k_is)
    (case l21 => k_is)
    (case c21 => k_is)
    (case k21 => k_is)
    (case a22 => k_is)
    (case l22 => k_is)
    (case c22 => k_is)
    (case k22 => k_is)
    (case a23 => k_is)
    (case l23 => k_is)
    (case c23 => k_is)
    (case k23 => k_is)
    (case z_abs => k_is)
    (case z_all => k_is)
    (case z_any => k_is)
    (case z_bool => k_is)
    (case z_int => k_is)
    (case z_isinstance => k_is)
    (case z_len => k_is)
    (case z_list => k_is)
    (case z_max => k_is)
    (case z_min => k_is)
    (case z_range => k_is)
    (case z_sorted => k_is)
    (case z_str => k_is)
    (case z_sum => k_is)
    (case z_tuple => k_is)
    (case g_LETTERS => k_is)
    (case g_MOST_ARGUMENTS => k_is)
    (case g_MOST_DEPTH => k_is)
    (case g_MOST_LETTERS => k_is)
    (case g_MOST_PARTS => k_is)
    (case g_MOST_VALUE => k_is)
    (case g_PAIRS => k_is)
    (case h_PAIRS => k_is)
