import PyProof.Rows.All
import Wide.All
import OpenK.AllK
import Wide.FinOn
import HandS.ForMost
import HandS.ForExc
import HandS.IsInst
import HandS.TupAny
import HandS.Deep
import HandS.DictComp
import HandS.CallSlots
import HandS.NoneIn
import HandS.Flow
import HandS.RaiseMore
import HandS.Text
import HandS.Small
import HandS.Style
import HandS.Iter
import HandS.Conv
import HandS.ExcInit
import HandS.Star
import HandS.ExcField
import HandS.TryOnly
import PyProof.StrLawsTight
import PyProof.StrLawsChain
import PyProof.StrLawsIn
import PyProof.P3Eq
import PySem.Challenge.RW_looseties_k79_whole_terms_as_texts
set_option Elab.async false
set_option linter.all false
set_option maxRecDepth 100000
set_option maxHeartbeats 4000000
/-! Z0: a deterministic reading of the layer L2: values W, a logical heap (a list of objects), and how both stand for L2's values and heaps. -/
namespace Z
open PySem PySem.Spec PyProof.Rows L2

inductive W where
  | non | bl (b : Bool) | int (i : Int) | str (x : Str) | tup (ws : List W) | ref (n : Nat) | ty (n : String) | cls (c : Nat) | fn (i : Nat) | scr (ns : List Int)
  deriving Inhabited

inductive LO where
  | lst (xs : List W) | dic (kvs : List (Key × W)) | ins (c : Nat) (fs : List (Str × W)) | lck (kvs : List (Key × W))
  deriving Inhabited

abbrev LH := List LO
structure Exn where
  cls : Nat
  fs : List (Str × W)
inductive Res (α : Type) where
  | ok (a : α) (L : LH) | exc (e : Exn) (L : LH) | stk

structure Ctx where
  K : PySem.W.Frag
  cls : Nat → Addr
  fns : Nat → Addr

mutual
inductive RW (Γ : Ctx) (ρ : List Addr) (H : Hp) : W → V → Prop
  | non : RW Γ ρ H .non .non
  | bl (b : Bool) : RW Γ ρ H (.bl b) (.bl b)
  | int (i : Int) : RW Γ ρ H (.int i) (.int i)
  | str (x : Str) : RW Γ ρ H (.str x) (.str x)
  | ty (n : String) : RW Γ ρ H (.ty n) (.ty n)
  | tup {a : Addr} {vs : List V} {ws : List W} : SqT Γ.K H a vs → RWs Γ ρ H ws vs → RW Γ ρ H (.tup ws) (.ref a)
  | ref {n : Nat} {a : Addr} : ρ[n]? = some a → RW Γ ρ H (.ref n) (.ref a)
  | cls (c : Nat) : RW Γ ρ H (.cls c) (.ref (Γ.cls c))
  | fn (i : Nat) : RW Γ ρ H (.fn i) (.ref (Γ.fns i))
  | scr {a : Addr} {ns : List Int} : ((∃ ob, H a = some (.frz ob (.lst (ns.map V.int)))) ∨ SqL Γ.K (fun _ => none) a (ns.map V.int)) → RW Γ ρ H (.scr ns) (.ref a)
inductive RWs (Γ : Ctx) (ρ : List Addr) (H : Hp) : List W → List V → Prop
  | nil : RWs Γ ρ H [] []
  | cons {w : W} {v : V} {ws : List W} {vs : List V} : RW Γ ρ H w v → RWs Γ ρ H ws vs → RWs Γ ρ H (w :: ws) (v :: vs)
end

/-- the tuples and what is locked stay -/
structure Keep (H H' : Hp) : Prop where
  tup : ∀ a xs, H a = some (.tup xs) → H' a = some (.tup xs)
  frz : ∀ a o u, H a = some (.frz o u) → H' a = some (.frz o u)
theorem Keep.refl {H : Hp} : Keep H H := ⟨fun _ _ h => h, fun _ _ _ h => h⟩
theorem Keep.trans {H H1 H2 : Hp} (a : Keep H H1) (b : Keep H1 H2) : Keep H H2 := ⟨fun x y h => b.tup x y (a.tup x y h), fun x y z h => b.frz x y z (a.frz x y z h)⟩
theorem Keep.fresh {H : Hp} {p : Addr} {o : HO} (h : H p = none) : Keep H (upd H p o) :=
  ⟨fun a xs e => by rw [upd_ne (ne_of_none e h)]; exact e, fun a ob u e => by rw [upd_ne (ne_of_none e h)]; exact e⟩
/-- a changed object that is no tuple, not locked -/
def mutHO : HO → Bool
  | .lst _ => true | .dK _ => true | .ins _ _ _ => true | _ => false
theorem Keep.write {H : Hp} {p : Addr} {o o' : HO} (h : H p = some o) (hm : mutHO o = true) : Keep H (upd H p o') := by
  refine ⟨fun a xs e => ?_, fun a ob u e => ?_⟩
  · rw [upd_ne]; · exact e
    rintro rfl; rw [h] at e; cases e; cases hm
  · rw [upd_ne]; · exact e
    rintro rfl; rw [h] at e; cases e; cases hm
theorem Keep.sqT {K : PySem.W.Frag} {H H' : Hp} {a : Addr} {xs : List V} (k : Keep H H') (h : SqT K H a xs) : SqT K H' a xs := by
  rcases h with (h | ⟨o, h⟩) | h
  · exact .inl (.inl (k.tup _ _ h))
  · exact .inl (.inr ⟨o, k.frz _ _ _ h⟩)
  · exact .inr h

section
variable {Γ : Ctx} {ρ ρ' : List Addr} {H H' : Hp}
theorem pre_get {ρ ρ' : List Addr} {n : Nat} {a : Addr} (p : ρ <+: ρ') (h : ρ[n]? = some a) : ρ'[n]? = some a := by
  obtain ⟨t, rfl⟩ := p
  rw [List.getElem?_append_left]; · exact h
  exact (List.getElem?_eq_some_iff.mp h).1
mutual
theorem RW.mono (p : ρ <+: ρ') (k : Keep H H') : ∀ {w : W} {v : V}, RW Γ ρ H w v → RW Γ ρ' H' w v
  | _, _, .non => .non
  | _, _, .bl b => .bl b
  | _, _, .int b => .int b
  | _, _, .str b => .str b
  | _, _, .ty b => .ty b
  | _, _, .tup h r => .tup (k.sqT h) (RWs.mono p k r)
  | _, _, .ref h => .ref (pre_get p h)
  | _, _, .cls c => .cls c
  | _, _, .fn c => .fn c
  | _, _, .scr h => .scr (h.imp (fun ⟨ob, e⟩ => ⟨ob, k.frz _ _ _ e⟩) id)
theorem RWs.mono (p : ρ <+: ρ') (k : Keep H H') : ∀ {ws : List W} {vs : List V}, RWs Γ ρ H ws vs → RWs Γ ρ' H' ws vs
  | _, _, .nil => .nil
  | _, _, .cons r t => .cons (RW.mono p k r) (RWs.mono p k t)
end
theorem RWs.length : ∀ {ws : List W} {vs : List V}, RWs Γ ρ H ws vs → ws.length = vs.length
  | _, _, .nil => rfl
  | _, _, .cons _ t => by rw [List.length_cons, List.length_cons, RWs.length t]
theorem RWs.get : ∀ {ws : List W} {vs : List V} {i : Nat} {w : W}, RWs Γ ρ H ws vs → ws[i]? = some w → ∃ v, vs[i]? = some v ∧ RW Γ ρ H w v
  | _, _, _, _, .nil, e => by simp at e
  | _, _, 0, _, .cons r _, e => by simp at e; subst e; exact ⟨_, rfl, r⟩
  | _, _, i + 1, w, .cons _ t, e => by
    obtain ⟨v, h1, h2⟩ := RWs.get (i := i) (w := w) t (by simpa using e)
    exact ⟨v, by simpa using h1, h2⟩
theorem RWs.append : ∀ {ws ws' : List W} {vs vs' : List V}, RWs Γ ρ H ws vs → RWs Γ ρ H ws' vs' → RWs Γ ρ H (ws ++ ws') (vs ++ vs')
  | _, _, _, _, .nil, s => s
  | _, _, _, _, .cons r t, s => .cons r (RWs.append t s)
theorem RWs.set {x : W} {v : V} (r : RW Γ ρ H x v) : ∀ {ws : List W} {vs : List V} (i : Nat), RWs Γ ρ H ws vs → RWs Γ ρ H (ws.set i x) (vs.set i v)
  | _, _, _, .nil => .nil
  | _, _, 0, .cons _ t => .cons r t
  | _, _, i + 1, .cons q t => .cons q (RWs.set r i t)
theorem RWs.take : ∀ {ws : List W} {vs : List V} (n : Nat), RWs Γ ρ H ws vs → RWs Γ ρ H (ws.take n) (vs.take n)
  | _, _, 0, _ => .nil
  | _, _, _ + 1, .nil => .nil
  | _, _, n + 1, .cons r t => .cons r (RWs.take n t)
theorem RWs.drop : ∀ {ws : List W} {vs : List V} (n : Nat), RWs Γ ρ H ws vs → RWs Γ ρ H (ws.drop n) (vs.drop n)
  | _, _, 0, r => r
  | _, _, _ + 1, .nil => .nil
  | _, _, n + 1, .cons _ t => RWs.drop n t
theorem RWs.one {x : W} {v : V} (r : RW Γ ρ H x v) : RWs Γ ρ H [x] [v] := .cons r .nil

/-- names or keys with values -/
inductive RKs {κ : Type} (Γ : Ctx) (ρ : List Addr) (H : Hp) : List (κ × W) → List (κ × V) → Prop
  | nil : RKs Γ ρ H [] []
  | cons {k : κ} {w : W} {v : V} {ws : List (κ × W)} {vs : List (κ × V)} : RW Γ ρ H w v → RKs Γ ρ H ws vs → RKs Γ ρ H ((k, w) :: ws) ((k, v) :: vs)
theorem RKs.mono {κ : Type} (p : ρ <+: ρ') (k : Keep H H') : ∀ {ws : List (κ × W)} {vs : List (κ × V)}, RKs Γ ρ H ws vs → RKs Γ ρ' H' ws vs
  | _, _, .nil => .nil
  | _, _, .cons r t => .cons (RW.mono p k r) (RKs.mono p k t)
theorem RKs.length {κ : Type} : ∀ {ws : List (κ × W)} {vs : List (κ × V)}, RKs Γ ρ H ws vs → ws.length = vs.length
  | _, _, .nil => rfl
  | _, _, .cons _ t => by rw [List.length_cons, List.length_cons, RKs.length t]
theorem RKs.look {κ : Type} [BEq κ] {x : κ} : ∀ {ws : List (κ × W)} {vs : List (κ × V)}, RKs Γ ρ H ws vs →
    (∀ w, ws.lookup x = some w → ∃ v, vs.lookup x = some v ∧ RW Γ ρ H w v) ∧ (ws.lookup x = none → vs.lookup x = none)
  | _, _, .nil => ⟨fun _ h => by simp at h, fun _ => rfl⟩
  | _, _, .cons (k := k) (w := w) (v := v) (ws := ws) (vs := vs) r t => by
    obtain ⟨h1, h2⟩ := RKs.look (x := x) t
    rw [List.lookup_cons, List.lookup_cons]
    cases x == k with
    | true => exact ⟨fun w' e => by cases e; exact ⟨v, rfl, r⟩, fun e => by cases e⟩
    | false => exact ⟨h1, h2⟩

/-- what stands for an object -/
def RO (Γ : Ctx) (ρ : List Addr) (H : Hp) (a : Addr) : LO → Prop
  | .lst xs => ∃ vs, H a = some (.lst vs) ∧ RWs Γ ρ H xs vs
  | .dic kvs => ∃ vs, H a = some (.dK vs) ∧ RKs Γ ρ H kvs vs
  | .ins c fs => ∃ dx vs, H a = some (.ins (Γ.cls c) dx vs) ∧ RKs Γ ρ H fs vs
  | .lck kvs => ∃ od vs, H a = some (.frz od (.dK vs)) ∧ RKs Γ ρ H kvs vs
/-- an object that may be changed -/
def LO.mutb : LO → Bool
  | .lck _ => false | _ => true

structure RL (Γ : Ctx) (ρ : List Addr) (L : LH) (H : Hp) : Prop where
  len : ρ.length = L.length
  inj : ∀ (n m : Nat) (a : Addr) (o o' : LO), L[n]? = some o → L[m]? = some o' → ρ[n]? = some a → ρ[m]? = some a → n = m
  obj : ∀ (n : Nat) (o : LO), L[n]? = some o → ∃ a, ρ[n]? = some a ∧ RO Γ ρ H a o

theorem sqK {K : PySem.W.Frag} {a : Addr} {vs : List V} (h : SqL K (fun _ => none) a vs) (H : Hp) : SqL K H a vs := by
  rcases h with (h | ⟨o, h⟩) | h
  · cases h
  · cases h
  · exact .inr h
theorem RO.ex {a : Addr} {o : LO} (h : RO Γ ρ H a o) : ∃ ho, H a = some ho := by
  cases o with
  | lst xs => obtain ⟨vs, e, r⟩ := h; exact ⟨_, e⟩
  | dic kvs => obtain ⟨vs, e, r⟩ := h; exact ⟨_, e⟩
  | ins c fs => obtain ⟨dx, vs, e, r⟩ := h; exact ⟨_, e⟩
  | lck fs => obtain ⟨dx, vs, e, r⟩ := h; exact ⟨_, e⟩
theorem RO.mut {a : Addr} {o : LO} (h : RO Γ ρ H a o) (hm : o.mutb = true) : ∃ ho, H a = some ho ∧ mutHO ho = true := by
  cases o with
  | lck fs => cases hm
  | lst xs => obtain ⟨vs, e, r⟩ := h; exact ⟨_, e, rfl⟩
  | dic kvs => obtain ⟨vs, e, r⟩ := h; exact ⟨_, e, rfl⟩
  | ins c fs => obtain ⟨dx, vs, e, r⟩ := h; exact ⟨_, e, rfl⟩
/-- the object's own entry is kept -/
theorem RO.stay {a : Addr} {o : LO} (h : RO Γ ρ H a o) (pr : ρ <+: ρ') (k : Keep H H') (ha : ∀ ho, H a = some ho → H' a = some ho) : RO Γ ρ' H' a o := by
  cases o with
  | lst xs => obtain ⟨vs, e, r⟩ := h; exact ⟨vs, ha _ e, r.mono pr k⟩
  | dic kvs => obtain ⟨vs, e, r⟩ := h; exact ⟨vs, ha _ e, r.mono pr k⟩
  | ins c fs => obtain ⟨dx, vs, e, r⟩ := h; exact ⟨dx, vs, ha _ e, r.mono pr k⟩
  | lck fs => obtain ⟨dx, vs, e, r⟩ := h; exact ⟨dx, vs, ha _ e, r.mono pr k⟩
theorem RO.fresh {a p : Addr} {o : LO} {ho : HO} (h : RO Γ ρ H a o) (hp : H p = none) (pr : ρ <+: ρ') : RO Γ ρ' (upd H p ho) a o :=
  h.stay pr (.fresh hp) fun ho e => by rw [upd_ne (ne_of_none e hp)]; exact e
theorem pre_app (ρ : List Addr) (p : Addr) : ρ <+: ρ ++ [p] := ⟨[p], rfl⟩
/-- a new untold object -/
theorem RL.fresh {L : LH} {p : Addr} {ho : HO} (h : RL Γ ρ L H) (hp : H p = none) : RL Γ ρ L (upd H p ho) :=
  ⟨h.len, h.inj, fun n o e => let ⟨a, e1, r⟩ := h.obj n o e; ⟨a, e1, r.fresh hp (List.prefix_refl _)⟩⟩
/-- a new told object -/
theorem RL.push {L : LH} {p : Addr} {ho : HO} {o : LO} (h : RL Γ ρ L H) (hp : H p = none) (ho' : RO Γ (ρ ++ [p]) (upd H p ho) p o) : RL Γ (ρ ++ [p]) (L ++ [o]) (upd H p ho) := by
  have old : ∀ (n : Nat) (q : LO), L[n]? = some q → ρ[n]? ≠ some p := fun n q e z => by
    obtain ⟨a, e1, r⟩ := h.obj n q e
    obtain ⟨ho2, e2⟩ := r.ex
    rw [z] at e1; cases e1
    rw [hp] at e2; cases e2
  have lt : ∀ {n : Nat}, n < L.length → (L ++ [o])[n]? = L[n]? ∧ (ρ ++ [p])[n]? = ρ[n]? := fun hn =>
    ⟨List.getElem?_append_left hn, List.getElem?_append_left (by rw [h.len]; exact hn)⟩
  have at_ : (L ++ [o])[L.length]? = some o ∧ (ρ ++ [p])[L.length]? = some p := by
    rw [← h.len]
    constructor
    · rw [h.len]; exact List.getElem?_concat_length
    · exact List.getElem?_concat_length
  have cases_ : ∀ {n : Nat} {q : LO}, (L ++ [o])[n]? = some q → n < L.length ∨ n = L.length := fun {n q} e => by
    have := (List.getElem?_eq_some_iff.mp e).1
    rw [List.length_append, List.length_singleton] at this
    omega
  refine ⟨by rw [List.length_append, List.length_append, h.len]; rfl, fun n m a q q' e1 e2 e3 e4 => ?_, fun n q e => ?_⟩
  · rcases cases_ e1 with h1 | rfl <;> rcases cases_ e2 with h2 | rfl
    · rw [(lt h1).1] at e1; rw [(lt h2).1] at e2; rw [(lt h1).2] at e3; rw [(lt h2).2] at e4
      exact h.inj n m a q q' e1 e2 e3 e4
    · rw [(lt h1).1] at e1; rw [(lt h1).2] at e3; rw [at_.2] at e4; cases e4
      exact absurd e3 (old n q e1)
    · rw [(lt h2).1] at e2; rw [(lt h2).2] at e4; rw [at_.2] at e3; cases e3
      exact absurd e4 (old m q' e2)
    · rfl
  · rcases cases_ e with h1 | rfl
    · rw [(lt h1).1] at e
      obtain ⟨a, e1, r⟩ := h.obj n q e
      exact ⟨a, by rw [(lt h1).2]; exact e1, r.fresh hp (pre_app _ _)⟩
    · rw [at_.1] at e; cases e
      exact ⟨p, at_.2, ho'⟩
/-- what is told is tracked -/
theorem RL.there {L : LH} {a : Addr} (h : RL Γ ρ L H) (m : a ∈ ρ) : ∃ ho, H a = some ho := by
  obtain ⟨n, hn, rfl⟩ := List.getElem_of_mem m
  have hl : n < L.length := by rw [← h.len]; exact hn
  obtain ⟨b, eb, r⟩ := h.obj n L[n] (List.getElem?_eq_getElem hl)
  rw [List.getElem?_eq_getElem hn] at eb
  cases eb
  exact r.ex
theorem RL.out {L : LH} {p : Addr} (h : RL Γ ρ L H) (hp : H p = none) : p ∉ ρ := fun m => by
  obtain ⟨ho, e⟩ := h.there m
  rw [hp] at e; cases e
/-- a told object is changed -/
theorem RL.set {L : LH} {a : Addr} {n : Nat} {ho : HO} {o o' : LO} (h : RL Γ ρ L H) (e : L[n]? = some o) (ea : ρ[n]? = some a) (ho' : RO Γ ρ (upd H a ho) a o') (hm : o.mutb = true := by rfl) :
    RL Γ ρ (L.set n o') (upd H a ho) ∧ Keep H (upd H a ho) := by
  obtain ⟨a', ea', r⟩ := h.obj n o e
  rw [ea] at ea'; cases ea'
  obtain ⟨ho2, e2, m2⟩ := r.mut hm
  have k : Keep H (upd H a ho) := .write e2 m2
  have hn : n < L.length := (List.getElem?_eq_some_iff.mp e).1
  refine ⟨⟨by rw [List.length_set]; exact h.len, fun i j b q q' e1 e2 e3 e4 => ?_, fun m q em => ?_⟩, k⟩
  · have back : ∀ {i : Nat} {q : LO}, (L.set n o')[i]? = some q → ∃ q2, L[i]? = some q2 := fun {i q} z => by
      by_cases hi : n = i
      · subst hi; exact ⟨o, e⟩
      · rw [List.getElem?_set_ne hi] at z; exact ⟨q, z⟩
    obtain ⟨q1, f1⟩ := back e1
    obtain ⟨q2, f2⟩ := back e2
    exact h.inj i j b q1 q2 f1 f2 e3 e4
  · by_cases hi : n = m
    · subst hi
      rw [List.getElem?_set_self hn] at em; cases em
      exact ⟨a, ea, ho'⟩
    · rw [List.getElem?_set_ne hi] at em
      obtain ⟨b, eb, rb⟩ := h.obj m q em
      refine ⟨b, eb, rb.stay (List.prefix_refl _) k fun ho3 e3 => ?_⟩
      rw [upd_ne]; · exact e3
      rintro rfl
      exact hi (h.inj n m b o q e em ea eb)
end

/-- the slots -/
abbrev Env := List (Option W)
structure REnv (Γ : Ctx) (ρ : List Addr) (H : Hp) (env : Env) (σ : L2.St) : Prop where
  len : env.length = σ.length
  val : ∀ (i : Nat) (w : W), env[i]? = some (some w) → ∃ v, σ[i]? = some (some v) ∧ RW Γ ρ H w v
theorem REnv.mono {Γ : Ctx} {ρ ρ' : List Addr} {H H' : Hp} {env : Env} {σ : L2.St} (h : REnv Γ ρ H env σ) (p : ρ <+: ρ') (k : Keep H H') : REnv Γ ρ' H' env σ :=
  ⟨h.len, fun i w e => let ⟨v, e1, r⟩ := h.val i w e; ⟨v, e1, r.mono p k⟩⟩
theorem REnv.set {Γ : Ctx} {ρ : List Addr} {H : Hp} {env : Env} {σ : L2.St} {w : W} {v : V} (h : REnv Γ ρ H env σ) (i : Nat) (r : RW Γ ρ H w v) : REnv Γ ρ H (env.set i (some w)) (σ.set i (some v)) := by
  refine ⟨by rw [List.length_set, List.length_set]; exact h.len, fun j w' e => ?_⟩
  by_cases hj : i = j
  · subst hj
    have hi : i < env.length := by
      have := (List.getElem?_eq_some_iff.mp e).1
      rwa [List.length_set] at this
    rw [List.getElem?_set_self hi] at e; cases e
    exact ⟨v, by rw [List.getElem?_set_self (by rw [← h.len]; exact hi)], r⟩
  · rw [List.getElem?_set_ne hj] at e
    obtain ⟨v', e1, r'⟩ := h.val j w' e
    exact ⟨v', by rw [List.getElem?_set_ne hj]; exact e1, r'⟩

/-! ### expressions -/
abbrev Ex := Env → LH → Res W
abbrev ExL := Env → LH → Res (List W)
/-- what an exception is -/
def RExn (Γ : Ctx) (ρ : List Addr) (H : Hp) (e : Exn) (c : Value) (d : Option Addr) : Prop :=
  c = .ref (Γ.cls e.cls) ∧ match e.fs with
    | [] => True
    | fs => ∃ a vs, d = some a ∧ a ∉ ρ ∧ H a = some (.xd vs) ∧ RKs Γ ρ H fs vs
/-- the state behind: what was told is told still, what was not told stands -/
structure Aft (Γ : Ctx) (ρ : List Addr) (H : Hp) (L' : LH) (ρ' : List Addr) (H' : Hp) : Prop where
  pre : ρ <+: ρ'
  kp : Keep H H'
  rl : RL Γ ρ' L' H'
  fr : ∀ a o, H a = some o → a ∉ ρ → H' a = some o
  nw : ∀ a, a ∈ ρ' → a ∉ ρ → H a = none
theorem Aft.trans {Γ : Ctx} {ρ ρ1 ρ2 : List Addr} {H H1 H2 : Hp} {L1 L2 : LH} (a : Aft Γ ρ H L1 ρ1 H1) (b : Aft Γ ρ1 H1 L2 ρ2 H2) : Aft Γ ρ H L2 ρ2 H2 := by
  have out : ∀ x o, H x = some o → x ∉ ρ → x ∉ ρ1 := fun x o e n z => by rw [a.nw x z n] at e; cases e
  refine ⟨a.pre.trans b.pre, a.kp.trans b.kp, b.rl, fun x o e n => b.fr x o (a.fr x o e n) (out x o e n), fun x m n => ?_⟩
  cases e : H x with
  | none => rfl
  | some o =>
    have h1 := b.nw x m (out x o e n)
    rw [a.fr x o e n] at h1; cases h1
theorem Aft.refl {Γ : Ctx} {ρ : List Addr} {H : Hp} {L : LH} (rl : RL Γ ρ L H) : Aft Γ ρ H L ρ H := ⟨List.prefix_refl _, .refl, rl, fun _ _ h _ => h, fun _ m n => absurd m n⟩
/-- a new object that is not told -/
theorem Aft.fresh {Γ : Ctx} {ρ : List Addr} {H : Hp} {L : LH} {p : Addr} {ho : HO} (rl : RL Γ ρ L H) (hp : H p = none) : Aft Γ ρ H L ρ (upd H p ho) :=
  ⟨List.prefix_refl _, .fresh hp, rl.fresh hp, fun a o e _ => by rw [upd_ne (ne_of_none e hp)]; exact e, fun _ m n => absurd m n⟩
/-- a new object that is told -/
theorem Aft.push {Γ : Ctx} {ρ : List Addr} {H : Hp} {L : LH} {p : Addr} {ho : HO} {o : LO} (rl : RL Γ ρ L H) (hp : H p = none) (r : RO Γ (ρ ++ [p]) (upd H p ho) p o) : Aft Γ ρ H (L ++ [o]) (ρ ++ [p]) (upd H p ho) := by
  refine ⟨pre_app _ _, .fresh hp, rl.push hp r, fun a o e _ => by rw [upd_ne (ne_of_none e hp)]; exact e, fun a m n => ?_⟩
  rcases List.mem_append.mp m with m | m
  · exact absurd m n
  · rw [List.mem_singleton.mp m]; exact hp
/-- a told object is changed -/
theorem Aft.set {Γ : Ctx} {ρ : List Addr} {H : Hp} {L : LH} {a : Addr} {n : Nat} {ho : HO} {o o' : LO} (rl : RL Γ ρ L H) (e : L[n]? = some o) (ea : ρ[n]? = some a) (ho' : RO Γ ρ (upd H a ho) a o') (hm : o.mutb = true := by rfl) :
    Aft Γ ρ H (L.set n o') ρ (upd H a ho) := by
  obtain ⟨r, k⟩ := rl.set e ea ho' hm
  refine ⟨List.prefix_refl _, k, r, fun b o e n => ?_, fun _ m n => absurd m n⟩
  rw [upd_ne]; · exact e
  rintro rfl
  exact n (List.mem_of_getElem? ea)
/-- an object that stands, and was not told, is told, and changed -/
theorem RL.adopt {Γ : Ctx} {ρ : List Addr} {H : Hp} {L : LH} {p : Addr} {ho ho1 : HO} {o : LO} (h : RL Γ ρ L H) (hp : H p = some ho1) (hm1 : mutHO ho1 = true) (np : p ∉ ρ) (ho' : RO Γ (ρ ++ [p]) (upd H p ho) p o) :
    RL Γ (ρ ++ [p]) (L ++ [o]) (upd H p ho) := by
  have lt : ∀ {n : Nat}, n < L.length → (L ++ [o])[n]? = L[n]? ∧ (ρ ++ [p])[n]? = ρ[n]? := fun hn =>
    ⟨List.getElem?_append_left hn, List.getElem?_append_left (by rw [h.len]; exact hn)⟩
  have at_ : (L ++ [o])[L.length]? = some o ∧ (ρ ++ [p])[L.length]? = some p := by
    rw [← h.len]
    constructor
    · rw [h.len]; exact List.getElem?_concat_length
    · exact List.getElem?_concat_length
  have cases_ : ∀ {n : Nat} {q : LO}, (L ++ [o])[n]? = some q → n < L.length ∨ n = L.length := fun {n q} e => by
    have := (List.getElem?_eq_some_iff.mp e).1
    rw [List.length_append, List.length_singleton] at this
    omega
  refine ⟨by rw [List.length_append, List.length_append, h.len]; rfl, fun n m a q q' e1 e2 e3 e4 => ?_, fun n q e => ?_⟩
  · rcases cases_ e1 with h1 | rfl <;> rcases cases_ e2 with h2 | rfl
    · rw [(lt h1).1] at e1; rw [(lt h2).1] at e2; rw [(lt h1).2] at e3; rw [(lt h2).2] at e4
      exact h.inj n m a q q' e1 e2 e3 e4
    · rw [(lt h1).2] at e3; rw [at_.2] at e4; cases e4
      exact absurd (List.mem_of_getElem? e3) np
    · rw [(lt h2).2] at e4; rw [at_.2] at e3; cases e3
      exact absurd (List.mem_of_getElem? e4) np
    · rfl
  · rcases cases_ e with h1 | rfl
    · rw [(lt h1).1] at e
      obtain ⟨a, e1, r⟩ := h.obj n q e
      refine ⟨a, by rw [(lt h1).2]; exact e1, r.stay (pre_app _ _) (.write hp hm1) fun h3 e3 => ?_⟩
      rw [upd_ne]; · exact e3
      rintro rfl
      exact np (List.mem_of_getElem? e1)
    · rw [at_.1] at e; cases e
      exact ⟨p, at_.2, ho'⟩
theorem Aft.get {Γ : Ctx} {ρ ρ' : List Addr} {H H' : Hp} {L' : LH} {n : Nat} {a : Addr} (h : Aft Γ ρ H L' ρ' H') (e : ρ[n]? = some a) : ρ'[n]? = some a := pre_get h.pre e
/-- an object that was made ahead, and is told now -/
theorem Aft.adopt {Γ : Ctx} {ρ ρ' : List Addr} {H H' : Hp} {L' : LH} {p : Addr} {ho ho1 : HO} {o : LO} (hp : H p = none) (a : Aft Γ ρ (upd H p ho1) L' ρ' H') (np : p ∉ ρ) (hm1 : mutHO ho1 = true) (ho' : RO Γ (ρ' ++ [p]) (upd H' p ho) p o) :
    Aft Γ ρ H (L' ++ [o]) (ρ' ++ [p]) (upd H' p ho) ∧ H' p = some ho1 := by
  have h1 : H' p = some ho1 := a.fr p ho1 upd_same np
  have np' : p ∉ ρ' := fun m => by
    have := a.nw p m np
    rw [upd_same] at this; cases this
  refine ⟨⟨a.pre.trans (pre_app _ _), (Keep.fresh hp).trans (a.kp.trans (.write h1 hm1)), a.rl.adopt h1 hm1 np' ho', fun b o e n => ?_, fun b m n => ?_⟩, h1⟩
  · have hb : b ≠ p := ne_of_none e hp
    rw [upd_ne hb]
    exact a.fr b o (by rw [upd_ne hb]; exact e) n
  · rcases List.mem_append.mp m with m | m
    · by_cases hb : b = p
      · rw [hb]; exact hp
      · have := a.nw b m n
        rw [upd_ne hb] at this; exact this
    · rw [List.mem_singleton.mp m]; exact hp
/-- an object of one's own, not told, put aside -/
def hide (H : Hp) (D : Addr) : Hp := fun b => if b = D then none else H b
theorem hide_at {H : Hp} {D : Addr} : hide H D D = none := by unfold hide; rw [if_pos rfl]
theorem hide_ne {H : Hp} {D b : Addr} (h : b ≠ D) : hide H D b = H b := by unfold hide; rw [if_neg h]
theorem hide_upd {H : Hp} {D : Addr} {o : HO} (h : H D = some o) : upd (hide H D) D o = H := by
  funext b
  by_cases hb : b = D
  · subst hb; rw [upd_same, h]
  · rw [upd_ne hb, hide_ne hb]
theorem Keep.hide {H H' : Hp} {D : Addr} {o : HO} (k : Keep H H') (h : H' D = some o) (hm : mutHO o = true) : Keep H (hide H' D) := by
  refine ⟨fun a xs e => ?_, fun a ob u e => ?_⟩
  · have := k.tup a xs e
    rw [hide_ne]; · exact this
    rintro rfl; rw [h] at this; cases this; cases hm
  · have := k.frz a ob u e
    rw [hide_ne]; · exact this
    rintro rfl; rw [h] at this; cases this; cases hm
section
variable {Γ : Ctx} {ρ ρ' : List Addr} {H H' : Hp} {D : Addr} {o : HO}
theorem sqT_hide {K : PySem.W.Frag} {a : Addr} {xs : List V} (h : SqT K H a xs) (hD : H D = some o) (hm : mutHO o = true) : SqT K (hide H D) a xs := by
  rcases h with (h | ⟨ob, h⟩) | h
  · refine .inl (.inl ?_); rw [hide_ne]; · exact h
    rintro rfl; rw [hD] at h; cases h; cases hm
  · refine .inl (.inr ⟨ob, ?_⟩); rw [hide_ne]; · exact h
    rintro rfl; rw [hD] at h; cases h; cases hm
  · exact .inr h
mutual
theorem RW.hide (hD : H D = some o) (hm : mutHO o = true) : ∀ {w : W} {v : V}, RW Γ ρ H w v → RW Γ ρ (Z.hide H D) w v
  | _, _, .non => .non
  | _, _, .bl b => .bl b
  | _, _, .int b => .int b
  | _, _, .str b => .str b
  | _, _, .ty b => .ty b
  | _, _, .tup h r => .tup (sqT_hide h hD hm) (RWs.hide hD hm r)
  | _, _, .ref h => .ref h
  | _, _, .cls c => .cls c
  | _, _, .fn c => .fn c
  | _, _, .scr h => .scr (h.imp (fun ⟨ob, e⟩ => ⟨ob, by rw [hide_ne]; · exact e
                                                        rintro rfl; rw [hD] at e; cases e; cases hm⟩) id)
theorem RWs.hide (hD : H D = some o) (hm : mutHO o = true) : ∀ {ws : List W} {vs : List V}, RWs Γ ρ H ws vs → RWs Γ ρ (Z.hide H D) ws vs
  | _, _, .nil => .nil
  | _, _, .cons r t => .cons (RW.hide hD hm r) (RWs.hide hD hm t)
end
theorem RKs.hide {κ : Type} (hD : H D = some o) (hm : mutHO o = true) : ∀ {ws : List (κ × W)} {vs : List (κ × V)}, RKs Γ ρ H ws vs → RKs Γ ρ (Z.hide H D) ws vs
  | _, _, .nil => .nil
  | _, _, .cons r t => .cons (RW.hide hD hm r) (RKs.hide hD hm t)
theorem RL.hide {L : LH} (h : RL Γ ρ L H) (hD : H D = some o) (hm : mutHO o = true) (nD : D ∉ ρ) : RL Γ ρ L (Z.hide H D) := by
  refine ⟨h.len, h.inj, fun n q e => ?_⟩
  obtain ⟨a, ea, r⟩ := h.obj n q e
  have ha : a ≠ D := by rintro rfl; exact nD (List.mem_of_getElem? ea)
  refine ⟨a, ea, ?_⟩
  cases q with
  | lst xs => obtain ⟨vs, e, r⟩ := r; exact ⟨vs, by rw [hide_ne ha]; exact e, r.hide hD hm⟩
  | dic xs => obtain ⟨vs, e, r⟩ := r; exact ⟨vs, by rw [hide_ne ha]; exact e, r.hide hD hm⟩
  | ins c xs => obtain ⟨dx, vs, e, r⟩ := r; exact ⟨dx, vs, by rw [hide_ne ha]; exact e, r.hide hD hm⟩
  | lck xs => obtain ⟨dx, vs, e, r⟩ := r; exact ⟨dx, vs, by rw [hide_ne ha]; exact e, r.hide hD hm⟩
/-- .. while it stood aside -/
theorem Aft.hide {L' : LH} (hD : H D = none) (nD : D ∉ ρ) (hm : mutHO o = true) (a : Aft Γ ρ (upd H D o) L' ρ' H') : Aft Γ ρ H L' ρ' (Z.hide H' D) ∧ H' D = some o ∧ D ∉ ρ' := by
  have h1 : H' D = some o := a.fr D o upd_same nD
  have np' : D ∉ ρ' := fun m => by
    have := a.nw D m nD
    rw [upd_same] at this; cases this
  refine ⟨⟨a.pre, ((Keep.fresh hD).trans a.kp).hide h1 hm, a.rl.hide h1 hm np', fun b ob e n => ?_, fun b m n => ?_⟩, h1, np'⟩
  · have hb : b ≠ D := ne_of_none e hD
    rw [hide_ne hb]
    exact a.fr b ob (by rw [upd_ne hb]; exact e) n
  · have hb : b ≠ D := by rintro rfl; exact np' m
    have := a.nw b m n
    rw [upd_ne hb] at this; exact this
end
/-! ### a dict that was locked is let go -/
section
variable {Γ : Ctx} {ρ ρ' : List Addr} {H H' : Hp} {D : Addr} {od : Obj} {us : List (Key × V)} {o : HO}
theorem sqT_free {K : PySem.W.Frag} {a : Addr} {xs : List V} (h : SqT K H a xs) (hD : H D = some (.frz od (.dK us))) : SqT K (upd H D o) a xs := by
  rcases h with (h | ⟨ob, h⟩) | h
  · refine .inl (.inl ?_); rw [upd_ne]; · exact h
    rintro rfl; rw [hD] at h; cases h
  · refine .inl (.inr ⟨ob, ?_⟩); rw [upd_ne]; · exact h
    rintro rfl; rw [hD] at h; cases h
  · exact .inr h
mutual
theorem RW.free (hD : H D = some (.frz od (.dK us))) : ∀ {w : W} {v : V}, RW Γ ρ H w v → RW Γ ρ (upd H D o) w v
  | _, _, .non => .non
  | _, _, .bl b => .bl b
  | _, _, .int b => .int b
  | _, _, .str b => .str b
  | _, _, .ty b => .ty b
  | _, _, .tup h r => .tup (sqT_free h hD) (RWs.free hD r)
  | _, _, .ref h => .ref h
  | _, _, .cls c => .cls c
  | _, _, .fn c => .fn c
  | _, _, .scr h => .scr (h.imp (fun ⟨ob, e⟩ => ⟨ob, by rw [upd_ne]; · exact e
                                                        rintro rfl; rw [hD] at e; cases e⟩) id)
theorem RWs.free (hD : H D = some (.frz od (.dK us))) : ∀ {ws : List W} {vs : List V}, RWs Γ ρ H ws vs → RWs Γ ρ (upd H D o) ws vs
  | _, _, .nil => .nil
  | _, _, .cons r t => .cons (RW.free hD r) (RWs.free hD t)
end
theorem RKs.free {κ : Type} (hD : H D = some (.frz od (.dK us))) : ∀ {ws : List (κ × W)} {vs : List (κ × V)}, RKs Γ ρ H ws vs → RKs Γ ρ (upd H D o) ws vs
  | _, _, .nil => .nil
  | _, _, .cons r t => .cons (RW.free hD r) (RKs.free hD t)
theorem REnv.free {env : Env} {σ : L2.St} (h : REnv Γ ρ H env σ) (hD : H D = some (.frz od (.dK us))) : REnv Γ ρ (upd H D o) env σ :=
  ⟨h.len, fun i w e => let ⟨v, e1, r⟩ := h.val i w e; ⟨v, e1, r.free hD⟩⟩
theorem RL.free {L : LH} {n : Nat} {o' o0 : LO} (h : RL Γ ρ L H) (e : L[n]? = some o0) (ea : ρ[n]? = some D) (hD : H D = some (.frz od (.dK us))) (ho' : RO Γ ρ (upd H D o) D o') : RL Γ ρ (L.set n o') (upd H D o) := by
  have hn : n < L.length := (List.getElem?_eq_some_iff.mp e).1
  refine ⟨by rw [List.length_set]; exact h.len, fun i j b q q' e1 e2 e3 e4 => ?_, fun m q em => ?_⟩
  · have back : ∀ {i : Nat} {q : LO}, (L.set n o')[i]? = some q → ∃ q2, L[i]? = some q2 := fun {i q} z => by
      by_cases hi : n = i
      · subst hi; exact ⟨o0, e⟩
      · rw [List.getElem?_set_ne hi] at z; exact ⟨q, z⟩
    obtain ⟨q1, f1⟩ := back e1
    obtain ⟨q2, f2⟩ := back e2
    exact h.inj i j b q1 q2 f1 f2 e3 e4
  · by_cases hi : n = m
    · subst hi
      rw [List.getElem?_set_self hn] at em; cases em
      exact ⟨D, ea, ho'⟩
    · rw [List.getElem?_set_ne hi] at em
      obtain ⟨b, eb, rb⟩ := h.obj m q em
      have hb : b ≠ D := by rintro rfl; exact hi (h.inj n m b o0 q e em ea eb)
      refine ⟨b, eb, ?_⟩
      cases q with
      | lst xs => obtain ⟨vs, e, r⟩ := rb; exact ⟨vs, by rw [upd_ne hb]; exact e, r.free hD⟩
      | dic xs => obtain ⟨vs, e, r⟩ := rb; exact ⟨vs, by rw [upd_ne hb]; exact e, r.free hD⟩
      | ins c xs => obtain ⟨dx, vs, e, r⟩ := rb; exact ⟨dx, vs, by rw [upd_ne hb]; exact e, r.free hD⟩
      | lck xs => obtain ⟨dx, vs, e, r⟩ := rb; exact ⟨dx, vs, by rw [upd_ne hb]; exact e, r.free hD⟩
/-- locked at first, let go at the end -/
theorem Aft.free {L' : LH} {n : Nat} {kvs : List (Key × W)} (hD : H D = some (.dK us)) (en : ρ[n]? = some D) (a : Aft Γ ρ (upd H D (.frz od (.dK us))) L' ρ' H') (e : L'[n]? = some (.lck kvs)) :
    Aft Γ ρ H (L'.set n (.dic kvs)) ρ' (upd H' D (.dK us)) ∧ H' D = some (.frz od (.dK us)) := by
  have h1 : H' D = some (.frz od (.dK us)) := a.kp.frz _ _ _ upd_same
  have en' := pre_get a.pre en
  have mem : D ∈ ρ := List.mem_of_getElem? en
  refine ⟨⟨a.pre, ⟨fun b xs q => ?_, fun b ob u q => ?_⟩, a.rl.free e en' h1 ?_, fun b ob q nb => ?_, fun b m nb => ?_⟩, h1⟩
  · have hb : b ≠ D := by rintro rfl; rw [hD] at q; cases q
    rw [upd_ne hb]; exact a.kp.tup b xs (by rw [upd_ne hb]; exact q)
  · have hb : b ≠ D := by rintro rfl; rw [hD] at q; cases q
    rw [upd_ne hb]; exact a.kp.frz b ob u (by rw [upd_ne hb]; exact q)
  · obtain ⟨b, eb, od', vs, q, r⟩ := a.rl.obj n _ e
    rw [en'] at eb; cases eb
    rw [h1] at q; cases q
    exact ⟨us, upd_same, r.free h1⟩
  · have hb : b ≠ D := by rintro rfl; exact nb mem
    rw [upd_ne hb]; exact a.fr b ob (by rw [upd_ne hb]; exact q) nb
  · have := a.nw b m nb
    have hb : b ≠ D := by rintro rfl; exact nb mem
    rw [upd_ne hb] at this; exact this
end
def Out {α β : Type} (R : List Addr → Hp → α → β → Prop) (Γ : Ctx) (Wx : WX) (σ : L2.St) (ρ : List Addr) (H : Hp) (r : Res α) (Q : β → Hp → Prop) : Prop := match r with
  | .ok w L' => ∀ ρ' H' v, Aft Γ ρ H L' ρ' H' → R ρ' H' w v → Q v H'
  | .exc e L' => ∀ ρ' H' c d, Aft Γ ρ H L' ρ' H' → RExn Γ ρ' H' e c d → Wx c d σ H'
  | .stk => False
def tG {α β : Type} (R : List Addr → Hp → α → β → Prop) (Γ : Ctx) (Wx : WX) (f : Env → LH → Res α) : L2.St → Hp → (β → Hp → Prop) → Prop := fun σ H Q =>
  ∃ ρ env L, RL Γ ρ L H ∧ REnv Γ ρ H env σ ∧ Out R Γ Wx σ ρ H (f env L) Q
abbrev tEx (Γ : Ctx) (Wx : WX) (f : Ex) : TE := tG (RW Γ) Γ Wx f
abbrev tExL (Γ : Ctx) (Wx : WX) (f : ExL) : TA := tG (RWs Γ) Γ Wx f
def RB (_ : List Addr) (_ : Hp) (b c : Bool) : Prop := b = c
abbrev tExB (Γ : Ctx) (Wx : WX) (f : Env → LH → Res Bool) : TT := tG RB Γ Wx f

def Res.bind {α β : Type} (r : Res α) (k : α → LH → Res β) : Res β := match r with
  | .ok a L => k a L
  | .exc e L => .exc e L
  | .stk => .stk
theorem Out.rebase {α β : Type} {R : List Addr → Hp → α → β → Prop} {Γ : Ctx} {Wx : WX} {σ : L2.St} {ρ ρ1 : List Addr} {H H1 : Hp} {L1 : LH} {r : Res α} {Q : β → Hp → Prop} (a : Aft Γ ρ H L1 ρ1 H1) (h : Out R Γ Wx σ ρ H r Q) : Out R Γ Wx σ ρ1 H1 r Q := by
  cases r with
  | ok w L' => exact fun ρ' H' v b r => h ρ' H' v (a.trans b) r
  | exc e L' => exact fun ρ' H' c d b r => h ρ' H' c d (a.trans b) r
  | stk => exact h
/-- one part, then the rest -/
theorem tG_bind {α β γ δ : Type} {R : List Addr → Hp → α → β → Prop} {R' : List Addr → Hp → γ → δ → Prop} {Γ : Ctx} {Wx : WX} {σ : L2.St} {ρ : List Addr} {H : Hp} {L : LH} {env : Env} {f : Env → LH → Res α} {k : α → LH → Res γ} {Q : δ → Hp → Prop} {Q1 : β → Hp → Prop}
    (rl : RL Γ ρ L H) (re : REnv Γ ρ H env σ) (h : Out R' Γ Wx σ ρ H ((f env L).bind k) Q)
    (next : ∀ ρ1 H1 w v L1, Aft Γ ρ H L1 ρ1 H1 → REnv Γ ρ1 H1 env σ → R ρ1 H1 w v → Out R' Γ Wx σ ρ1 H1 (k w L1) Q → Q1 v H1) : tG R Γ Wx f σ H Q1 := by
  refine ⟨ρ, env, L, rl, re, ?_⟩
  cases hf : f env L with
  | ok w L1 =>
    rw [hf] at h
    exact fun ρ1 H1 v a r => next ρ1 H1 w v L1 a (re.mono a.pre a.kp) r (Out.rebase a h)
  | exc e L1 => rw [hf] at h; exact h
  | stk => rw [hf] at h; exact h
theorem out_ok {α β : Type} {R : List Addr → Hp → α → β → Prop} {Γ : Ctx} {Wx : WX} {σ : L2.St} {ρ : List Addr} {H : Hp} {w : α} {L : LH} {Q : β → Hp → Prop} {v : β} (h : Out R Γ Wx σ ρ H (.ok w L) Q) (rl : RL Γ ρ L H) (r : R ρ H w v) : Q v H :=
  h ρ H v (.refl rl) r
end Z

/-! Z1: expressions. -/
namespace Z
open PySem PySem.Spec PyProof.Rows L2

/-- the context is one of ours -/
structure Good (X : Cx) (Γ : Ctx) (k : Nat) (Wx : WX) : Prop where
  K : X.K = Γ.K
  calm : X.calm = true
  nd : X.N.Nodup
  room : Room k X.A
  tk : Takes X Wx
  own : PassesOwn (model X.prog X.w) X.A X.env X.xe
section
variable {X : Cx} {Γ : Ctx} {k : Nat} {Wx : WX}
theorem Good.hu (g : Good X Γ k Wx) : X.A.units + 64 < cLine := g.room.units
end
/-- an expression's meaning -/
def DE (X : Cx) (Γ : Ctx) (k : Nat) (Wx : WX) (e : Expr) (f : Ex) : Prop := Good X Γ k Wx → PE X e (tEx Γ Wx f)
def DA (X : Cx) (Γ : Ctx) (k : Nat) (Wx : WX) (es : List Expr) (f : ExL) : Prop := Good X Γ k Wx → PA X es (tExL Γ Wx f)
def DT (X : Cx) (Γ : Ctx) (k : Nat) (Wx : WX) (e : Expr) (f : Env → LH → Res Bool) : Prop := Good X Γ k Wx → PT X e (tExB Γ Wx f)
def DW (X : Cx) (Γ : Ctx) (k : Nat) (Wx : WX) (e : Expr) (f : Env → LH → Res Bool) : Prop := Good X Γ k Wx → PW X e (tExB Γ Wx f)

theorem PE.imp {X : Cx} {e : Expr} {t t' : TE} (h : PE X e t) (i : ∀ σ H Q, t' σ H Q → t σ H Q) : PE X e t' := ⟨fun pins s σ H Q I q => h.run pins s σ H Q I (i σ H Q q)⟩
theorem PT.imp {X : Cx} {e : Expr} {t t' : TT} (h : PT X e t) (i : ∀ σ H Q, t' σ H Q → t σ H Q) : PT X e t' := ⟨fun pins s σ H Q I q => h.run pins s σ H Q I (i σ H Q q)⟩
theorem PW.imp {X : Cx} {e : Expr} {t t' : TT} (h : PW X e t) (i : ∀ σ H Q, t' σ H Q → t σ H Q) : PW X e t' := ⟨fun wh pins s σ H Q I q => h.run wh pins s σ H Q I (i σ H Q q)⟩
theorem PA.imp {X : Cx} {e : List Expr} {t t' : TA} (h : PA X e t) (i : ∀ σ H Q, t' σ H Q → t σ H Q) : PA X e t' := ⟨fun pos pins s σ H Q I q => h.run pos pins s σ H Q I (i σ H Q q)⟩
theorem OpR.imp {X : Cx} {f : Value → Value → Sem Value} {r r' : R2} (h : OpR X f r) (i : ∀ x y H Q, r' x y H Q → r x y H Q) : OpR X f r' := fun pins s σ H x y v u Q I rx ry q => h pins s σ H x y v u Q I rx ry (i _ _ _ _ q)
theorem IxR.imp {X : Cx} {r r' : R2} (h : IxR X r) (i : ∀ x y H Q, r' x y H Q → r x y H Q) : IxR X r' := by
  unfold IxR at h ⊢
  intros
  apply h <;> first | assumption | exact i _ _ _ _ (by assumption)


theorem tG_bindE {α β γ δ : Type} {R : List Addr → Hp → α → β → Prop} {R' : List Addr → Hp → γ → δ → Prop} {Γ : Ctx} {Wx : WX} {σ : L2.St} {ρ : List Addr} {H : Hp} {L : LH} {env : Env} {f : Env → LH → Res α} {k : α → LH → Res γ} {Q : δ → Hp → Prop} {Q1 : β → Hp → Prop}
    (rl : RL Γ ρ L H) (re : REnv Γ ρ H env σ) (h : Out R' Γ Wx σ ρ H ((f env L).bind k) Q)
    (next : ∀ ρ1 H1 w v L1, f env L = .ok w L1 → Aft Γ ρ H L1 ρ1 H1 → REnv Γ ρ1 H1 env σ → R ρ1 H1 w v → Out R' Γ Wx σ ρ1 H1 (k w L1) Q → Q1 v H1) : tG R Γ Wx f σ H Q1 := by
  refine ⟨ρ, env, L, rl, re, ?_⟩
  cases hf : f env L with
  | ok w L1 =>
    rw [hf] at h
    exact fun ρ1 H1 v a r => next ρ1 H1 w v L1 hf a (re.mono a.pre a.kp) r (Out.rebase a h)
  | exc e L1 => rw [hf] at h; exact h
  | stk => rw [hf] at h; exact h
theorem PE.or {X : Cx} {e : Expr} {t t' : TE} (h : PE X e t) (h' : PE X e t') : PE X e (fun σ H Q => t σ H Q ∨ t' σ H Q) := ⟨fun pins s σ H Q I q => q.elim (h.run pins s σ H Q I) (h'.run pins s σ H Q I)⟩
/-- what a value's operation hands back -/
abbrev OV := Option (W × LH)
def OkOut (Γ : Ctx) (ρ : List Addr) (H : Hp) (r : OV) (Q : VK) : Prop := match r with
  | some (w, L') => ∀ ρ' H' v, Aft Γ ρ H L' ρ' H' → RW Γ ρ' H' w v → Q v H'
  | none => False
def ofO {α : Type} (r : Option (α × LH)) : Res α := match r with
  | some (w, L) => .ok w L
  | none => .stk
theorem out_of {Γ : Ctx} {Wx : WX} {σ : L2.St} {ρ : List Addr} {H : Hp} {r : OV} {Q : VK} (h : Out (RW Γ) Γ Wx σ ρ H (ofO r) Q) : OkOut Γ ρ H r Q := by
  cases r with
  | none => exact h
  | some p => exact h

/-- operations by values -/
def v2 (Γ : Ctx) (o : W → W → LH → OV) : R2 := fun x y H Q => ∃ ρ L a b, RL Γ ρ L H ∧ RW Γ ρ H a x ∧ RW Γ ρ H b y ∧ OkOut Γ ρ H (o a b L) Q
def v1 (Γ : Ctx) (o : W → LH → OV) : V → Hp → VK → Prop := fun x H Q => ∃ ρ L a, RL Γ ρ L H ∧ RW Γ ρ H a x ∧ OkOut Γ ρ H (o a L) Q
def vN (Γ : Ctx) (o : List W → LH → OV) : List V → Hp → VK → Prop := fun xs H Q => ∃ ρ L as, RL Γ ρ L H ∧ RWs Γ ρ H as xs ∧ OkOut Γ ρ H (o as L) Q

section
variable {Γ : Ctx} {ρ : List Addr} {H : Hp} {L : LH} {Q : VK}
theorem OkOut.here {w : W} {v : V} (h : OkOut Γ ρ H (some (w, L)) Q) (rl : RL Γ ρ L H) (r : RW Γ ρ H w v) : Q v H := h ρ H v (.refl rl) r
theorem OkOut.lst {ws : List W} {vs : List V} (h : OkOut Γ ρ H (some (.ref L.length, L ++ [.lst ws])) Q) (rl : RL Γ ρ L H) (r : RWs Γ ρ H ws vs) : ∀ p, H p = none → Q (.ref p) (upd H p (.lst vs)) := fun p hp => by
  refine h (ρ ++ [p]) _ _ (.push rl hp ⟨vs, upd_same, r.mono (pre_app _ _) (.fresh hp)⟩) (.ref ?_)
  rw [← rl.len]; exact List.getElem?_concat_length
theorem OkOut.dic {ws : List (Key × W)} {vs : List (Key × V)} (h : OkOut Γ ρ H (some (.ref L.length, L ++ [.dic ws])) Q) (rl : RL Γ ρ L H) (r : RKs Γ ρ H ws vs) : ∀ p, H p = none → Q (.ref p) (upd H p (.dK vs)) := fun p hp => by
  refine h (ρ ++ [p]) _ _ (.push rl hp ⟨vs, upd_same, r.mono (pre_app _ _) (.fresh hp)⟩) (.ref ?_)
  rw [← rl.len]; exact List.getElem?_concat_length
theorem OkOut.tup {ws : List W} {vs : List V} (h : OkOut Γ ρ H (some (.tup ws, L)) Q) (rl : RL Γ ρ L H) (r : RWs Γ ρ H ws vs) : ∀ p, H p = none → Q (.ref p) (upd H p (.tup vs)) := fun p hp =>
  h ρ _ _ (.fresh rl hp) (.tup (.of upd_same) (r.mono (List.prefix_refl _) (.fresh hp)))
end

/-! ### names, constants -/
def cVar (i : Nat) : Ex := fun env L => match env[i]? with
  | some (some w) => .ok w L
  | _ => .stk
def cC (w : W) : Ex := fun _ L => .ok w L
section
variable {X : Cx} {Γ : Ctx} {k : Nat} {Wx : WX} {pos : Pos}
theorem d_var (i : Nat) {x : Str} (hN : X.N[i]? = some x := by rfl) (hv : Vis X.env.scope x := by first | exact Or.inl rfl | exact Or.inr (Or.inl rfl) | exact Or.inr (Or.inr rfl)) (hd : (x == ("__debug__" : Str)) = false := by decide)
    (hcd : (x == ("__classdict__" : Str)) = false := by decide) : DE X Γ k Wx (.Name x pos) (cVar i) := fun g => by
  refine PE.imp (pe_var hN hv hd hcd) fun σ H Q h => ?_
  obtain ⟨ρ, env, L, rl, re, h⟩ := h
  unfold cVar at h
  cases e : env[i]? with
  | none => rw [e] at h; exact h.elim
  | some o =>
    cases o with
    | none => rw [e] at h; exact h.elim
    | some w =>
      rw [e] at h
      obtain ⟨v, e1, r⟩ := re.val i w e
      exact ⟨v, e1, out_ok h rl r⟩
theorem d_const {e : Expr} {v : V} {w : W} (h : PE X e (tC v)) (r : ∀ ρ H, RW Γ ρ H w v) : DE X Γ k Wx e (cC w) := fun g => by
  refine PE.imp h fun σ H Q h => ?_
  obtain ⟨ρ, env, L, rl, re, h⟩ := h
  exact out_ok h rl (r _ _)
theorem d_int {i : Int} {j} : DE X Γ k Wx (.Constant (.int i) j pos) (cC (.int i)) := d_const pe_int fun _ _ => .int i
theorem d_bl {i : Bool} {j} : DE X Γ k Wx (.Constant (.bool i) j pos) (cC (.bl i)) := d_const pe_bl fun _ _ => .bl i
theorem d_non {j} : DE X Γ k Wx (.Constant .none j pos) (cC .non) := d_const pe_non fun _ _ => .non
theorem d_str {i : Str} {j} : DE X Γ k Wx (.Constant (.str i) j pos) (cC (.str i)) := d_const pe_str fun _ _ => .str i
/-- a built-in type by its name -/
theorem d_ty {x : Str} {n : String} (hg : Gl X x := by rfl) (hm : X.mg x = none) (hv : bootBuiltins x = some (.type n) := by decide +kernel) (hn : x ≠ "__name__" := by decide) (hd : (x == ("__debug__" : Str)) = false := by decide) :
    DE X Γ k Wx (.Name x pos) (cC (.ty n)) := d_const (pe_bltn (v := .ty n) hg hm hv rfl hn hd) fun _ _ => .ty n

/-! ### argument lists, displays -/
def cNil : ExL := fun _ L => .ok [] L
def cCons (f : Ex) (g : ExL) : ExL := fun env L => (f env L).bind fun a L1 => (g env L1).bind fun as L2 => .ok (a :: as) L2
theorem da_nil : DA X Γ k Wx [] cNil := fun g => PA.imp pa_nil fun σ H Q h => by
  obtain ⟨ρ, env, L, rl, re, h⟩ := h
  exact out_ok (R := RWs Γ) h rl .nil
theorem da_cons {e : Expr} {es : List Expr} {f : Ex} {fs : ExL} (ha : DE X Γ k Wx e f) (hr : DA X Γ k Wx es fs) (hs : starEach (e :: es) X.env = (false, eval e X.env) :: starEach es X.env := by rfl) : DA X Γ k Wx (e :: es) (cCons f fs) := fun g =>
  PA.imp (pa_cons (ha g) (hr g) hs) fun σ H Q h => by
    obtain ⟨ρ, env, L, rl, re, h⟩ := h
    refine tG_bind rl re h fun ρ1 H1 w v L1 a1 re1 r1 h1 => ?_
    refine tG_bind a1.rl re1 h1 fun ρ2 H2 ws vs L2 a2 re2 r2 h2 => ?_
    exact out_ok (R := RWs Γ) h2 a2.rl (.cons (r1.mono a2.pre a2.kp) r2)
/-- over the arguments' values -/
def cOpL (o : List W → LH → OV) (f : ExL) : Ex := fun env L => (f env L).bind fun as L1 => ofO (o as L1)
def oTup (ws : List W) (L : LH) : OV := if ws.length ≤ 16777216 then some (.tup ws, L) else none
def oLst (ws : List W) (L : LH) : OV := if ws.length ≤ 16777216 then some (.ref L.length, L ++ [.lst ws]) else none
theorem line_eq : sizeLine = 16777216 := sizeLine_eq
theorem d_tup {es : List Expr} {f : ExL} {x1} (h : DA X Γ k Wx es f) : DE X Γ k Wx (.Tuple es x1 pos) (cOpL oTup f) := fun g =>
  PE.imp (pe_tup (h g)) fun σ H Q h => by
    obtain ⟨ρ, env, L, rl, re, h⟩ := h
    refine tG_bind rl re h fun ρ1 H1 ws vs L1 a1 re1 r1 h1 => ?_
    have h1 := out_of h1
    unfold oTup at h1
    split at h1
    · rename_i hz
      exact ⟨by rw [← r1.length, line_eq]; exact hz, h1.tup a1.rl r1⟩
    · exact h1.elim
theorem d_lst {es : List Expr} {f : ExL} (h : DA X Γ k Wx es f) : DE X Γ k Wx (.List es pos) (cOpL oLst f) := fun g =>
  PE.imp (pe_lst (h g)) fun σ H Q h => by
    obtain ⟨ρ, env, L, rl, re, h⟩ := h
    refine tG_bind rl re h fun ρ1 H1 ws vs L1 a1 re1 r1 h1 => ?_
    have h1 := out_of h1
    unfold oLst at h1
    split at h1
    · rename_i hz
      exact ⟨by rw [← r1.length, line_eq]; exact hz, h1.lst a1.rl r1⟩
    · exact h1.elim

/-! ### operators -/
def cOp2 (o : W → W → LH → OV) (f h : Ex) : Ex := fun env L => (f env L).bind fun a L1 => (h env L1).bind fun b L2 => ofO (o a b L2)
def cOp1 (o : W → LH → OV) (f : Ex) : Ex := fun env L => (f env L).bind fun a L1 => ofO (o a L1)
theorem tOp2 {o : W → W → LH → OV} {f h : Ex} {σ : L2.St} {H : Hp} {Q : VK} (q : tEx Γ Wx (cOp2 o f h) σ H Q) : tOp (v2 Γ o) (tEx Γ Wx f) (tEx Γ Wx h) σ H Q := by
  obtain ⟨ρ, env, L, rl, re, h⟩ := q
  refine tG_bind rl re h fun ρ1 H1 a v L1 a1 re1 r1 h1 => ?_
  refine tG_bind a1.rl re1 h1 fun ρ2 H2 b u L2 a2 re2 r2 h2 => ?_
  exact ⟨ρ2, L2, a, b, a2.rl, r1.mono a2.pre a2.kp, r2, out_of h2⟩
theorem tOp1 {o : W → LH → OV} {f : Ex} {σ : L2.St} {H : Hp} {Q : VK} (q : tEx Γ Wx (cOp1 o f) σ H Q) : tUn (v1 Γ o) (tEx Γ Wx f) σ H Q := by
  obtain ⟨ρ, env, L, rl, re, h⟩ := q
  refine tG_bind rl re h fun ρ1 H1 a v L1 a1 re1 r1 h1 => ?_
  exact ⟨ρ1, L1, a, a1.rl, r1, out_of h1⟩
/-- an operation's rule: f behaves as o -/
def O2 (X : Cx) (Γ : Ctx) (k : Nat) (Wx : WX) (f : Value → Value → Sem Value) (o : W → W → LH → OV) : Prop := Good X Γ k Wx → OpR X f (v2 Γ o)
theorem d_op {op : Operator} {o : W → W → LH → OV} {a b : Expr} {f h : Ex} (ho : O2 X Γ k Wx (binaryOp op) o) (ha : DE X Γ k Wx a f) (hb : DE X Γ k Wx b h) : DE X Γ k Wx (.BinOp a op b pos) (cOp2 o f h) := fun g =>
  PE.imp (pe_op (ho g) (ha g) (hb g)) fun σ H Q q => tOp2 q
theorem d_un {op : UnaryOp} {o : W → LH → OV} {a : Expr} {f : Ex} (ho : Good X Γ k Wx → UnR X (unaryOp op) (v1 Γ o)) (ha : DE X Γ k Wx a f) : DE X Γ k Wx (.UnaryOp op a pos) (cOp1 o f) := fun g =>
  PE.imp (pe_un (ho g) (ha g)) fun σ H Q q => tOp1 q

def oAdd : W → W → LH → OV
  | .int i, .int j, L => some (.int (i + j), L)
  | .str x, .str y, L => if x.length + y.length ≤ 16777216 then some (.str (x ++ y), L) else none
  | .tup xs, .tup ys, L => if xs.length + ys.length ≤ 16777216 then some (.tup (xs ++ ys), L) else none
  | .ref n, .ref m, L => match L[n]?, L[m]? with
    | some (.lst xs), some (.lst ys) => if xs.length + ys.length ≤ 16777216 then some (.ref L.length, L ++ [.lst (xs ++ ys)]) else none
    | _, _ => none
  | _, _, _ => none
theorem RW.tup_inv {ρ : List Addr} {H : Hp} {ws : List W} {v : V} (h : RW Γ ρ H (.tup ws) v) : ∃ a vs, v = .ref a ∧ SqT Γ.K H a vs ∧ RWs Γ ρ H ws vs := by
  cases h with
  | tup a b => exact ⟨_, _, rfl, a, b⟩
theorem RL.lst {ρ : List Addr} {H : Hp} {L : LH} {n : Nat} {xs : List W} {v : V} (rl : RL Γ ρ L H) (h : RW Γ ρ H (.ref n) v) (e : L[n]? = some (.lst xs)) : ∃ a vs, v = .ref a ∧ H a = some (.lst vs) ∧ RWs Γ ρ H xs vs ∧ ρ[n]? = some a := by
  cases h with
  | ref h =>
    obtain ⟨a, ea, vs, e1, r⟩ := rl.obj n _ e
    rw [ea] at h; cases h
    exact ⟨_, vs, rfl, e1, r, ea⟩
theorem RL.dic {ρ : List Addr} {H : Hp} {L : LH} {n : Nat} {xs : List (Key × W)} {v : V} (rl : RL Γ ρ L H) (h : RW Γ ρ H (.ref n) v) (e : L[n]? = some (.dic xs)) : ∃ a vs, v = .ref a ∧ H a = some (.dK vs) ∧ RKs Γ ρ H xs vs ∧ ρ[n]? = some a := by
  cases h with
  | ref h =>
    obtain ⟨a, ea, vs, e1, r⟩ := rl.obj n _ e
    rw [ea] at h; cases h
    exact ⟨_, vs, rfl, e1, r, ea⟩
theorem RL.ins {ρ : List Addr} {H : Hp} {L : LH} {n c : Nat} {xs : List (Str × W)} {v : V} (rl : RL Γ ρ L H) (h : RW Γ ρ H (.ref n) v) (e : L[n]? = some (.ins c xs)) : ∃ a dx vs, v = .ref a ∧ H a = some (.ins (Γ.cls c) dx vs) ∧ RKs Γ ρ H xs vs ∧ ρ[n]? = some a := by
  cases h with
  | ref h =>
    obtain ⟨a, ea, dx, vs, e1, r⟩ := rl.obj n _ e
    rw [ea] at h; cases h
    exact ⟨_, dx, vs, rfl, e1, r, ea⟩
/-- a list's items, locked or not -/
def LO.items? : LO → Option (List W)
  | .lst xs => some xs
  | _ => none
def seqL (L : LH) (n : Nat) : Option (List W) := (L[n]?).bind LO.items?
theorem RL.seq {ρ : List Addr} {H : Hp} {L : LH} {n : Nat} {xs : List W} {v : V} (rl : RL Γ ρ L H) (h : RW Γ ρ H (.ref n) v) (e : seqL L n = some xs) : ∃ a vs, v = .ref a ∧ SqL Γ.K H a vs ∧ RWs Γ ρ H xs vs ∧ ρ[n]? = some a := by
  cases h with
  | ref h =>
    unfold seqL at e
    cases eo : L[n]? with
    | none => rw [eo] at e; cases e
    | some o =>
      rw [eo] at e
      obtain ⟨a, ea, r⟩ := rl.obj n _ eo
      rw [ea] at h; cases h
      cases o with
      | lst ys =>
        cases (show some ys = some xs from e)
        obtain ⟨vs, e1, r⟩ := r
        exact ⟨_, vs, rfl, .of e1, r, ea⟩
      | dic ys => cases (show none = some xs from e)
      | ins c ys => cases (show none = some xs from e)
      | lck ys => cases (show none = some xs from e)
theorem o_add : O2 X Γ k Wx (binaryOp .Add) oAdd := fun g => by
  refine OpR.imp (op_add.or (op_add_str.or (op_catA.or op_cat))) fun x y H Q h => ?_
  obtain ⟨ρ, L, a, b, rl, ra, rb, h⟩ := h
  unfold oAdd at h
  split at h
  · cases ra; cases rb
    exact .inl ⟨_, _, rfl, rfl, h.here rl (.int _)⟩
  · split at h
    · rename_i hz
      cases ra; cases rb
      exact .inr (.inl ⟨_, _, rfl, rfl, by rw [line_eq]; exact hz, h.here rl (.str _)⟩)
    · exact h.elim
  · split at h
    · rename_i xs ys hz
      obtain ⟨a, vs, rfl, sa, r1⟩ := ra.tup_inv
      obtain ⟨b, us, rfl, sb, r2⟩ := rb.tup_inv
      rw [← g.K] at sa sb
      refine .inr (.inr (.inl ⟨a, b, vs, us, rfl, rfl, sa, sb, ?_, ?_, ?_, ?_⟩))
      · rw [← r1.length, ← r2.length, line_eq]; exact hz
      · intro z; subst z
        have := r1.length
        cases xs with
        | nil => exact h.here rl rb
        | cons x t => simp at this
      · intro _ z; subst z
        have := r2.length
        cases ys with
        | nil => rw [List.append_nil] at h; exact h.here rl ra
        | cons x t => simp at this
      · intro _ _; exact h.tup rl (r1.append r2)
    · exact h.elim
  · split at h
    · split at h
      · rename_i e1 e2 hz
        obtain ⟨a, vs, rfl, ha, r1, _⟩ := rl.lst ra e1
        obtain ⟨b, us, rfl, hb, r2, _⟩ := rl.lst rb e2
        exact .inr (.inr (.inr ⟨a, b, vs, us, rfl, rfl, ha, hb, by rw [← r1.length, ← r2.length, line_eq]; exact hz, h.lst rl (r1.append r2)⟩))
      · exact h.elim
    · exact h.elim
  · exact h.elim
def oSub : W → W → LH → OV
  | .int i, .int j, L => some (.int (i - j), L)
  | _, _, _ => none
theorem o_sub : O2 X Γ k Wx (binaryOp .Sub) oSub := fun g => by
  refine OpR.imp op_sub fun x y H Q h => ?_
  obtain ⟨ρ, L, a, b, rl, ra, rb, h⟩ := h
  unfold oSub at h
  split at h
  · cases ra; cases rb
    exact ⟨_, _, rfl, rfl, h.here rl (.int _)⟩
  · exact h.elim
def oMul : W → W → LH → OV
  | .int i, .int j, L => if (-(2 ^ 64) < i ∧ i < 2 ^ 64) ∨ (-(2 ^ 64) < j ∧ j < 2 ^ 64) then some (.int (i * j), L) else none
  | _, _, _ => none
theorem o_mul : O2 X Γ k Wx (binaryOp .Mult) oMul := fun g => by
  refine OpR.imp op_mul fun x y H Q h => ?_
  obtain ⟨ρ, L, a, b, rl, ra, rb, h⟩ := h
  unfold oMul at h
  split at h
  · split at h
    · rename_i hz
      cases ra; cases rb
      exact ⟨_, _, rfl, rfl, hz, h.here rl (.int _)⟩
    · exact h.elim
  · exact h.elim
def oMod : W → W → LH → OV
  | .int i, .int j, L => if 0 < j then some (.int (i % j), L) else none
  | _, _, _ => none
theorem o_mod : O2 X Γ k Wx (binaryOp .Mod) oMod := fun g => by
  refine OpR.imp op_mod fun x y H Q h => ?_
  obtain ⟨ρ, L, a, b, rl, ra, rb, h⟩ := h
  unfold oMod at h
  split at h
  · split at h
    · rename_i hz
      cases ra; cases rb
      exact ⟨_, _, rfl, rfl, hz, h.here rl (.int _)⟩
    · exact h.elim
  · exact h.elim
def oDiv : W → W → LH → OV
  | .int i, .int j, L => if 0 < j ∧ j < 1073741824 then some (.int (i / j), L) else none
  | _, _, _ => none
theorem o_div : O2 X Γ k Wx (binaryOp .FloorDiv) oDiv := fun g => by
  refine OpR.imp op_fdiv fun x y H Q h => ?_
  obtain ⟨ρ, L, a, b, rl, ra, rb, h⟩ := h
  unfold oDiv at h
  split at h
  · split at h
    · rename_i hz
      cases ra; cases rb
      exact ⟨_, _, rfl, rfl, hz, h.here rl (.int _)⟩
    · exact h.elim
  · exact h.elim
def oPow : W → W → LH → OV
  | .int i, .int j, L => if 0 ≤ j ∧ j ≤ 1000000 ∧ i.natAbs < 2 ^ 64 then some (.int (i ^ j.toNat), L) else none
  | _, _, _ => none
theorem o_pow : O2 X Γ k Wx (binaryOp .Pow) oPow := fun g => by
  refine OpR.imp op_pow fun x y H Q h => ?_
  obtain ⟨ρ, L, a, b, rl, ra, rb, h⟩ := h
  unfold oPow at h
  split at h
  · split at h
    · rename_i hz
      cases ra; cases rb
      exact ⟨_, _, rfl, rfl, hz, h.here rl (.int _)⟩
    · exact h.elim
  · exact h.elim
def oNeg : W → LH → OV
  | .int i, L => some (.int (-i), L)
  | _, _ => none
theorem d_neg {a : Expr} {f : Ex} (ha : DE X Γ k Wx a f) : DE X Γ k Wx (.UnaryOp .USub a pos) (cOp1 oNeg f) := d_un (fun g pins s σ H x v Q I r h => un_neg pins s σ H x v Q I r (by
  obtain ⟨ρ, L, a, rl, ra, h⟩ := h
  unfold oNeg at h
  split at h
  · cases ra; exact ⟨_, rfl, h.here rl (.int _)⟩
  · exact h.elim)) ha

/-! ### comparisons -/
mutual
def toD (L : LH) : Nat → W → Option PyData
  | _, .non => some .none
  | _, .bl b => some (.bool b)
  | _, .int i => some (.int i)
  | _, .str x => some (.str x)
  | 0, _ => none
  | n + 1, .tup ws => (toDs L n ws).map .tuple
  | n + 1, .ref m => match seqL L m with
    | some xs => (toDs L n xs).map .list
    | none => none
  | _, _ => none
def toDs (L : LH) : Nat → List W → Option (List PyData)
  | _, [] => some []
  | 0, _ => none
  | n + 1, w :: ws => match toD L n w, toDs L (n + 1) ws with
    | some d, some ds => some (d :: ds)
    | _, _ => none
end
mutual
theorem RL.dp {ρ : List Addr} {H : Hp} {L : LH} (rl : RL Γ ρ L H) : ∀ (n : Nat) (w : W) (d : PyData) (v : V), toD L n w = some d → RW Γ ρ H w v → Dp Γ.K H v d
  | n, .non, d, v, e, r => by
    cases r; unfold toD at e; cases e; exact .non
  | n, .bl b, d, v, e, r => by
    cases r; unfold toD at e; cases e; exact .bl _
  | n, .int b, d, v, e, r => by
    cases r; unfold toD at e; cases e; exact .int _
  | n, .str b, d, v, e, r => by
    cases r; unfold toD at e; cases e; exact .str _
  | 0, .tup ws, d, v, e, r => by unfold toD at e; cases e
  | 0, .ref ws, d, v, e, r => by unfold toD at e; cases e
  | n + 1, .tup ws, d, v, e, r => by
    unfold toD at e
    obtain ⟨a, vs, rfl, sa, r1⟩ := r.tup_inv
    cases ed : toDs L n ws with
    | none => rw [ed] at e; cases e
    | some ds => rw [ed] at e; cases e; exact .tup sa (RL.dps rl n ws ds vs ed r1)
  | n + 1, .ref m, d, v, e, r => by
    unfold toD at e
    cases es : seqL L m with
    | none => rw [es] at e; cases e
    | some xs =>
      rw [es] at e
      obtain ⟨a, vs, rfl, sa, r1, _⟩ := rl.seq r es
      cases ed : toDs L n xs with
      | none => simp only [ed] at e; cases e
      | some ds => simp only [ed] at e; cases e; exact .lst sa (RL.dps rl n xs ds vs ed r1)
  | n, .ty m, d, v, e, r => by cases n <;> (unfold toD at e; cases e)
  | n, .cls m, d, v, e, r => by cases n <;> (unfold toD at e; cases e)
  | n, .fn m, d, v, e, r => by cases n <;> (unfold toD at e; cases e)
  | n, .scr m, d, v, e, r => by cases n <;> (unfold toD at e; cases e)
theorem RL.dps {ρ : List Addr} {H : Hp} {L : LH} (rl : RL Γ ρ L H) : ∀ (n : Nat) (ws : List W) (ds : List PyData) (vs : List V), toDs L n ws = some ds → RWs Γ ρ H ws vs → DpAll Γ.K H vs ds
  | n, [], ds, vs, e, r => by
    cases r; cases n <;> (unfold toDs at e; cases e; exact .nil)
  | 0, w :: ws, ds, vs, e, r => by unfold toDs at e; cases e
  | n + 1, w :: ws, ds, vs, e, r => by
    unfold toDs at e
    cases r with
    | cons r1 r2 =>
      cases e1 : toD L n w with
      | none => rw [e1] at e; cases e
      | some d =>
        cases e2 : toDs L (n + 1) ws with
        | none => rw [e1, e2] at e; cases e
        | some ds' => rw [e1, e2] at e; cases e; exact .cons (RL.dp rl n w d _ e1 r1) (RL.dps rl (n + 1) ws ds' _ e2 r2)
end
/-- == of data -/
def eqD (L : LH) (a b : W) : Option Bool := match toD L 40 a, toD L 40 b with
  | some d, some e => if SeqAt.shaped d = true ∧ SeqAt.shaped e = true then some (PyData.eqv d e) else none
  | _, _ => none
def oB (r : Option Bool) (L : LH) : OV := r.map fun b => (.bl b, L)
/-- lists of unlike lengths -/
def lenDiff (L : LH) (a b : W) : Bool := match a, b with
  | .ref n, .ref m => match seqL L n, seqL L m with
    | some xs, some ys => xs.length != ys.length
    | _, _ => false
  | _, _ => false
def eqX (L : LH) (a b : W) : Option Bool := if lenDiff L a b = true then some false else eqD L a b
def oEq (a b : W) (L : LH) : OV := oB (eqX L a b) L
def oNe (a b : W) (L : LH) : OV := oB ((eqX L a b).map not) L
def rLen (K : PySem.W.Frag) (r : Bool) : R2 := fun x y H Q => ∃ a b xs ys, x = .ref a ∧ y = .ref b ∧ SqL K H a xs ∧ SqL K H b ys ∧ xs.length ≠ ys.length ∧ Q (.bl r) H
theorem op_lenEq (hu : X.A.units < cLine) : OpR X (compareOp .Eq) (rLen X.K false) := by
  intro pins s σ H x y v u Q I rx ry h
  obtain ⟨a, b, xs, ys, rfl, rfl, ha, hb, hl, q⟩ := h
  obtain rfl : v = Value.ref a := rx
  obtain rfl : u = Value.ref b := ry
  obtain ⟨us, r1, p1, _⟩ := I.list ha
  obtain ⟨ws, r2, p2, _⟩ := I.list hb
  refine SeqAt.RcAt.lists_lengths p1.isList p2.isList ?_ hu _ _ _ _ ⟨.bl false, H, I, rfl, q⟩
  rw [List.size_toArray, List.size_toArray, ← r1.length, ← r2.length]
  simpa using hl
theorem op_lenNe (hu : X.A.units < cLine) : OpR X (compareOp .NotEq) (rLen X.K true) := by
  intro pins s σ H x y v u Q I rx ry h
  obtain ⟨a, b, xs, ys, rfl, rfl, ha, hb, hl, q⟩ := h
  obtain rfl : v = Value.ref a := rx
  obtain rfl : u = Value.ref b := ry
  obtain ⟨us, r1, p1, _⟩ := I.list ha
  obtain ⟨ws, r2, p2, _⟩ := I.list hb
  refine SeqAt.RcNeAt.lists_lengths p1.isList p2.isList ?_ hu _ _ _ _ ⟨.bl true, H, I, rfl, q⟩
  rw [List.size_toArray, List.size_toArray, ← r1.length, ← r2.length]
  simpa using hl
theorem lenDiff_inv {ρ : List Addr} {H : Hp} {L : LH} {a b : W} {x y : V} (rl : RL Γ ρ L H) (ra : RW Γ ρ H a x) (rb : RW Γ ρ H b y) (h : lenDiff L a b = true) :
    ∃ p q xs ys, x = .ref p ∧ y = .ref q ∧ SqL Γ.K H p xs ∧ SqL Γ.K H q ys ∧ xs.length ≠ ys.length := by
  unfold lenDiff at h
  split at h
  · split at h
    · rename_i xs ys e1 e2
      obtain ⟨p, us, rfl, s1, r1, _⟩ := rl.seq ra e1
      obtain ⟨q, ws, rfl, s2, r2, _⟩ := rl.seq rb e2
      refine ⟨p, q, us, ws, rfl, rfl, s1, s2, ?_⟩
      rw [← r1.length, ← r2.length]
      simpa using h
    · cases h
  · cases h
theorem eqD_inv {ρ : List Addr} {H : Hp} {L : LH} {a b : W} {x y : V} {c : Bool} (rl : RL Γ ρ L H) (ra : RW Γ ρ H a x) (rb : RW Γ ρ H b y) (h : eqD L a b = some c) :
    ∃ d e, Dp Γ.K H x d ∧ Dp Γ.K H y e ∧ SeqAt.shaped d = true ∧ SeqAt.shaped e = true ∧ c = PyData.eqv d e := by
  unfold eqD at h
  split at h
  · rename_i d e h1 h2
    split at h
    · rename_i hs
      cases h
      exact ⟨d, e, rl.dp 40 a d x h1 ra, rl.dp 40 b e y h2 rb, hs.1, hs.2, rfl⟩
    · cases h
  · cases h
theorem o_eq : O2 X Γ k Wx (compareOp .Eq) oEq := fun g => by
  refine OpR.imp ((op_eqD g.hu).or (op_lenEq (Nat.lt_of_le_of_lt (Nat.le_add_right _ _) g.hu))) fun x y H Q h => ?_
  obtain ⟨ρ, L, a, b, rl, ra, rb, h⟩ := h
  unfold oEq oB eqX at h
  split at h
  · rename_i hl
    obtain ⟨p, q, xs, ys, rfl, rfl, s1, s2, hne⟩ := lenDiff_inv rl ra rb hl
    rw [← g.K] at s1 s2
    exact .inr ⟨p, q, xs, ys, rfl, rfl, s1, s2, hne, h.here rl (.bl _)⟩
  cases e : eqD L a b with
  | none => rw [e] at h; exact h.elim
  | some c =>
    rw [e] at h
    obtain ⟨d, e', h1, h2, h3, h4, rfl⟩ := eqD_inv rl ra rb e
    rw [g.K]
    exact .inl ⟨d, e', h1, h2, h3, h4, h.here rl (.bl _)⟩
theorem o_ne : O2 X Γ k Wx (compareOp .NotEq) oNe := fun g => by
  refine OpR.imp ((op_neD g.hu).or (op_lenNe (Nat.lt_of_le_of_lt (Nat.le_add_right _ _) g.hu))) fun x y H Q h => ?_
  obtain ⟨ρ, L, a, b, rl, ra, rb, h⟩ := h
  unfold oNe oB eqX at h
  split at h
  · rename_i hl
    obtain ⟨p, q, xs, ys, rfl, rfl, s1, s2, hne⟩ := lenDiff_inv rl ra rb hl
    rw [← g.K] at s1 s2
    exact .inr ⟨p, q, xs, ys, rfl, rfl, s1, s2, hne, h.here rl (.bl _)⟩
  cases e : eqD L a b with
  | none => rw [e] at h; exact h.elim
  | some c =>
    rw [e] at h
    obtain ⟨d, e', h1, h2, h3, h4, rfl⟩ := eqD_inv rl ra rb e
    rw [g.K]
    exact .inl ⟨d, e', h1, h2, h3, h4, h.here rl (.bl _)⟩
/-- comparisons of ints -/
def oCmp (p : Int → Int → Bool) : W → W → LH → OV
  | .int i, .int j, L => some (.bl (p i j), L)
  | _, _, _ => none
theorem o_cmp {op : CmpOp} {p : Int → Int → Bool} (h : OpR X (compareOp op) (rI0 fun i j => .bl (p i j))) : O2 X Γ k Wx (compareOp op) (oCmp p) := fun g => by
  refine OpR.imp h fun x y H Q h => ?_
  obtain ⟨ρ, L, a, b, rl, ra, rb, h⟩ := h
  unfold oCmp at h
  split at h
  · cases ra; cases rb
    exact ⟨_, _, rfl, rfl, h.here rl (.bl _)⟩
  · exact h.elim
abbrev oLt := oCmp fun i j => decide (i < j)
abbrev oLe := oCmp fun i j => decide (i ≤ j)
abbrev oGt := oCmp fun i j => decide (j < i)
abbrev oGe := oCmp fun i j => decide (j ≤ i)
theorem o_lt : O2 X Γ k Wx (compareOp .Lt) oLt := o_cmp op_lt
theorem o_le : O2 X Γ k Wx (compareOp .LtE) oLe := o_cmp op_le
theorem o_gt : O2 X Γ k Wx (compareOp .Gt) oGt := o_cmp op_gt
theorem o_ge : O2 X Γ k Wx (compareOp .GtE) oGe := o_cmp op_ge
theorem d_cmp {op : CmpOp} {o : W → W → LH → OV} {a b : Expr} {f h : Ex} (ho : O2 X Γ k Wx (compareOp op) o) (ha : DE X Γ k Wx a f) (hb : DE X Γ k Wx b h) (hm : behindInMarks op b = false := by first | exact nomark _ | rfl) : DE X Γ k Wx (.Compare a [op] [b] pos) (cOp2 o f h) := fun g =>
  PE.imp (pe_cmpR (ho g) (ha g) (hb g) hm) fun σ H Q q => tOp2 q
end
end Z

/-! Z2: tests, in, subscripts, slices. -/
namespace Z
open PySem PySem.Spec PyProof.Rows L2

section
variable {Γ : Ctx} {ρ : List Addr} {H : Hp} {L : LH} {Wx : WX} {σ : L2.St}
theorem RWs.isEmpty {ws : List W} {vs : List V} (r : RWs Γ ρ H ws vs) : ws.isEmpty = vs.isEmpty := by cases r <;> rfl
theorem RKs.isEmpty {κ : Type} {ws : List (κ × W)} {vs : List (κ × V)} (r : RKs Γ ρ H ws vs) : ws.isEmpty = vs.isEmpty := by cases r <;> rfl
/-- how an object is read -/
theorem RL.at_ {n : Nat} {v : V} (rl : RL Γ ρ L H) (h : RW Γ ρ H (.ref n) v) {o : LO} (e : L[n]? = some o) : ∃ a, v = .ref a ∧ ρ[n]? = some a ∧ RO Γ ρ H a o := by
  cases h with
  | ref h =>
    obtain ⟨a, ea, r⟩ := rl.obj n _ e
    rw [ea] at h; cases h
    exact ⟨_, rfl, ea, r⟩
theorem sqScr {K : PySem.W.Frag} {a : Addr} {ns : List Int} (h : (∃ ob, H a = some (.frz ob (.lst (ns.map V.int)))) ∨ SqL K (fun _ => none) a (ns.map V.int)) : SqL K H a (ns.map V.int) := by
  rcases h with ⟨ob, h⟩ | h
  · exact .inl (.inr ⟨ob, h⟩)
  · exact sqK h H
theorem RWs.ints (ns : List Int) : RWs Γ ρ H (ns.map W.int) (ns.map V.int) := by
  induction ns with
  | nil => exact .nil
  | cons n r ih => exact .cons (.int n) ih
/-! ### truth -/
def truW : W → LH → Option Bool
  | .non, _ => some false
  | .bl b, _ => some b
  | .int i, _ => some (i != 0)
  | .str y, _ => if y.length ≤ 16777216 then some ((y.length : Int) != 0) else none
  | .tup ws, _ => some (!ws.isEmpty)
  | .scr ns, _ => some (!ns.isEmpty)
  | .ref n, L => match L[n]? with
    | some (.lst xs) => some (!xs.isEmpty)
    | some (.dic kvs) => some (!kvs.isEmpty)
    | _ => none
  | _, _ => none
theorem truW_ok {K : PySem.W.Frag} (hK : K = Γ.K) {w : W} {v : V} {b : Bool} (rl : RL Γ ρ L H) (r : RW Γ ρ H w v) (h : truW w L = some b) : TruV K v H b := by
  subst hK
  cases r with
  | non => cases h; rfl
  | bl b => cases h; rfl
  | int i => cases h; rfl
  | str y =>
    simp only [truW] at h
    split at h
    · rename_i hz; cases h; exact ⟨by rw [line_eq]; exact hz, rfl⟩
    · cases h
  | ty n => cases h
  | tup s r => cases h; exact .inr (.inl ⟨_, s, by rw [r.isEmpty]⟩)
  | cls c => cases h
  | fn c => cases h
  | scr e =>
    cases h
    refine .inl ⟨_, sqScr e, ?_⟩
    rw [List.isEmpty_map]
  | @ref n a e =>
    simp only [truW] at h
    split at h
    · rename_i xs eo
      cases h
      obtain ⟨a', e1, e2, vs, e3, r⟩ := rl.at_ (.ref e) eo
      cases e1
      exact .inl ⟨vs, .of e3, by rw [r.isEmpty]⟩
    · rename_i xs eo
      cases h
      obtain ⟨a', e1, e2, vs, e3, r⟩ := rl.at_ (.ref e) eo
      cases e1
      exact .inr (.inr ⟨vs, e3, by rw [r.isEmpty]⟩)
    · cases h
end
abbrev Bx := Env → LH → Res Bool
def ofOB (b : Option Bool) (L : LH) : Res Bool := match b with
  | some b => .ok b L
  | none => .stk
def bTru (f : Ex) : Bx := fun env L => (f env L).bind fun a L1 => ofOB (truW a L1) L1
def blW : W → Option Bool
  | .bl b => some b
  | _ => none
def bVal (f : Ex) : Bx := fun env L => (f env L).bind fun a L1 => ofOB (blW a) L1
def bNot (t : Bx) : Bx := fun env L => (t env L).bind fun b L1 => .ok (!b) L1
def bAnd (t u : Bx) : Bx := fun env L => (t env L).bind fun b L1 => if b = true then u env L1 else .ok false L1
def bOr (t u : Bx) : Bx := fun env L => (t env L).bind fun b L1 => if b = true then .ok true L1 else u env L1
def cIf (t : Bx) (f h : Ex) : Ex := fun env L => (t env L).bind fun b L1 => if b = true then f env L1 else h env L1
def cOr (f h : Ex) : Ex := fun env L => (f env L).bind fun a L1 => (ofOB (truW a L1) L1).bind fun b L2 => if b = true then .ok a L2 else h env L2
def cAnd (f h : Ex) : Ex := fun env L => (f env L).bind fun a L1 => (ofOB (truW a L1) L1).bind fun b L2 => if b = true then h env L2 else .ok a L2
def cNot (f : Ex) : Ex := fun env L => (f env L).bind fun a L1 => (ofOB (truW a L1) L1).bind fun b L2 => .ok (.bl (!b)) L2
def cChain (o o' : W → W → LH → OV) (f g h : Ex) : Ex := fun env L => (f env L).bind fun a L1 => (g env L1).bind fun b L2 => (ofO (o a b L2)).bind fun z L3 => (ofOB (blW z) L3).bind fun c L4 =>
  if c = true then (h env L4).bind fun y L5 => ofO (o' b y L5) else .ok (.bl false) L4
section
variable {X : Cx} {Γ : Ctx} {k : Nat} {Wx : WX} {pos : Pos}
theorem ofOB_inv {α : Type} {β : Type} {R : List Addr → Hp → α → β → Prop} {σ : L2.St} {ρ : List Addr} {H : Hp} {L : LH} {o : Option Bool} {kk : Bool → LH → Res α} {Q : β → Hp → Prop} (h : Out R Γ Wx σ ρ H ((ofOB o L).bind kk) Q) : ∃ b, o = some b ∧ Out R Γ Wx σ ρ H (kk b L) Q := by
  cases o with
  | none => exact False.elim h
  | some b => exact ⟨b, rfl, h⟩
theorem ofOB_out {σ : L2.St} {ρ : List Addr} {H : Hp} {L : LH} {o : Option Bool} {Q : Bool → Hp → Prop} (rl : RL Γ ρ L H) (h : Out RB Γ Wx σ ρ H (ofOB o L) Q) : ∃ b, o = some b ∧ Q b H := by
  cases o with
  | none => exact False.elim h
  | some b => exact ⟨b, rfl, out_ok (R := RB) h rl rfl⟩
theorem ofO_inv {σ : L2.St} {ρ : List Addr} {H : Hp} {o : OV} {kk : W → LH → Res W} {Q : VK} {Q1 : VK} (h : Out (RW Γ) Γ Wx σ ρ H ((ofO o).bind kk) Q)
    (next : ∀ ρ1 H1 w v L1, Aft Γ ρ H L1 ρ1 H1 → RW Γ ρ1 H1 w v → Out (RW Γ) Γ Wx σ ρ1 H1 (kk w L1) Q → Q1 v H1) : OkOut Γ ρ H o Q1 := by
  cases o with
  | none => exact False.elim h
  | some p => exact fun ρ' H' v a r => next ρ' H' p.1 v p.2 a r (Out.rebase a h)
theorem d_tru {e : Expr} {f : Ex} (ha : DE X Γ k Wx e f) (he : ∀ whole, isTrue e X.env whole = (do let v ← whole; standAt e.pos; holding [v] (truthy v)) := by intro _; rfl) : DT X Γ k Wx e (bTru f) := fun g =>
  PT.imp (pt_truth (ha g) he) fun σ H Q h => by
    obtain ⟨ρ, env, L, rl, re, h⟩ := h
    refine tG_bind rl re h fun ρ1 H1 a v L1 a1 re1 r1 h1 => ?_
    obtain ⟨b, e, q⟩ := ofOB_out a1.rl h1
    exact ⟨b, truW_ok g.K a1.rl r1 e, q⟩
theorem b_cmp {op : CmpOp} {o : W → W → LH → OV} {a b : Expr} {f h : Ex} (ho : O2 X Γ k Wx (compareOp op) o) (ha : DE X Γ k Wx a f) (hb : DE X Γ k Wx b h) (hm : behindInMarks op b = false := by first | exact nomark _ | rfl) : DT X Γ k Wx (.Compare a [op] [b] pos) (bVal (cOp2 o f h)) := fun g =>
  PT.imp (pt_cmpR (ho g) (ha g) (hb g) hm) fun σ H Q q => by
    refine tOp2 (Wx := Wx) ?_
    obtain ⟨ρ, env, L, rl, re, h⟩ := q
    refine tG_bind rl re h fun ρ1 H1 a v L1 a1 re1 r1 h1 => ?_
    obtain ⟨b, e, q⟩ := ofOB_out a1.rl h1
    cases r1 <;> first | (cases e; exact ⟨_, rfl, q⟩) | cases e
theorem b_not {a : Expr} {t : Bx} (ha : DT X Γ k Wx a t) : DT X Γ k Wx (.UnaryOp .Not a pos) (bNot t) := fun g =>
  PT.imp (pt_not (ha g)) fun σ H Q q => by
    obtain ⟨ρ, env, L, rl, re, h⟩ := q
    refine tG_bind rl re h fun ρ1 H1 a v L1 a1 re1 r1 h1 => ?_
    cases r1
    exact out_ok (R := RB) h1 a1.rl rfl
theorem b_w {e : Expr} {t : Bx} (h : DW X Γ k Wx e t) : DT X Γ k Wx e t := fun g => (h g).pt
theorem w_and1 {a : Expr} {t : Bx} (ha : DT X Γ k Wx a t) : DW X Γ k Wx (.BoolOp .And [a] pos) t := fun g => pw_and1 (ha g)
theorem w_or1 {a : Expr} {t : Bx} (ha : DT X Γ k Wx a t) : DW X Γ k Wx (.BoolOp .Or [a] pos) t := fun g => pw_or1 (ha g)
theorem w_and {a b : Expr} {rest : List Expr} {t u : Bx} (ha : DT X Γ k Wx a t) (hb : DW X Γ k Wx (.BoolOp .And (b :: rest) pos) u) : DW X Γ k Wx (.BoolOp .And (a :: b :: rest) pos) (bAnd t u) := fun g =>
  PW.imp (pw_and (ha g) (hb g)) fun σ H Q q => by
    obtain ⟨ρ, env, L, rl, re, h⟩ := q
    refine tG_bind rl re h fun ρ1 H1 a v L1 a1 re1 r1 h1 => ?_
    cases r1
    cases a with
    | true => exact ⟨ρ1, env, L1, a1.rl, re1, h1⟩
    | false => exact out_ok (R := RB) h1 a1.rl rfl
theorem w_or {a b : Expr} {rest : List Expr} {t u : Bx} (ha : DT X Γ k Wx a t) (hb : DW X Γ k Wx (.BoolOp .Or (b :: rest) pos) u) : DW X Γ k Wx (.BoolOp .Or (a :: b :: rest) pos) (bOr t u) := fun g =>
  PW.imp (pw_or (ha g) (hb g)) fun σ H Q q => by
    obtain ⟨ρ, env, L, rl, re, h⟩ := q
    refine tG_bind rl re h fun ρ1 H1 a v L1 a1 re1 r1 h1 => ?_
    cases r1
    cases a with
    | false => exact ⟨ρ1, env, L1, a1.rl, re1, h1⟩
    | true => exact out_ok (R := RB) h1 a1.rl rfl
theorem d_if {c a b : Expr} {t : Bx} {f h : Ex} (hc : DT X Γ k Wx c t) (ha : DE X Γ k Wx a f) (hb : DE X Γ k Wx b h) : DE X Γ k Wx (.IfExp c a b pos) (cIf t f h) := fun g =>
  PE.imp (pe_ifExp (hc g) (ha g) (hb g)) fun σ H Q q => by
    obtain ⟨ρ, env, L, rl, re, h⟩ := q
    refine tG_bind rl re h fun ρ1 H1 a v L1 a1 re1 r1 h1 => ?_
    cases r1
    cases a with
    | true => exact ⟨ρ1, env, L1, a1.rl, re1, h1⟩
    | false => exact ⟨ρ1, env, L1, a1.rl, re1, h1⟩
theorem d_one {op} {a : Expr} {f : Ex} (h : DE X Γ k Wx a f) : DE X Γ k Wx (.BoolOp op [a] pos) f := fun g => pe_one (h g)
theorem d_or {a b : Expr} {rest : List Expr} {f h : Ex} (ha : DE X Γ k Wx a f) (hb : DE X Γ k Wx (.BoolOp .Or (b :: rest) pos) h) : DE X Γ k Wx (.BoolOp .Or (a :: b :: rest) pos) (cOr f h) := fun g =>
  PE.imp (pe_orT (ha g) (hb g)) fun σ H Q q => by
    obtain ⟨ρ, env, L, rl, re, h⟩ := q
    refine tG_bind rl re h fun ρ1 H1 a v L1 a1 re1 r1 h1 => ?_
    obtain ⟨b, e, q⟩ := ofOB_inv h1
    refine ⟨b, truW_ok g.K a1.rl r1 e, ?_⟩
    cases b with
    | true => exact out_ok (R := RW Γ) q a1.rl r1
    | false => exact ⟨ρ1, env, L1, a1.rl, re1, q⟩
theorem d_and {a b : Expr} {rest : List Expr} {f h : Ex} (ha : DE X Γ k Wx a f) (hb : DE X Γ k Wx (.BoolOp .And (b :: rest) pos) h) : DE X Γ k Wx (.BoolOp .And (a :: b :: rest) pos) (cAnd f h) := fun g =>
  PE.imp (pe_andT (ha g) (hb g)) fun σ H Q q => by
    obtain ⟨ρ, env, L, rl, re, h⟩ := q
    refine tG_bind rl re h fun ρ1 H1 a v L1 a1 re1 r1 h1 => ?_
    obtain ⟨b, e, q⟩ := ofOB_inv h1
    refine ⟨b, truW_ok g.K a1.rl r1 e, ?_⟩
    cases b with
    | true => exact ⟨ρ1, env, L1, a1.rl, re1, q⟩
    | false => exact out_ok (R := RW Γ) q a1.rl r1
theorem d_not {a : Expr} {f : Ex} (ha : DE X Γ k Wx a f) : DE X Γ k Wx (.UnaryOp .Not a pos) (cNot f) := fun g =>
  PE.imp (pe_notT (ha g)) fun σ H Q q => by
    obtain ⟨ρ, env, L, rl, re, h⟩ := q
    refine tG_bind rl re h fun ρ1 H1 a v L1 a1 re1 r1 h1 => ?_
    obtain ⟨b, e, q⟩ := ofOB_inv h1
    exact ⟨b, truW_ok g.K a1.rl r1 e, out_ok (R := RW Γ) q a1.rl (.bl _)⟩
theorem tChain2 {o o' : W → W → LH → OV} {f g h : Ex} {σ : L2.St} {H : Hp} {Q : VK} (q : tEx Γ Wx (cChain o o' f g h) σ H Q) : tChain (v2 Γ o) (v2 Γ o') (tEx Γ Wx f) (tEx Γ Wx g) (tEx Γ Wx h) σ H Q := by
  obtain ⟨ρ, env, L, rl, re, h⟩ := q
  refine tG_bind rl re h fun ρ1 H1 a v L1 a1 re1 r1 h1 => ?_
  refine tG_bind a1.rl re1 h1 fun ρ2 H2 b u L2 a2 re2 r2 h2 => ?_
  refine ⟨ρ2, L2, a, b, a2.rl, r1.mono a2.pre a2.kp, r2, ofO_inv h2 fun ρ3 H3 z y L3 a3 r3 h3 => ?_⟩
  obtain ⟨c, e, h3⟩ := ofOB_inv h3
  have ez : y = .bl c := by
    cases r3 <;> first | (cases e; rfl) | cases e
  refine ⟨c, ez, ?_⟩
  cases c with
  | false => exact out_ok (R := RW Γ) h3 a3.rl (.bl _)
  | true =>
    refine tG_bind a3.rl (re2.mono a3.pre a3.kp) h3 fun ρ4 H4 y' v' L4 a4 re4 r4 h4 => ?_
    exact ⟨ρ4, L4, b, y', a4.rl, (r2.mono a3.pre a3.kp).mono a4.pre a4.kp, r4, out_of h4⟩
theorem d_chain {op op' : CmpOp} {o o' : W → W → LH → OV} {a b c : Expr} {f g h : Ex} (ho : O2 X Γ k Wx (compareOp op) o) (ho' : O2 X Γ k Wx (compareOp op') o') (ha : DE X Γ k Wx a f) (hb : DE X Γ k Wx b g) (hc : DE X Γ k Wx c h)
    (hm : lastMarks [op, op'] [b, c] = false := by with_unfolding_all rfl) : DE X Γ k Wx (.Compare a [op, op'] [b, c] pos) (cChain o o' f g h) := fun G =>
  PE.imp (pe_chain (ho G) (ho' G) (ha G) (hb G) (hc G) hm) fun σ H Q q => tChain2 q
theorem b_chain {op op' : CmpOp} {o o' : W → W → LH → OV} {a b c : Expr} {f g h : Ex} (ho : O2 X Γ k Wx (compareOp op) o) (ho' : O2 X Γ k Wx (compareOp op') o') (ha : DE X Γ k Wx a f) (hb : DE X Γ k Wx b g) (hc : DE X Γ k Wx c h)
    (hm : lastMarks [op, op'] [b, c] = false := by with_unfolding_all rfl) : DT X Γ k Wx (.Compare a [op, op'] [b, c] pos) (bVal (cChain o o' f g h)) := fun G =>
  PT.imp (pt_chain (ho G) (ho' G) (ha G) (hb G) (hc G) hm) fun σ H Q q => by
    refine tChain2 (Wx := Wx) ?_
    obtain ⟨ρ, env, L, rl, re, h⟩ := q
    refine tG_bind rl re h fun ρ1 H1 a v L1 a1 re1 r1 h1 => ?_
    obtain ⟨b, e, q⟩ := ofOB_out a1.rl h1
    cases r1 <;> first | (cases e; exact ⟨_, rfl, q⟩) | cases e

/-! ### is None -/
def isNon : W → Bool
  | .non => true
  | _ => false
def oIsN (a b : W) (L : LH) : OV := match b with
  | .non => some (.bl (isNon a), L)
  | _ => none
def oNotN (a b : W) (L : LH) : OV := match b with
  | .non => some (.bl (!isNon a), L)
  | _ => none
theorem RW.non_iff {ρ : List Addr} {H : Hp} {a : W} {x : V} (r : RW Γ ρ H a x) : isNon a = decide (x = .non) := by
  cases r <;> simp [isNon]
theorem o_isN : O2 X Γ k Wx (compareOp .Is) oIsN := fun g => by
  refine OpR.imp op_isN fun x y H Q h => ?_
  obtain ⟨ρ, L, a, b, rl, ra, rb, h⟩ := h
  unfold oIsN at h
  split at h
  · cases rb
    rw [ra.non_iff] at h
    exact ⟨rfl, h.here rl (.bl _)⟩
  · exact h.elim
theorem o_notN : O2 X Γ k Wx (compareOp .IsNot) oNotN := fun g => by
  refine OpR.imp op_notN fun x y H Q h => ?_
  obtain ⟨ρ, L, a, b, rl, ra, rb, h⟩ := h
  unfold oNotN at h
  split at h
  · cases rb
    rw [ra.non_iff] at h
    exact ⟨rfl, h.here rl (.bl _)⟩
  · exact h.elim

/-! ### in -/
def flatW : W → Bool
  | .non => true
  | .bl _ => true
  | .int _ => true
  | .str _ => true
  | _ => false
def eqF : W → W → Bool
  | .non, .non => true
  | .bl a, .bl b => a == b
  | .bl a, .int b => (if a then 1 else 0) == b
  | .int a, .bl b => a == (if b then 1 else 0)
  | .int a, .int b => a == b
  | .str a, .str b => a == b
  | _, _ => false
theorem flatW_ok {ρ : List Addr} {H : Hp} {a : W} {x : V} (r : RW Γ ρ H a x) : flatW a = flatV x ∨ flatW a = false := by cases r <;> simp [flatW, flatV]
theorem eqF_ok {ρ : List Addr} {H : Hp} {a b : W} {x y : V} (r : RW Γ ρ H a x) (s : RW Γ ρ H b y) (h : flatW a = true) (h' : flatW b = true) : eqF a b = eqV x y := by
  cases r <;> cases s <;> first | rfl | cases h | cases h'
theorem flatsW_ok {ρ : List Addr} {H : Hp} : ∀ {as : List W} {xs : List V}, RWs Γ ρ H as xs → as.all flatW = true → xs.all flatV = true
  | _, _, .nil, _ => rfl
  | _, _, .cons r t, h => by
    rw [List.all_cons, Bool.and_eq_true] at h
    rw [List.all_cons, Bool.and_eq_true]
    refine ⟨?_, flatsW_ok t h.2⟩
    rcases flatW_ok r with e | e
    · rw [← e]; exact h.1
    · rw [e] at h; cases h.1
theorem inF_ok {ρ : List Addr} {H : Hp} {a : W} {x : V} (r : RW Γ ρ H a x) (ha : flatW a = true) : ∀ {as : List W} {xs : List V}, RWs Γ ρ H as xs → as.all flatW = true → (as.any fun y => eqF y a) = inV x xs
  | _, _, .nil, _ => rfl
  | _, _, .cons s t, h => by
    rw [List.all_cons, Bool.and_eq_true] at h
    unfold inV
    rw [List.any_cons, List.any_cons, eqF_ok s r h.1 ha, inF_ok r ha t h.2]
    rfl
/-- a in b, by data -/
def inD (L : LH) (a b : W) : Option Bool := match toD L 40 a, toD L 40 b with
  | some d, some (.list ds) => if SeqAt.shaped d = true ∧ SeqAt.shaped (.list ds) = true then some (ds.any fun z => PyData.eqv z d) else none
  | _, _ => none
def strIn (i j : Str) : Bool := !(Builtin.Str.occurrences j i 0 j.length 1).isEmpty
def inW (a b : W) (L : LH) : Option Bool := match b with
  | .tup ws => if flatW a = true ∧ ws.all flatW = true then some (ws.any fun y => eqF y a) else none
  | .str j => match a with
    | .str i => some (strIn i j)
    | _ => none
  | .ref n => match seqL L n with
    | some ws => if flatW a = true ∧ ws.all flatW = true then some (ws.any fun y => eqF y a) else inD L a b
    | none => none
  | _ => none
def oIn (a b : W) (L : LH) : OV := oB (inW a b L) L
def oNotIn (a b : W) (L : LH) : OV := oB ((inW a b L).map not) L
theorem inD_inv {ρ : List Addr} {H : Hp} {L : LH} {a b : W} {x y : V} {c : Bool} (rl : RL Γ ρ L H) (ra : RW Γ ρ H a x) (rb : RW Γ ρ H b y) (h : inD L a b = some c) :
    ∃ d ds, Dp Γ.K H x d ∧ Dp Γ.K H y (.list ds) ∧ SeqAt.shaped d = true ∧ SeqAt.shaped (.list ds) = true ∧ c = ds.any fun z => PyData.eqv z d := by
  unfold inD at h
  split at h
  · rename_i d ds h1 h2
    split at h
    · rename_i hs
      cases h
      exact ⟨d, ds, rl.dp 40 a d x h1 ra, rl.dp 40 b _ y h2 rb, hs.1, hs.2, rfl⟩
    · cases h
  · cases h
theorem inW_ok {neg : Bool} {K : PySem.W.Frag} (hK : K = Γ.K) {ρ : List Addr} {H : Hp} {L : LH} {a b : W} {x y : V} {Q : VK} {c : Bool} (rl : RL Γ ρ L H) (ra : RW Γ ρ H a x) (rb : RW Γ ρ H b y) (h : inW a b L = some c) (q : Q (.bl (if neg then !c else c)) H) :
    rIn K neg x y H Q ∨ ((∃ d ds, Dp K H x d ∧ Dp K H y (.list ds) ∧ SeqAt.shaped d = true ∧ SeqAt.shaped (.list ds) = true ∧ Q (.bl (if neg then !(ds.any fun z => PyData.eqv z d) else ds.any fun z => PyData.eqv z d)) H) ∨
      ∃ i j, x = .str i ∧ y = .str j ∧ Q (.bl (if neg then !(strIn i j) else strIn i j)) H) := by
  subst hK
  have flat : ∀ {ws : List W} {p : Addr} {vs : List V}, flatW a = true ∧ ws.all flatW = true → RWs Γ ρ H ws vs → y = .ref p → (SqL Γ.K H p vs ∨ SqT Γ.K H p vs) → c = (ws.any fun y => eqF y a) → rIn Γ.K neg x y H Q := fun {ws p vs} hf r ey sq ec => by
    refine ⟨p, vs, ey, sq, ?_, flatsW_ok r hf.2, ?_⟩
    · rcases flatW_ok ra with e | e
      · rw [← e]; exact hf.1
      · rw [e] at hf; cases hf.1
    · rw [← inF_ok ra hf.1 r hf.2, ← ec]; exact q
  unfold inW at h
  split at h
  · split at h
    · rename_i ws hf
      cases h
      obtain ⟨p, vs, ey, st, r⟩ := rb.tup_inv
      exact .inl (flat hf r ey (.inr st) rfl)
    · cases h
  · split at h
    · cases h; cases ra; cases rb
      exact .inr (.inr ⟨_, _, rfl, rfl, q⟩)
    · cases h
  · rename_i n
    split at h
    · rename_i ws es
      split at h
      · rename_i hf
        cases h
        obtain ⟨p, vs, ey, st, r, _⟩ := rl.seq rb es
        exact .inl (flat hf r ey (.inl st) rfl)
      · obtain ⟨d, ds, h1, h2, h3, h4, ec⟩ := inD_inv rl ra rb h
        subst ec
        exact .inr (.inl ⟨d, ds, h1, h2, h3, h4, q⟩)
    · cases h
  · cases h
theorem Good.hu65 (g : Good X Γ k Wx) : X.A.units + 65 < cLine := by have := g.room.un; omega
theorem o_in : O2 X Γ k Wx (compareOp .In) oIn := fun g => by
  refine OpR.imp (op_in_seq.or ((op_inD g.hu65).or op_in_str)) fun x y H Q h => ?_
  obtain ⟨ρ, L, a, b, rl, ra, rb, h⟩ := h
  unfold oIn oB at h
  cases e : inW a b L with
  | none => rw [e] at h; exact h.elim
  | some c => rw [e] at h; exact inW_ok (neg := false) g.K rl ra rb e (h.here rl (.bl _))
theorem o_notIn : O2 X Γ k Wx (compareOp .NotIn) oNotIn := fun g => by
  refine OpR.imp (op_notIn_seq.or ((op_notInD g.hu65).or op_notIn_str)) fun x y H Q h => ?_
  obtain ⟨ρ, L, a, b, rl, ra, rb, h⟩ := h
  unfold oNotIn oB at h
  cases e : inW a b L with
  | none => rw [e] at h; exact h.elim
  | some c => rw [e] at h; exact inW_ok (neg := true) g.K rl ra rb e (h.here rl (.bl _))
end
end Z

/-! Z3: subscripts, slices, dicts read, built-in calls. -/
namespace Z
open PySem PySem.Spec PyProof.Rows L2

/-! ### dicts -/
def keyW : W → Option Key
  | .int i => some (.inl i)
  | .str x => some (.inr x)
  | _ => none
def valW {κ : Type} [DecidableEq κ] (kvs : List (κ × W)) (k : κ) : Option W := (kvs.find? fun kv => decide (kv.1 = k)).map (·.2)
def putW {κ : Type} [DecidableEq κ] (kvs : List (κ × W)) (k : κ) (w : W) : List (κ × W) :=
  if (kvs.any fun kv => decide (kv.1 = k)) then kvs.map fun kv => if kv.1 = k then (kv.1, w) else kv else kvs ++ [(k, w)]
section
variable {Γ : Ctx} {ρ : List Addr} {H : Hp} {L : LH} {Wx : WX} {σ : L2.St}
theorem RKs.val {κ : Type} [DecidableEq κ] {k : κ} : ∀ {ws : List (κ × W)} {vs : List (κ × V)}, RKs Γ ρ H ws vs →
    (∀ w, valW ws k = some w → ∃ v, valV vs k = some v ∧ RW Γ ρ H w v) ∧ (valW ws k = none → valV vs k = none)
  | _, _, .nil => ⟨fun _ h => by simp [valW] at h, fun _ => rfl⟩
  | _, _, .cons (k := j) (w := w) (v := v) (ws := ws) (vs := vs) r t => by
    obtain ⟨h1, h2⟩ := RKs.val (k := k) t
    by_cases e : j = k
    · subst e
      have e1 : valW ((j, w) :: ws) j = some w := by simp [valW]
      have e2 : valV ((j, v) :: vs) j = some v := by simp [valV]
      rw [e1, e2]
      exact ⟨fun w' q => by cases q; exact ⟨v, rfl, r⟩, fun q => by cases q⟩
    · have e1 : valW ((j, w) :: ws) k = valW ws k := by simp [valW, List.find?_cons, e]
      have e2 : valV ((j, v) :: vs) k = valV vs k := by simp [valV, List.find?_cons, e]
      rw [e1, e2]
      exact ⟨h1, h2⟩
theorem RKs.any {κ : Type} [DecidableEq κ] {k : κ} : ∀ {ws : List (κ × W)} {vs : List (κ × V)}, RKs Γ ρ H ws vs → (ws.any fun kv => decide (kv.1 = k)) = vs.any fun kv => decide (kv.1 = k)
  | _, _, .nil => rfl
  | _, _, .cons r t => by rw [List.any_cons, List.any_cons, RKs.any t]
theorem RKs.repl {κ : Type} [DecidableEq κ] {k : κ} {w : W} {v : V} (q : RW Γ ρ H w v) : ∀ {ws : List (κ × W)} {vs : List (κ × V)}, RKs Γ ρ H ws vs →
    RKs Γ ρ H (ws.map fun kv => if kv.1 = k then (kv.1, w) else kv) (vs.map fun kv => if kv.1 = k then (kv.1, v) else kv)
  | _, _, .nil => .nil
  | _, _, .cons (k := j) r t => by
    rw [List.map_cons, List.map_cons]
    by_cases e : j = k
    · rw [if_pos e, if_pos e]; exact .cons q (RKs.repl q t)
    · rw [if_neg e, if_neg e]; exact .cons r (RKs.repl q t)
theorem RKs.append {κ : Type} : ∀ {ws ws' : List (κ × W)} {vs vs' : List (κ × V)}, RKs Γ ρ H ws vs → RKs Γ ρ H ws' vs' → RKs Γ ρ H (ws ++ ws') (vs ++ vs')
  | _, _, _, _, .nil, s => s
  | _, _, _, _, .cons r t, s => .cons r (RKs.append t s)
theorem putK_eq {κ : Type} [DecidableEq κ] (vs : List (κ × V)) (k : κ) (v : V) : putK vs k v = if (vs.any fun kv => decide (kv.1 = k)) then vs.map fun kv => if kv.1 = k then (kv.1, v) else kv else vs ++ [(k, v)] := by
  unfold putK; rfl
theorem RKs.put {κ : Type} [DecidableEq κ] {k : κ} {w : W} {v : V} (q : RW Γ ρ H w v) {ws : List (κ × W)} {vs : List (κ × V)} (r : RKs Γ ρ H ws vs) : RKs Γ ρ H (putW ws k w) (putK vs k v) := by
  rw [putK_eq]
  unfold putW
  rw [r.any]
  split
  · exact r.repl q
  · exact r.append (.cons q .nil)
theorem keyW_ok {w : W} {v : V} {kk : Key} (r : RW Γ ρ H w v) (h : keyW w = some kk) : v = kV kk := by
  cases r <;> cases h <;> rfl
end
def dicW : W → LH → Option (List (Key × W))
  | .ref n, L => match L[n]? with
    | some (.dic kvs) => some kvs
    | _ => none
  | _, _ => none
def seqW : W → LH → Option (List W)
  | .tup ws, _ => some ws
  | .ref n, L => seqL L n
  | .scr ns, _ => some (ns.map .int)
  | _, _ => none
/-- a[b] of a sequence, a text -/
def oIxS (a b : W) (L : LH) : OV := match b with
  | .int i => match a with
    | .str z => if z.length ≤ 16777216 then (atI z.cps.toList i).map fun c => (.str ⟨#[c]⟩, L) else none
    | _ => match seqW a L with
      | some ws => (atI ws i).map fun w => (w, L)
      | none => none
  | _ => none
def oIxD (a b : W) (L : LH) : OV := match dicW a L, keyW b with
  | some kvs, some kk => (valW kvs kk).map fun w => (w, L)
  | _, _ => none
def oIx (a b : W) (L : LH) : OV := match dicW a L with
  | some _ => oIxD a b L
  | none => oIxS a b L
section
variable {X : Cx} {Γ : Ctx} {k : Nat} {Wx : WX} {pos : Pos}
theorem dicW_inv {ρ : List Addr} {H : Hp} {L : LH} {a : W} {x : V} {kvs : List (Key × W)} (rl : RL Γ ρ L H) (r : RW Γ ρ H a x) (h : dicW a L = some kvs) : ∃ n p vs, a = .ref n ∧ L[n]? = some (.dic kvs) ∧ x = .ref p ∧ ρ[n]? = some p ∧ H p = some (.dK vs) ∧ RKs Γ ρ H kvs vs := by
  cases r with
  | @ref n p e =>
    simp only [dicW] at h
    split at h
    · rename_i ks eo
      cases h
      obtain ⟨p', e1, e2, vs, e3, r⟩ := rl.at_ (.ref e) eo
      cases e1
      exact ⟨n, _, vs, rfl, eo, rfl, e2, e3, r⟩
    · cases h
  | _ => cases h
theorem seqW_inv {ρ : List Addr} {H : Hp} {L : LH} {a : W} {x : V} {ws : List W} (rl : RL Γ ρ L H) (r : RW Γ ρ H a x) (h : seqW a L = some ws) : ∃ p vs, x = .ref p ∧ (SqL Γ.K H p vs ∨ SqT Γ.K H p vs) ∧ RWs Γ ρ H ws vs := by
  cases r with
  | ref e =>
    obtain ⟨p, vs, e1, s, r, _⟩ := rl.seq (.ref e) h
    exact ⟨p, vs, e1, .inl s, r⟩
  | tup s r => cases h; exact ⟨_, _, rfl, .inr s, r⟩
  | scr e => cases h; exact ⟨_, _, rfl, .inl (sqScr e), RWs.ints _⟩
  | _ => cases h
theorem atI_ok {ρ : List Addr} {H : Hp} {ws : List W} {vs : List V} {i : Int} {w : W} (r : RWs Γ ρ H ws vs) (h : atI ws i = some w) : ∃ v, atI vs i = some v ∧ RW Γ ρ H w v := by
  unfold atI at h ⊢
  rw [← r.length]
  cases e : ixN ws.length i with
  | none => rw [e] at h; cases h
  | some j => rw [e] at h; exact r.get h
theorem o_ixS (g : Good X Γ k Wx) : IxR X (v2 Γ oIxS) := by
  refine IxR.imp ix_seq fun x y H Q h => ?_
  obtain ⟨ρ, L, a, b, rl, ra, rb, h⟩ := h
  unfold oIxS at h
  split at h
  · cases rb
    split at h
    · split at h
      · rename_i z hz
        cases ra
        cases e : atI z.cps.toList _ with
        | none => rw [e] at h; exact h.elim
        | some c =>
          rw [e] at h
          exact .inr (.inr ⟨z, _, c, rfl, rfl, by rw [line_eq]; exact hz, e, h.here rl (.str _)⟩)
      · exact h.elim
    · split at h
      · rename_i ws es
        obtain ⟨p, vs, rfl, s, r⟩ := seqW_inv rl ra es
        cases e : atI ws _ with
        | none => rw [e] at h; exact h.elim
        | some c =>
          rw [e] at h
          obtain ⟨v, e1, r1⟩ := atI_ok r e
          rw [← g.K] at s
          rcases s with s | s
          · exact .inl ⟨p, vs, _, v, rfl, rfl, s, e1, h.here rl r1⟩
          · exact .inr (.inl ⟨p, vs, _, v, rfl, rfl, s, e1, h.here rl r1⟩)
      · exact h.elim
  · exact h.elim
theorem d_ix {a b : Expr} {f h : Ex} (ha : DE X Γ k Wx a f) (hb : DE X Γ k Wx b h) (hs : PlainIx b := by exact fun _ _ => rfl) : DE X Γ k Wx (.Subscript a b pos) (cOp2 oIx f h) := fun g => by
  refine PE.imp (PE.or (pe_ix (o_ixS g) (ha g) (hb g) hs) (pe_dget (Nat.lt_of_le_of_lt (Nat.add_le_add_left (by decide : 1 ≤ 64) _) g.hu) (ha g) (hb g) hs)) fun σ H Q q => ?_
  obtain ⟨ρ, env, L, rl, re, q⟩ := q
  by_cases hd : ∃ a L1 b L2 kvs, f env L = .ok a L1 ∧ h env L1 = .ok b L2 ∧ dicW a L2 = some kvs
  · obtain ⟨a, L1, b, L2, kvs, e1, e2, e3⟩ := hd
    refine .inr (tG_bindE rl re q fun ρ1 H1 a' v L1' ea a1 re1 r1 h1 => ?_)
    rw [e1] at ea; cases ea
    refine tG_bindE a1.rl re1 h1 fun ρ2 H2 b' u L2' eb a2 re2 r2 h2 => ?_
    rw [e2] at eb; cases eb
    have hx := out_of h2
    unfold oIx at hx
    rw [e3] at hx
    simp only at hx
    unfold oIxD at hx
    rw [e3] at hx
    cases ek : keyW b with
    | none => simp only [ek] at hx; exact hx.elim
    | some kk =>
      simp only [ek] at hx
      obtain ⟨n, p, vs, rfl, eo, rfl, ep, eh, rk⟩ := dicW_inv a2.rl (r1.mono a2.pre a2.kp) e3
      cases ev : valW kvs kk with
      | none => rw [ev] at hx; exact hx.elim
      | some w =>
        rw [ev] at hx
        obtain ⟨v, e4, r4⟩ := (rk.val (k := kk)).1 w ev
        have := keyW_ok r2 ek
        subst this
        exact ⟨p, v, rfl, by rw [← e4]; exact .k eh, hx.here a2.rl r4⟩
  · refine .inl (tG_bindE rl re q fun ρ1 H1 a' v L1' ea a1 re1 r1 h1 => ?_)
    refine tG_bindE a1.rl re1 h1 fun ρ2 H2 b' u L2' eb a2 re2 r2 h2 => ?_
    have h2 := out_of h2
    unfold oIx at h2
    split at h2
    · rename_i ks e; exact absurd ⟨a', L1', b', L2', ks, ea, eb, e⟩ hd
    · exact ⟨ρ2, L2', a', b', a2.rl, r1.mono a2.pre a2.kp, r2, h2⟩
/-! ### k in d -/
def oInD (a b : W) (L : LH) : OV := match dicW b L with
  | some kvs => match keyW a with
    | some kk => some (.bl (valW kvs kk).isSome, L)
    | none => none
  | none => oIn a b L
def oNotInD (a b : W) (L : LH) : OV := match dicW b L with
  | some kvs => match keyW a with
    | some kk => some (.bl (!(valW kvs kk).isSome), L)
    | none => none
  | none => oNotIn a b L
theorem d_inG {neg : Bool} {a b : Expr} {f h : Ex} {op : CmpOp} {o o' : W → W → LH → OV} (ho : O2 X Γ k Wx (compareOp op) o) (ha : DE X Γ k Wx a f) (hb : DE X Γ k Wx b h) (hm : behindInMarks op b = false)
    (hd : ∀ {td ty : TE}, PE X a ty → PE X b td → PC X op a b (fun σ H Q => ty σ H fun y H1 => td σ H1 fun x H2 => ∃ p o, x = .ref p ∧ DGet H2 p y o ∧ Q (.bl (if neg then !o.isSome else o.isSome)) H2))
    (e1 : ∀ a b L kvs, dicW b L = some kvs → o' a b L = match keyW a with | some kk => some (.bl (if neg then !(valW kvs kk).isSome else (valW kvs kk).isSome), L) | none => none)
    (e2 : ∀ a b L, dicW b L = none → o' a b L = o a b L) : DE X Γ k Wx (.Compare a [op] [b] pos) (cOp2 o' f h) := fun g => by
  refine PE.imp (PE.or (pe_cmpR (ho g) (ha g) (hb g) hm) (pe_cmp (hd (ha g) (hb g)) hm)) fun σ H Q q => ?_
  obtain ⟨ρ, env, L, rl, re, q⟩ := q
  by_cases hd : ∃ a L1 b L2 kvs, f env L = .ok a L1 ∧ h env L1 = .ok b L2 ∧ dicW b L2 = some kvs
  · obtain ⟨a, L1, b, L2, kvs, f1, f2, f3⟩ := hd
    refine .inr (tG_bindE rl re q fun ρ1 H1 a' v L1' ea a1 re1 r1 h1 => ?_)
    rw [f1] at ea; cases ea
    refine tG_bindE a1.rl re1 h1 fun ρ2 H2 b' u L2' eb a2 re2 r2 h2 => ?_
    rw [f2] at eb; cases eb
    have hx := out_of h2
    rw [e1 _ _ _ _ f3] at hx
    cases ek : keyW a with
    | none => rw [ek] at hx; exact hx.elim
    | some kk =>
      simp only [ek] at hx
      obtain ⟨n, p, vs, rfl, eo, rfl, ep, eh, rk⟩ := dicW_inv a2.rl r2 f3
      have hk := keyW_ok (r1.mono a2.pre a2.kp) ek
      subst hk
      have es : (valW kvs kk).isSome = (valV vs kk).isSome := by
        cases ev : valW kvs kk with
        | none => rw [(rk.val (k := kk)).2 ev]; rfl
        | some w => obtain ⟨v, e4, _⟩ := (rk.val (k := kk)).1 w ev; rw [e4]; rfl
      rw [es] at hx
      exact ⟨p, _, rfl, .k eh, hx.here a2.rl (.bl _)⟩
  · refine .inl (tG_bindE rl re q fun ρ1 H1 a' v L1' ea a1 re1 r1 h1 => ?_)
    refine tG_bindE a1.rl re1 h1 fun ρ2 H2 b' u L2' eb a2 re2 r2 h2 => ?_
    have h2 := out_of h2
    cases e : dicW b' L2' with
    | some ks => exact absurd ⟨a', L1', b', L2', ks, ea, eb, e⟩ hd
    | none =>
      rw [e2 _ _ _ e] at h2
      exact ⟨ρ2, L2', a', b', a2.rl, r1.mono a2.pre a2.kp, r2, h2⟩
theorem hu1 (g : Good X Γ k Wx) : X.A.units + 1 < cLine := Nat.lt_of_le_of_lt (Nat.add_le_add_left (by decide : 1 ≤ 64) _) g.hu
theorem d_in {a b : Expr} {f h : Ex} (ha : DE X Γ k Wx a f) (hb : DE X Γ k Wx b h) (hm : behindInMarks .In b = false := by rfl) : DE X Γ k Wx (.Compare a [.In] [b] pos) (cOp2 oInD f h) := fun g =>
  d_inG (neg := false) o_in ha hb hm (fun p q => pc_din (hu1 g) p q) (fun a b L kvs e => by unfold oInD; rw [e]; rfl) (fun a b L e => by unfold oInD; rw [e]) g
theorem d_notIn {a b : Expr} {f h : Ex} (ha : DE X Γ k Wx a f) (hb : DE X Γ k Wx b h) (hm : behindInMarks .NotIn b = false := by rfl) : DE X Γ k Wx (.Compare a [.NotIn] [b] pos) (cOp2 oNotInD f h) := fun g =>
  d_inG (neg := true) o_notIn ha hb hm (fun p q => pc_dnotin (hu1 g) p q) (fun a b L kvs e => by unfold oNotInD; rw [e]; rfl) (fun a b L e => by unfold oNotInD; rw [e]) g
end
end Z

/-! Z4: slices, built-in calls. -/
namespace Z
open PySem PySem.Spec PyProof.Rows L2

def cutW (xs : List W) (lo hi : Option Int) : List W := (xs.drop (HT.sIx xs.length 0 lo)).take (HT.sIx xs.length xs.length hi - HT.sIx xs.length 0 lo)
def oSl (a : W) (lo hi : Option Int) (L : LH) : OV := match a with
  | .tup ws => some (.tup (cutW ws lo hi), L)
  | .str z => if z.length ≤ 16777216 then some (.str (cutS z lo hi), L) else none
  | a => match seqW a L with
    | some ws => some (.ref L.length, L ++ [.lst (cutW ws lo hi)])
    | none => none
def cPart (f : Option Ex) : Env → LH → Res (Option Int) := fun env L => match f with
  | none => .ok none L
  | some f => (f env L).bind fun a L1 => match a with
    | .int i => .ok (some i) L1
    | _ => .stk
def cSl (f : Ex) (lo hi : Option Ex) : Ex := fun env L => (f env L).bind fun a L1 => (cPart lo env L1).bind fun l L2 => (cPart hi env L2).bind fun h L3 => ofO (oSl a l h L3)
section
variable {X : Cx} {Γ : Ctx} {k : Nat} {Wx : WX} {pos : Pos} {ρ : List Addr} {H : Hp}
theorem cutW_ok {ws : List W} {vs : List V} {lo hi : Option Int} (r : RWs Γ ρ H ws vs) : RWs Γ ρ H (cutW ws lo hi) (cutV vs lo hi) := by
  unfold cutW cutV
  rw [r.length]
  exact (r.drop _).take _
def ROp (_ : List Addr) (_ : Hp) (b c : Option Int) : Prop := b = c
def DO (X : Cx) (Γ : Ctx) (k : Nat) (Wx : WX) (e : Option Expr) (f : Option Ex) : Prop := Good X Γ k Wx → PO X e (tG ROp Γ Wx (cPart f))
theorem PO.imp {e : Option Expr} {t t' : TO} (h : PO X e t) (i : ∀ σ H Q, t' σ H Q → t σ H Q) : PO X e t' := by
  obtain ⟨h⟩ := h
  constructor
  intros
  apply h <;> first | assumption | exact i _ _ _ (by assumption)
theorem do_none : DO X Γ k Wx none none := fun g => PO.imp po_none fun σ H Q h => by
  obtain ⟨ρ, env, L, rl, re, h⟩ := h
  exact out_ok (R := ROp) h rl rfl
theorem do_some {e : Expr} {f : Ex} (h : DE X Γ k Wx e f) : DO X Γ k Wx (some e) (some f) := fun g => PO.imp (po_some (h g)) fun σ H Q h => by
  obtain ⟨ρ, env, L, rl, re, h⟩ := h
  refine tG_bind rl re h fun ρ1 H1 a v L1 a1 re1 r1 h1 => ?_
  split at h1
  · cases r1; exact ⟨_, rfl, out_ok (R := ROp) h1 a1.rl rfl⟩
  · exact h1.elim
theorem SlR.imp {r r' : V → Option Int → Option Int → Hp → VK → Prop} (h : SlR X r) (i : ∀ x l u H Q, r' x l u H Q → r x l u H Q) : SlR X r' := by
  intro pins s σ H x v vl vu lo hi sl Q I rx hs pl pu q
  exact h pins s σ H x v vl vu lo hi sl Q I rx hs pl pu (i _ _ _ _ _ q)
def vSl (Γ : Ctx) : V → Option Int → Option Int → Hp → VK → Prop := fun x lo hi H Q => ∃ ρ L a, RL Γ ρ L H ∧ RW Γ ρ H a x ∧ OkOut Γ ρ H (oSl a lo hi L) Q
theorem s_all (g : Good X Γ k Wx) : SlR X (vSl Γ) := by
  refine SlR.imp (sl_tupA.or (sl_str.or sl_list)) fun x lo hi H Q h => ?_
  obtain ⟨ρ, L, a, rl, ra, h⟩ := h
  unfold oSl at h
  split at h
  · rename_i ws
    obtain ⟨p, vs, rfl, s, r⟩ := ra.tup_inv
    refine .inl ⟨p, vs, rfl, by rw [g.K]; exact s, fun hw => ?_, fun hw q hq => ?_⟩
    · have e : cutW ws lo hi = ws := by
        unfold cutW
        rw [r.length, hw.1, hw.2, List.drop_zero, Nat.sub_zero, ← r.length, List.take_length]
      rw [e] at h
      exact h.here rl ra
    · exact h.tup rl (cutW_ok r) q hq
  · split at h
    · rename_i hz; cases ra; exact .inr (.inl ⟨_, rfl, by rw [line_eq]; exact hz, h.here rl (.str _)⟩)
    · exact h.elim
  · split at h
    · rename_i nt _ _ ws es
      obtain ⟨p, vs, rfl, s, r⟩ := seqW_inv rl ra es
      rcases s with s | s
      · exact .inr (.inr ⟨p, vs, rfl, by rw [g.K]; exact s, h.lst rl (cutW_ok r)⟩)
      · cases ra with
        | tup _ _ => exact absurd rfl (nt _)
        | ref e =>
          obtain ⟨p', vs', e1, s', r', _⟩ := rl.seq (.ref e) es
          cases e1
          exact .inr (.inr ⟨p, vs', rfl, by rw [g.K]; exact s', h.lst rl (cutW_ok r')⟩)
        | scr e =>
          cases es
          exact .inr (.inr ⟨p, _, rfl, by rw [g.K]; exact sqScr e, h.lst rl (cutW_ok (RWs.ints _))⟩)
        | cls c => cases es
        | fn c => cases es
    · exact h.elim
theorem d_sl {e : Expr} {lo hi : Option Expr} {f : Ex} {fl fh : Option Ex} {p2 : Pos} (he : DE X Γ k Wx e f) (hl : DO X Γ k Wx lo fl) (hh : DO X Γ k Wx hi fh) : DE X Γ k Wx (.Subscript e (.Slice lo hi none p2) pos) (cSl f fl fh) := fun g =>
  PE.imp (pe_slice (s_all g) (he g) (hl g) (hh g)) fun σ H Q q => by
    obtain ⟨ρ, env, L, rl, re, h⟩ := q
    refine tG_bind rl re h fun ρ1 H1 a v L1 a1 re1 r1 h1 => ?_
    refine tG_bind a1.rl re1 h1 fun ρ2 H2 l u L2 a2 re2 r2 h2 => ?_
    cases r2
    refine tG_bind a2.rl re2 h2 fun ρ3 H3 l u L3 a3 re3 r3 h3 => ?_
    cases r3
    exact ⟨ρ3, L3, a, a3.rl, (r1.mono a2.pre a2.kp).mono a3.pre a3.kp, out_of h3⟩

/-! ### built-in calls -/
theorem CallR.imp {f : Value} {r r' : List V → Hp → VK → Prop} (h : CallR X f r) (i : ∀ xs H Q, r' xs H Q → r xs H Q) : CallR X f r' := fun pins s σ H xs us Q I rs q => h pins s σ H xs us Q I rs (i _ _ _ q)
theorem tCBN {o : List W → LH → OV} {f : ExL} {σ : L2.St} {H : Hp} {Q : VK} (q : tEx Γ Wx (cOpL o f) σ H Q) : tCB (vN Γ o) (tExL Γ Wx f) σ H Q := by
  obtain ⟨ρ, env, L, rl, re, h⟩ := q
  refine tG_bind rl re h fun ρ1 H1 a v L1 a1 re1 r1 h1 => ?_
  exact ⟨ρ1, L1, a, a1.rl, r1, out_of h1⟩
theorem d_callB {id : String} {x : Str} {o : List W → LH → OV} {p : Pos} {e : Expr} {es : List Expr} {f : ExL} (hc : Good X Γ k Wx → CallR X (.builtin id) (vN Γ o)) (hv : bootBuiltins x = some (.builtin id)) (hn : x ≠ "__name__") (hdb : (x == ("__debug__" : Str)) = false)
    (hm : X.mg x = none) (ha : DA X Γ k Wx (e :: es) f) (hg : Gl X x) (he : starEach (e :: es) X.env = (false, eval e X.env) :: starEach es X.env) (hpl : (backTo pos (starEach es X.env)).any (·.1) = false) : DE X Γ k Wx (.Call (.Name x p) (e :: es) [] pos) (cOpL o f) := fun g =>
  PE.imp (pe_callB (hc g) hg hm hv (ha g) hn hdb he hpl) fun σ H Q q => tCBN q
theorem d_callT {id : String} {x : Str} {o : List W → LH → OV} {p : Pos} {e : Expr} {es : List Expr} {f : ExL} (hc : Good X Γ k Wx → CallR X (.type id) (vN Γ o)) (hv : bootBuiltins x = some (.type id)) (hn : x ≠ "__name__") (hdb : (x == ("__debug__" : Str)) = false)
    (hm : X.mg x = none) (ha : DA X Γ k Wx (e :: es) f) (hg : Gl X x) (he : starEach (e :: es) X.env = (false, eval e X.env) :: starEach es X.env) (hpl : (backTo pos (starEach es X.env)).any (·.1) = false) : DE X Γ k Wx (.Call (.Name x p) (e :: es) [] pos) (cOpL o f) := fun g =>
  PE.imp (pe_callTy (hc g) hg hm hv (ha g) hn hdb he hpl) fun σ H Q q => tCBN q
theorem RWs.one_inv {a : W} {xs : List V} (r : RWs Γ ρ H [a] xs) : ∃ x, xs = [x] ∧ RW Γ ρ H a x := by
  cases r with
  | cons r t => cases t; exact ⟨_, rfl, r⟩
theorem RWs.two_inv {a b : W} {xs : List V} (r : RWs Γ ρ H [a, b] xs) : ∃ x y, xs = [x, y] ∧ RW Γ ρ H a x ∧ RW Γ ρ H b y := by
  cases r with
  | cons r t => obtain ⟨y, rfl, s⟩ := t.one_inv; exact ⟨_, _, rfl, r, s⟩

/-- len -/
def lenW (a : W) (L : LH) : Option Nat := match a with
  | .str y => if y.length ≤ 16777216 then some y.length else none
  | _ => match dicW a L with
    | some kvs => some kvs.length
    | none => (seqW a L).map List.length
def oLen : List W → LH → OV
  | [a], L => (lenW a L).map fun n => (.int n, L)
  | _, _ => none
theorem c_len (g : Good X Γ k Wx) : CallR X (.builtin "len") (vN Γ oLen) := by
  refine CallR.imp (call_len.or call_lenD) fun xs H Q h => ?_
  obtain ⟨ρ, L, as, rl, ra, h⟩ := h
  unfold oLen at h
  split at h
  · rename_i a
    replace ra := ra.one_inv; obtain ⟨x, rfl, ra⟩ := ra
    cases e : lenW a L with
    | none => rw [e] at h; exact h.elim
    | some n =>
      rw [e] at h
      have q := h.here rl (.int _)
      unfold lenW at e
      split at e
      · split at e
        · rename_i hz; cases e; cases ra; exact .inl ⟨_, _, rfl, ⟨by rw [line_eq]; exact hz, rfl⟩, q⟩
        · cases e
      · split at e
        · rename_i kvs ed
          cases e
          obtain ⟨m, p, vs, rfl, eo, rfl, ep, eh, rk⟩ := dicW_inv rl ra ed
          rw [rk.length] at q
          exact .inr ⟨p, vs, rfl, eh, q⟩
        · cases es : seqW a L with
          | none => rw [es] at e; cases e
          | some ws =>
            rw [es] at e; cases e
            obtain ⟨p, vs, rfl, s, r⟩ := seqW_inv rl ra es
            rw [← g.K] at s
            refine .inl ⟨_, _, rfl, ?_, q⟩
            rcases s with s | s
            · exact .inl ⟨vs, s, r.length⟩
            · exact .inr ⟨vs, s, r.length⟩
  · exact h.elim
theorem d_len {p : Pos} {e : Expr} {es : List Expr} {f : ExL} (hm : X.mg "len" = none) (ha : DA X Γ k Wx (e :: es) f) (hg : Gl X "len" := by rfl) (he : starEach (e :: es) X.env = (false, eval e X.env) :: starEach es X.env := by rfl) (hpl : (backTo pos (starEach es X.env)).any (·.1) = false := by rfl) : DE X Γ k Wx (.Call (.Name "len" p) (e :: es) [] pos) (cOpL oLen f) :=
  d_callB c_len PySem.boot_len (by decide) (by decide) hm ha hg he hpl
/-- int -/
def oInt : List W → LH → OV
  | [.int i], L => some (.int i, L)
  | [.bl b], L => some (.int (if b then 1 else 0), L)
  | [.str x], L => match PySem.intText? x with
    | some n => if x.length ≤ 640 then some (.int n, L) else none
    | none => none
  | _, _ => none
theorem c_int (g : Good X Γ k Wx) : CallR X (.type "int") (vN Γ oInt) := by
  refine CallR.imp (call_int1.or call_int_str) fun xs H Q h => ?_
  obtain ⟨ρ, L, as, rl, ra, h⟩ := h
  unfold oInt at h
  split at h
  · replace ra := ra.one_inv; obtain ⟨x, rfl, ra⟩ := ra; cases ra; exact .inl (.inl ⟨_, rfl, h.here rl (.int _)⟩)
  · replace ra := ra.one_inv; obtain ⟨x, rfl, ra⟩ := ra; cases ra; exact .inl (.inr ⟨_, rfl, h.here rl (.int _)⟩)
  · rename_i y
    cases e : PySem.intText? y with
    | none => simp only [e] at h; exact h.elim
    | some n =>
      simp only [e] at h
      split at h
      · rename_i hz; replace ra := ra.one_inv; obtain ⟨x, rfl, ra⟩ := ra; cases ra; exact .inr ⟨_, n, rfl, e, hz, h.here rl (.int _)⟩
      · exact h.elim
  · exact h.elim
theorem boot_int_ : bootBuiltins "int" = some (.type "int") := by decide +kernel
theorem d_intC {p : Pos} {e : Expr} {es : List Expr} {f : ExL} (hm : X.mg "int" = none) (ha : DA X Γ k Wx (e :: es) f) (hg : Gl X "int" := by rfl) (he : starEach (e :: es) X.env = (false, eval e X.env) :: starEach es X.env := by rfl) (hpl : (backTo pos (starEach es X.env)).any (·.1) = false := by rfl) : DE X Γ k Wx (.Call (.Name "int" p) (e :: es) [] pos) (cOpL oInt f) :=
  d_callT c_int boot_int_ (by decide) (by decide) hm ha hg he hpl
/-- str -/
def oStr : List W → LH → OV
  | [.int i], L => if i.natAbs.log2 < 1920 then some (.str (toString i), L) else none
  | [.str x], L => some (.str x, L)
  | _, _ => none
theorem c_str (g : Good X Γ k Wx) : CallR X (.type "str") (vN Γ oStr) := by
  refine CallR.imp (call_str_int.or SkE.call_str_str) fun xs H Q h => ?_
  obtain ⟨ρ, L, as, rl, ra, h⟩ := h
  unfold oStr at h
  split at h
  · split at h
    · rename_i hz; replace ra := ra.one_inv; obtain ⟨x, rfl, ra⟩ := ra; cases ra; exact .inl ⟨_, rfl, hz, h.here rl (.str _)⟩
    · exact h.elim
  · replace ra := ra.one_inv; obtain ⟨x, rfl, ra⟩ := ra; cases ra; exact .inr ⟨_, rfl, h.here rl (.str _)⟩
  · exact h.elim
theorem boot_str_ : bootBuiltins "str" = some (.type "str") := by decide +kernel
theorem d_strC {p : Pos} {e : Expr} {es : List Expr} {f : ExL} (hm : X.mg "str" = none) (ha : DA X Γ k Wx (e :: es) f) (hg : Gl X "str" := by rfl) (he : starEach (e :: es) X.env = (false, eval e X.env) :: starEach es X.env := by rfl) (hpl : (backTo pos (starEach es X.env)).any (·.1) = false := by rfl) : DE X Γ k Wx (.Call (.Name "str" p) (e :: es) [] pos) (cOpL oStr f) :=
  d_callT c_str boot_str_ (by decide) (by decide) hm ha hg he hpl
/-- abs -/
def oAbs : List W → LH → OV
  | [.int i], L => some (.int (if i < 0 then -i else i), L)
  | _, _ => none
theorem c_abs (g : Good X Γ k Wx) : CallR X (.builtin "abs") (vN Γ oAbs) := by
  refine CallR.imp call_abs fun xs H Q h => ?_
  obtain ⟨ρ, L, as, rl, ra, h⟩ := h
  unfold oAbs at h
  split at h
  · replace ra := ra.one_inv; obtain ⟨x, rfl, ra⟩ := ra; cases ra; exact ⟨_, rfl, h.here rl (.int _)⟩
  · exact h.elim
theorem boot_abs_ : bootBuiltins "abs" = some (.builtin "abs") := by decide +kernel
theorem d_abs {p : Pos} {e : Expr} {es : List Expr} {f : ExL} (hm : X.mg "abs" = none) (ha : DA X Γ k Wx (e :: es) f) (hg : Gl X "abs" := by rfl) (he : starEach (e :: es) X.env = (false, eval e X.env) :: starEach es X.env := by rfl) (hpl : (backTo pos (starEach es X.env)).any (·.1) = false := by rfl) : DE X Γ k Wx (.Call (.Name "abs" p) (e :: es) [] pos) (cOpL oAbs f) :=
  d_callB c_abs boot_abs_ (by decide) (by decide) hm ha hg he hpl
/-- lists of one kind -/
def intsW : List W → Option (List Int)
  | [] => some []
  | .int i :: r => (intsW r).map (i :: ·)
  | _ => none
def blsW : List W → Option (List Bool)
  | [] => some []
  | .bl i :: r => (blsW r).map (i :: ·)
  | _ => none
def strsW : List W → Option (List Str)
  | [] => some []
  | .str i :: r => (strsW r).map (i :: ·)
  | _ => none
theorem intsW_ok : ∀ {ws : List W} {vs : List V} {ns : List Int}, RWs Γ ρ H ws vs → intsW ws = some ns → vs = ns.map V.int
  | _, _, _, .nil, e => by cases e; rfl
  | .int i :: ws, _, _, .cons r t, e => by
    unfold intsW at e
    cases e1 : intsW ws with
    | none => rw [e1] at e; cases e
    | some ns => rw [e1] at e; cases e; cases r; rw [intsW_ok t e1]; rfl
  | .non :: _, _, _, .cons _ _, e => by cases e
  | .bl _ :: _, _, _, .cons _ _, e => by cases e
  | .str _ :: _, _, _, .cons _ _, e => by cases e
  | .tup _ :: _, _, _, .cons _ _, e => by cases e
  | .ref _ :: _, _, _, .cons _ _, e => by cases e
  | .ty _ :: _, _, _, .cons _ _, e => by cases e
  | .cls _ :: _, _, _, .cons _ _, e => by cases e
  | .fn _ :: _, _, _, .cons _ _, e => by cases e
  | .scr _ :: _, _, _, .cons _ _, e => by cases e
theorem blsW_ok : ∀ {ws : List W} {vs : List V} {ns : List Bool}, RWs Γ ρ H ws vs → blsW ws = some ns → vs = ns.map V.bl
  | _, _, _, .nil, e => by cases e; rfl
  | .bl i :: ws, _, _, .cons r t, e => by
    unfold blsW at e
    cases e1 : blsW ws with
    | none => rw [e1] at e; cases e
    | some ns => rw [e1] at e; cases e; cases r; rw [blsW_ok t e1]; rfl
  | .non :: _, _, _, .cons _ _, e => by cases e
  | .int _ :: _, _, _, .cons _ _, e => by cases e
  | .str _ :: _, _, _, .cons _ _, e => by cases e
  | .tup _ :: _, _, _, .cons _ _, e => by cases e
  | .ref _ :: _, _, _, .cons _ _, e => by cases e
  | .ty _ :: _, _, _, .cons _ _, e => by cases e
  | .cls _ :: _, _, _, .cons _ _, e => by cases e
  | .fn _ :: _, _, _, .cons _ _, e => by cases e
  | .scr _ :: _, _, _, .cons _ _, e => by cases e
theorem strsW_ok : ∀ {ws : List W} {vs : List V} {ns : List Str}, RWs Γ ρ H ws vs → strsW ws = some ns → vs = ns.map V.str
  | _, _, _, .nil, e => by cases e; rfl
  | .str i :: ws, _, _, .cons r t, e => by
    unfold strsW at e
    cases e1 : strsW ws with
    | none => rw [e1] at e; cases e
    | some ns => rw [e1] at e; cases e; cases r; rw [strsW_ok t e1]; rfl
  | .non :: _, _, _, .cons _ _, e => by cases e
  | .int _ :: _, _, _, .cons _ _, e => by cases e
  | .bl _ :: _, _, _, .cons _ _, e => by cases e
  | .tup _ :: _, _, _, .cons _ _, e => by cases e
  | .ref _ :: _, _, _, .cons _ _, e => by cases e
  | .ty _ :: _, _, _, .cons _ _, e => by cases e
  | .cls _ :: _, _, _, .cons _ _, e => by cases e
  | .fn _ :: _, _, _, .cons _ _, e => by cases e
  | .scr _ :: _, _, _, .cons _ _, e => by cases e
/-- a list's items of one kind -/
def lstOf {α : Type} (f : List W → Option (List α)) (L : LH) : List W → Option (List α)
  | [.ref n] => (seqL L n).bind f
  | [.scr ns] => f (ns.map .int)
  | _ => none
theorem lstOf_inv {α : Type} {f : List W → Option (List α)} {h : α → V} (hf : ∀ {ws : List W} {vs : List V} {ns : List α}, RWs Γ ρ H ws vs → f ws = some ns → vs = ns.map h) {L : LH} {as : List W} {xs : List V} {ns : List α} (rl : RL Γ ρ L H) (ra : RWs Γ ρ H as xs)
    (e : lstOf f L as = some ns) : ∃ a, xs = [V.ref a] ∧ SqL Γ.K H a (ns.map h) := by
  unfold lstOf at e
  split at e
  · replace ra := ra.one_inv; obtain ⟨x, rfl, ra⟩ := ra
    rename_i n
    cases es : seqL L n with
    | none => rw [es] at e; cases e
    | some ws =>
      rw [es] at e
      obtain ⟨p, vs, rfl, s, r, _⟩ := rl.seq ra es
      rw [hf r e] at s
      exact ⟨p, rfl, s⟩
  · replace ra := ra.one_inv; obtain ⟨x, rfl, ra⟩ := ra
    rename_i ms
    cases ra with
    | scr q =>
      have s := sqScr (H := H) q
      rw [hf (RWs.ints (ρ := ρ) (H := H) (Γ := Γ) ms) e] at s
      exact ⟨_, rfl, s⟩
  · cases e
def oSum (as : List W) (L : LH) : OV := (lstOf intsW L as).map fun ns => (.int ns.sum, L)
theorem c_sum (g : Good X Γ k Wx) : CallR X (.builtin "sum") (vN Γ oSum) := by
  refine CallR.imp (cr_sum g.calm) fun xs H Q h => ?_
  obtain ⟨ρ, L, as, rl, ra, h⟩ := h
  unfold oSum at h
  cases e : lstOf intsW L as with
  | none => rw [e] at h; exact h.elim
  | some ns =>
    rw [e] at h
    obtain ⟨a, rfl, s⟩ := lstOf_inv intsW_ok rl ra e
    exact ⟨a, ns, rfl, by rw [g.K]; exact s, h.here rl (.int _)⟩
theorem boot_sum_ : bootBuiltins "sum" = some (.builtin "sum") := by decide +kernel
theorem d_sum {p : Pos} {e : Expr} {es : List Expr} {f : ExL} (hm : X.mg "sum" = none) (ha : DA X Γ k Wx (e :: es) f) (hg : Gl X "sum" := by rfl) (he : starEach (e :: es) X.env = (false, eval e X.env) :: starEach es X.env := by rfl) (hpl : (backTo pos (starEach es X.env)).any (·.1) = false := by rfl) : DE X Γ k Wx (.Call (.Name "sum" p) (e :: es) [] pos) (cOpL oSum f) :=
  d_callB c_sum boot_sum_ (by decide) (by decide) hm ha hg he hpl
def oAny (as : List W) (L : LH) : OV := (lstOf blsW L as).map fun ns => (.bl (ns.any id), L)
def oAll (as : List W) (L : LH) : OV := (lstOf blsW L as).map fun ns => (.bl (ns.all id), L)
theorem c_any (g : Good X Γ k Wx) : CallR X (.builtin "any") (vN Γ oAny) := by
  refine CallR.imp (cr_any g.calm) fun xs H Q h => ?_
  obtain ⟨ρ, L, as, rl, ra, h⟩ := h
  unfold oAny at h
  cases e : lstOf blsW L as with
  | none => rw [e] at h; exact h.elim
  | some ns =>
    rw [e] at h
    obtain ⟨a, rfl, s⟩ := lstOf_inv blsW_ok rl ra e
    exact ⟨a, ns, rfl, by rw [g.K]; exact s, h.here rl (.bl _)⟩
theorem c_all (g : Good X Γ k Wx) : CallR X (.builtin "all") (vN Γ oAll) := by
  refine CallR.imp (cr_all g.calm) fun xs H Q h => ?_
  obtain ⟨ρ, L, as, rl, ra, h⟩ := h
  unfold oAll at h
  cases e : lstOf blsW L as with
  | none => rw [e] at h; exact h.elim
  | some ns =>
    rw [e] at h
    obtain ⟨a, rfl, s⟩ := lstOf_inv blsW_ok rl ra e
    exact ⟨a, ns, rfl, by rw [g.K]; exact s, h.here rl (.bl _)⟩
theorem boot_any_ : bootBuiltins "any" = some (.builtin "any") := by decide +kernel
theorem boot_all_ : bootBuiltins "all" = some (.builtin "all") := by decide +kernel
theorem d_any {p : Pos} {e : Expr} {es : List Expr} {f : ExL} (hm : X.mg "any" = none) (ha : DA X Γ k Wx (e :: es) f) (hg : Gl X "any" := by rfl) (he : starEach (e :: es) X.env = (false, eval e X.env) :: starEach es X.env := by rfl) (hpl : (backTo pos (starEach es X.env)).any (·.1) = false := by rfl) : DE X Γ k Wx (.Call (.Name "any" p) (e :: es) [] pos) (cOpL oAny f) :=
  d_callB c_any boot_any_ (by decide) (by decide) hm ha hg he hpl
theorem d_all {p : Pos} {e : Expr} {es : List Expr} {f : ExL} (hm : X.mg "all" = none) (ha : DA X Γ k Wx (e :: es) f) (hg : Gl X "all" := by rfl) (he : starEach (e :: es) X.env = (false, eval e X.env) :: starEach es X.env := by rfl) (hpl : (backTo pos (starEach es X.env)).any (·.1) = false := by rfl) : DE X Γ k Wx (.Call (.Name "all" p) (e :: es) [] pos) (cOpL oAll f) :=
  d_callB c_all boot_all_ (by decide) (by decide) hm ha hg he hpl
/-- max, min -/
def maxI : List Int → Int
  | [] => 0
  | [a] => a
  | a :: r => let m := maxI r; if m > a then m else a
def minI : List Int → Int
  | [] => 0
  | [a] => a
  | a :: r => let m := minI r; if m < a then m else a
theorem maxI_is : ∀ {ns : List Int} {m : Int}, m ∈ ns → (∀ y, y ∈ ns → y ≤ m) → m = maxI ns
  | [a], m, h, _ => by simp at h; exact h
  | a :: b :: r, m, h, hm => by
    have h1 : m = maxI (b :: r) ∨ (m = a ∧ maxI (b :: r) ≤ m) := by
      by_cases hb : m ∈ b :: r
      · exact .inl (maxI_is hb fun y hy => hm y (List.mem_cons_of_mem _ hy))
      · have ea : m = a := by
          rcases List.mem_cons.mp h with e | e
          · exact e
          · exact absurd e hb
        refine .inr ⟨ea, ?_⟩
        have mem : ∀ (l : List Int), l ≠ [] → maxI l ∈ l := by
          intro l
          induction l with
          | nil => intro z; exact absurd rfl z
          | cons x t ih =>
            intro _
            cases t with
            | nil => simp [maxI]
            | cons y u =>
              have := ih (by simp)
              show (if maxI (y :: u) > x then maxI (y :: u) else x) ∈ _
              split
              · exact List.mem_cons_of_mem _ this
              · exact List.mem_cons_self
        exact hm _ (List.mem_cons_of_mem _ (mem _ (by simp)))
    have h2 : a ≤ m := hm a List.mem_cons_self
    show m = if maxI (b :: r) > a then maxI (b :: r) else a
    split <;> omega
theorem minI_is : ∀ {ns : List Int} {m : Int}, m ∈ ns → (∀ y, y ∈ ns → m ≤ y) → m = minI ns
  | [a], m, h, _ => by simp at h; exact h
  | a :: b :: r, m, h, hm => by
    have h1 : m = minI (b :: r) ∨ (m = a ∧ m ≤ minI (b :: r)) := by
      by_cases hb : m ∈ b :: r
      · exact .inl (minI_is hb fun y hy => hm y (List.mem_cons_of_mem _ hy))
      · have ea : m = a := by
          rcases List.mem_cons.mp h with e | e
          · exact e
          · exact absurd e hb
        refine .inr ⟨ea, ?_⟩
        have mem : ∀ (l : List Int), l ≠ [] → minI l ∈ l := by
          intro l
          induction l with
          | nil => intro z; exact absurd rfl z
          | cons x t ih =>
            intro _
            cases t with
            | nil => simp [minI]
            | cons y u =>
              have := ih (by simp)
              show (if minI (y :: u) < x then minI (y :: u) else x) ∈ _
              split
              · exact List.mem_cons_of_mem _ this
              · exact List.mem_cons_self
        exact hm _ (List.mem_cons_of_mem _ (mem _ (by simp)))
    have h2 : m ≤ a := hm a List.mem_cons_self
    show m = if minI (b :: r) < a then minI (b :: r) else a
    split <;> omega
def oMax : List W → LH → OV
  | [.int i, .int j], L => some (.int (if j > i then j else i), L)
  | as, L => match lstOf intsW L as with
    | some ns => if 0 < ns.length then some (.int (maxI ns), L) else none
    | none => none
def oMin : List W → LH → OV
  | [.int i, .int j], L => some (.int (if j < i then j else i), L)
  | as, L => match lstOf intsW L as with
    | some ns => if 0 < ns.length then some (.int (minI ns), L) else none
    | none => none
theorem c_max (g : Good X Γ k Wx) : CallR X (.builtin "max") (vN Γ oMax) := by
  refine CallR.imp ((call_max2 g.calm).or (cr_max g.calm)) fun xs H Q h => ?_
  obtain ⟨ρ, L, as, rl, ra, h⟩ := h
  unfold oMax at h
  split at h
  · obtain ⟨x, y, rfl, r1, r2⟩ := ra.two_inv
    cases r1; cases r2
    exact .inl ⟨_, _, rfl, h.here rl (.int _)⟩
  · split at h
    · rename_i ns e
      split at h
      · rename_i hz
        obtain ⟨a, rfl, s⟩ := lstOf_inv intsW_ok rl ra e
        refine .inr ⟨a, ns, rfl, by rw [g.K]; exact s, hz, fun m h1 h2 => ?_⟩
        rw [maxI_is h1 h2]
        exact h.here rl (.int _)
      · exact h.elim
    · exact h.elim
theorem c_min (g : Good X Γ k Wx) : CallR X (.builtin "min") (vN Γ oMin) := by
  refine CallR.imp ((call_min2 g.calm).or (cr_min g.calm)) fun xs H Q h => ?_
  obtain ⟨ρ, L, as, rl, ra, h⟩ := h
  unfold oMin at h
  split at h
  · obtain ⟨x, y, rfl, r1, r2⟩ := ra.two_inv
    cases r1; cases r2
    exact .inl ⟨_, _, rfl, h.here rl (.int _)⟩
  · split at h
    · rename_i ns e
      split at h
      · rename_i hz
        obtain ⟨a, rfl, s⟩ := lstOf_inv intsW_ok rl ra e
        refine .inr ⟨a, ns, rfl, by rw [g.K]; exact s, hz, fun m h1 h2 => ?_⟩
        rw [minI_is h1 h2]
        exact h.here rl (.int _)
      · exact h.elim
    · exact h.elim
theorem boot_max_ : bootBuiltins "max" = some (.builtin "max") := by decide +kernel
theorem boot_min_ : bootBuiltins "min" = some (.builtin "min") := by decide +kernel
theorem d_max {p : Pos} {e : Expr} {es : List Expr} {f : ExL} (hm : X.mg "max" = none) (ha : DA X Γ k Wx (e :: es) f) (hg : Gl X "max" := by rfl) (he : starEach (e :: es) X.env = (false, eval e X.env) :: starEach es X.env := by rfl) (hpl : (backTo pos (starEach es X.env)).any (·.1) = false := by rfl) : DE X Γ k Wx (.Call (.Name "max" p) (e :: es) [] pos) (cOpL oMax f) :=
  d_callB c_max boot_max_ (by decide) (by decide) hm ha hg he hpl
theorem d_min {p : Pos} {e : Expr} {es : List Expr} {f : ExL} (hm : X.mg "min" = none) (ha : DA X Γ k Wx (e :: es) f) (hg : Gl X "min" := by rfl) (he : starEach (e :: es) X.env = (false, eval e X.env) :: starEach es X.env := by rfl) (hpl : (backTo pos (starEach es X.env)).any (·.1) = false := by rfl) : DE X Γ k Wx (.Call (.Name "min" p) (e :: es) [] pos) (cOpL oMin f) :=
  d_callB c_min boot_min_ (by decide) (by decide) hm ha hg he hpl
/-- list, tuple -/
def oList : List W → LH → OV
  | [a], L => match seqW a L with
    | some ws => some (.ref L.length, L ++ [.lst ws])
    | none => none
  | _, _ => none
theorem c_list (g : Good X Γ k Wx) : CallR X (.type "list") (vN Γ oList) := by
  refine CallR.imp call_list_of fun xs H Q h => ?_
  obtain ⟨ρ, L, as, rl, ra, h⟩ := h
  unfold oList at h
  split at h
  · replace ra := ra.one_inv; obtain ⟨x, rfl, ra⟩ := ra
    split at h
    · rename_i ws es
      obtain ⟨p, vs, rfl, s, r⟩ := seqW_inv rl ra es
      exact ⟨p, vs, rfl, by rw [g.K]; exact s, h.lst rl r⟩
    · exact h.elim
  · exact h.elim
theorem boot_list_ : bootBuiltins "list" = some (.type "list") := by decide +kernel
theorem d_list {p : Pos} {e : Expr} {es : List Expr} {f : ExL} (hm : X.mg "list" = none) (ha : DA X Γ k Wx (e :: es) f) (hg : Gl X "list" := by rfl) (he : starEach (e :: es) X.env = (false, eval e X.env) :: starEach es X.env := by rfl) (hpl : (backTo pos (starEach es X.env)).any (·.1) = false := by rfl) : DE X Γ k Wx (.Call (.Name "list" p) (e :: es) [] pos) (cOpL oList f) :=
  d_callT c_list boot_list_ (by decide) (by decide) hm ha hg he hpl
def oTuple : List W → LH → OV
  | [.tup ws], L => some (.tup ws, L)
  | [.ref n], L => match seqL L n with
    | some ws => some (.tup ws, L)
    | none => none
  | _, _ => none
theorem c_tuple (g : Good X Γ k Wx) : CallR X (.type "tuple") (vN Γ oTuple) := by
  refine CallR.imp call_tuple_of fun xs H Q h => ?_
  obtain ⟨ρ, L, as, rl, ra, h⟩ := h
  unfold oTuple at h
  split at h
  · replace ra := ra.one_inv; obtain ⟨x, rfl, ra⟩ := ra
    obtain ⟨p, vs, rfl, s, r⟩ := ra.tup_inv
    exact ⟨p, vs, rfl, .inr ⟨by rw [g.K]; exact s, h.here rl ra⟩⟩
  · replace ra := ra.one_inv; obtain ⟨x, rfl, ra⟩ := ra
    split at h
    · rename_i ws es
      obtain ⟨p, vs, rfl, s, r, _⟩ := rl.seq ra es
      exact ⟨p, vs, rfl, .inl ⟨by rw [g.K]; exact s, h.tup rl r⟩⟩
    · exact h.elim
  · exact h.elim
theorem boot_tuple_ : bootBuiltins "tuple" = some (.type "tuple") := by decide +kernel
theorem d_tupleC {p : Pos} {e : Expr} {es : List Expr} {f : ExL} (hm : X.mg "tuple" = none) (ha : DA X Γ k Wx (e :: es) f) (hg : Gl X "tuple" := by rfl) (he : starEach (e :: es) X.env = (false, eval e X.env) :: starEach es X.env := by rfl) (hpl : (backTo pos (starEach es X.env)).any (·.1) = false := by rfl) : DE X Γ k Wx (.Call (.Name "tuple" p) (e :: es) [] pos) (cOpL oTuple f) :=
  d_callT c_tuple boot_tuple_ (by decide) (by decide) hm ha hg he hpl
end
end Z

/-! Z5: statements, targets, loops. -/
namespace Z
open PySem PySem.Spec PyProof.Rows L2

inductive SRes where
  | nx (env : Env) (L : LH) | rt (w : W) (L : LH) | bk (env : Env) (L : LH) | ct (env : Env) (L : LH) | exc (e : Exn) (env : Env) (L : LH) | stk
abbrev Sx := Env → LH → SRes
def SOut (Γ : Ctx) (Wx : WX) (ρ : List Addr) (H : Hp) (r : SRes) (D : Ends) : Prop := match r with
  | .nx env' L' => ∀ ρ' H' σ', Aft Γ ρ H L' ρ' H' → REnv Γ ρ' H' env' σ' → D.nx σ' H'
  | .rt w L' => ∀ ρ' H' v, Aft Γ ρ H L' ρ' H' → RW Γ ρ' H' w v → D.rt v H'
  | .bk env' L' => ∀ ρ' H' σ', Aft Γ ρ H L' ρ' H' → REnv Γ ρ' H' env' σ' → D.bk σ' H'
  | .ct env' L' => ∀ ρ' H' σ', Aft Γ ρ H L' ρ' H' → REnv Γ ρ' H' env' σ' → D.ct σ' H'
  | .exc e env' L' => ∀ ρ' H' σ' c d, Aft Γ ρ H L' ρ' H' → REnv Γ ρ' H' env' σ' → RExn Γ ρ' H' e c d → Wx c d σ' H'
  | .stk => False
def tSx (Γ : Ctx) (Wx : WX) (f : Sx) : TS := fun D σ H => ∃ ρ env L, RL Γ ρ L H ∧ REnv Γ ρ H env σ ∧ SOut Γ Wx ρ H (f env L) D
def DS (X : Cx) (Γ : Ctx) (k : Nat) (Wx : WX) (st : Stmt) (f : Sx) : Prop := Good X Γ k Wx → PS X st (tSx Γ Wx f)
def DSs (X : Cx) (Γ : Ctx) (k : Nat) (Wx : WX) (st : List Stmt) (f : Sx) : Prop := Good X Γ k Wx → PSs X st (tSx Γ Wx f)
theorem PS.imp {X : Cx} {st : Stmt} {t t' : TS} (h : PS X st t) (i : ∀ D σ H, t' D σ H → t D σ H) : PS X st t' := ⟨fun pins s σ H D I q => h.run pins s σ H D I (i D σ H q)⟩
theorem PSs.imp {X : Cx} {st : List Stmt} {t t' : TS} (h : PSs X st t) (i : ∀ D σ H, t' D σ H → t D σ H) : PSs X st t' := ⟨fun pins s σ H D I q => h.run pins s σ H D I (i D σ H q)⟩
theorem SOut.rebase {Γ : Ctx} {Wx : WX} {ρ ρ1 : List Addr} {H H1 : Hp} {L1 : LH} {r : SRes} {D : Ends} (a : Aft Γ ρ H L1 ρ1 H1) (h : SOut Γ Wx ρ H r D) : SOut Γ Wx ρ1 H1 r D := by
  cases r with
  | nx env' L' => exact fun ρ' H' v b r => h ρ' H' v (a.trans b) r
  | rt env' L' => exact fun ρ' H' v b r => h ρ' H' v (a.trans b) r
  | bk env' L' => exact fun ρ' H' v b r => h ρ' H' v (a.trans b) r
  | ct env' L' => exact fun ρ' H' v b r => h ρ' H' v (a.trans b) r
  | exc e env' L' => exact fun ρ' H' v c d b r => h ρ' H' v c d (a.trans b) r
  | stk => exact h
/-- an expression within a statement -/
def Res.toS {α : Type} (r : Res α) (env : Env) (k : α → LH → SRes) : SRes := match r with
  | .ok a L => k a L
  | .exc e L => .exc e env L
  | .stk => .stk
theorem tG_toS {α β : Type} {R : List Addr → Hp → α → β → Prop} {Γ : Ctx} {Wx : WX} {σ : L2.St} {ρ : List Addr} {H : Hp} {L : LH} {env : Env} {f : Env → LH → Res α} {k : α → LH → SRes} {D : Ends} {Q1 : β → Hp → Prop}
    (rl : RL Γ ρ L H) (re : REnv Γ ρ H env σ) (h : SOut Γ Wx ρ H ((f env L).toS env k) D)
    (next : ∀ ρ1 H1 w v L1, f env L = .ok w L1 → Aft Γ ρ H L1 ρ1 H1 → REnv Γ ρ1 H1 env σ → R ρ1 H1 w v → SOut Γ Wx ρ1 H1 (k w L1) D → Q1 v H1) : tG R Γ Wx f σ H Q1 := by
  refine ⟨ρ, env, L, rl, re, ?_⟩
  cases hf : f env L with
  | ok w L1 =>
    rw [hf] at h
    exact fun ρ1 H1 v a r => next ρ1 H1 w v L1 hf a (re.mono a.pre a.kp) r (h.rebase a)
  | exc e L1 =>
    rw [hf] at h
    exact fun ρ1 H1 c d a r => h ρ1 H1 σ c d a (re.mono a.pre a.kp) r
  | stk => rw [hf] at h; exact h
section
variable {X : Cx} {Γ : Ctx} {k : Nat} {Wx : WX} {pos : Pos}
def sSkip : Sx := fun env L => .nx env L
def sStk : Sx := fun _ _ => .stk
def sSeq (a b : Sx) : Sx := fun env L => match a env L with
  | .nx env' L' => b env' L'
  | r => r
theorem dss_nil : DSs X Γ k Wx [] sSkip := fun g => PSs.imp pss_nil fun D σ H h => by
  obtain ⟨ρ, env, L, rl, re, h⟩ := h
  exact h ρ H σ (.refl rl) re
theorem SOut.seq {ρ : List Addr} {H : Hp} {a b : Sx} {env : Env} {L : LH} {D : Ends} (h : SOut Γ Wx ρ H (sSeq a b env L) D) : SOut Γ Wx ρ H (a env L) { D with nx := tSx Γ Wx b D } := by
  unfold sSeq at h
  cases e : a env L with
  | nx env' L' => rw [e] at h; exact fun ρ' H' σ' af re => ⟨ρ', env', L', af.rl, re, h.rebase af⟩
  | rt w L' => rw [e] at h; exact h
  | bk w L' => rw [e] at h; exact h
  | ct w L' => rw [e] at h; exact h
  | exc e w L' => rw [e] at h; exact h
  | stk => rw [e] at h; exact h
theorem dss_cons {st : Stmt} {rest : List Stmt} {a b : Sx} (h1 : DS X Γ k Wx st a) (h2 : DSs X Γ k Wx rest b) : DSs X Γ k Wx (st :: rest) (sSeq a b) := fun g =>
  PSs.imp (pss_cons (h1 g) (h2 g)) fun D σ H h => by
    obtain ⟨ρ, env, L, rl, re, h⟩ := h
    exact ⟨ρ, env, L, rl, re, h.seq⟩
theorem dss_one {st : Stmt} {a : Sx} (h1 : DS X Γ k Wx st a) : DSs X Γ k Wx [st] a := fun g => pss_one (h1 g)
/-- what is never reached -/
theorem ds_stk {st : Stmt} : DS X Γ k Wx st sStk := fun g => PS.imp ps_never fun D σ H h => by
  obtain ⟨ρ, env, L, rl, re, h⟩ := h
  exact h
theorem dss_stk {st : List Stmt} : DSs X Γ k Wx st sStk := fun g => PSs.imp pss_never fun D σ H h => by
  obtain ⟨ρ, env, L, rl, re, h⟩ := h
  exact h
theorem ds_pass : DS X Γ k Wx (.Pass pos) sSkip := fun g => PS.imp ps_pass fun D σ H h => by
  obtain ⟨ρ, env, L, rl, re, h⟩ := h
  exact h ρ H σ (.refl rl) re
def sBrk : Sx := fun env L => .bk env L
def sCnt : Sx := fun env L => .ct env L
theorem ds_brk : DS X Γ k Wx (.Break pos) sBrk := fun g => PS.imp ps_break fun D σ H h => by
  obtain ⟨ρ, env, L, rl, re, h⟩ := h
  exact h ρ H σ (.refl rl) re
theorem ds_cnt : DS X Γ k Wx (.Continue pos) sCnt := fun g => PS.imp ps_continue fun D σ H h => by
  obtain ⟨ρ, env, L, rl, re, h⟩ := h
  exact h ρ H σ (.refl rl) re
def sExpr (f : Ex) : Sx := fun env L => (f env L).toS env fun _ L1 => .nx env L1
theorem ds_expr {e : Expr} {f : Ex} (he : DE X Γ k Wx e f) (hs : swapsWith e none pos.line X.env = pure false := by rfl) : DS X Γ k Wx (.Expr e pos) (sExpr f) := fun g =>
  PS.imp (ps_expr (he g) hs) fun D σ H h => by
    obtain ⟨ρ, env, L, rl, re, h⟩ := h
    exact tG_toS rl re h fun ρ1 H1 a v L1 _ a1 re1 r1 h1 => h1 ρ1 H1 σ (.refl a1.rl) re1
def sRet (f : Ex) : Sx := fun env L => (f env L).toS env fun w L1 => .rt w L1
theorem ds_ret {e : Expr} {f : Ex} (he : DE X Γ k Wx e f) : DS X Γ k Wx (.Return (some e) pos) (sRet f) := fun g =>
  PS.imp (ps_ret (he g)) fun D σ H h => by
    obtain ⟨ρ, env, L, rl, re, h⟩ := h
    exact tG_toS rl re h fun ρ1 H1 a v L1 _ a1 re1 r1 h1 => h1 ρ1 H1 v (.refl a1.rl) r1
def sRetN : Sx := fun env L => .rt .non L
theorem ds_retN : DS X Γ k Wx (.Return none pos) sRetN := fun g => PS.imp ps_retN fun D σ H h => by
  obtain ⟨ρ, env, L, rl, re, h⟩ := h
  exact h ρ H _ (.refl rl) .non
def sIf (t : Bx) (a b : Sx) : Sx := fun env L => (t env L).toS env fun c L1 => if c = true then a env L1 else b env L1
theorem ds_if {c : Expr} {a b : List Stmt} {t : Bx} {f h : Sx} (hc : DT X Γ k Wx c t) (ha : DSs X Γ k Wx a f) (hb : DSs X Γ k Wx b h) : DS X Γ k Wx (.If c a b pos) (sIf t f h) := fun g =>
  PS.imp (ps_if (hc g) (ha g) (hb g)) fun D σ H q => by
    obtain ⟨ρ, env, L, rl, re, q⟩ := q
    refine tG_toS (R := RB) rl re q fun ρ1 H1 a v L1 _ a1 re1 r1 h1 => ?_
    cases r1
    cases a with
    | true => exact ⟨ρ1, env, L1, a1.rl, re1, h1⟩
    | false => exact ⟨ρ1, env, L1, a1.rl, re1, h1⟩

/-! ### targets -/
abbrev Tx := W → Env → LH → Res Env
def TOut (Γ : Ctx) (Wx : WX) (σ : L2.St) (ρ : List Addr) (H : Hp) (r : Res Env) (Q : L2.St → Hp → Prop) : Prop := match r with
  | .ok env' L' => ∀ ρ' H' σ', Aft Γ ρ H L' ρ' H' → REnv Γ ρ' H' env' σ' → Q σ' H'
  | .exc e L' => False
  | .stk => False
def tTx (Γ : Ctx) (Wx : WX) (t : Tx) : TG := fun v σ H Q => ∃ ρ env L w, RL Γ ρ L H ∧ REnv Γ ρ H env σ ∧ RW Γ ρ H w v ∧ TOut Γ Wx σ ρ H (t w env L) Q
def tTxs (Γ : Ctx) (Wx : WX) (t : List W → Env → LH → Res Env) : TGs := fun vs σ H Q => ∃ ρ env L ws, RL Γ ρ L H ∧ REnv Γ ρ H env σ ∧ RWs Γ ρ H ws vs ∧ TOut Γ Wx σ ρ H (t ws env L) Q
def DG (X : Cx) (Γ : Ctx) (k : Nat) (Wx : WX) (e : Expr) (t : Tx) : Prop := Good X Γ k Wx → PG X e (tTx Γ Wx t)
def DGs (X : Cx) (Γ : Ctx) (k : Nat) (Wx : WX) (e : List Expr) (t : List W → Env → LH → Res Env) : Prop := Good X Γ k Wx → PGs X e (tTxs Γ Wx t)
theorem PG.imp {e : Expr} {t t' : TG} (h : PG X e t) (i : ∀ v σ H Q, t' v σ H Q → t v σ H Q) : PG X e t' := by
  obtain ⟨h⟩ := h
  constructor
  intros
  apply h <;> first | assumption | exact i _ _ _ _ (by assumption)
theorem PGs.imp {e : List Expr} {t t' : TGs} (h : PGs X e t) (i : ∀ v σ H Q, t' v σ H Q → t v σ H Q) : PGs X e t' := by
  obtain ⟨h⟩ := h
  constructor
  intros
  apply h <;> first | assumption | exact i _ _ _ _ (by assumption)
theorem TOut.rebase {σ : L2.St} {ρ ρ1 : List Addr} {H H1 : Hp} {L1 : LH} {r : Res Env} {Q : L2.St → Hp → Prop} (a : Aft Γ ρ H L1 ρ1 H1) (h : TOut Γ Wx σ ρ H r Q) : TOut Γ Wx σ ρ1 H1 r Q := by
  cases r with
  | ok w L' => exact fun ρ' H' v b r => h ρ' H' v (a.trans b) r
  | exc e L' => exact h
  | stk => exact h
def gN (i : Nat) : Tx := fun w env L => .ok (env.set i (some w)) L
theorem dg_name (i : Nat) {x : Str} (hi : X.N[i]? = some x := by rfl) (hx : Loc X.env.scope x := by first | exact Or.inl rfl | exact Or.inr rfl) (hf : X.fn x = true ∨ X.env.scope.names.lookup x = some .local := by first | exact .inl rfl | exact .inr rfl) :
    DG X Γ k Wx (.Name x pos) (gN i) := fun g => PG.imp (pg_name g.nd hi hx hf) fun v σ H Q h => by
  obtain ⟨ρ, env, L, w, rl, re, r, h⟩ := h
  exact h ρ H _ (.refl rl) (re.set i r)
def gsNil : List W → Env → LH → Res Env := fun ws env L => match ws with
  | [] => .ok env L
  | _ => .stk
def gsCons (t : Tx) (u : List W → Env → LH → Res Env) : List W → Env → LH → Res Env := fun ws env L => match ws with
  | w :: r => (t w env L).bind fun env' L' => u r env' L'
  | [] => .stk
theorem dgs_nil : DGs X Γ k Wx [] gsNil := fun g => PGs.imp pgs_nil fun v σ H Q h => by
  obtain ⟨ρ, env, L, ws, rl, re, r, h⟩ := h
  unfold gsNil at h
  split at h
  · cases r; exact ⟨rfl, h ρ H _ (.refl rl) re⟩
  · exact h.elim
theorem dgs_cons {e : Expr} {es : List Expr} {t : Tx} {u : List W → Env → LH → Res Env} (h1 : DG X Γ k Wx e t) (h2 : DGs X Γ k Wx es u)
    (hs : (assignEach (e :: es) X.env).map (·.2) = assign e X.env :: (assignEach es X.env).map (·.2) := by rfl) : DGs X Γ k Wx (e :: es) (gsCons t u) := fun g => PGs.imp (pgs_cons (h1 g) (h2 g) hs) fun v σ H Q h => by
  obtain ⟨ρ, env, L, ws, rl, re, r, h⟩ := h
  unfold gsCons at h
  split at h
  · rename_i w r'
    cases r with
    | cons r1 r2 =>
      refine ⟨_, _, rfl, ρ, env, L, w, rl, re, r1, ?_⟩
      cases e : t w env L with
      | ok env' L' =>
        rw [e] at h
        exact fun ρ' H' σ' a re' => ⟨ρ', env', L', r', a.rl, re', r2.mono a.pre a.kp, TOut.rebase a h⟩
      | exc e' L' => rw [e] at h; exact h.elim
      | stk => rw [e] at h; exact h.elim
  · exact h.elim
/-- a, b, .. = a tuple -/
def gTupW (n : Nat) (u : List W → Env → LH → Res Env) : Tx := fun w env L => match w with
  | .tup ws => if ws.length = n then u ws env L else .stk
  | _ => .stk
theorem dg_tup {es : List Expr} {n : Nat} {j : Nat} {u : List W → Env → LH → Res Env} (h : DGs X Γ k Wx es u) (hn : (assignEach es X.env).length = n := by rfl) (hst : (assignEach es X.env).findIdx? (·.1) = none := by rfl) :
    DG X Γ k Wx (.Tuple es j pos) (gTupW n u) := fun g => PG.imp (pg_tup g.calm (h g) hn hst) fun v σ H Q h => by
  obtain ⟨ρ, env, L, w, rl, re, r, h⟩ := h
  unfold gTupW at h
  split at h
  · split at h
    · rename_i hl
      obtain ⟨a, vs, rfl, s, r⟩ := r.tup_inv
      exact ⟨a, vs, rfl, by rw [g.K]; exact s, by rw [← r.length]; exact hl, ρ, env, L, _, rl, re, r, h⟩
    · exact h.elim
  · exact h.elim
/-- o[i] = v -/
def oPut (o i v : W) (L : LH) : Option LH := match o with
  | .ref n => match L[n]? with
    | some (.lst xs) => match i with
      | .int j => match ixN xs.length j with
        | some m => some (L.set n (.lst (xs.set m v)))
        | none => none
      | _ => none
    | some (.dic kvs) => match keyW i with
      | some kk => if kvs.length < 16777216 then some (L.set n (.dic (putW kvs kk v))) else none
      | none => none
    | _ => none
  | _ => none
def gIx (f h : Ex) : Tx := fun w env L => (f env L).bind fun o L1 => (h env L1).bind fun i L2 => match oPut o i w L2 with
  | some L3 => .ok env L3
  | none => .stk
def sPut (f h v : Ex) : Sx := fun env L => (v env L).toS env fun w L1 => (gIx f h w env L1).toS env fun env' L2 => .nx env' L2
theorem PSet.or {t t' : TSet} (h : PSet X t) (h' : PSet X t') : PSet X (fun o i v H Q => t o i v H Q ∨ t' o i v H Q) := by
  unfold PSet at h h' ⊢
  intros
  rename_i hq
  rcases hq with hq | hq
  · apply h <;> first | assumption | exact hq
  · apply h' <;> first | assumption | exact hq
theorem PSet.imp {t t' : TSet} (h : PSet X t) (i : ∀ o i v H Q, t' o i v H Q → t o i v H Q) : PSet X t' := by
  unfold PSet at h ⊢
  intros
  apply h <;> first | assumption | exact i _ _ _ _ _ (by assumption)
end
end Z

/-! Z6: assignments, loops. -/
namespace Z
open PySem PySem.Spec PyProof.Rows L2
section
variable {X : Cx} {Γ : Ctx} {k : Nat} {Wx : WX} {pos : Pos}
def vSet (Γ : Ctx) : TSet := fun o i v H Q => ∃ ρ L a b w, RL Γ ρ L H ∧ RW Γ ρ H a o ∧ RW Γ ρ H b i ∧ RW Γ ρ H w v ∧ match oPut a b w L with
  | some L' => ∀ ρ' H', Aft Γ ρ H L' ρ' H' → Q H'
  | none => False
theorem set_all (g : Good X Γ k Wx) : PSet X (vSet Γ) := by
  refine PSet.imp (PSet.or set_list (set_dict (hu1 g))) fun o i v H Q h => ?_
  obtain ⟨ρ, L, a, b, w, rl, ra, rb, rw_, h⟩ := h
  unfold oPut at h
  split at h
  rotate_left
  · exact h.elim
  rename_i L' e
  split at e
  rotate_left
  · cases e
  rename_i n
  split at e
  · rename_i xs eo
    split at e
    rotate_left
    · cases e
    rename_i j
    split at e
    rotate_left
    · cases e
    rename_i m em
    cases e
    obtain ⟨p, vs, rfl, hp, r, ep⟩ := rl.lst ra eo
    cases rb
    refine .inl ⟨p, vs, j, m, rfl, rfl, hp, by rw [← r.length]; exact em, ?_⟩
    refine h ρ _ (.set rl eo ep ⟨_, upd_same, ?_⟩)
    exact (RWs.set rw_ m r).mono (List.prefix_refl _) (.write hp rfl)
  · rename_i kvs eo
    split at e
    rotate_left
    · cases e
    rename_i kk ek
    split at e
    rotate_left
    · cases e
    rename_i hz
    cases e
    obtain ⟨p, vs, rfl, hp, r, ep⟩ := rl.dic ra eo
    have := keyW_ok rb ek
    subst this
    refine .inr ⟨p, _, rfl, .k hp (by rw [← r.length, line_eq]; exact hz), ?_⟩
    refine h ρ _ (.set rl eo ep ⟨_, upd_same, ?_⟩)
    exact (RKs.put rw_ r).mono (List.prefix_refl _) (.write hp rfl)
  · cases e
theorem dg_sub {o i : Expr} {f h : Ex} (ho : DE X Γ k (fun _ _ _ _ => False) o f) (hi : DE X Γ k (fun _ _ _ _ => False) i h)
    (ha : ∀ v, assign (.Subscript o i pos) X.env v = (do
      let ov ← holding [v] (eval o X.env)
      let iv ← holding [v, ov] (eval i X.env)
      standAt pos
      holding [v, ov, iv] (setItem ov iv v)
      release [v, ov, iv] []) := by intro _; rfl) : DG X Γ k Wx (.Subscript o i pos) (gIx f h) := fun g => by
  have g0 : Good X Γ k (fun _ _ _ _ => False) := ⟨g.K, g.calm, g.nd, g.room, takes0, g.own⟩
  refine PG.imp (pg_sub (ho g0) (hi g0) (set_all g) ha) fun v σ H Q q => ?_
  obtain ⟨ρ, env, L, w, rl, re, r, q⟩ := q
  refine ⟨ρ, env, L, rl, re, ?_⟩
  unfold gIx at q
  cases e1 : f env L with
  | exc e L1 => rw [e1] at q; exact q.elim
  | stk => rw [e1] at q; exact q.elim
  | ok a L1 =>
    rw [e1] at q
    intro ρ1 H1 ov a1 r1
    refine ⟨ρ1, env, L1, a1.rl, re.mono a1.pre a1.kp, ?_⟩
    simp only [Res.bind] at q
    cases e2 : h env L1 with
    | exc e L1 => rw [e2] at q; exact q.elim
    | stk => rw [e2] at q; exact q.elim
    | ok b L2 =>
      rw [e2] at q
      intro ρ2 H2 iv a2 r2
      refine ⟨ρ2, L2, a, b, w, a2.rl, r1.mono a2.pre a2.kp, r2, (r.mono a1.pre a1.kp).mono a2.pre a2.kp, ?_⟩
      simp only at q
      cases e3 : oPut a b w L2 with
      | none => rw [e3] at q; exact q.elim
      | some L3 =>
        rw [e3] at q
        exact fun ρ3 H3 a3 => q ρ3 H3 σ ((a1.trans a2).trans a3) (((re.mono a1.pre a1.kp).mono a2.pre a2.kp).mono a3.pre a3.kp)
/-- what a target makes -/
def tgt (r : Res Env) : SRes := match r with
  | .ok env' L2 => .nx env' L2
  | _ => .stk
theorem tout_of {σ : L2.St} {ρ : List Addr} {H : Hp} {r : Res Env} {D : Ends} (h : SOut Γ Wx ρ H (tgt r) D) : TOut Γ Wx σ ρ H r D.nx := by
  cases r with
  | ok env' L' => exact h
  | exc e L' => exact h
  | stk => exact h
def sAs (v : Ex) (t : Tx) : Sx := fun env L => (v env L).toS env fun w L1 => tgt (t w env L1)
theorem ds_asg {tg e : Expr} {f : Ex} {t : Tx} (he : DE X Γ k Wx e f) (hg : DG X Γ k Wx tg t) (hs : swapsWithSole [tg] e pos.line X.env = pure false := by rfl) (hw : swappedStores [tg] e X.env = pure none := by rfl)
    (h1 : (assignEach [tg] X.env).map (·.2) = [assign tg X.env] := by rfl) : DS X Γ k Wx (.Assign [tg] e pos) (sAs f t) := fun g =>
  PS.imp (ps_asg (he g) (hg g) hs hw h1) fun D σ H q => by
    obtain ⟨ρ, env, L, rl, re, q⟩ := q
    exact tG_toS rl re q fun ρ1 H1 w v L1 _ a1 re1 r1 h1 => ⟨ρ1, env, L1, w, a1.rl, re1, r1, tout_of h1⟩
def sSet (i : Nat) (v : Ex) : Sx := fun env L => (v env L).toS env fun w L1 => .nx (env.set i (some w)) L1
theorem ds_set (i : Nat) {x : Str} {e : Expr} {f : Ex} {pos' : Pos} (he : DE X Γ k Wx e f) (hi : X.N[i]? = some x := by rfl) (hx : Loc X.env.scope x := by first | exact Or.inl rfl | exact Or.inr rfl)
    (hs : swapsWith e (some (.Name x pos')) pos.line X.env = pure false := by rfl) (hf : X.fn x = true ∨ X.env.scope.names.lookup x = some .local := by first | exact .inl rfl | exact .inr rfl) : DS X Γ k Wx (.Assign [.Name x pos'] e pos) (sSet i f) := fun g =>
  PS.imp (ps_set g.nd hi hx (he g) hs hf) fun D σ H q => by
    obtain ⟨ρ, env, L, rl, re, q⟩ := q
    exact tG_toS rl re q fun ρ1 H1 w v L1 _ a1 re1 r1 h1 => h1 ρ1 H1 _ (.refl a1.rl) (re1.set i r1)
def sPar (i j : Nat) (f : ExL) : Sx := fun env L => (f env L).toS env fun ws L1 => match ws with
  | [a, b] => .nx ((env.set i (some a)).set j (some b)) L1
  | _ => .stk
theorem ds_par (i j : Nat) {x y : Str} {a b : Expr} {f : ExL} {px py pt : Pos} {kt k2 pt2} (ha : DA X Γ k Wx [a, b] f) (hi : X.N[i]? = some x := by rfl) (hj : X.N[j]? = some y := by rfl) (hij : i ≠ j := by decide)
    (hx : X.env.scope.names.lookup x = some .local := by rfl) (hy : X.env.scope.names.lookup y = some .local := by rfl)
    (hw : swappedStores [.Tuple [.Name x px, .Name y py] kt pt] (.Tuple [a, b] k2 pt2) X.env = pure (some [x, y]) := by rfl)
    (hs : swapsWithSole [.Tuple [.Name x px, .Name y py] kt pt] (.Tuple [a, b] k2 pt2) pos.line X.env = pure false := by rfl) :
    DS X Γ k Wx (.Assign [.Tuple [.Name x px, .Name y py] kt pt] (.Tuple [a, b] k2 pt2) pos) (sPar i j f) := fun g =>
  PS.imp (ps_par g.calm g.nd hi hj hij hx hy (ha g) hw hs) fun D σ H q => by
    obtain ⟨ρ, env, L, rl, re, q⟩ := q
    refine tG_toS rl re q fun ρ1 H1 w v L1 _ a1 re1 r1 h1 => ?_
    split at h1
    · obtain ⟨x, y, rfl, r2, r3⟩ := r1.two_inv
      exact ⟨x, y, rfl, h1 ρ1 H1 _ (.refl a1.rl) ((re1.set i r2).set j r3)⟩
    · exact h1.elim
theorem RWs.three_inv {ρ : List Addr} {H : Hp} {a b c : W} {xs : List V} (r : RWs Γ ρ H [a, b, c] xs) : ∃ x y z, xs = [x, y, z] ∧ RW Γ ρ H a x ∧ RW Γ ρ H b y ∧ RW Γ ρ H c z := by
  cases r with
  | cons r t => obtain ⟨y, z, rfl, s, u⟩ := t.two_inv; exact ⟨_, _, _, rfl, r, s, u⟩
def sPar3 (i j l : Nat) (f : ExL) : Sx := fun env L => (f env L).toS env fun ws L1 => match ws with
  | [a, b, c] => .nx (((env.set i (some a)).set j (some b)).set l (some c)) L1
  | _ => .stk
theorem ds_par3 (i j l : Nat) {x y z : Str} {a b c : Expr} {f : ExL} {px py pz pt : Pos} {kt k2 pt2} (ha : DA X Γ k Wx [a, b, c] f) (hi : X.N[i]? = some x := by rfl) (hj : X.N[j]? = some y := by rfl) (hl : X.N[l]? = some z := by rfl) (hij : i ≠ j := by decide) (hil : i ≠ l := by decide) (hjl : j ≠ l := by decide)
    (hx : X.env.scope.names.lookup x = some .local := by rfl) (hy : X.env.scope.names.lookup y = some .local := by rfl) (hz : X.env.scope.names.lookup z = some .local := by rfl)
    (hw : swappedStores [.Tuple [.Name x px, .Name y py, .Name z pz] kt pt] (.Tuple [a, b, c] k2 pt2) X.env = pure (some [x, y, z]) := by rfl)
    (hs : swapsWithSole [.Tuple [.Name x px, .Name y py, .Name z pz] kt pt] (.Tuple [a, b, c] k2 pt2) pos.line X.env = pure false := by rfl) :
    DS X Γ k Wx (.Assign [.Tuple [.Name x px, .Name y py, .Name z pz] kt pt] (.Tuple [a, b, c] k2 pt2) pos) (sPar3 i j l f) := fun g =>
  PS.imp (ps_par3 g.calm g.nd hi hj hl hij hil hjl hx hy hz (ha g) hw hs) fun D σ H q => by
    obtain ⟨ρ, env, L, rl, re, q⟩ := q
    refine tG_toS rl re q fun ρ1 H1 w v L1 _ a1 re1 r1 h1 => ?_
    split at h1
    · obtain ⟨x, y, z, rfl, r2, r3, r4⟩ := r1.three_inv
      exact ⟨x, y, z, rfl, h1 ρ1 H1 _ (.refl a1.rl) (((re1.set i r2).set j r3).set l r4)⟩
    · exact h1.elim
/-- name op= e, ints, texts -/
def IP (X : Cx) (Γ : Ctx) (op : Operator) (o : W → W → LH → OV) : Prop := PIp X op (v2 Γ o)
theorem ip_of {op : Operator} {o : W → W → LH → OV} (h : OpR X (inplaceOp op) (v2 Γ o)) : IP X Γ op o := fun pins s σ H x y v u Q I r1 r2 q => h pins s σ H x y v u Q I r1 r2 q
def oAug (op : W → W → LH → OV) (a b : W) (L : LH) : OV := match a with
  | .int _ => op a b L
  | _ => none
theorem ip_addI : IP X Γ .Add (oAug oAdd) := ip_of (OpR.imp iop_add fun x y H Q h => by
  obtain ⟨ρ, L, a, b, rl, ra, rb, h⟩ := h
  unfold oAug at h
  split at h
  · unfold oAdd at h
    split at h <;> first | exact h.elim | (rename_i e; first | cases e | skip)
    · cases ra; cases rb; exact ⟨_, _, rfl, rfl, h.here rl (.int _)⟩
  · exact h.elim)
def sAug (i : Nat) (o : W → W → LH → OV) (v : Ex) : Sx := fun env L => match env[i]? with
  | some (some a) => (v env L).toS env fun w L1 => (ofO (o a w L1)).toS env fun z L2 => .nx (env.set i (some z)) L2
  | _ => .stk
theorem ds_aug (i : Nat) {x : Str} {e : Expr} {f : Ex} {op : Operator} {o : W → W → LH → OV} {pos' : Pos} (ho : IP X Γ op o) (he : DE X Γ k Wx e f) (hi : X.N[i]? = some x := by rfl) (hx : Loc X.env.scope x := by first | exact Or.inl rfl | exact Or.inr rfl)
    (hf : X.fn x = true ∨ X.env.scope.names.lookup x = some .local := by first | exact .inl rfl | exact .inr rfl) : DS X Γ k Wx (.AugAssign (.Name x pos') op e pos) (sAug i o f) := fun g =>
  PS.imp (ps_aug g.nd hi hx (he g) ho hf) fun D σ H q => by
    obtain ⟨ρ, env, L, rl, re, q⟩ := q
    unfold sAug at q
    split at q
    · rename_i a ea
      obtain ⟨v, ev, rv⟩ := re.val i a ea
      refine ⟨v, ev, tG_toS rl re q fun ρ1 H1 w y L1 _ a1 re1 r1 h1 => ?_⟩
      refine ⟨ρ1, L1, a, w, a1.rl, rv.mono a1.pre a1.kp, r1, ?_⟩
      cases eo : o a w L1 with
      | none => rw [eo] at h1; exact h1.elim
      | some p =>
        rw [eo] at h1
        exact fun ρ2 H2 z a2 r2 => h1 ρ2 H2 _ a2 ((re1.mono a2.pre a2.kp).set i r2)
    · exact q.elim

/-! ### what is walked -/
structure Src where
  len : Nat
  get : LH → Nat → Option (Option W)
def RSrc (Γ : Ctx) (ρ : List Addr) (H : Hp) (S : Src) (J : It) : Prop := ∀ ρ' H' L', ρ <+: ρ' → Keep H H' → RL Γ ρ' L' H' → ∀ i,
  (∀ w, S.get L' i = some (some w) → J.go i H' ∧ ∀ x H2, J.yld i H' x H2 → Aft Γ ρ' H' L' ρ' H2 ∧ RW Γ ρ' H2 w x) ∧ (S.get L' i = some none → J.stop i H')
abbrev Ix := Env → LH → Res Src
def DI (X : Cx) (Γ : Ctx) (k : Nat) (Wx : WX) (tg iter : Expr) (f : Ix) : Prop := Good X Γ k Wx → PI X tg iter (tG (RSrc Γ) Γ Wx f)
theorem PI.imp {tg iter : Expr} {t t' : TI} (h : PI X tg iter t) (i : ∀ σ H Q, t' σ H Q → t σ H Q) : PI X tg iter t' := ⟨fun pins s σ H R I q => h.run pins s σ H R I (i σ H R q)⟩
theorem PI.or {tg iter : Expr} {t t' : TI} (h : PI X tg iter t) (h' : PI X tg iter t') : PI X tg iter (fun σ H Q => t σ H Q ∨ t' σ H Q) := ⟨fun pins s σ H R I q => q.elim (h.run pins s σ H R I) (h'.run pins s σ H R I)⟩
/-- a list or a tuple -/
def srcOf (a : W) (L : LH) : Option Src := match a with
  | .tup ws => some ⟨ws.length, fun _ i => some ws[i]?⟩
  | .ref n => match seqL L n with
    | some ws => some ⟨ws.length, fun L' i => (seqL L' n).map fun ws => ws[i]?⟩
    | none => none
  | .scr ns => some ⟨ns.length, fun _ i => some (ns.map W.int)[i]?⟩
  | .str x => some ⟨x.cps.size, fun _ i => some ((x.cps[i]?).map fun c => .str ⟨#[c]⟩)⟩
  | _ => none
def iSeq (f : Ex) : Ix := fun env L => (f env L).bind fun a L1 => match srcOf a L1 with
  | some S => .ok S L1
  | none => .stk
theorem src_list {ρ : List Addr} {H : Hp} {n : Nat} {a : Addr} (e : ρ[n]? = some a) (m : Nat) (K : PySem.W.Frag) (hK : K = Γ.K) : RSrc Γ ρ H ⟨m, fun L' i => (seqL L' n).map fun ws => ws[i]?⟩ (Itl K a) := by
  subst hK
  intro ρ' H' L' pr kp rl i
  have e' := pre_get pr e
  refine ⟨fun w h => ?_, fun h => ?_⟩
  · cases es : seqL L' n with
    | none => simp only [es] at h; cases h
    | some ws =>
      simp only [es] at h
      obtain ⟨p, vs, ep, s, r, _⟩ := rl.seq (.ref e') es
      cases ep
      have hw : ws[i]? = some w := Option.some.inj h
      obtain ⟨v, ev, rv⟩ := r.get hw
      refine ⟨⟨vs, v, s, ev⟩, fun x H2 y => ?_⟩
      obtain ⟨rfl, y⟩ := y
      have := y vs s
      rw [ev] at this; cases this
      exact ⟨.refl rl, rv⟩
  · cases es : seqL L' n with
    | none => simp only [es] at h; cases h
    | some ws =>
      simp only [es] at h
      obtain ⟨p, vs, ep, s, r, _⟩ := rl.seq (.ref e') es
      cases ep
      have hw : ws[i]? = none := Option.some.inj h
      exact ⟨vs, s, by rw [← r.length]; exact List.getElem?_eq_none_iff.mp hw⟩
theorem src_tup {ρ : List Addr} {H : Hp} {ws : List W} {a : Addr} {vs : List V} (K : PySem.W.Frag) (hK : K = Γ.K) (s : SqT K H a vs) (r : RWs Γ ρ H ws vs) (m : Nat) : RSrc Γ ρ H ⟨m, fun _ i => some ws[i]?⟩ (Itt K a) := by
  subst hK
  intro ρ' H' L' pr kp rl i
  refine ⟨fun w h => ?_, fun h => ?_⟩
  · have hw : ws[i]? = some w := Option.some.inj h
    obtain ⟨v, ev, rv⟩ := (r.mono pr kp).get hw
    refine ⟨⟨vs, v, kp.sqT s, ev⟩, fun x H2 y => ?_⟩
    obtain ⟨rfl, y⟩ := y
    have := y vs (kp.sqT s)
    rw [ev] at this; cases this
    exact ⟨.refl rl, rv⟩
  · have hw : ws[i]? = none := Option.some.inj h
    exact ⟨vs, kp.sqT s, by rw [← r.length]; exact List.getElem?_eq_none_iff.mp hw⟩
end
end Z

/-! Z7: for loops, comprehensions. -/
namespace Z
open PySem PySem.Spec PyProof.Rows L2
section
variable {X : Cx} {Γ : Ctx} {k : Nat} {Wx : WX} {pos : Pos}
theorem di_seq {tg l : Expr} {f : Ex} (hl : DE X Γ k Wx l f) : DI X Γ k Wx tg l (iSeq f) := fun g => by
  refine PI.imp (PI.or (PI.or (pi_list (hl g)) (pi_tup (hl g))) (pi_str (hl g))) fun σ H R q => ?_
  obtain ⟨ρ, env, L, rl, re, q⟩ := q
  by_cases hz : ∃ z L1, f env L = .ok (.str z) L1
  · obtain ⟨z, L1, e1⟩ := hz
    refine .inr (tG_bindE rl re q fun ρ1 H1 a' v L1' ea a1 re1 r1 h1 => ?_)
    rw [e1] at ea; cases ea
    cases r1
    refine ⟨z, rfl, out_ok (R := RSrc Γ) h1 a1.rl ?_⟩
    intro ρ' H' L' pr kp rl' i
    refine ⟨fun w h => ?_, fun h => ?_⟩
    · have hw : ((z.cps[i]?).map fun c => W.str ⟨#[c]⟩) = some w := Option.some.inj h
      cases ec : z.cps[i]? with
      | none => rw [ec] at hw; cases hw
      | some c =>
        rw [ec] at hw; cases hw
        refine ⟨(Array.getElem?_eq_some_iff.mp ec).1, fun x H2 y => ?_⟩
        obtain ⟨rfl, c', e', rfl⟩ := y
        rw [ec] at e'; cases e'
        exact ⟨.refl rl', .str _⟩
    · have hw : ((z.cps[i]?).map fun c => W.str ⟨#[c]⟩) = none := Option.some.inj h
      cases ec : z.cps[i]? with
      | none => exact Array.getElem?_eq_none_iff.mp ec
      | some c => rw [ec] at hw; cases hw
  refine .inl ?_
  by_cases ht : ∃ ws L1, f env L = .ok (.tup ws) L1
  · obtain ⟨ws, L1, e1⟩ := ht
    refine .inr (tG_bindE rl re q fun ρ1 H1 a' v L1' ea a1 re1 r1 h1 => ?_)
    rw [e1] at ea; cases ea
    obtain ⟨p, vs, rfl, s, r⟩ := r1.tup_inv
    refine ⟨p, rfl, ⟨vs, by rw [g.K]; exact s⟩, ?_⟩
    refine out_ok (R := RSrc Γ) h1 a1.rl ?_
    exact src_tup X.K g.K (by rw [g.K]; exact s) r _
  · refine .inl (tG_bindE rl re q fun ρ1 H1 a' v L1' ea a1 re1 r1 h1 => ?_)
    cases r1 with
    | tup s r => exact absurd ⟨_, _, ea⟩ ht
    | str z => exact absurd ⟨_, _, ea⟩ hz
    | ref e =>
      simp only [srcOf] at h1
      rename_i n p
      cases es : seqL L1' n with
      | none => simp only [es] at h1; exact h1.elim
      | some ws =>
        simp only [es] at h1
        obtain ⟨p', vs, e2, s, r, _⟩ := a1.rl.seq (.ref e) es
        cases e2
        refine ⟨_, rfl, ⟨vs, by rw [g.K]; exact s⟩, ?_⟩
        exact out_ok (R := RSrc Γ) h1 a1.rl (src_list e _ X.K g.K)
    | scr e =>
      simp only [srcOf] at h1
      have s : ∀ H', Keep H1 H' → SqL Γ.K H' _ _ := fun H' k => sqScr (e.imp (fun ⟨ob, e⟩ => ⟨ob, k.frz _ _ _ e⟩) id)
      refine ⟨_, rfl, ⟨_, by rw [g.K]; exact s H1 .refl⟩, ?_⟩
      refine out_ok (R := RSrc Γ) h1 a1.rl ?_
      rw [g.K]
      intro ρ' H' L' pr kp rl' i
      refine ⟨fun w h => ?_, fun h => ?_⟩
      · have hw := Option.some.inj h
        obtain ⟨v, ev, rv⟩ := (RWs.ints (Γ := Γ) (ρ := ρ') (H := H') _).get hw
        refine ⟨⟨_, v, s H' kp, ev⟩, fun x H2 y => ?_⟩
        obtain ⟨rfl, y⟩ := y
        have := y _ (s _ kp)
        rw [ev] at this; cases this
        exact ⟨.refl rl', rv⟩
      · have hw := Option.some.inj h
        refine ⟨_, s H' kp, ?_⟩
        rw [List.getElem?_eq_none_iff, List.length_map] at hw
        rw [List.length_map]; exact hw
    | _ => exact h1.elim
/-- range(n), range(a, b) -/
def srcR (lo : Int) (n : Nat) : Src := ⟨n, fun _ i => some (if i < n then some (.int (lo + i)) else none)⟩
def iRng1 (f : ExL) : Ix := fun env L => (f env L).bind fun as L1 => match as with
  | [.int j] => if -(2 ^ 62) ≤ j ∧ j < 2 ^ 62 then .ok (srcR 0 j.toNat) L1 else .stk
  | _ => .stk
def iRng2 (f : ExL) : Ix := fun env L => (f env L).bind fun as L1 => match as with
  | [.int i, .int j] => if -(2 ^ 62) ≤ i ∧ i < 2 ^ 62 ∧ -(2 ^ 62) ≤ j ∧ j < 2 ^ 62 then .ok (srcR i (j - i).toNat) L1 else .stk
  | _ => .stk
theorem src_rng {ρ : List Addr} {H : Hp} (lo : Int) (n : Nat) : RSrc Γ ρ H (srcR lo n) (Itr lo n) := by
  intro ρ' H' L' pr kp rl i
  refine ⟨fun w h => ?_, fun h => ?_⟩
  · have hw : (if i < n then some (W.int (lo + i)) else none) = some w := Option.some.inj h
    split at hw
    · rename_i hi
      cases hw
      exact ⟨hi, fun x H2 y => by obtain ⟨rfl, rfl⟩ := y; exact ⟨.refl rl, .int _⟩⟩
    · cases hw
  · have hw : (if i < n then some (W.int (lo + i)) else none) = none := Option.some.inj h
    split at hw
    · cases hw
    · rename_i hi; exact Nat.le_of_not_lt hi
theorem di_rng1 {tg a : Expr} {f : ExL} {p : Pos} (hm : X.mg "range" = none) (ha : DA X Γ k Wx [a] f) (hg : Gl X "range" := by rfl) (hs : starEach [a] X.env = [(false, eval a X.env)] := by rfl) : DI X Γ k Wx tg (.Call (.Name "range" p) [a] [] pos) (iRng1 f) := fun g =>
  PI.imp (pi_range1 hg hm (ha g) hs) fun σ H R q => by
    obtain ⟨ρ, env, L, rl, re, q⟩ := q
    refine tG_bindE rl re q fun ρ1 H1 ws v L1 ea a1 re1 r1 h1 => ?_
    split at h1
    · split at h1
      · rename_i hz
        obtain ⟨x, rfl, r⟩ := r1.one_inv
        cases r
        exact ⟨_, rfl, hz.1, hz.2, out_ok (R := RSrc Γ) h1 a1.rl (src_rng _ _)⟩
      · exact h1.elim
    · exact h1.elim
theorem di_rng2 {tg a b : Expr} {f : ExL} {p : Pos} (hm : X.mg "range" = none) (ha : DA X Γ k Wx [a, b] f) (hg : Gl X "range" := by rfl) (hs : starEach [a, b] X.env = [(false, eval a X.env), (false, eval b X.env)] := by rfl) (hs2 : starEach [b] X.env = [(false, eval b X.env)] := by rfl) : DI X Γ k Wx tg (.Call (.Name "range" p) [a, b] [] pos) (iRng2 f) := fun g =>
  PI.imp (pi_range2 hg hm (ha g) hs hs2) fun σ H R q => by
    obtain ⟨ρ, env, L, rl, re, q⟩ := q
    refine tG_bindE rl re q fun ρ1 H1 ws v L1 ea a1 re1 r1 h1 => ?_
    split at h1
    · split at h1
      · rename_i hz
        obtain ⟨x, y, rfl, r, r'⟩ := r1.two_inv
        cases r; cases r'
        exact ⟨_, _, rfl, hz, out_ok (R := RSrc Γ) h1 a1.rl (src_rng _ _)⟩
      · exact h1.elim
    · exact h1.elim

/-! ### for -/
def forLoop (S : Src) (t : Tx) (b : Sx) : Nat → Nat → Env → LH → SRes
  | 0, _, _, _ => .stk
  | f + 1, i, env, L => match S.get L i with
    | none => .stk
    | some none => .nx env L
    | some (some w) => match t w env L with
      | .ok env1 L1 => match b env1 L1 with
        | .nx env2 L2 => forLoop S t b f (i + 1) env2 L2
        | .ct env2 L2 => forLoop S t b f (i + 1) env2 L2
        | .bk env2 L2 => .nx env2 L2
        | r => r
      | _ => .stk
def sFor (it : Ix) (t : Tx) (b : Sx) : Sx := fun env L => (it env L).toS env fun S L1 => forLoop S t b (S.len + 1) 0 env L1
theorem ds_for {tg iter : Expr} {body : List Stmt} {fi : Ix} {t : Tx} {b : Sx} (hi : DI X Γ k Wx tg iter fi) (hg : DG X Γ k Wx tg t) (hb : DSs X Γ k Wx body b)
    (hs : ∀ x, foldedSetIterable iter X.env x = pure x := by intro _; rfl) : DS X Γ k Wx (.For tg iter body [] pos) (sFor fi t b) := fun g =>
  PS.imp (ps_for g.own g.calm (hi g) (hg g) (hb g) hs) fun D σ H q => by
    obtain ⟨ρ, env, L, rl, re, q⟩ := q
    refine tG_toS rl re q fun ρ1 H1 S J L1 _ a1 re1 hS h1 => ?_
    refine ⟨fun i m σ H => ∃ ρ env L, ρ1 <+: ρ ∧ Keep H1 H ∧ RL Γ ρ L H ∧ REnv Γ ρ H env σ ∧ SOut Γ Wx ρ H (forLoop S t b m i env L) D, ⟨S.len + 1, ρ1, env, L1, List.prefix_refl _, .refl, a1.rl, re1, h1⟩, ?_⟩
    rintro i m σ H ⟨ρ, env, L, pr, kp, rl, re, h⟩
    cases m with
    | zero => exact h.elim
    | succ f =>
      unfold forLoop at h
      have hJ := hS ρ H L pr kp rl i
      cases eg : S.get L i with
      | none => rw [eg] at h; exact h.elim
      | some o =>
        cases o with
        | none =>
          rw [eg] at h
          exact .inl ⟨hJ.2 eg, h ρ H σ (.refl rl) re⟩
        | some w =>
          rw [eg] at h
          simp only at h
          obtain ⟨hgo, hy⟩ := hJ.1 w eg
          refine .inr ⟨hgo, fun σ' H' => ∃ ρ env L, ρ1 <+: ρ ∧ Keep H1 H' ∧ RL Γ ρ L H' ∧ REnv Γ ρ H' env σ' ∧ SOut Γ Wx ρ H' (forLoop S t b f (i + 1) env L) D, fun σ' H' hN => ⟨f, Nat.lt_succ_self _, hN⟩, fun x H' y => ?_⟩
          obtain ⟨a2, r2⟩ := hy x H' y
          refine ⟨ρ, env, L, w, a2.rl, re.mono a2.pre a2.kp, r2, ?_⟩
          cases et : t w env L with
          | exc e L' => rw [et] at h; exact h.elim
          | stk => rw [et] at h; exact h.elim
          | ok env1 L1 =>
            rw [et] at h
            simp only at h
            intro ρ3 H3 σ3 a3 re3
            refine ⟨ρ3, env1, L1, a3.rl, re3, ?_⟩
            have a23 := a2.trans a3
            cases eb : b env1 L1 with
            | nx env2 L2 =>
              rw [eb] at h
              exact fun ρ4 H4 σ4 a4 re4 => ⟨ρ4, env2, L2, pr.trans ((a23.trans a4).pre), kp.trans ((a23.trans a4).kp), a4.rl, re4, h.rebase (a23.trans a4)⟩
            | ct env2 L2 =>
              rw [eb] at h
              exact fun ρ4 H4 σ4 a4 re4 => ⟨ρ4, env2, L2, pr.trans ((a23.trans a4).pre), kp.trans ((a23.trans a4).kp), a4.rl, re4, h.rebase (a23.trans a4)⟩
            | bk env2 L2 => rw [eb] at h; exact SOut.rebase (r := .nx env2 L2) a23 h
            | rt w2 L2 => rw [eb] at h; exact SOut.rebase (r := .rt w2 L2) a23 h
            | exc e env2 L2 => rw [eb] at h; exact SOut.rebase (r := .exc e env2 L2) a23 h
            | stk => rw [eb] at h; exact h.elim

/-! ### comprehensions -/
/-- a comprehension's target: a name, or names -/
inductive CT where
  | one (i : Nat)
  | many (is : List Nat)
def CT.slots : CT → List Nat
  | .one i => [i]
  | .many is => is
def setAll : List Nat → List W → Env → Option Env
  | [], [], env => some env
  | i :: is, w :: ws, env => setAll is ws (env.set i (some w))
  | _, _, _ => none
def CT.set (c : CT) (w : W) (env : Env) : Option Env := match c with
  | .one i => some (env.set i (some w))
  | .many is => match w with
    | .tup ws => setAll is ws env
    | _ => none
def gNames : List Nat → TGs
  | [] => gNil
  | i :: is => gCons (gName i) (gNames is)
def CT.tg (K : PySem.W.Frag) : CT → TG
  | .one i => gName i
  | .many is => gTup K is.length (gNames is)
def wipeE (env : Env) : List Nat → Env
  | [] => env
  | v :: vs => (wipeE env vs).set v none
theorem wipe_get (σ : L2.St) : ∀ (vs : List Nat) (j : Nat), (wipe σ vs)[j]? = if j ∈ vs then (σ[j]?).map fun _ => none else σ[j]?
  | [], j => by simp [wipe]
  | v :: vs, j => by
    show ((wipe σ vs).set v none)[j]? = _
    by_cases hj : v = j
    · subst hj
      by_cases hv : v < (wipe σ vs).length
      · rw [List.getElem?_set_self hv, if_pos List.mem_cons_self]
        rw [wipe_length] at hv
        rw [List.getElem?_eq_getElem hv]; rfl
      · rw [List.getElem?_eq_none (by rw [List.length_set]; exact Nat.le_of_not_lt hv), if_pos List.mem_cons_self]
        rw [wipe_length] at hv
        rw [List.getElem?_eq_none (Nat.le_of_not_lt hv)]; rfl
    · rw [List.getElem?_set_ne hj, wipe_get σ vs j]
      by_cases hm : j ∈ vs
      · rw [if_pos hm, if_pos (List.mem_cons_of_mem _ hm)]
      · rw [if_neg hm, if_neg (fun z => (List.mem_cons.mp z).elim (fun e => hj e.symm) hm)]
theorem wipe_set {σ : L2.St} {i : Nat} {v : Option V} {vs : List Nat} (h : i ∈ vs) : wipe (σ.set i v) vs = wipe σ vs := by
  apply List.ext_getElem?
  intro j
  rw [wipe_get, wipe_get]
  by_cases hj : j ∈ vs
  · rw [if_pos hj, if_pos hj]
    by_cases e : i = j
    · subst e
      by_cases hi : i < σ.length
      · rw [List.getElem?_set_self hi, List.getElem?_eq_getElem hi]; rfl
      · rw [List.getElem?_eq_none (by rw [List.length_set]; exact Nat.le_of_not_lt hi), List.getElem?_eq_none (Nat.le_of_not_lt hi)]
    · rw [List.getElem?_set_ne e]
  · rw [if_neg hj, if_neg hj]
    have e : i ≠ j := fun z => hj (z ▸ h)
    rw [List.getElem?_set_ne e]
theorem wipe_idem (σ : L2.St) (vs : List Nat) : wipe (wipe σ vs) vs = wipe σ vs := by
  apply List.ext_getElem?
  intro j
  rw [wipe_get, wipe_get]
  by_cases hj : j ∈ vs
  · rw [if_pos hj, if_pos hj]
    cases σ[j]? <;> rfl
  · rw [if_neg hj, if_neg hj]
theorem REnv.wipe {ρ : List Addr} {H : Hp} {env : Env} {σ : L2.St} (h : REnv Γ ρ H env σ) : ∀ vs : List Nat, REnv Γ ρ H (wipeE env vs) (L2.wipe σ vs)
  | [] => h
  | v :: vs => by
    have ih := REnv.wipe h vs
    refine ⟨by show ((wipeE env vs).set v none).length = ((L2.wipe σ vs).set v none).length; rw [List.length_set, List.length_set]; exact ih.len, fun j w e => ?_⟩
    show ∃ x, ((L2.wipe σ vs).set v none)[j]? = some (some x) ∧ _
    replace e : ((wipeE env vs).set v none)[j]? = some (some w) := e
    by_cases hj : v = j
    · subst hj
      by_cases hv : v < (wipeE env vs).length
      · rw [List.getElem?_set_self hv] at e; cases e
      · rw [List.getElem?_eq_none (by rw [List.length_set]; exact Nat.le_of_not_lt hv)] at e; cases e
    · rw [List.getElem?_set_ne hj] at e ⊢
      exact ih.val j w e
theorem setAll_ok {ρ : List Addr} {H : Hp} {vs : List Nat} : ∀ {is : List Nat} {ws : List W} {xs : List V} {env env' : Env} {σ : L2.St} {Q : L2.St → Hp → Prop}, REnv Γ ρ H env σ → RWs Γ ρ H ws xs → setAll is ws env = some env' → (∀ i ∈ is, i ∈ vs) →
    (∀ σ', REnv Γ ρ H env' σ' → wipe σ' vs = wipe σ vs → Q σ' H) → gNames is xs σ H Q
  | [], [], _, env, env', σ, Q, re, .nil, e, hv, q => by
    cases e; exact ⟨rfl, q σ re rfl⟩
  | i :: is, w :: ws, _, env, env', σ, Q, re, .cons r t, e, hv, q => by
    refine ⟨_, _, rfl, ?_⟩
    show gNames is _ (σ.set i (some _)) H Q
    refine setAll_ok (re.set i r) t e (fun j hj => hv j (List.mem_cons_of_mem _ hj)) fun σ' re' hw => q σ' re' ?_
    rw [hw, wipe_set (hv i List.mem_cons_self)]
  | [], w :: ws, _, env, env', σ, Q, re, _, e, hv, q => by cases e
  | i :: is, [], _, env, env', σ, Q, re, _, e, hv, q => by cases e
theorem CT.ok {ρ : List Addr} {H : Hp} {vs : List Nat} {c : CT} {w : W} {x : V} {env env' : Env} {σ : L2.St} {Q : L2.St → Hp → Prop} (K : PySem.W.Frag) (hK : K = Γ.K) (re : REnv Γ ρ H env σ) (r : RW Γ ρ H w x) (e : c.set w env = some env') (hv : ∀ i ∈ c.slots, i ∈ vs)
    (q : ∀ σ', REnv Γ ρ H env' σ' → wipe σ' vs = wipe σ vs → Q σ' H) : c.tg K x σ H Q := by
  subst hK
  cases c with
  | one i =>
    cases e
    exact q _ (re.set i r) (wipe_set (hv i (List.mem_singleton.mpr rfl)))
  | many is =>
    cases r with
    | tup s rs =>
      refine ⟨_, _, rfl, s, ?_, setAll_ok re rs e hv q⟩
      rw [← rs.length]
      have : ∀ {is : List Nat} {ws : List W} {env env' : Env}, setAll is ws env = some env' → ws.length = is.length := by
        intro is
        induction is with
        | nil => intro ws env env' e; cases ws with
          | nil => rfl
          | cons _ _ => cases e
        | cons i is ih => intro ws env env' e; cases ws with
          | nil => cases e
          | cons w ws => rw [List.length_cons, List.length_cons, ih e]
      exact this e
    | _ => cases e
/-- no exception -/
def Res.only {α : Type} (r : Res α) : Res α := match r with
  | .ok a L => .ok a L
  | _ => .stk
/-- the turns of [e for c in S if t] -/
def lcLoop (S : Src) (c : CT) (t : Bx) (e : Ex) (env : Env) : Nat → Nat → LH → List W → Res (List W)
  | 0, _, _, _ => .stk
  | f + 1, i, L, acc => match S.get L i with
    | none => .stk
    | some none => .ok acc L
    | some (some w) => match c.set w env with
      | none => .stk
      | some env1 => (t env1 L).only.bind fun b L1 => if b = true then (e env1 L1).only.bind fun y L2 => if acc.length < 16777216 then lcLoop S c t e env f (i + 1) L2 (acc ++ [y]) else .stk
        else lcLoop S c t e env f (i + 1) L1 acc
def bYes : Bx := fun _ L => .ok true L
/-- the list is made last -/
def cLc (vs : List Nat) (it : Ix) (c : CT) (t : Bx) (e : Ex) : Ex := fun env L => (it env L).bind fun S L1 => (lcLoop S c t e (wipeE env vs) (S.len + 1) 0 L1 []).bind fun acc L2 => .ok (.ref L2.length) (L2 ++ [.lst acc])
def DTs (X : Cx) (Γ : Ctx) (k : Nat) (Wx : WX) (ifs : List Expr) (t : Bx) : Prop := Good X Γ k Wx → PTs X ifs (tExB Γ Wx t)
theorem PTs.imp {ifs : List Expr} {t t' : TT} (h : PTs X ifs t) (i : ∀ σ H Q, t' σ H Q → t σ H Q) : PTs X ifs t' := by
  obtain ⟨h⟩ := h
  constructor
  intros
  apply h <;> first | assumption | exact i _ _ _ (by assumption)
theorem dts_nil : DTs X Γ k Wx [] bYes := fun g => PTs.imp pts_nil fun σ H Q h => by
  obtain ⟨ρ, env, L, rl, re, h⟩ := h
  exact out_ok (R := RB) h rl rfl
theorem dts_one {c : Expr} {t : Bx} (h : DT X Γ k Wx c t) : DTs X Γ k Wx [c] t := fun g => pts_one (h g)
abbrev W0 : WX := fun _ _ _ _ => False
/-- what stands within the block of a comprehension -/
abbrev Cx.bk (X : Cx) (scope : Scope) (s : Shared) (H : Hp) (C : Addr) (cl : List (Str × Addr)) (fp : List Addr) : Cx := X.blk s H scope (compEnvC scope cl C X.env) fp
theorem Good.blk (g : Good X Γ k Wx) (scope : Scope) (s : Shared) (H : Hp) (C : Addr) (cl : List (Str × Addr)) (fp : List Addr) : Good (Cx.bk X scope s H C cl fp) Γ k W0 :=
  ⟨g.K, g.calm, g.nd, g.room, takes0, .never⟩
theorem lc_read {S : Src} {J : It} {c : CT} {t : Bx} {e : Ex} {vs : List Nat} {σ : L2.St} {Q : VK} {K : PySem.W.Frag} (hK : K = Γ.K) (hv : ∀ i ∈ c.slots, i ∈ vs) {ρ1 : List Addr} {H1 : Hp} {L1 : LH} {env : Env}
    (rl1 : RL Γ ρ1 L1 H1) (re1 : REnv Γ ρ1 H1 env σ) (hS : RSrc Γ ρ1 H1 S J)
    (h : Out (RW Γ) Γ Wx σ ρ1 H1 ((lcLoop S c t e (wipeE env vs) (S.len + 1) 0 L1 []).bind fun acc L2 => .ok (.ref L2.length) (L2 ++ [.lst acc])) Q) (D : Addr) (hD : H1 D = none) :
    ∃ W : Nat → Nat → Hp → Prop, (∃ m, W 0 m (upd H1 D (.lst []))) ∧ ∀ i m H, W i m H →
      (J.stop i H ∧ Q (.ref D) H) ∨ (J.go i H ∧ ∃ Nx : Hp → Prop, (∀ H', Nx H' → ∃ m', m' < m ∧ W (i + 1) m' H') ∧ ∀ x H', J.yld i H x H' → (c.tg K) x (wipe σ vs) H' fun σ2 H2 => wipe σ2 vs = wipe σ vs ∧ tExB Γ W0 t σ2 H2 fun b H3 =>
        if b = true then tEx Γ W0 e σ2 H3 fun y H4 => ∃ acc, H4 D = some (.lst acc) ∧ acc.length < sizeLine ∧ Nx (upd H4 D (.lst (acc ++ [y]))) else Nx H3) := by
  refine ⟨fun i m H => ∃ ρ L acc xs H0, H = upd H0 D (.lst xs) ∧ H0 D = none ∧ Aft Γ ρ1 H1 L ρ H0 ∧ RWs Γ ρ H0 acc xs ∧
    Out (RW Γ) Γ Wx σ ρ H0 ((lcLoop S c t e (wipeE env vs) m i L acc).bind fun acc L2 => .ok (.ref L2.length) (L2 ++ [.lst acc])) Q, ⟨S.len + 1, ρ1, L1, [], [], H1, rfl, hD, .refl rl1, .nil, h⟩, ?_⟩
  rintro i m H ⟨ρ, L, acc, xs, H0, rfl, h0, af, ra, h⟩
  have rl := af.rl
  have nD : D ∉ ρ := rl.out h0
  have rlD : RL Γ ρ L (upd H0 D (.lst xs)) := rl.fresh h0
  have kpD : Keep H1 (upd H0 D (.lst xs)) := af.kp.trans (.fresh h0)
  have reD : REnv Γ ρ (upd H0 D (.lst xs)) (wipeE env vs) (wipe σ vs) := (re1.mono af.pre kpD).wipe vs
  cases m with
  | zero => exact h.elim
  | succ f =>
    unfold lcLoop at h
    have hJ := hS ρ _ L af.pre kpD rlD i
    cases eg : S.get L i with
    | none => rw [eg] at h; exact h.elim
    | some o =>
      cases o with
      | none =>
        rw [eg] at h
        refine .inl ⟨hJ.2 eg, ?_⟩
        have h : Out (RW Γ) Γ Wx σ ρ H0 (.ok (.ref L.length) (L ++ [.lst acc])) Q := h
        refine h (ρ ++ [D]) _ _ (.push rl h0 ⟨xs, upd_same, ra.mono (pre_app _ _) (.fresh h0)⟩) (.ref ?_)
        rw [← rl.len]; exact List.getElem?_concat_length
      | some w =>
        rw [eg] at h
        simp only at h
        obtain ⟨hgo, hy⟩ := hJ.1 w eg
        refine .inr ⟨hgo, fun H' => ∃ ρ L acc xs H0, H' = upd H0 D (.lst xs) ∧ H0 D = none ∧ Aft Γ ρ1 H1 L ρ H0 ∧ RWs Γ ρ H0 acc xs ∧
          Out (RW Γ) Γ Wx σ ρ H0 ((lcLoop S c t e (wipeE env vs) f (i + 1) L acc).bind fun acc L2 => .ok (.ref L2.length) (L2 ++ [.lst acc])) Q, fun H' hN => ⟨f, Nat.lt_succ_self _, hN⟩, fun x H' y => ?_⟩
        obtain ⟨a2, r2⟩ := hy x H' y
        cases ec : c.set w (wipeE env vs) with
        | none => rw [ec] at h; exact h.elim
        | some env1 =>
          rw [ec] at h
          simp only at h
          refine CT.ok K hK (reD.mono a2.pre a2.kp) r2 ec hv fun σ2 re2 hw => ⟨by rw [hw, wipe_idem], ?_⟩
          refine ⟨ρ, env1, L, a2.rl, re2, ?_⟩
          cases et : t env1 L with
          | exc e' L' => rw [et] at h; exact h.elim
          | stk => rw [et] at h; exact h.elim
          | ok b L3 =>
            rw [et] at h
            simp only [Res.only, Res.bind] at h
            intro ρ3 H3 b' a3 eb
            cases eb
            have a23 := a2.trans a3
            cases b with
            | false =>
              obtain ⟨a4, h4, _⟩ := Aft.hide h0 nD rfl a23
              exact ⟨ρ3, L3, acc, xs, hide H3 D, (hide_upd h4).symm, hide_at, af.trans a4, ra.mono a4.pre a4.kp, Out.rebase a4 h⟩
            | true =>
              refine ⟨ρ3, env1, L3, a3.rl, re2.mono a3.pre a3.kp, ?_⟩
              simp only [if_true] at h
              cases ee : e env1 L3 with
              | exc e' L' => rw [ee] at h; exact h.elim
              | stk => rw [ee] at h; exact h.elim
              | ok y L4 =>
                rw [ee] at h
                simp only at h
                intro ρ4 H4 z a5 r5
                obtain ⟨a4, h4, _⟩ := Aft.hide h0 nD rfl (a23.trans a5)
                by_cases hz : acc.length < 16777216
                · rw [if_pos hz] at h
                  refine ⟨xs, h4, by rw [← ra.length, line_eq]; exact hz, ρ4, L4, acc ++ [y], xs ++ [z], hide H4 D, ?_, hide_at, af.trans a4, ?_, Out.rebase a4 h⟩
                  · rw [← hide_upd h4, upd_upd]
                    rw [hide_upd h4]
                  · exact (ra.mono a4.pre a4.kp).append (.one (r5.hide h4 rfl))
                · rw [if_neg hz] at h; exact h.elim
theorem d_lc {elt tg iter : Expr} {ifs : List Expr} {scope : Scope} {own : List (Str × Nat)} {fi : Ix} {c : CT} {t : Bx} {e : Ex} (hi : DI X Γ k Wx tg iter fi) (ok : BlkOk X.N X.env.scope scope own) (hv : ∀ i ∈ c.slots, i ∈ own.map (·.2))
    (hg : ∀ (s : Shared) (H : Hp) (C : Addr) (cl : List (Str × Addr)) (fp : List Addr), (Cx.bk X scope s H C cl fp).N.Nodup → (Cx.bk X scope s H C cl fp).calm = true → PG (Cx.bk X scope s H C cl fp) tg (c.tg X.K))
    (ht : ∀ (s : Shared) (H : Hp) (C : Addr) (cl : List (Str × Addr)) (fp : List Addr), DTs (Cx.bk X scope s H C cl fp) Γ k W0 ifs t)
    (he : ∀ (s : Shared) (H : Hp) (C : Addr) (cl : List (Str × Addr)) (fp : List Addr), DE (Cx.bk X scope s H C cl fp) Γ k W0 elt e) (hs : ∀ x, foldedSetIterable iter X.env x = pure x := by intro _; rfl) :
    DE X Γ k Wx (.ListComp elt [⟨tg, iter, ifs, 0⟩] scope pos) (cLc (own.map (·.2)) fi c t e) := fun g =>
  PE.imp (pe_lc g.calm g.nd (hi g) ok (fun s H C cl fp => hg s H C cl fp g.nd g.calm) (fun s H C cl fp => ht s H C cl fp (g.blk scope s H C cl fp)) (fun s H C cl fp => he s H C cl fp (g.blk scope s H C cl fp)) hs) fun σ H Q q => by
    obtain ⟨ρ, env, L, rl, re, q⟩ := q
    refine tG_bindE rl re q fun ρ1 H1 S J L1 ea a1 re1 hS h1 => ?_
    intro D hD
    exact lc_read g.K hv a1.rl re1 hS h1 D hD
/-- name = [..] on one line -/
theorem ds_setLc (i : Nat) {y : Str} {py spos : Pos} {elt tg iter : Expr} {ifs : List Expr} {scope : Scope} {own : List (Str × Nat)} {fi : Ix} {c : CT} {t : Bx} {e : Ex} (hi : DI X Γ k Wx tg iter fi) (ok : BlkOk X.N X.env.scope scope own) (hv : ∀ i ∈ c.slots, i ∈ own.map (·.2))
    (hg : ∀ (s : Shared) (H : Hp) (C : Addr) (cl : List (Str × Addr)) (fp : List Addr), (Cx.bk X scope s H C cl fp).N.Nodup → (Cx.bk X scope s H C cl fp).calm = true → PG (Cx.bk X scope s H C cl fp) tg (c.tg X.K))
    (ht : ∀ (s : Shared) (H : Hp) (C : Addr) (cl : List (Str × Addr)) (fp : List Addr), DTs (Cx.bk X scope s H C cl fp) Γ k W0 ifs t)
    (he : ∀ (s : Shared) (H : Hp) (C : Addr) (cl : List (Str × Addr)) (fp : List Addr), DE (Cx.bk X scope s H C cl fp) Γ k W0 elt e)
    (hsw : swapsWith (.ListComp elt [⟨tg, iter, ifs, 0⟩] scope pos) (some (.Name y py)) spos.line X.env = pure true)
    (hy : X.N[i]? = some y := by rfl) (hyl : X.env.scope.names.lookup y = some .local := by rfl) (hs : ∀ x, foldedSetIterable iter X.env x = pure x := by intro _; rfl) :
    DS X Γ k Wx (.Assign [.Name y py] (.ListComp elt [⟨tg, iter, ifs, 0⟩] scope pos) spos) (sSet i (cLc (own.map (·.2)) fi c t e)) := fun g =>
  PS.imp (ps_setLc g.calm g.nd hy hyl hsw (hi g) ok (fun s H C cl fp => hg s H C cl fp g.nd g.calm) (fun s H C cl fp => ht s H C cl fp (g.blk scope s H C cl fp)) (fun s H C cl fp => he s H C cl fp (g.blk scope s H C cl fp)) hs) fun D' σ H q => by
    obtain ⟨ρ, env, L, rl, re, q⟩ := q
    have q2 : tEx Γ Wx (cLc (own.map (·.2)) fi c t e) σ H (fun x H1 => gName i x σ H1 D'.nx) := tG_toS rl re q fun ρ1 H1 w v L1 _ a1 re1 r1 h1 => h1 ρ1 H1 _ (.refl a1.rl) (re1.set i r1)
    obtain ⟨ρ, env, L, rl, re, q⟩ := q2
    refine tG_bindE rl re q fun ρ1 H1 S J L1 ea a1 re1 hS h1 => ?_
    intro D hD
    exact lc_read g.K hv a1.rl re1 hS h1 D hD
end
end Z

/-! Z8: calls, defs. -/
namespace Z
open PySem PySem.Spec PyProof.Rows L2
abbrev Fn := List W → LH → Res W
/-- a def's promise by its meaning -/
def spG (Γ : Ctx) (g : Fn) : Sp := fun vs H Q E => ∃ ρ L ws, RL Γ ρ L H ∧ RWs Γ ρ H ws vs ∧ Out (RW Γ) Γ (fun c d _ H' => E c d H') [] ρ H (g ws L) Q
/-- all defs of the text at a level -/
abbrev Tab := Nat → Fn
/-- a def as callers see it: its number, its parameters, its defaults -/
structure FnS (P : Program) (w : World) (K : PySem.W.Frag) (mg : Str → Option Value) (base : Heap) (Γ : Ctx) (k : Nat) (f : Addr) (ps : List Str) (dws : List W) (g : Fn) : Prop where
  ex : ∃ fd ds dvs, FnOk P w K mg base (L2.CX P w) k f fd ps (spG Γ g) ∧ Binds K fd ps ds ∧ Vals dvs ds ∧ ∀ ρ H, RWs Γ ρ H dws dvs
  kp : PySem.W.keepIn K (.ref f) = true
section
variable {X : Cx} {Γ : Ctx} {k : Nat} {Wx : WX} {pos : Pos}
def cCall (g : Fn) (dws : List W) (fs : ExL) : Ex := fun env L => (fs env L).bind fun as L1 => g (as ++ dws) L1
theorem RWs.nil_inv {ρ : List Addr} {H : Hp} {xs : List V} (r : RWs Γ ρ H [] xs) : xs = [] := by cases r; rfl
theorem call_read {g : Fn} {ws : List W} {vs : List V} {σ : L2.St} {ρ : List Addr} {H : Hp} {L : LH} {Q : VK} (rl : RL Γ ρ L H) (r : RWs Γ ρ H ws vs) (h : Out (RW Γ) Γ Wx σ ρ H (g ws L) Q) : spG Γ g vs H Q (L2.WE Wx σ) := by
  refine ⟨ρ, L, ws, rl, r, ?_⟩
  cases e : g ws L with
  | ok w L' => rw [e] at h; exact h
  | exc e L' => rw [e] at h; exact h
  | stk => rw [e] at h; exact h
theorem d_call {f : Addr} {ps : List Str} {dws : List W} {g : Fn} {x : Str} {p : Pos} {e : Expr} {es : List Expr} {fs : ExL} (S : FnS X.prog X.w X.K X.mg X.base Γ k f ps dws g) (hm : X.mg x = some (.ref f)) (ha : DA X Γ k Wx (e :: es) fs) (hg : Gl X x := by rfl)
    (hdb : (x == ("__debug__" : Str)) = false := by decide) (he : starEach (e :: es) X.env = (false, eval e X.env) :: starEach es X.env := by rfl) (hpl : (backTo pos (starEach es X.env)).any (·.1) = false := by rfl) :
    DE X Γ k Wx (.Call (.Name x p) (e :: es) [] pos) (cCall g dws fs) := fun G => by
  obtain ⟨fd, ds, dvs, F, B, D, rd⟩ := S.ex
  refine PE.imp (pe_callSD F G.room hg hm S.kp B D (fun σ => L2.passAt G.tk σ) (ha G) hdb he hpl) fun σ H Q q => ?_
  obtain ⟨ρ, env, L, rl, re, q⟩ := q
  refine tG_bind rl re q fun ρ1 H1 as vs L1 a1 re1 r1 h1 => ?_
  exact call_read a1.rl (r1.append (rd _ _)) h1
theorem d_call0 {f : Addr} {ps : List Str} {g : Fn} {x : Str} {p : Pos} {dws : List W} (S : FnS X.prog X.w X.K X.mg X.base Γ k f ps dws g) (hm : X.mg x = some (.ref f)) (hg : Gl X x := by rfl)
    (hdb : (x == ("__debug__" : Str)) = false := by decide) :
    DE X Γ k Wx (.Call (.Name x p) [] [] pos) (cCall g dws cNil) := fun G => by
  obtain ⟨fd, ds, dvs, F, B, D, rd⟩ := S.ex
  constructor
  intro pins s σ H Q I h
  obtain ⟨ρ, env, L, rl, re, q⟩ := h
  refine wpAny_Call_Name_kw (ld_glob I hg hm ?_ hdb)
  refine PySem.W.callWith_K0 I.kIn S.kp ?_
  have h2 : spG Γ g ([] ++ dvs) H Q (L2.WE Wx σ) := call_read rl (rd _ _) q
  have r2 : Vals ([] ++ dvs) ([] ++ ds) := D
  have hl : ([] ++ ds).length = ps.length := by rw [← r2.length]; exact F.len _ _ _ _ h2
  refine wpAny_call (codeAny_mono (F.run X.A X.stack s H ⟨[], []⟩ ([] ++ ds) ([] ++ dvs) Q _ G.room I.env0 (B s [] I.kIn hl) r2 h2) fun r s' hq => ?_)
  cases r with
  | error e => exact L2.passAt G.tk σ pins H s e s' I hq
  | ok fl =>
    cases fl with
    | ret u => exact I.after hq
    | next => exact False.elim hq
    | brk => exact False.elim hq
    | cont => exact False.elim hq
end
/-- a def's meaning: n slots, m parameters -/
def defF (n m : Nat) (b : Sx) : Fn := fun args L => if args.length = m then match b (args.map some ++ List.replicate (n - m) none) L with
    | .rt w L' => .ok w L'
    | .nx _ L' => .ok .non L'
    | .exc e _ L' => .exc e L'
    | _ => .stk
  else .stk
section
variable {P : Program} {w : World} {K : PySem.W.Frag} {mg : Str → Option Value} {base : Heap} {Γ : Ctx}
/-- the context of a def's body -/
abbrev CxD (P : Program) (w : World) (K : PySem.W.Frag) (mg : Str → Option Value) (base : Heap) (N : List Str) (qual : Str) (sc : Scope) (f : Addr) (cd : Value) (A : Around) (outer : List PySem.Env) (s : Shared) (H : Hp) (E : XK) : Cx :=
  cxOf (L2.CX P w) P w K mg base N qual sc f cd A outer s H E
abbrev WxD (E : XK) : WX := fun c d _ H => E c d H
theorem start_ok {ρ : List Addr} {H : Hp} {N : List Str} {m : Nat} {ws : List W} {vs : List V} (r : RWs Γ ρ H ws vs) (hm : ws.length = m) : REnv Γ ρ H (ws.map some ++ List.replicate (N.length - m) none) (L2.start N vs) := by
  subst hm
  refine ⟨?_, fun i w e => ?_⟩
  · unfold L2.start
    rw [List.length_append, List.length_append, List.length_map, List.length_map, List.length_replicate, List.length_replicate, r.length]
  · unfold L2.start
    by_cases hi : i < ws.length
    · rw [List.getElem?_append_left (by rw [List.length_map]; exact hi), List.getElem?_map] at e
      rw [List.getElem?_append_left (by rw [List.length_map, ← r.length]; exact hi), List.getElem?_map]
      cases ew : ws[i]? with
      | none => rw [ew] at e; cases e
      | some w' =>
        rw [ew] at e
        cases e
        obtain ⟨v, ev, rv⟩ := r.get ew
        exact ⟨v, by rw [ev]; rfl, rv⟩
    · rw [List.getElem?_append_right (by rw [List.length_map]; exact Nat.le_of_not_lt hi)] at e
      have := List.mem_of_getElem? e
      rw [List.mem_replicate] at this
      cases this.2
theorem fn_ok {x qual : Str} {st : Stmt} {f : Addr} {fd : FuncData} {N ps : List Str} {k : Nat} {b : Sx} (F : Fun K x qual st f fd) (S : FnScope N ps (defScope st)) (hK : Γ.K = K)
    (hb : ∀ (cdv : Value) (A : Around) (outer : List PySem.Env) (s : Shared) (H : Hp) (E : XK), DSs (CxD P w K mg base N qual (defScope st) f cdv A outer s H E) Γ k (WxD E) (defBody st) b) :
    FnOk P w K mg base (L2.CX P w) (k + 1) f fd ps (spG Γ (defF N.length ps.length b)) := by
  refine F.okX S (fun vs H Q E h => ?_) (fun cdv A outer s H vs Q E hr h => ⟨tSx Γ (WxD E) b, hb cdv A outer s H E ⟨hK.symm, rfl, S.nd, hr, takes_of rfl rfl rfl rfl, passes_of rfl⟩, ?_⟩)
  · obtain ⟨ρ, L, ws, rl, r, h⟩ := h
    unfold defF at h
    split at h
    · rename_i hl; rw [← r.length]; exact hl
    · exact h.elim
  · obtain ⟨ρ, L, ws, rl, r, h⟩ := h
    unfold defF at h
    split at h
    · rename_i hl
      refine ⟨ρ, _, L, rl, start_ok r hl, ?_⟩
      cases e : b (ws.map some ++ List.replicate (N.length - ps.length) none) L with
      | nx env' L' => rw [e] at h; exact fun ρ' H' σ' a _ => h ρ' H' _ a .non
      | rt w L' => rw [e] at h; exact h
      | bk env' L' => rw [e] at h; exact h.elim
      | ct env' L' => rw [e] at h; exact h.elim
      | exc e' env' L' => rw [e] at h; exact fun ρ' H' σ' c d a _ r => h ρ' H' c d a r
      | stk => rw [e] at h; exact h.elim
    · exact h.elim
/-- what is stuck promises nothing -/
theorem fn_stk {f : Addr} {fd : FuncData} {k : Nat} {ps : List Str} : FnOk P w K mg base (L2.CX P w) k f fd ps (spG Γ fun _ _ => .stk) :=
  ⟨fun vs H Q E h => by obtain ⟨_, _, _, _, _, h⟩ := h; exact h.elim, fun A outer s H args us vs Q E hr he hb hv h => by obtain ⟨_, _, _, _, _, h⟩ := h; exact h.elim⟩
/-- the law holds by its meaning: the promise at the end -/
theorem law_end {g : Fn} {H : Hp} {a : Addr} {ns : List Int} (hK : Γ.K = K) (hO : Only H) (hS : SqL K H a (ns.map V.int)) (h : ∃ L', g [.scr ns] [] = .ok (.bl true) L') : spG Γ g [.ref a] H (fun v _ => v = .bl true) fun _ _ _ => False := by
  subst hK
  obtain ⟨L', h⟩ := h
  refine ⟨[], [], [.scr ns], ⟨rfl, fun n m a o o' e => by simp at e, fun n o e => by simp at e⟩, .cons (.scr ?_) .nil, ?_⟩
  · rcases hS with (h | h) | h
    · rcases hO a with e | ⟨o, xs, e⟩
      · rw [e] at h; cases h
      · rw [e] at h; cases h
    · exact .inl h
    · exact .inr (.inr h)
  · rw [h]
    intro ρ' H' v _ r
    cases r; rfl
theorem law_end2 {g : Fn} {H : Hp} {a : Addr} {ns : List Int} {Q : VK} {E : XK} (hK : Γ.K = K) (hO : Only H) (hS : SqL K H a (ns.map V.int)) (h : ∃ L', g [.scr ns] [] = .ok (.bl true) L') (hQ : ∀ H', Q (.bl true) H') : spG Γ g [.ref a] H Q E := by
  subst hK
  obtain ⟨L', h⟩ := h
  refine ⟨[], [], [.scr ns], ⟨rfl, fun n m a o o' e => by simp at e, fun n o e => by simp at e⟩, .cons (.scr ?_) .nil, ?_⟩
  · rcases hS with (h | h) | h
    · rcases hO a with e | ⟨o, xs, e⟩
      · rw [e] at h; cases h
      · rw [e] at h; cases h
    · exact .inl h
    · exact .inr (.inr h)
  · rw [h]
    intro ρ' H' v _ r
    cases r; exact hQ _
end
end Z

/-! Z9: dict displays, methods of built-in types, isinstance, sorted, further comprehensions. -/
namespace Z
open PySem PySem.Spec PyProof.Rows L2
section
variable {X : Cx} {Γ : Ctx} {k : Nat} {Wx : WX} {pos : Pos}
/-! ### {k: v, ..} -/
def cPairs : List (Ex × Ex) → Env → LH → Res (List (W × W))
  | [], _, L => .ok [] L
  | (f, h) :: r, env, L => (f env L).bind fun a L1 => (h env L1).bind fun b L2 => (cPairs r env L2).bind fun ps L3 => .ok ((a, b) :: ps) L3
def keysW : List (W × W) → Option (List (Key × W))
  | [] => some []
  | (a, b) :: r => match keyW a, keysW r with
    | some kk, some ks => some ((kk, b) :: ks)
    | _, _ => none
def mergeW (acc more : List (Key × W)) : List (Key × W) := more.foldl (fun acc kv => putW acc kv.1 kv.2) acc
def cDict (fs : List (Ex × Ex)) : Ex := fun env L => (cPairs fs env L).bind fun ps L1 => match keysW ps with
  | some kvs => if kvs.length ≤ 15 then .ok (.ref L1.length) (L1 ++ [.dic (mergeW [] kvs)]) else .stk
  | none => .stk
inductive RPs (Γ : Ctx) (ρ : List Addr) (H : Hp) : List (W × W) → List (V × V) → Prop
  | nil : RPs Γ ρ H [] []
  | cons {a b : W} {x y : V} {ps : List (W × W)} {vs : List (V × V)} : RW Γ ρ H a x → RW Γ ρ H b y → RPs Γ ρ H ps vs → RPs Γ ρ H ((a, b) :: ps) ((x, y) :: vs)
def DPs (X : Cx) (Γ : Ctx) (k : Nat) (Wx : WX) (pos : Pos) (keys : List (Option Expr)) (values : List Expr) (fs : List (Ex × Ex)) : Prop := Good X Γ k Wx → PPs X pos keys values (fs.map fun p => (tEx Γ Wx p.1, tEx Γ Wx p.2))
theorem dps_nil : DPs X Γ k Wx pos [] [] [] := fun g => pps_nil
theorem dps_cons {e v : Expr} {ks : List (Option Expr)} {vs : List Expr} {f h : Ex} {fs : List (Ex × Ex)} (he : DE X Γ k Wx e f) (hv : DE X Γ k Wx v h) (hr : DPs X Γ k Wx pos ks vs fs) : DPs X Γ k Wx pos (some e :: ks) (v :: vs) ((f, h) :: fs) := fun g =>
  pps_cons (he g) (hv g) (hr g)
theorem pairs_ok {env : Env} {σ : L2.St} : ∀ {fs : List (Ex × Ex)} {ρ : List Addr} {H : Hp} {L : LH} {Q : List (V × V) → Hp → Prop}, RL Γ ρ L H → REnv Γ ρ H env σ →
    (∀ ps L1, cPairs fs env L = .ok ps L1 → ∀ ρ1 H1 vs, Aft Γ ρ H L1 ρ1 H1 → RPs Γ ρ1 H1 ps vs → Q vs H1) → (∀ e L1, cPairs fs env L = .exc e L1 → ∀ ρ1 H1 c d, Aft Γ ρ H L1 ρ1 H1 → RExn Γ ρ1 H1 e c d → Wx c d σ H1) → cPairs fs env L ≠ .stk →
    tPairs (fs.map fun p => (tEx Γ Wx p.1, tEx Γ Wx p.2)) σ H Q
  | [], ρ, H, L, Q, rl, re, h1, h2, h3 => h1 [] L rfl ρ H [] (.refl rl) .nil
  | (f, h) :: r, ρ, H, L, Q, rl, re, h1, h2, h3 => by
    refine ⟨ρ, env, L, rl, re, ?_⟩
    show Out (RW Γ) Γ Wx σ ρ H (f env L) _
    cases ef : f env L with
    | exc e L1 => exact h2 e L1 (by unfold cPairs; rw [ef]; rfl)
    | stk => exact absurd (by unfold cPairs; rw [ef]; rfl) h3
    | ok a L1 =>
      intro ρ1 H1 x a1 r1
      refine ⟨ρ1, env, L1, a1.rl, re.mono a1.pre a1.kp, ?_⟩
      show Out (RW Γ) Γ Wx σ ρ1 H1 (h env L1) _
      cases eh : h env L1 with
      | exc e L2 => exact fun ρ2 H2 c d a2 => h2 e L2 (by unfold cPairs; rw [ef]; simp only [Res.bind]; rw [eh]) ρ2 H2 c d (a1.trans a2)
      | stk => exact absurd (by unfold cPairs; rw [ef]; simp only [Res.bind]; rw [eh]) h3
      | ok b L2 =>
        intro ρ2 H2 y a2 r2
        have eq : cPairs ((f, h) :: r) env L = (cPairs r env L2).bind fun ps L3 => .ok ((a, b) :: ps) L3 := by
          show (f env L).bind _ = _
          rw [ef]; simp only [Res.bind]; rw [eh]
        refine pairs_ok a2.rl ((re.mono a1.pre a1.kp).mono a2.pre a2.kp) (fun ps L3 e ρ3 H3 vs a3 r3 => ?_) (fun e' L3 e ρ3 H3 c d a3 => ?_) (fun z => h3 (by rw [eq, z]; rfl))
        · exact h1 ((a, b) :: ps) L3 (by rw [eq, e]; rfl) ρ3 H3 ((x, y) :: vs) ((a1.trans a2).trans a3) (.cons ((r1.mono a2.pre a2.kp).mono a3.pre a3.kp) (r2.mono a3.pre a3.kp) r3)
        · exact h2 e' L3 (by rw [eq, e]; rfl) ρ3 H3 c d ((a1.trans a2).trans a3)
theorem keysW_ok {ρ : List Addr} {H : Hp} : ∀ {ps : List (W × W)} {vs : List (V × V)} {kvs : List (Key × W)}, RPs Γ ρ H ps vs → keysW ps = some kvs → ∃ ks, vs = ks.map (fun kv => (kV kv.1, kv.2)) ∧ RKs Γ ρ H kvs ks
  | _, _, _, .nil, e => by cases e; exact ⟨[], rfl, .nil⟩
  | _, _, _, .cons (a := a) (b := b) (ps := ps) r1 r2 t, e => by
    unfold keysW at e
    split at e
    · rename_i kk ks e1 e2
      cases e
      obtain ⟨ks', rfl, r⟩ := keysW_ok t e2
      exact ⟨(kk, _) :: ks', by rw [keyW_ok r1 e1]; rfl, .cons r2 r⟩
    · cases e
theorem RKs.merge {ρ : List Addr} {H : Hp} : ∀ {more : List (Key × W)} {vs : List (Key × V)} {acc : List (Key × W)} {bs : List (Key × V)}, RKs Γ ρ H more vs → RKs Γ ρ H acc bs → RKs Γ ρ H (mergeW acc more) (mergeK bs vs)
  | _, _, _, _, .nil, q => q
  | _, _, acc, bs, .cons (k := kk) (w := w) (v := v) (ws := ws) (vs := vs) r t, q => by
    show RKs Γ ρ H (mergeW (putW acc kk w) ws) (mergeK (putK bs kk v) vs)
    exact RKs.merge t (RKs.put r q)
theorem d_dict {keys : List (Option Expr)} {values : List Expr} {fs : List (Ex × Ex)} (h : DPs X Γ k Wx pos keys values fs) (hall : keys.all (·.isSome) = true := by rfl) (hl : keys.length = values.length := by rfl) (h0 : keys ≠ [] := by intro z; cases z)
    (h15 : keys.length ≤ 15 := by decide) : DE X Γ k Wx (.Dict keys values pos) (cDict fs) := fun g =>
  PE.imp (pe_disp (h g) hall hl h0 h15) fun σ H Q q => by
    obtain ⟨ρ, env, L, rl, re, q⟩ := q
    intro p hp
    have af : Aft Γ ρ H L ρ (upd H p (.dK [])) := .fresh rl hp
    have np : p ∉ ρ := rl.out hp
    unfold cDict at q
    refine pairs_ok af.rl (re.mono af.pre af.kp) (fun ps L1 e ρ1 H1 vs a1 r1 => ?_) (fun e L1 ee ρ1 H1 c d a1 r => ?_) (fun z => ?_)
    · rw [e] at q
      simp only [Res.bind] at q
      cases ek : keysW ps with
      | none => rw [ek] at q; exact q.elim
      | some kvs =>
        rw [ek] at q
        simp only at q
        split at q
        · rename_i hz
          obtain ⟨ks, rfl, rk⟩ := keysW_ok r1 ek
          obtain ⟨_, h1⟩ := Aft.adopt (o := .dic []) (ho := .dK []) hp a1 np rfl ⟨[], upd_same, .nil⟩
          refine ⟨h1, ks, rfl, by rw [← rk.length]; exact hz, ?_⟩
          have k2 : Keep H1 (upd H1 p (.dK (mergeK [] ks))) := .write h1 rfl
          obtain ⟨a2, _⟩ := Aft.adopt (o := .dic (mergeW [] kvs)) (ho := .dK (mergeK [] ks)) hp a1 np rfl ⟨_, upd_same, (RKs.merge rk .nil).mono (pre_app _ _) k2⟩
          refine q _ _ _ a2 (.ref ?_)
          rw [← a1.rl.len]; exact List.getElem?_concat_length
        · exact q.elim
    · rw [ee] at q
      exact q ρ1 H1 c d (af.trans a1) r
    · rw [z] at q; exact q
def cDict0 : Ex := fun _ L => .ok (.ref L.length) (L ++ [.dic []])
theorem d_dict0 : DE X Γ k Wx (.Dict [] [] pos) cDict0 := fun g => PE.imp pe_dnewK fun σ H Q q => by
  obtain ⟨ρ, env, L, rl, re, q⟩ := q
  exact OkOut.dic (q : OkOut Γ ρ H (some (.ref L.length, L ++ [.dic []])) Q) rl .nil

/-! ### methods of built-in types -/
def cMth (chk : W → LH → Bool) (o : W → List W → LH → OV) (f : Ex) (fs : ExL) : Ex := fun env L => (f env L).bind fun a L1 => if chk a L1 = true then (fs env L1).bind fun as L2 => ofO (o a as L2) else .stk
def isLst (a : W) (L : LH) : Bool := match a with
  | .ref n => match L[n]? with
    | some (.lst _) => true
    | _ => false
  | _ => false
def isStr (a : W) (_ : LH) : Bool := match a with
  | .str _ => true
  | _ => false
def isDic (a : W) (L : LH) : Bool := (dicW a L).isSome
theorem isLst_ok {ρ : List Addr} {H : Hp} {L : LH} {a : W} {v : V} {K : PySem.W.Frag} (rl : RL Γ ρ L H) (r : RW Γ ρ H a v) (h : isLst a L = true) : tyV K "list" v H := by
  unfold isLst at h
  split at h
  · split at h
    · rename_i e
      obtain ⟨p, vs, rfl, hp, _⟩ := rl.lst r e
      exact .inl ⟨rfl, vs, .of hp⟩
    · cases h
  · cases h
theorem isStr_ok {ρ : List Addr} {H : Hp} {L : LH} {a : W} {v : V} {K : PySem.W.Frag} (rl : RL Γ ρ L H) (r : RW Γ ρ H a v) (h : isStr a L = true) : tyV K "str" v H := by
  unfold isStr at h
  split at h
  · cases r; rfl
  · cases h
theorem isDic_ok {ρ : List Addr} {H : Hp} {L : LH} {a : W} {v : V} {K : PySem.W.Frag} (rl : RL Γ ρ L H) (r : RW Γ ρ H a v) (h : isDic a L = true) : tyV K "dict" v H := by
  unfold isDic at h
  cases e : dicW a L with
  | none => rw [e] at h; cases h
  | some kvs =>
    obtain ⟨n, p, vs, rfl, eo, rfl, ep, hp, _⟩ := dicW_inv rl r e
    exact .inr (.inr (.inl ⟨rfl, .inl ⟨vs, hp⟩⟩))
def vM (Γ : Ctx) (o : W → List W → LH → OV) : V → List V → Hp → VK → Prop := fun x xs H Q => ∃ ρ L a as, RL Γ ρ L H ∧ RW Γ ρ H a x ∧ RWs Γ ρ H as xs ∧ OkOut Γ ρ H (o a as L) Q
theorem MtR.imp {id : String} {r r' : V → List V → Hp → VK → Prop} (h : MtR X id r) (i : ∀ x xs H Q, r' x xs H Q → r x xs H Q) : MtR X id r' := fun pins s σ H x xs v us Q I rx rs q => h pins s σ H x xs v us Q I rx rs (i _ _ _ _ q)
theorem d_bm {T id : String} {name : Str} {apos : Pos} {chk : W → LH → Bool} {o : W → List W → LH → OV} {ob e : Expr} {es : List Expr} {f : Ex} {fs : ExL} (hchk : ∀ {ρ : List Addr} {H : Hp} {L : LH} {a : W} {v : V}, RL Γ ρ L H → RW Γ ρ H a v → chk a L = true → tyV X.K T v H)
    (pa : PlainAttrs T) (slot : Slot T name id) (hty : typeOf (.builtin id) = pure (.type "method_descriptor")) (hm : Good X Γ k Wx → MtR X id (vM Γ o)) (ho : DE X Γ k Wx ob f) (ha : DA X Γ k Wx (e :: es) fs)
    (hbase : attributeBase ob name X.env (eval ob X.env) = eval ob X.env)
    (hfew : ((backTo pos (starEach (e :: es) X.env)).all (fun x => !x.1) && (backToKw pos (keywordEach [] X.env)).all (fun x => x.1.isSome)
      && decide ((e :: es).length + ([] : List Keyword).length + (if ([] : List Keyword).isEmpty then 0 else 1) < 30)) = true)
    (hline : (apos.endLine == pos.line) = true) (hs : starEach (e :: es) X.env = (false, eval e X.env) :: starEach es X.env) (hplain : (backTo pos (starEach es X.env)).any (·.1) = false) :
    DE X Γ k Wx (.Call (.Attribute ob name apos) (e :: es) [] pos) (cMth chk o f fs) := fun g =>
  PE.imp (pe_bm pa slot hty (hm g) (ho g) (ha g) hbase hfew hline hs hplain) fun σ H Q q => by
    obtain ⟨ρ, env, L, rl, re, q⟩ := q
    refine tG_bind rl re q fun ρ1 H1 a v L1 a1 re1 r1 h1 => ?_
    split at h1
    · rename_i hc
      refine ⟨hchk a1.rl r1 hc, tG_bind a1.rl re1 h1 fun ρ2 H2 as vs L2 a2 re2 r2 h2 => ?_⟩
      exact ⟨ρ2, L2, a, as, a2.rl, r1.mono a2.pre a2.kp, r2, out_of h2⟩
    · exact h1.elim
def oAppend (a : W) (as : List W) (L : LH) : OV := match a, as with
  | .ref n, [w] => match L[n]? with
    | some (.lst xs) => if xs.length < 16777216 then some (.non, L.set n (.lst (xs ++ [w]))) else none
    | _ => none
  | _, _ => none
theorem m_append (g : Good X Γ k Wx) : MtR X "list.append" (vM Γ oAppend) := by
  refine MtR.imp mt_append fun x xs H Q h => ?_
  obtain ⟨ρ, L, a, as, rl, ra, rs, h⟩ := h
  unfold oAppend at h
  split at h
  · rename_i n w
    split at h
    · rename_i ys eo
      split at h
      · rename_i hz
        obtain ⟨p, vs, rfl, hp, r, ep⟩ := rl.lst ra eo
        replace rs := rs.one_inv
        obtain ⟨y, rfl, ry⟩ := rs
        refine ⟨p, vs, y, rfl, rfl, hp, by rw [← r.length, line_eq]; exact hz, ?_⟩
        refine h ρ _ _ (.set rl eo ep ⟨_, upd_same, ?_⟩) .non
        exact ((r.append (.one ry)).mono (List.prefix_refl _) (.write hp rfl))
      · exact h.elim
    · exact h.elim
  · exact h.elim
theorem d_append {apos : Pos} {ob e : Expr} {es : List Expr} {f : Ex} {fs : ExL} (ho : DE X Γ k Wx ob f) (ha : DA X Γ k Wx (e :: es) fs)
    (hbase : attributeBase ob "append" X.env (eval ob X.env) = eval ob X.env := by rfl)
    (hfew : ((backTo pos (starEach (e :: es) X.env)).all (fun x => !x.1) && (backToKw pos (keywordEach [] X.env)).all (fun x => x.1.isSome)
      && decide ((e :: es).length + ([] : List Keyword).length + (if ([] : List Keyword).isEmpty then 0 else 1) < 30)) = true := by rfl)
    (hline : (apos.endLine == pos.line) = true := by rfl) (hs : starEach (e :: es) X.env = (false, eval e X.env) :: starEach es X.env := by rfl) (hplain : (backTo pos (starEach es X.env)).any (·.1) = false := by rfl) :
    DE X Γ k Wx (.Call (.Attribute ob "append" apos) (e :: es) [] pos) (cMth isLst oAppend f fs) :=
  d_bm isLst_ok PySem.F.plainAttrs_list PySem.F.slot_list_append PySem.F.type_list_append m_append ho ha hbase hfew hline hs hplain
def oExtend (a : W) (as : List W) (L : LH) : OV := match a, as with
  | .ref n, [.ref m] => match L[n]?, L[m]? with
    | some (.lst xs), some (.lst ys) => if xs.length + ys.length ≤ 16777216 then some (.non, L.set n (.lst (xs ++ ys))) else none
    | _, _ => none
  | _, _ => none
theorem m_extend (g : Good X Γ k Wx) : MtR X "list.extend" (vM Γ oExtend) := by
  refine MtR.imp mt_extend fun x xs H Q h => ?_
  obtain ⟨ρ, L, a, as, rl, ra, rs, h⟩ := h
  unfold oExtend at h
  split at h
  · rename_i n m
    split at h
    · rename_i ys zs eo eo2
      split at h
      · rename_i hz
        obtain ⟨p, vs, rfl, hp, r, ep⟩ := rl.lst ra eo
        replace rs := rs.one_inv
        obtain ⟨y, rfl, ry⟩ := rs
        obtain ⟨q, us, rfl, hq, r2, eq⟩ := rl.lst ry eo2
        refine ⟨p, q, vs, us, rfl, rfl, hp, hq, by rw [← r.length, ← r2.length, line_eq]; exact hz, ?_⟩
        refine h ρ _ _ (.set rl eo ep ⟨_, upd_same, ?_⟩) .non
        exact ((r.append r2).mono (List.prefix_refl _) (.write hp rfl))
      · exact h.elim
    · exact h.elim
  · exact h.elim
theorem d_extend {apos : Pos} {ob e : Expr} {es : List Expr} {f : Ex} {fs : ExL} (ho : DE X Γ k Wx ob f) (ha : DA X Γ k Wx (e :: es) fs)
    (hbase : attributeBase ob "extend" X.env (eval ob X.env) = eval ob X.env := by rfl)
    (hfew : ((backTo pos (starEach (e :: es) X.env)).all (fun x => !x.1) && (backToKw pos (keywordEach [] X.env)).all (fun x => x.1.isSome)
      && decide ((e :: es).length + ([] : List Keyword).length + (if ([] : List Keyword).isEmpty then 0 else 1) < 30)) = true := by rfl)
    (hline : (apos.endLine == pos.line) = true := by rfl) (hs : starEach (e :: es) X.env = (false, eval e X.env) :: starEach es X.env := by rfl) (hplain : (backTo pos (starEach es X.env)).any (·.1) = false := by rfl) :
    DE X Γ k Wx (.Call (.Attribute ob "extend" apos) (e :: es) [] pos) (cMth isLst oExtend f fs) :=
  d_bm isLst_ok PySem.F.plainAttrs_list PySem.F.slot_list_extend PySem.F.type_list_extend m_extend ho ha hbase hfew hline hs hplain

/-! ### is, is not: bools, None -/
def oIs (a b : W) (L : LH) : OV := match a, b with
  | .bl x, .bl y => some (.bl (decide (x = y)), L)
  | a, b => oIsN a b L
def oIsNot (a b : W) (L : LH) : OV := match a, b with
  | .bl x, .bl y => some (.bl (!decide (x = y)), L)
  | a, b => oNotN a b L
theorem o_is : O2 X Γ k Wx (compareOp .Is) oIs := fun g => by
  refine OpR.imp (op_isBl.or op_isN) fun x y H Q h => ?_
  obtain ⟨ρ, L, a, b, rl, ra, rb, h⟩ := h
  unfold oIs at h
  split at h
  · cases ra; cases rb; exact .inl ⟨_, _, rfl, rfl, h.here rl (.bl _)⟩
  · unfold oIsN at h
    split at h
    · cases rb
      rw [ra.non_iff] at h
      exact .inr ⟨rfl, h.here rl (.bl _)⟩
    · exact h.elim
theorem o_isNot : O2 X Γ k Wx (compareOp .IsNot) oIsNot := fun g => by
  refine OpR.imp (op_notBl.or op_notN) fun x y H Q h => ?_
  obtain ⟨ρ, L, a, b, rl, ra, rb, h⟩ := h
  unfold oIsNot at h
  split at h
  · cases ra; cases rb; exact .inl ⟨_, _, rfl, rfl, h.here rl (.bl _)⟩
  · unfold oNotN at h
    split at h
    · cases rb
      rw [ra.non_iff] at h
      exact .inr ⟨rfl, h.here rl (.bl _)⟩
    · exact h.elim

/-! ### isinstance with built-in types -/
def tyName (a : W) (L : LH) : Option String := match a with
  | .non => some "NoneType"
  | .bl _ => some "bool"
  | .int _ => some "int"
  | .str _ => some "str"
  | .tup _ => some "tuple"
  | .ref n => match L[n]? with
    | some (.lst _) => some "list"
    | some (.dic _) => some "dict"
    | _ => none
  | _ => none
def isiT (t : String) : W → Option Bool
  | .ty n => kitB t n
  | _ => none
def isiTs (t : String) : List W → Option Bool
  | [] => some false
  | c :: r => match isiT t c with
    | some true => match isiTs t r with
      | some _ => some true
      | none => none
    | some false => isiTs t r
    | none => none
def oIsi (as : List W) (L : LH) : OV := match as with
  | [a, .ty n] => match tyName a L with
    | some t => (kitB t n).map fun b => (.bl b, L)
    | none => none
  | _ => none
theorem tyName_ok {ρ : List Addr} {H : Hp} {L : LH} {a : W} {x : V} {t : String} {K : PySem.W.Frag} (hK : K = Γ.K) (rl : RL Γ ρ L H) (r : RW Γ ρ H a x) (h : tyName a L = some t) : TyX K H x (.type t) := by
  subst hK
  cases r with
  | non => cases h; exact .base .non
  | bl b => cases h; exact .base (.bl b)
  | int i => cases h; exact .base (.int i)
  | str y => cases h; exact .base (.str y)
  | tup s r =>
    cases h
    rcases s with (s | ⟨o, s⟩) | ⟨o, its, n, e, c, _⟩
    · exact .base (.tup s)
    · exact .fTuple s
    · exact .kTuple e c
  | ref e =>
    simp only [tyName] at h
    split at h
    · rename_i eo
      cases h
      obtain ⟨p, vs, e1, hp, _⟩ := rl.lst (.ref e) eo
      cases e1; exact .base (.lst hp)
    · rename_i eo
      cases h
      obtain ⟨p, vs, e1, hp, _⟩ := rl.dic (.ref e) eo
      cases e1; exact .base (.dK hp)
    · cases h
  | _ => cases h
theorem isiTs_ok {ρ : List Addr} {H : Hp} {K : PySem.W.Frag} {t : String} : ∀ {cs : List W} {vs : List V} {b : Bool}, RWs Γ ρ H cs vs → isiTs t cs = some b → ∃ us, Paired ClsV vs us ∧ PySem.W.kitAny K (.type t) us = some b
  | _, _, _, .nil, e => by cases e; exact ⟨[], .nil, kitAny_nil⟩
  | _, _, b, .cons (w := c) (ws := cs) r rs, e => by
    unfold isiTs at e
    cases c with
    | ty n =>
      cases r
      simp only [isiT] at e
      cases ek : kitB t n with
      | none => rw [ek] at e; cases e
      | some x =>
        rw [ek] at e
        cases x with
        | true =>
          simp only at e
          cases er : isiTs t cs with
          | none => rw [er] at e; cases e
          | some y =>
            rw [er] at e; cases e
            obtain ⟨us, p, q⟩ := isiTs_ok (K := K) rs er
            exact ⟨.type n :: us, .cons (.ty n) p, kitAny_cons (kit_ty ek) (fun z => nomatch z) (fun _ => rfl)⟩
        | false =>
          simp only at e
          obtain ⟨us, p, q⟩ := isiTs_ok (K := K) rs e
          exact ⟨.type n :: us, .cons (.ty n) p, kitAny_cons (kit_ty ek) (fun _ => q) (fun z => nomatch z)⟩
    | _ => cases e
theorem c_isi (g : Good X Γ k Wx) : CallR X (.builtin "isinstance") (vN Γ oIsi) := by
  refine CallR.imp call_isi fun xs H Q h => ?_
  obtain ⟨ρ, L, as, rl, ra, h⟩ := h
  unfold oIsi at h
  split at h
  · rename_i a n
    replace ra := ra.two_inv
    obtain ⟨x, y, rfl, r1, r2⟩ := ra
    cases r2
    split at h
    · rename_i t et
      cases ek : kitB t n with
      | none => rw [ek] at h; exact h.elim
      | some b =>
        rw [ek] at h
        exact ⟨x, _, _, _, b, rfl, .ty n, tyName_ok g.K rl r1 et, kit_ty ek, h.here rl (.bl _)⟩
    · exact h.elim
  · exact h.elim
theorem boot_isi_ : bootBuiltins "isinstance" = some (.builtin "isinstance") := by decide +kernel
theorem d_isi {p : Pos} {e : Expr} {es : List Expr} {f : ExL} (hm : X.mg "isinstance" = none) (ha : DA X Γ k Wx (e :: es) f) (hg : Gl X "isinstance" := by rfl) (he : starEach (e :: es) X.env = (false, eval e X.env) :: starEach es X.env := by rfl) (hpl : (backTo pos (starEach es X.env)).any (·.1) = false := by rfl) : DE X Γ k Wx (.Call (.Name "isinstance" p) (e :: es) [] pos) (cOpL oIsi f) :=
  d_callB c_isi boot_isi_ (by decide) (by decide) hm ha hg he hpl
/-- isinstance(x, (T1, T2, ..)) -/
def cIsiT (f : Ex) (fs : ExL) : Ex := fun env L => (f env L).bind fun a L1 => (fs env L1).bind fun cs L2 => if cs.length ≤ 16777216 then (match tyName a L2 with
    | some t => match isiTs t cs with
      | some b => .ok (.bl b) L2
      | none => .stk
    | none => .stk) else .stk
theorem tyX_fresh {H : Hp} {K : PySem.W.Frag} {x : V} {t : Value} {p : Addr} {o : HO} (h : TyX K H x t) (hp : H p = none) : TyX K (upd H p o) x t := by
  have st : ∀ {a : Addr} {u : HO}, H a = some u → upd H p o a = some u := fun {a u} e => by rw [upd_ne (ne_of_none e hp)]; exact e
  cases h with
  | base h =>
    cases h with
    | non => exact .base .non
    | bl x => exact .base (.bl x)
    | int x => exact .base (.int x)
    | str x => exact .base (.str x)
    | flt x => exact .base (.flt x)
    | lst e => exact .base (.lst (st e))
    | frz e => exact .base (.frz (st e))
    | tup e => exact .base (.tup (st e))
    | dK e => exact .base (.dK (st e))
    | dT e => exact .base (.dT (st e))
    | ins e a b c d f => exact .base (.ins (st e) a b c d f)
  | byt b => exact .byt b
  | set e => exact .set (st e)
  | kList e c => exact .kList e c
  | kTuple e c => exact .kTuple e c
  | kDict e c => exact .kDict e c
  | fTuple e => exact .fTuple (st e)
  | fDict e => exact .fDict (st e)
theorem d_isiT {p p2 : Pos} {e : Expr} {ts : List Expr} {f : Ex} {fs : ExL} {x1} (hm : X.mg "isinstance" = none) (ha : DE X Γ k Wx e f) (ht : DA X Γ k Wx ts fs) (hg : Gl X "isinstance" := by rfl) (he : starEach [e, .Tuple ts x1 p2] X.env = (false, eval e X.env) :: starEach [.Tuple ts x1 p2] X.env := by rfl)
    (he2 : starEach [.Tuple ts x1 p2] X.env = (false, eval (.Tuple ts x1 p2) X.env) :: starEach [] X.env := by rfl) (hpl : (backTo pos (starEach [.Tuple ts x1 p2] X.env)).any (·.1) = false := by rfl) : DE X Γ k Wx (.Call (.Name "isinstance" p) [e, .Tuple ts x1 p2] [] pos) (cIsiT f fs) := fun g =>
  PE.imp (pe_callB call_isiT hg hm boot_isi_ (pa_cons (ha g) (pa_cons (pe_tup (ht g)) pa_nil he2) he) (by decide) (by decide) he hpl) fun σ H Q q => by
    obtain ⟨ρ, env, L, rl, re, q⟩ := q
    refine tG_bind rl re q fun ρ1 H1 a x L1 a1 re1 r1 h1 => ?_
    refine tG_bind a1.rl re1 h1 fun ρ2 H2 cs vs L2 a2 re2 r2 h2 => ?_
    split at h2
    · rename_i hz
      refine ⟨by rw [← r2.length, line_eq]; exact hz, fun tp hp => ?_⟩
      cases et : tyName a L2 with
      | none => rw [et] at h2; exact h2.elim
      | some t =>
        rw [et] at h2
        simp only at h2
        cases ek : isiTs t cs with
        | none => rw [ek] at h2; exact h2.elim
        | some b =>
          rw [ek] at h2
          obtain ⟨us, pq, qq⟩ := isiTs_ok (K := X.K) r2 ek
          refine ⟨x, tp, vs, _, us, b, rfl, upd_same, pq, tyX_fresh (tyName_ok g.K a2.rl (r1.mono a2.pre a2.kp) et) hp, qq, ?_⟩
          exact h2 ρ2 _ _ (.fresh a2.rl hp) (.bl _)
    · exact h2.elim
end
end Z

/-! Z10: sorted, comprehensions of two clauses, dict comprehensions. -/
namespace Z
open PySem PySem.Spec PyProof.Rows L2
/-! ### sorted, texts -/
def insS (x : Str) : List Str → List Str
  | [] => [x]
  | y :: r => if ltCps y.cps.toList x.cps.toList = true then y :: insS x r else x :: y :: r
def srtS : List Str → List Str
  | [] => []
  | x :: r => insS x (srtS r)
theorem insS_perm (x : Str) : ∀ l, (insS x l).Perm (x :: l)
  | [] => .refl _
  | y :: r => by
    unfold insS
    split
    · exact ((insS_perm x r).cons y).trans (.swap _ _ _)
    · exact .refl _
theorem srtS_perm : ∀ l, (srtS l).Perm l
  | [] => .refl _
  | x :: r => (insS_perm x _).trans ((srtS_perm r).cons x)
theorem ltC_cons (x y : Nat) (r t : List Nat) : ltCps (x :: r) (y :: t) = (decide (x < y) || (x == y && ltCps r t)) := rfl
theorem ltC_anti : ∀ a b : List Nat, ltCps a b = false → ltCps b a = false → a = b
  | [], [], _, _ => rfl
  | [], _ :: _, h, _ => by cases h
  | _ :: _, [], _, h => by cases h
  | x :: r, y :: t, h1, h2 => by
    rw [ltC_cons, Bool.or_eq_false_iff, decide_eq_false_iff_not] at h1 h2
    have e : x = y := by omega
    subst e
    rw [beq_self_eq_true, Bool.true_and] at h1 h2
    rw [ltC_anti r t h1.2 h2.2]
theorem ltC_trans : ∀ a b c : List Nat, ltCps b a = false → ltCps c b = false → ltCps c a = false
  | [], _, [], _, _ => rfl
  | [], [], _ :: _, _, _ => rfl
  | [], _ :: _, _ :: _, _, _ => rfl
  | _ :: _, [], _, h, _ => by cases h
  | _ :: _, _ :: _, [], _, h => by cases h
  | x :: r, y :: t, z :: u, h1, h2 => by
    rw [ltC_cons, Bool.or_eq_false_iff, decide_eq_false_iff_not] at h1 h2
    rw [ltC_cons, Bool.or_eq_false_iff, decide_eq_false_iff_not]
    refine ⟨by omega, ?_⟩
    by_cases e : z = x
    · have e1 : y = x := by omega
      subst e1; subst e
      rw [beq_self_eq_true, Bool.true_and] at h1 h2 ⊢
      exact ltC_trans r t u h1.2 h2.2
    · rw [beq_eq_false_iff_ne.mpr e]; rfl
theorem ltC_total : ∀ a b : List Nat, ltCps a b = true → ltCps b a = false
  | [], _ :: _, _ => rfl
  | x :: r, y :: t, h => by
    rw [ltC_cons, Bool.or_eq_true, decide_eq_true_eq, Bool.and_eq_true, beq_iff_eq] at h
    rw [ltC_cons, Bool.or_eq_false_iff, decide_eq_false_iff_not]
    rcases h with h | ⟨e, h⟩
    · exact ⟨by omega, by rw [beq_eq_false_iff_ne.mpr (by omega)]; rfl⟩
    · subst e
      exact ⟨by omega, by rw [beq_self_eq_true, Bool.true_and]; exact ltC_total r t h⟩
  | [], [], h => by cases h
  | _ :: _, [], h => by cases h
abbrev leS (a b : Str) : Prop := ltCps b.cps.toList a.cps.toList = false
theorem risingS_pair : ∀ (l : List Str) (p : Str), PyProof.Rows.risingS p l = true → (p :: l).Pairwise leS
  | [], p, _ => by simp
  | x :: r, p, h => by
    unfold PyProof.Rows.risingS at h
    rw [Bool.and_eq_true, Bool.not_eq_true'] at h
    have ih := risingS_pair r x h.2
    refine List.pairwise_cons.mpr ⟨fun y hy => ?_, ih⟩
    rcases List.mem_cons.mp hy with rfl | hy
    · exact h.1
    · exact ltC_trans _ _ _ h.1 ((List.pairwise_cons.mp ih).1 y hy)
theorem sortedS_pair {l : List Str} (h : PyProof.Rows.sortedS l = true) : l.Pairwise leS := by
  cases l with
  | nil => exact .nil
  | cons x r => exact risingS_pair r x h
theorem insS_pair (x : Str) : ∀ {l : List Str}, l.Pairwise leS → (insS x l).Pairwise leS
  | [], _ => by simp [insS]
  | y :: r, h => by
    have h1 := List.pairwise_cons.mp h
    unfold insS
    split
    · rename_i hl
      refine List.pairwise_cons.mpr ⟨fun z hz => ?_, insS_pair x h1.2⟩
      rcases List.mem_cons.mp ((insS_perm x r).mem_iff.mp hz) with rfl | hz
      · exact ltC_total _ _ hl
      · exact h1.1 z hz
    · rename_i hl
      have hl' : leS x y := by
        cases e : ltCps y.cps.toList x.cps.toList with
        | true => exact absurd e hl
        | false => exact e
      refine List.pairwise_cons.mpr ⟨fun z hz => ?_, h⟩
      rcases List.mem_cons.mp hz with rfl | hz
      · exact hl'
      · exact ltC_trans _ _ _ hl' (h1.1 z hz)
theorem srtS_pair : ∀ l : List Str, (srtS l).Pairwise leS
  | [] => .nil
  | x :: r => insS_pair x (srtS_pair r)
theorem leS_anti {a b : Str} (h1 : leS a b) (h2 : leS b a) : a = b := by
  have := ltC_anti _ _ h2 h1
  cases a; cases b
  congr 1
  exact Array.toList_inj.mp this
theorem srtS_unique {l ys : List Str} (hp : ys.Perm l) (h : ys.Pairwise leS) : ys = srtS l :=
  (hp.trans (srtS_perm l).symm).eq_of_pairwise (fun x y _ _ h1 h2 => leS_anti h1 h2) h (srtS_pair l)
section
variable {X : Cx} {Γ : Ctx} {k : Nat} {Wx : WX} {pos : Pos}
def oSortedS (as : List W) (L : LH) : OV := match lstOf strsW L as with
  | some xs => if xs.length < 64 then some (.ref L.length, L ++ [.lst ((srtS xs).map .str)]) else none
  | none => none
theorem RWs.strs {ρ : List Addr} {H : Hp} (ns : List Str) : RWs Γ ρ H (ns.map W.str) (ns.map V.str) := by
  induction ns with
  | nil => exact .nil
  | cons n r ih => exact .cons (.str n) ih
theorem c_sortedS (g : Good X Γ k Wx) : CallR X (.builtin "sorted") (vN Γ oSortedS) := by
  refine CallR.imp cr_sortedS fun xs H Q h => ?_
  obtain ⟨ρ, L, as, rl, ra, h⟩ := h
  unfold oSortedS at h
  split at h
  · rename_i ns e
    split at h
    · rename_i hz
      obtain ⟨a, rfl, s⟩ := lstOf_inv strsW_ok rl ra e
      refine ⟨a, ns, rfl, by rw [g.K]; exact s, hz, fun ys p hp hs hn => ?_⟩
      rw [srtS_unique hp (sortedS_pair hs)]
      exact h.lst rl (RWs.strs _) p hn
    · exact h.elim
  · exact h.elim
theorem boot_sorted_ : bootBuiltins "sorted" = some (.builtin "sorted") := by decide +kernel
theorem d_sortedS {p : Pos} {e : Expr} {es : List Expr} {f : ExL} (hm : X.mg "sorted" = none) (ha : DA X Γ k Wx (e :: es) f) (hg : Gl X "sorted" := by rfl) (he : starEach (e :: es) X.env = (false, eval e X.env) :: starEach es X.env := by rfl) (hpl : (backTo pos (starEach es X.env)).any (·.1) = false := by rfl) : DE X Γ k Wx (.Call (.Name "sorted" p) (e :: es) [] pos) (cOpL oSortedS f) :=
  d_callB c_sortedS boot_sorted_ (by decide) (by decide) hm ha hg he hpl

/-! ### [e for .. for ..] -/
def lc2In (S : Src) (c : CT) (t : Bx) (e : Ex) (env : Env) : Nat → Nat → LH → List W → Res (List W)
  | 0, _, _, _ => .stk
  | f + 1, i, L, acc => match S.get L i with
    | none => .stk
    | some none => .ok acc L
    | some (some w) => match c.set w env with
      | none => .stk
      | some env1 => (t env1 L).only.bind fun b L1 => if b = true then (e env1 L1).only.bind fun y L2 => if acc.length < 16777216 then lc2In S c t e env f (i + 1) L2 (acc ++ [y]) else .stk
        else lc2In S c t e env f (i + 1) L1 acc
def lc2Loop (S : Src) (c : CT) (t : Bx) (it1 : Ix) (vs1 : List Nat) (c1 : CT) (t1 : Bx) (e : Ex) (env : Env) : Nat → Nat → LH → List W → Res (List W)
  | 0, _, _, _ => .stk
  | f + 1, i, L, acc => match S.get L i with
    | none => .stk
    | some none => .ok acc L
    | some (some w) => match c.set w env with
      | none => .stk
      | some env1 => (t env1 L).only.bind fun b L1 => if b = true then (it1 env1 L1).only.bind fun S1 L2 => (lc2In S1 c1 t1 e (wipeE env1 vs1) (S1.len + 1) 0 L2 acc).bind fun acc' L3 => lc2Loop S c t it1 vs1 c1 t1 e env f (i + 1) L3 acc'
        else lc2Loop S c t it1 vs1 c1 t1 e env f (i + 1) L1 acc
def cLc2 (vs vs1 : List Nat) (it : Ix) (c : CT) (t : Bx) (it1 : Ix) (c1 : CT) (t1 : Bx) (e : Ex) : Ex := fun env L => (it env L).bind fun S L1 => (lc2Loop S c t it1 vs1 c1 t1 e (wipeE env vs) (S.len + 1) 0 L1 []).bind fun acc L2 => .ok (.ref L2.length) (L2 ++ [.lst acc])
theorem lc2_read {S : Src} {J : It} {c c1 : CT} {t t1 : Bx} {it1 : Ix} {e : Ex} {vs vs1 : List Nat} {σ : L2.St} {Q : VK} {K : PySem.W.Frag} (hK : K = Γ.K) (hv : ∀ i ∈ c.slots, i ∈ vs) (hv1 : ∀ i ∈ c1.slots, i ∈ vs1) {ρ1 : List Addr} {H1 : Hp} {L1 : LH} {env : Env}
    (rl1 : RL Γ ρ1 L1 H1) (re1 : REnv Γ ρ1 H1 env σ) (hS : RSrc Γ ρ1 H1 S J)
    (h : Out (RW Γ) Γ Wx σ ρ1 H1 ((lc2Loop S c t it1 vs1 c1 t1 e (wipeE env vs) (S.len + 1) 0 L1 []).bind fun acc L2 => .ok (.ref L2.length) (L2 ++ [.lst acc])) Q) (D : Addr) (hD : H1 D = none) :
    ∃ W : Nat → Nat → Hp → Prop, (∃ m, W 0 m (upd H1 D (.lst []))) ∧ ∀ i m H, W i m H →
      (J.stop i H ∧ Q (.ref D) H) ∨ (J.go i H ∧ ∃ Nx : Hp → Prop, (∀ H', Nx H' → ∃ m', m' < m ∧ W (i + 1) m' H') ∧ ∀ x H', J.yld i H x H' → (c.tg K) x (wipe σ vs) H' fun σ2 H2 => wipe σ2 vs = wipe σ vs ∧ tExB Γ W0 t σ2 H2 fun b H3 =>
        if b = true then tG (RSrc Γ) Γ W0 it1 σ2 H3 fun J1 H4 => ∃ W1 : Nat → Nat → Hp → Prop, (∃ m, W1 0 m H4) ∧ ∀ j k H, W1 j k H →
          (J1.stop j H ∧ Nx H) ∨ (J1.go j H ∧ ∃ Nx1 : Hp → Prop, (∀ H', Nx1 H' → ∃ k', k' < k ∧ W1 (j + 1) k' H') ∧ ∀ x H', J1.yld j H x H' → (c1.tg K) x (wipe σ2 vs1) H' fun σ3 H5 => wipe σ3 vs1 = wipe σ2 vs1 ∧ tExB Γ W0 t1 σ3 H5 fun b H6 =>
            if b = true then tEx Γ W0 e σ3 H6 fun y H7 => ∃ acc, H7 D = some (.lst acc) ∧ acc.length < sizeLine ∧ Nx1 (upd H7 D (.lst (acc ++ [y]))) else Nx1 H6)
        else Nx H3) := by
  refine ⟨fun i m H => ∃ ρ L acc xs H0, H = upd H0 D (.lst xs) ∧ H0 D = none ∧ Aft Γ ρ1 H1 L ρ H0 ∧ RWs Γ ρ H0 acc xs ∧
    Out (RW Γ) Γ Wx σ ρ H0 ((lc2Loop S c t it1 vs1 c1 t1 e (wipeE env vs) m i L acc).bind fun acc L2 => .ok (.ref L2.length) (L2 ++ [.lst acc])) Q, ⟨S.len + 1, ρ1, L1, [], [], H1, rfl, hD, .refl rl1, .nil, h⟩, ?_⟩
  rintro i m H ⟨ρ, L, acc, xs, H0, rfl, h0, af, ra, h⟩
  have rl := af.rl
  have nD : D ∉ ρ := rl.out h0
  have rlD : RL Γ ρ L (upd H0 D (.lst xs)) := rl.fresh h0
  have kpD : Keep H1 (upd H0 D (.lst xs)) := af.kp.trans (.fresh h0)
  have reD : REnv Γ ρ (upd H0 D (.lst xs)) (wipeE env vs) (wipe σ vs) := (re1.mono af.pre kpD).wipe vs
  cases m with
  | zero => exact h.elim
  | succ f =>
    unfold lc2Loop at h
    have hJ := hS ρ _ L af.pre kpD rlD i
    cases eg : S.get L i with
    | none => rw [eg] at h; exact h.elim
    | some o =>
      cases o with
      | none =>
        rw [eg] at h
        refine .inl ⟨hJ.2 eg, ?_⟩
        have h : Out (RW Γ) Γ Wx σ ρ H0 (.ok (.ref L.length) (L ++ [.lst acc])) Q := h
        refine h (ρ ++ [D]) _ _ (.push rl h0 ⟨xs, upd_same, ra.mono (pre_app _ _) (.fresh h0)⟩) (.ref ?_)
        rw [← rl.len]; exact List.getElem?_concat_length
      | some w =>
        rw [eg] at h
        simp only at h
        obtain ⟨hgo, hy⟩ := hJ.1 w eg
        refine .inr ⟨hgo, fun H' => ∃ ρ L acc xs H0, H' = upd H0 D (.lst xs) ∧ H0 D = none ∧ Aft Γ ρ1 H1 L ρ H0 ∧ RWs Γ ρ H0 acc xs ∧
          Out (RW Γ) Γ Wx σ ρ H0 ((lc2Loop S c t it1 vs1 c1 t1 e (wipeE env vs) f (i + 1) L acc).bind fun acc L2 => .ok (.ref L2.length) (L2 ++ [.lst acc])) Q, fun H' hN => ⟨f, Nat.lt_succ_self _, hN⟩, fun x H' y => ?_⟩
        obtain ⟨a2, r2⟩ := hy x H' y
        cases ec : c.set w (wipeE env vs) with
        | none => rw [ec] at h; exact h.elim
        | some env1 =>
          rw [ec] at h
          simp only at h
          refine CT.ok K hK (reD.mono a2.pre a2.kp) r2 ec hv fun σ2 re2 hw => ⟨by rw [hw, wipe_idem], ?_⟩
          refine ⟨ρ, env1, L, a2.rl, re2, ?_⟩
          cases et : t env1 L with
          | exc e' L' => rw [et] at h; exact h.elim
          | stk => rw [et] at h; exact h.elim
          | ok b L3 =>
            rw [et] at h
            simp only [Res.only, Res.bind] at h
            intro ρ3 H3 b' a3 eb
            cases eb
            have a23 := a2.trans a3
            cases b with
            | false =>
              obtain ⟨a4, h4, _⟩ := Aft.hide h0 nD rfl a23
              exact ⟨ρ3, L3, acc, xs, hide H3 D, (hide_upd h4).symm, hide_at, af.trans a4, ra.mono a4.pre a4.kp, Out.rebase a4 h⟩
            | true =>
              have re3 := re2.mono a3.pre a3.kp
              refine ⟨ρ3, env1, L3, a3.rl, re3, ?_⟩
              simp only [if_true] at h
              cases ei : it1 env1 L3 with
              | exc e' L' => rw [ei] at h; exact h.elim
              | stk => rw [ei] at h; exact h.elim
              | ok S1 L4 =>
                rw [ei] at h
                simp only at h
                intro ρ4 H4 J1 a4 hS1
                have hI : Out (RW Γ) Γ Wx σ ρ H0 (((lc2In S1 c1 t1 e (wipeE env1 vs1) (S1.len + 1) 0 L4 acc).bind fun acc' L3 => lc2Loop S c t it1 vs1 c1 t1 e (wipeE env vs) f (i + 1) L3 acc').bind fun acc L2 => .ok (.ref L2.length) (L2 ++ [.lst acc])) Q := h
                clear h
                obtain ⟨b4, h4, n4⟩ := Aft.hide h0 nD rfl (a23.trans a4)
                have re4 := re3.mono a4.pre a4.kp
                refine ⟨fun j k H => ∃ ρ L acc xs Hq, H = upd Hq D (.lst xs) ∧ Hq D = none ∧ Aft Γ ρ1 H1 L ρ Hq ∧ ρ4 <+: ρ ∧ Keep H4 H ∧ RWs Γ ρ Hq acc xs ∧
                  Out (RW Γ) Γ Wx σ ρ Hq (((lc2In S1 c1 t1 e (wipeE env1 vs1) k j L acc).bind fun acc' L3 => lc2Loop S c t it1 vs1 c1 t1 e (wipeE env vs) f (i + 1) L3 acc').bind fun acc L2 => .ok (.ref L2.length) (L2 ++ [.lst acc])) Q,
                  ⟨S1.len + 1, ρ4, L4, acc, xs, hide H4 D, (hide_upd h4).symm, hide_at, af.trans b4, List.prefix_refl _, .refl, ra.mono b4.pre b4.kp, Out.rebase b4 hI⟩, ?_⟩
                rintro j k H ⟨ρ5, L5, acc5, xs5, H5, rfl, h05, af5, pr5, kp5, ra5, h⟩
                have rl5 := af5.rl
                have nD5 : D ∉ ρ5 := rl5.out h05
                have rlD5 : RL Γ ρ5 L5 (upd H5 D (.lst xs5)) := rl5.fresh h05
                have reD5 : REnv Γ ρ5 (upd H5 D (.lst xs5)) (wipeE env1 vs1) (wipe σ2 vs1) := (re4.mono pr5 kp5).wipe vs1
                cases k with
                | zero => exact h.elim
                | succ g =>
                  unfold lc2In at h
                  have hJ1 := hS1 ρ5 _ L5 pr5 kp5 rlD5 j
                  cases eg1 : S1.get L5 j with
                  | none => rw [eg1] at h; exact h.elim
                  | some o1 =>
                    cases o1 with
                    | none =>
                      rw [eg1] at h
                      exact .inl ⟨hJ1.2 eg1, ρ5, L5, acc5, xs5, H5, rfl, h05, af5, ra5, h⟩
                    | some w1 =>
                      rw [eg1] at h
                      simp only at h
                      obtain ⟨hgo1, hy1⟩ := hJ1.1 w1 eg1
                      refine .inr ⟨hgo1, fun H => ∃ ρ L acc xs Hq, H = upd Hq D (.lst xs) ∧ Hq D = none ∧ Aft Γ ρ1 H1 L ρ Hq ∧ ρ4 <+: ρ ∧ Keep H4 H ∧ RWs Γ ρ Hq acc xs ∧
                        Out (RW Γ) Γ Wx σ ρ Hq (((lc2In S1 c1 t1 e (wipeE env1 vs1) g (j + 1) L acc).bind fun acc' L3 => lc2Loop S c t it1 vs1 c1 t1 e (wipeE env vs) f (i + 1) L3 acc').bind fun acc L2 => .ok (.ref L2.length) (L2 ++ [.lst acc])) Q, fun H' hN => ⟨g, Nat.lt_succ_self _, hN⟩, fun x1 H6 y1 => ?_⟩
                      obtain ⟨a6, r6⟩ := hy1 x1 H6 y1
                      cases ec1 : c1.set w1 (wipeE env1 vs1) with
                      | none => rw [ec1] at h; exact h.elim
                      | some env2 =>
                        rw [ec1] at h
                        simp only at h
                        refine CT.ok K hK (reD5.mono a6.pre a6.kp) r6 ec1 hv1 fun σ3 re6 hw1 => ⟨by rw [hw1, wipe_idem], ?_⟩
                        refine ⟨ρ5, env2, L5, a6.rl, re6, ?_⟩
                        cases et1 : t1 env2 L5 with
                        | exc e' L' => rw [et1] at h; exact h.elim
                        | stk => rw [et1] at h; exact h.elim
                        | ok b1 L7 =>
                          rw [et1] at h
                          simp only [Res.only, Res.bind] at h
                          intro ρ7 H7 b' a7 eb
                          cases eb
                          have a67 := a6.trans a7
                          cases b1 with
                          | false =>
                            obtain ⟨a8, h8, _⟩ := Aft.hide h05 nD5 rfl a67
                            exact ⟨ρ7, L7, acc5, xs5, hide H7 D, (hide_upd h8).symm, hide_at, af5.trans a8, pr5.trans a8.pre, kp5.trans a67.kp, ra5.mono a8.pre a8.kp, Out.rebase a8 h⟩
                          | true =>
                            refine ⟨ρ7, env2, L7, a7.rl, re6.mono a7.pre a7.kp, ?_⟩
                            simp only [if_true] at h
                            cases ee : e env2 L7 with
                            | exc e' L' => rw [ee] at h; exact h.elim
                            | stk => rw [ee] at h; exact h.elim
                            | ok y L9 =>
                              rw [ee] at h
                              simp only at h
                              intro ρ9 H9 z a9 r9
                              obtain ⟨a8, h8, _⟩ := Aft.hide h05 nD5 rfl (a67.trans a9)
                              by_cases hz : acc5.length < 16777216
                              · rw [if_pos hz] at h
                                refine ⟨xs5, h8, by rw [← ra5.length, line_eq]; exact hz, ρ9, L9, acc5 ++ [y], xs5 ++ [z], hide H9 D, ?_, hide_at, af5.trans a8, pr5.trans a8.pre, (kp5.trans (a67.trans a9).kp).trans (.write h8 rfl), ?_, Out.rebase a8 h⟩
                                · rw [← hide_upd h8, upd_upd]
                                  rw [hide_upd h8]
                                · exact (ra5.mono a8.pre a8.kp).append (.one (r9.hide h8 rfl))
                              · rw [if_neg hz] at h; exact h.elim
theorem d_lc2 {elt tg iter tg1 iter1 : Expr} {ifs ifs1 : List Expr} {scope : Scope} {own : List (Str × Nat)} {vs1 : List Nat} {fi fi1 : Ix} {c c1 : CT} {t t1 : Bx} {e : Ex} (hi : DI X Γ k Wx tg iter fi) (ok : BlkOk X.N X.env.scope scope own) (hv : ∀ i ∈ c.slots, i ∈ own.map (·.2)) (hvs : ∀ i ∈ vs1, i ∈ own.map (·.2)) (hv1 : ∀ i ∈ c1.slots, i ∈ vs1)
    (hg : ∀ (s : Shared) (H : Hp) (C : Addr) (cl : List (Str × Addr)) (fp : List Addr), (Cx.bk X scope s H C cl fp).N.Nodup → (Cx.bk X scope s H C cl fp).calm = true → PG (Cx.bk X scope s H C cl fp) tg (c.tg X.K))
    (ht : ∀ (s : Shared) (H : Hp) (C : Addr) (cl : List (Str × Addr)) (fp : List Addr), DTs (Cx.bk X scope s H C cl fp) Γ k W0 ifs t)
    (hi1 : ∀ (s : Shared) (H : Hp) (C : Addr) (cl : List (Str × Addr)) (fp : List Addr), DI (Cx.bk X scope s H C cl fp) Γ k W0 tg1 iter1 fi1)
    (hg1 : ∀ (s : Shared) (H : Hp) (C : Addr) (cl : List (Str × Addr)) (fp : List Addr), (Cx.bk X scope s H C cl fp).N.Nodup → (Cx.bk X scope s H C cl fp).calm = true → PG (Cx.bk X scope s H C cl fp) tg1 (c1.tg X.K))
    (ht1 : ∀ (s : Shared) (H : Hp) (C : Addr) (cl : List (Str × Addr)) (fp : List Addr), DTs (Cx.bk X scope s H C cl fp) Γ k W0 ifs1 t1)
    (he : ∀ (s : Shared) (H : Hp) (C : Addr) (cl : List (Str × Addr)) (fp : List Addr), DE (Cx.bk X scope s H C cl fp) Γ k W0 elt e) (hs : ∀ x, foldedSetIterable iter X.env x = pure x := by intro _; rfl) (hs1 : ∀ env x, foldedSetIterable iter1 env x = pure x := by intro _ _; rfl) :
    DE X Γ k Wx (.ListComp elt [⟨tg, iter, ifs, 0⟩, ⟨tg1, iter1, ifs1, 0⟩] scope pos) (cLc2 (own.map (·.2)) vs1 fi c t fi1 c1 t1 e) := fun g =>
  PE.imp (pe_lc2 g.calm g.nd (hi g) ok hvs (fun s H C cl fp => hg s H C cl fp g.nd g.calm) (fun s H C cl fp => ht s H C cl fp (g.blk scope s H C cl fp)) (fun s H C cl fp => hi1 s H C cl fp (g.blk scope s H C cl fp)) (fun s H C cl fp => hg1 s H C cl fp g.nd g.calm) (fun s H C cl fp => ht1 s H C cl fp (g.blk scope s H C cl fp)) (fun s H C cl fp => he s H C cl fp (g.blk scope s H C cl fp)) hs hs1) fun σ H Q q => by
    obtain ⟨ρ, env, L, rl, re, q⟩ := q
    refine tG_bindE rl re q fun ρ1 H1 S J L1 ea a1 re1 hS h1 => ?_
    intro D hD
    exact lc2_read g.K hv hv1 a1.rl re1 hS h1 D hD
end
end Z

/-! Z11: constants of the text, targets of comprehensions, dict comprehensions. -/
namespace Z
open PySem PySem.Spec PyProof.Rows L2
/-- a constant of the text -/
def GW (Γ : Ctx) (mg : Str → Option Value) (x : Str) (w : W) : Prop := ∃ u v, mg x = some u ∧ RelV v u ∧ ∀ ρ H, RW Γ ρ H w v
section
variable {X : Cx} {Γ : Ctx} {k : Nat} {Wx : WX} {pos : Pos}
theorem d_gw {x : Str} {w : W} (h : GW Γ X.mg x w) (hg : Gl X x := by rfl) (hd : (x == ("__debug__" : Str)) = false := by decide) : DE X Γ k Wx (.Name x pos) (cC w) := by
  obtain ⟨u, v, hm, r, rw_⟩ := h
  exact d_const (pe_glob hg hm r hd) rw_
theorem gw_int {mg : Str → Option Value} {x : Str} {i : Int} {t : Tok} (h : mg x = some (.int i t)) : GW Γ mg x (.int i) := ⟨_, .int i, h, ⟨t, rfl⟩, fun _ _ => .int i⟩
theorem gw_str {mg : Str → Option Value} {x : Str} {i : Str} {t : Tok} (h : mg x = some (.str i t)) : GW Γ mg x (.str i) := ⟨_, .str i, h, ⟨t, rfl⟩, fun _ _ => .str i⟩
/-- flat data of the text -/
inductive RFlat : List W → List V → List Value → Prop
  | nil : RFlat [] [] []
  | int {i : Int} {t : Tok} {ws vs us} : RFlat ws vs us → RFlat (.int i :: ws) (.int i :: vs) (.int i t :: us)
  | str {i : Str} {t : Tok} {ws vs us} : RFlat ws vs us → RFlat (.str i :: ws) (.str i :: vs) (.str i t :: us)
theorem RFlat.vals : ∀ {ws vs us}, RFlat ws vs us → Vals vs us
  | _, _, _, .nil => .nil
  | _, _, _, .int r => .cons ⟨_, rfl⟩ r.vals
  | _, _, _, .str r => .cons ⟨_, rfl⟩ r.vals
theorem RFlat.rws {ρ : List Addr} {H : Hp} : ∀ {ws vs us}, RFlat ws vs us → RWs Γ ρ H ws vs
  | _, _, _, .nil => .nil
  | _, _, _, .int r => .cons (.int _) r.rws
  | _, _, _, .str r => .cons (.str _) r.rws
theorem gw_tup {K : PySem.W.Frag} (hK : Γ.K = K) {mg : Str → Option Value} {x : Str} {ws : List W} {vs : List V} {us : List Value} {a : Addr} {dd : Option Addr} {n : Nat} {sl : Array (Option Value)} (h : mg x = some (.ref a))
    (l : K.lookup a = some ⟨.type "tuple", dd, .seq us.toArray n, sl⟩) (r : RFlat ws vs us) (hz : us.length ≤ 1000) : GW Γ mg x (.tup ws) := by
  subst hK
  refine ⟨_, .ref a, h, rfl, fun ρ H => .tup (.inr ⟨_, us.toArray, n, l, rfl, rfl, ?_, by simpa using r.vals⟩) r.rws⟩
  rw [List.size_toArray]; exact Nat.le_of_lt (small1000 hz)

/-! ### targets -/
theorem ctg_one (i : Nat) {x : Str} (hN : X.N.Nodup) (hi : X.N[i]? = some x := by rfl) (hx : Loc X.env.scope x := by first | exact Or.inl rfl | exact Or.inr rfl) (hf : X.fn x = true ∨ X.env.scope.names.lookup x = some .local := by first | exact .inl rfl | exact .inr rfl) :
    PG X (.Name x pos) ((CT.one i).tg X.K) := pg_name hN hi hx hf
theorem ctgs_nil : PGs X [] (gNames []) := pgs_nil
theorem ctgs_cons {e : Expr} {es : List Expr} {i : Nat} {is : List Nat} (h : PG X e ((CT.one i).tg X.K)) (t : PGs X es (gNames is)) (hs : (assignEach (e :: es) X.env).map (·.2) = assign e X.env :: (assignEach es X.env).map (·.2) := by rfl) : PGs X (e :: es) (gNames (i :: is)) := pgs_cons h t hs
theorem ctg_many {es : List Expr} {is : List Nat} {j : Nat} (hc : X.calm = true) (h : PGs X es (gNames is)) (hn : (assignEach es X.env).length = is.length := by rfl) (hst : (assignEach es X.env).findIdx? (·.1) = none := by rfl) : PG X (.Tuple es j pos) ((CT.many is).tg X.K) := pg_tup hc h hn hst

/-! ### k in d as a test -/
theorem DE.test {e : Expr} {f : Ex} (h : DE X Γ k Wx e f) (ht : ∀ g : Good X Γ k Wx, ∀ {t : TE}, PE X e t → PT X e (tB t)) : DT X Γ k Wx e (bVal f) := fun g =>
  PT.imp (ht g (h g)) fun σ H Q q => by
    obtain ⟨ρ, env, L, rl, re, q⟩ := q
    refine tG_bind rl re q fun ρ1 H1 a v L1 a1 re1 r1 h1 => ?_
    obtain ⟨b, e, q⟩ := ofOB_out a1.rl h1
    cases r1 <;> first | (cases e; exact ⟨_, rfl, q⟩) | cases e
theorem b_inG {neg : Bool} {a b : Expr} {f h : Ex} {op : CmpOp} {o o' : W → W → LH → OV} (ho : O2 X Γ k Wx (compareOp op) o) (ha : DE X Γ k Wx a f) (hb : DE X Γ k Wx b h) (hm : behindInMarks op b = false)
    (hd : ∀ {td ty : TE}, PE X a ty → PE X b td → PC X op a b (fun σ H Q => ty σ H fun y H1 => td σ H1 fun x H2 => ∃ p o, x = .ref p ∧ DGet H2 p y o ∧ Q (.bl (if neg then !o.isSome else o.isSome)) H2))
    (e1 : ∀ a b L kvs, dicW b L = some kvs → o' a b L = match keyW a with | some kk => some (.bl (if neg then !(valW kvs kk).isSome else (valW kvs kk).isSome), L) | none => none)
    (e2 : ∀ a b L, dicW b L = none → o' a b L = o a b L) : DT X Γ k Wx (.Compare a [op] [b] pos) (bVal (cOp2 o' f h)) := fun g => by
  have h1 := pt_cmpR (pos := pos) (ho g) (ha g) (hb g) hm
  have h2 := pt_cmp (pos := pos) (hd (ha g) (hb g)) hm
  refine ⟨fun pins s σ H Q I q => ?_⟩
  have hor : PT X (.Compare a [op] [b] pos) (fun σ H Q => tTest (tOp (v2 Γ o) (tEx Γ Wx f) (tEx Γ Wx h)) σ H Q ∨ tB (fun σ H Q => tEx Γ Wx f σ H fun y H1 => tEx Γ Wx h σ H1 fun x H2 => ∃ p o, x = .ref p ∧ DGet H2 p y o ∧ Q (.bl (if neg then !o.isSome else o.isSome)) H2) σ H Q) :=
    ⟨fun pins s σ H Q I q => q.elim (h1.run pins s σ H Q I) (h2.run pins s σ H Q I)⟩
  refine hor.run pins s σ H Q I ?_
  have q' : tEx Γ Wx (cOp2 o' f h) σ H (fun x H' => ∃ k, x = .bl k ∧ Q k H') := by
    obtain ⟨ρ, env, L, rl, re, q⟩ := q
    refine tG_bind rl re q fun ρ1 H1 a v L1 a1 re1 r1 h1 => ?_
    obtain ⟨b, e, q⟩ := ofOB_out a1.rl h1
    cases r1 <;> first | (cases e; exact ⟨_, rfl, q⟩) | cases e
  obtain ⟨ρ, env, L, rl, re, q⟩ := q'
  by_cases hd : ∃ a L1 b L2 kvs, f env L = .ok a L1 ∧ h env L1 = .ok b L2 ∧ dicW b L2 = some kvs
  · obtain ⟨a, L1, b, L2, kvs, f1, f2, f3⟩ := hd
    refine .inr (tG_bindE rl re q fun ρ1 H1 a' v L1' ea a1 re1 r1 h1 => ?_)
    rw [f1] at ea; cases ea
    refine tG_bindE a1.rl re1 h1 fun ρ2 H2 b' u L2' eb a2 re2 r2 h2 => ?_
    rw [f2] at eb; cases eb
    have hx := out_of h2
    rw [e1 _ _ _ _ f3] at hx
    cases ek : keyW a with
    | none => rw [ek] at hx; exact hx.elim
    | some kk =>
      simp only [ek] at hx
      obtain ⟨n, p, vs, rfl, eo, rfl, ep, eh, rk⟩ := dicW_inv a2.rl r2 f3
      have hk := keyW_ok (r1.mono a2.pre a2.kp) ek
      subst hk
      have es : (valW kvs kk).isSome = (valV vs kk).isSome := by
        cases ev : valW kvs kk with
        | none => rw [(rk.val (k := kk)).2 ev]; rfl
        | some w => obtain ⟨v, e4, _⟩ := (rk.val (k := kk)).1 w ev; rw [e4]; rfl
      rw [es] at hx
      exact ⟨p, _, rfl, .k eh, hx.here a2.rl (.bl _)⟩
  · refine .inl (tG_bindE rl re q fun ρ1 H1 a' v L1' ea a1 re1 r1 h1 => ?_)
    refine tG_bindE a1.rl re1 h1 fun ρ2 H2 b' u L2' eb a2 re2 r2 h2 => ?_
    have hx := out_of h2
    cases e : dicW b' L2' with
    | some ks => exact absurd ⟨a', L1', b', L2', ks, ea, eb, e⟩ hd
    | none =>
      rw [e2 _ _ _ e] at hx
      exact ⟨ρ2, L2', a', b', a2.rl, r1.mono a2.pre a2.kp, r2, hx⟩
theorem b_in {a b : Expr} {f h : Ex} (ha : DE X Γ k Wx a f) (hb : DE X Γ k Wx b h) (hm : behindInMarks .In b = false := by rfl) : DT X Γ k Wx (.Compare a [.In] [b] pos) (bVal (cOp2 oInD f h)) := fun g =>
  b_inG (neg := false) o_in ha hb hm (fun p q => pc_din (hu1 g) p q) (fun a b L kvs e => by unfold oInD; rw [e]; rfl) (fun a b L e => by unfold oInD; rw [e]) g
theorem b_notIn {a b : Expr} {f h : Ex} (ha : DE X Γ k Wx a f) (hb : DE X Γ k Wx b h) (hm : behindInMarks .NotIn b = false := by rfl) : DT X Γ k Wx (.Compare a [.NotIn] [b] pos) (bVal (cOp2 oNotInD f h)) := fun g =>
  b_inG (neg := true) o_notIn ha hb hm (fun p q => pc_dnotin (hu1 g) p q) (fun a b L kvs e => by unfold oNotInD; rw [e]; rfl) (fun a b L e => by unfold oNotInD; rw [e]) g

/-! ### {k: v for ..} -/
def dcLoop (S : Src) (c : CT) (t : Bx) (ke va : Ex) (env : Env) : Nat → Nat → LH → List (Key × W) → Res (List (Key × W))
  | 0, _, _, _ => .stk
  | f + 1, i, L, acc => match S.get L i with
    | none => .stk
    | some none => .ok acc L
    | some (some w) => match c.set w env with
      | none => .stk
      | some env1 => (t env1 L).only.bind fun b L1 => if b = true then (ke env1 L1).only.bind fun y L2 => (va env1 L2).only.bind fun z L3 => match keyW y with
          | some kk => if acc.length < 16777216 then dcLoop S c t ke va env f (i + 1) L3 (putW acc kk z) else .stk
          | none => .stk
        else dcLoop S c t ke va env f (i + 1) L1 acc
def cDc (vs : List Nat) (it : Ix) (c : CT) (t : Bx) (ke va : Ex) : Ex := fun env L => (it env L).bind fun S L1 => (dcLoop S c t ke va (wipeE env vs) (S.len + 1) 0 L1 []).bind fun acc L2 => .ok (.ref L2.length) (L2 ++ [.dic acc])
theorem dc_read {S : Src} {J : It} {c : CT} {t : Bx} {ke va : Ex} {vs : List Nat} {σ : L2.St} {Q : VK} {K : PySem.W.Frag} (hK : K = Γ.K) (hv : ∀ i ∈ c.slots, i ∈ vs) {ρ1 : List Addr} {H1 : Hp} {L1 : LH} {env : Env}
    (rl1 : RL Γ ρ1 L1 H1) (re1 : REnv Γ ρ1 H1 env σ) (hS : RSrc Γ ρ1 H1 S J)
    (h : Out (RW Γ) Γ Wx σ ρ1 H1 ((dcLoop S c t ke va (wipeE env vs) (S.len + 1) 0 L1 []).bind fun acc L2 => .ok (.ref L2.length) (L2 ++ [.dic acc])) Q) (D : Addr) (hD : H1 D = none) :
    ∃ W : Nat → Nat → Hp → Prop, (∃ m, W 0 m (upd H1 D (.dK []))) ∧ ∀ i m H, W i m H →
      (J.stop i H ∧ Q (.ref D) H) ∨ (J.go i H ∧ ∃ Nx : Hp → Prop, (∀ H', Nx H' → ∃ m', m' < m ∧ W (i + 1) m' H') ∧ ∀ x H', J.yld i H x H' → (c.tg K) x (wipe σ vs) H' fun σ2 H2 => wipe σ2 vs = wipe σ vs ∧ tExB Γ W0 t σ2 H2 fun b H3 =>
        if b = true then tEx Γ W0 ke σ2 H3 fun y H4 => tEx Γ W0 va σ2 H4 fun z H5 => ∃ kvs k, y = kV k ∧ H5 D = some (.dK kvs) ∧ kvs.length < sizeLine ∧ Nx (upd H5 D (.dK (putK kvs k z))) else Nx H3) := by
  refine ⟨fun i m H => ∃ ρ L acc xs H0, H = upd H0 D (.dK xs) ∧ H0 D = none ∧ Aft Γ ρ1 H1 L ρ H0 ∧ RKs Γ ρ H0 acc xs ∧
    Out (RW Γ) Γ Wx σ ρ H0 ((dcLoop S c t ke va (wipeE env vs) m i L acc).bind fun acc L2 => .ok (.ref L2.length) (L2 ++ [.dic acc])) Q, ⟨S.len + 1, ρ1, L1, [], [], H1, rfl, hD, .refl rl1, .nil, h⟩, ?_⟩
  rintro i m H ⟨ρ, L, acc, xs, H0, rfl, h0, af, ra, h⟩
  have rl := af.rl
  have nD : D ∉ ρ := rl.out h0
  have rlD : RL Γ ρ L (upd H0 D (.dK xs)) := rl.fresh h0
  have kpD : Keep H1 (upd H0 D (.dK xs)) := af.kp.trans (.fresh h0)
  have reD : REnv Γ ρ (upd H0 D (.dK xs)) (wipeE env vs) (wipe σ vs) := (re1.mono af.pre kpD).wipe vs
  cases m with
  | zero => exact h.elim
  | succ f =>
    unfold dcLoop at h
    have hJ := hS ρ _ L af.pre kpD rlD i
    cases eg : S.get L i with
    | none => rw [eg] at h; exact h.elim
    | some o =>
      cases o with
      | none =>
        rw [eg] at h
        refine .inl ⟨hJ.2 eg, ?_⟩
        have h : Out (RW Γ) Γ Wx σ ρ H0 (.ok (.ref L.length) (L ++ [.dic acc])) Q := h
        refine h (ρ ++ [D]) _ _ (.push rl h0 ⟨xs, upd_same, ra.mono (pre_app _ _) (.fresh h0)⟩) (.ref ?_)
        rw [← rl.len]; exact List.getElem?_concat_length
      | some w =>
        rw [eg] at h
        simp only at h
        obtain ⟨hgo, hy⟩ := hJ.1 w eg
        refine .inr ⟨hgo, fun H' => ∃ ρ L acc xs H0, H' = upd H0 D (.dK xs) ∧ H0 D = none ∧ Aft Γ ρ1 H1 L ρ H0 ∧ RKs Γ ρ H0 acc xs ∧
          Out (RW Γ) Γ Wx σ ρ H0 ((dcLoop S c t ke va (wipeE env vs) f (i + 1) L acc).bind fun acc L2 => .ok (.ref L2.length) (L2 ++ [.dic acc])) Q, fun H' hN => ⟨f, Nat.lt_succ_self _, hN⟩, fun x H' y => ?_⟩
        obtain ⟨a2, r2⟩ := hy x H' y
        cases ec : c.set w (wipeE env vs) with
        | none => rw [ec] at h; exact h.elim
        | some env1 =>
          rw [ec] at h
          simp only at h
          refine CT.ok K hK (reD.mono a2.pre a2.kp) r2 ec hv fun σ2 re2 hw => ⟨by rw [hw, wipe_idem], ?_⟩
          refine ⟨ρ, env1, L, a2.rl, re2, ?_⟩
          cases et : t env1 L with
          | exc e' L' => rw [et] at h; exact h.elim
          | stk => rw [et] at h; exact h.elim
          | ok b L3 =>
            rw [et] at h
            simp only [Res.only, Res.bind] at h
            intro ρ3 H3 b' a3 eb
            cases eb
            have a23 := a2.trans a3
            cases b with
            | false =>
              obtain ⟨a4, h4, _⟩ := Aft.hide h0 nD rfl a23
              exact ⟨ρ3, L3, acc, xs, hide H3 D, (hide_upd h4).symm, hide_at, af.trans a4, ra.mono a4.pre a4.kp, Out.rebase a4 h⟩
            | true =>
              refine ⟨ρ3, env1, L3, a3.rl, re2.mono a3.pre a3.kp, ?_⟩
              simp only [if_true] at h
              cases ee : ke env1 L3 with
              | exc e' L' => rw [ee] at h; exact h.elim
              | stk => rw [ee] at h; exact h.elim
              | ok y L4 =>
                rw [ee] at h
                simp only at h
                intro ρ4 H4 yv a5 r5
                refine ⟨ρ4, env1, L4, a5.rl, (re2.mono a3.pre a3.kp).mono a5.pre a5.kp, ?_⟩
                cases e2 : va env1 L4 with
                | exc e' L' => rw [e2] at h; exact h.elim
                | stk => rw [e2] at h; exact h.elim
                | ok z L5 =>
                  rw [e2] at h
                  simp only at h
                  intro ρ5 H5 zv a6 r6
                  obtain ⟨a4, h4, _⟩ := Aft.hide h0 nD rfl ((a23.trans a5).trans a6)
                  cases ek : keyW y with
                  | none => rw [ek] at h; exact h.elim
                  | some kk =>
                    rw [ek] at h
                    simp only at h
                    by_cases hz : acc.length < 16777216
                    · rw [if_pos hz] at h
                      refine ⟨xs, kk, keyW_ok r5 ek, h4, by rw [← ra.length, line_eq]; exact hz, ρ5, L5, putW acc kk z, putK xs kk zv, hide H5 D, ?_, hide_at, af.trans a4, ?_, Out.rebase a4 h⟩
                      · rw [← hide_upd h4, upd_upd]
                        rw [hide_upd h4]
                      · exact RKs.put (r6.hide h4 rfl) (ra.mono a4.pre a4.kp)
                    · rw [if_neg hz] at h; exact h.elim
theorem d_dc {kx vx tg iter : Expr} {ifs : List Expr} {scope : Scope} {own : List (Str × Nat)} {fi : Ix} {c : CT} {t : Bx} {ke va : Ex} (hi : DI X Γ k Wx tg iter fi) (ok : BlkOk X.N X.env.scope scope own) (hv : ∀ i ∈ c.slots, i ∈ own.map (·.2))
    (hg : ∀ (s : Shared) (H : Hp) (C : Addr) (cl : List (Str × Addr)) (fp : List Addr), (Cx.bk X scope s H C cl fp).N.Nodup → (Cx.bk X scope s H C cl fp).calm = true → PG (Cx.bk X scope s H C cl fp) tg (c.tg X.K))
    (ht : ∀ (s : Shared) (H : Hp) (C : Addr) (cl : List (Str × Addr)) (fp : List Addr), DTs (Cx.bk X scope s H C cl fp) Γ k W0 ifs t)
    (hk : ∀ (s : Shared) (H : Hp) (C : Addr) (cl : List (Str × Addr)) (fp : List Addr), DE (Cx.bk X scope s H C cl fp) Γ k W0 kx ke)
    (he : ∀ (s : Shared) (H : Hp) (C : Addr) (cl : List (Str × Addr)) (fp : List Addr), DE (Cx.bk X scope s H C cl fp) Γ k W0 vx va) (hs : ∀ x, foldedSetIterable iter X.env x = pure x := by intro _; rfl) :
    DE X Γ k Wx (.DictComp kx vx [⟨tg, iter, ifs, 0⟩] scope pos) (cDc (own.map (·.2)) fi c t ke va) := fun g =>
  PE.imp (pe_dc g.calm g.nd (hi g) ok (fun s H C cl fp => hg s H C cl fp g.nd g.calm) (fun s H C cl fp => ht s H C cl fp (g.blk scope s H C cl fp)) (fun s H C cl fp => hk s H C cl fp (g.blk scope s H C cl fp)) (fun s H C cl fp => he s H C cl fp (g.blk scope s H C cl fp)) hs) fun σ H Q q => by
    obtain ⟨ρ, env, L, rl, re, q⟩ := q
    refine tG_bindE rl re q fun ρ1 H1 S J L1 ea a1 re1 hS h1 => ?_
    intro D hD
    exact dc_read g.K hv a1.rl re1 hS h1 D hD
/-- name = [.. for .. for ..] on one line -/
theorem ds_setLc2 (i : Nat) {y : Str} {py spos : Pos} {elt tg iter tg1 iter1 : Expr} {ifs ifs1 : List Expr} {scope : Scope} {own : List (Str × Nat)} {vs1 : List Nat} {fi fi1 : Ix} {c c1 : CT} {t t1 : Bx} {e : Ex} (hi : DI X Γ k Wx tg iter fi) (ok : BlkOk X.N X.env.scope scope own) (hv : ∀ i ∈ c.slots, i ∈ own.map (·.2)) (hvs : ∀ i ∈ vs1, i ∈ own.map (·.2)) (hv1 : ∀ i ∈ c1.slots, i ∈ vs1)
    (hg : ∀ (s : Shared) (H : Hp) (C : Addr) (cl : List (Str × Addr)) (fp : List Addr), (Cx.bk X scope s H C cl fp).N.Nodup → (Cx.bk X scope s H C cl fp).calm = true → PG (Cx.bk X scope s H C cl fp) tg (c.tg X.K))
    (ht : ∀ (s : Shared) (H : Hp) (C : Addr) (cl : List (Str × Addr)) (fp : List Addr), DTs (Cx.bk X scope s H C cl fp) Γ k W0 ifs t)
    (hi1 : ∀ (s : Shared) (H : Hp) (C : Addr) (cl : List (Str × Addr)) (fp : List Addr), DI (Cx.bk X scope s H C cl fp) Γ k W0 tg1 iter1 fi1)
    (hg1 : ∀ (s : Shared) (H : Hp) (C : Addr) (cl : List (Str × Addr)) (fp : List Addr), (Cx.bk X scope s H C cl fp).N.Nodup → (Cx.bk X scope s H C cl fp).calm = true → PG (Cx.bk X scope s H C cl fp) tg1 (c1.tg X.K))
    (ht1 : ∀ (s : Shared) (H : Hp) (C : Addr) (cl : List (Str × Addr)) (fp : List Addr), DTs (Cx.bk X scope s H C cl fp) Γ k W0 ifs1 t1)
    (he : ∀ (s : Shared) (H : Hp) (C : Addr) (cl : List (Str × Addr)) (fp : List Addr), DE (Cx.bk X scope s H C cl fp) Γ k W0 elt e)
    (hsw : swapsWith (.ListComp elt [⟨tg, iter, ifs, 0⟩, ⟨tg1, iter1, ifs1, 0⟩] scope pos) (some (.Name y py)) spos.line X.env = pure true)
    (hy : X.N[i]? = some y := by rfl) (hyl : X.env.scope.names.lookup y = some .local := by rfl) (hs : ∀ x, foldedSetIterable iter X.env x = pure x := by intro _; rfl) (hs1 : ∀ env x, foldedSetIterable iter1 env x = pure x := by intro _ _; rfl) :
    DS X Γ k Wx (.Assign [.Name y py] (.ListComp elt [⟨tg, iter, ifs, 0⟩, ⟨tg1, iter1, ifs1, 0⟩] scope pos) spos) (sSet i (cLc2 (own.map (·.2)) vs1 fi c t fi1 c1 t1 e)) := fun g =>
  PS.imp (ps_setLc2 g.calm g.nd hy hyl hsw (hi g) ok hvs (fun s H C cl fp => hg s H C cl fp g.nd g.calm) (fun s H C cl fp => ht s H C cl fp (g.blk scope s H C cl fp)) (fun s H C cl fp => hi1 s H C cl fp (g.blk scope s H C cl fp)) (fun s H C cl fp => hg1 s H C cl fp g.nd g.calm) (fun s H C cl fp => ht1 s H C cl fp (g.blk scope s H C cl fp)) (fun s H C cl fp => he s H C cl fp (g.blk scope s H C cl fp)) hs hs1) fun D' σ H q => by
    obtain ⟨ρ, env, L, rl, re, q⟩ := q
    have q2 : tEx Γ Wx (cLc2 (own.map (·.2)) vs1 fi c t fi1 c1 t1 e) σ H (fun x H1 => gName i x σ H1 D'.nx) := tG_toS rl re q fun ρ1 H1 w v L1 _ a1 re1 r1 h1 => h1 ρ1 H1 _ (.refl a1.rl) (re1.set i r1)
    obtain ⟨ρ, env, L, rl, re, q⟩ := q2
    refine tG_bindE rl re q fun ρ1 H1 S J L1 ea a1 re1 hS h1 => ?_
    intro D hD
    exact lc2_read g.K hv hv1 a1.rl re1 hS h1 D hD
theorem sw_trueD {kx vx : Expr} {gs : List Comprehension} {scope : Scope} {pos py : Pos} {y : Str} {l : Nat} {env : PySem.Env} (hk : env.scope.kind = .function) (hy : env.scope.names.lookup y = some .local) (hl : (py.line == pos.line) = true)
    (ha : (scope.names.any fun (n, k) => n == y && (k == .local || k == .cell)) = false) : swapsWith (.DictComp kx vx gs scope pos) (some (.Name y py)) l env = pure true := by
  have ky : env.kindOf y = some .local := hy
  have hb : env.blockKind = .function := by unfold PySem.Env.blockKind; rw [hk]; rfl
  unfold swapsWith
  simp only [hb, ky, ha, Expr.pos, hl]
  rfl
theorem ps_setDc {i : Nat} {y : Str} {py : Pos} {kx vx tg iter : Expr} {ifs : List Expr} {scope : Scope} {own : List (Str × Nat)} {pos spos : Pos} {wi : TI} {g : TG} {tt : TT} {tk tv : TE} (hc : X.calm = true) (hN : X.N.Nodup) (hy : X.N[i]? = some y) (hyl : X.env.scope.names.lookup y = some .local)
    (hsw : swapsWith (.DictComp kx vx [⟨tg, iter, ifs, 0⟩] scope pos) (some (.Name y py)) spos.line X.env = pure true) (hi : PI X tg iter wi) (ok : BlkOk X.N X.env.scope scope own)
    (hg : ∀ (s : Shared) (H : Hp) (C : Addr) (cl : List (Str × Addr)) (fp : List Addr), PG (X.blk s H scope (compEnvC scope cl C X.env) fp) tg g) (ht : ∀ (s : Shared) (H : Hp) (C : Addr) (cl : List (Str × Addr)) (fp : List Addr), PTs (X.blk s H scope (compEnvC scope cl C X.env) fp) ifs tt)
    (hk : ∀ (s : Shared) (H : Hp) (C : Addr) (cl : List (Str × Addr)) (fp : List Addr), PE (X.blk s H scope (compEnvC scope cl C X.env) fp) kx tk)
    (he : ∀ (s : Shared) (H : Hp) (C : Addr) (cl : List (Str × Addr)) (fp : List Addr), PE (X.blk s H scope (compEnvC scope cl C X.env) fp) vx tv) (hs : ∀ x, foldedSetIterable iter X.env x = pure x := by intro _; rfl) :
    PS X (.Assign [.Name y py] (.DictComp kx vx [⟨tg, iter, ifs, 0⟩] scope pos) spos) (tAsg (tDc wi g tt tk tv (own.map (·.2))) (gName i)) := by
  refine ⟨fun pins s σ H D I h => ?_⟩
  rw [exec_Assign_Name_used _ _ _ _ hsw]
  refine wpAny_bind (wpAny_standAt (wpAny_bind ?_))
  show wpAny _ X.A (do let _ ← comprehension (.DictComp kx vx [⟨tg, iter, ifs, 0⟩] scope pos) scope X.env (firstIterPos [⟨tg, iter, ifs, 0⟩] pos) newDict false (eval iter X.env) (some (assign (.Name y py) X.env))) _ _ s
  have h : tDc wi g tt tk tv (own.map (·.2)) σ H (fun x H1 => gName i x σ H1 D.nx) := h
  refine wpAny_bind (thn (dc_core (Qf := fun _ s' => SP X pins D .next s') hc hN I hi ok hg ht hk he hs h fun L C s' m H' I' q hn f => ?_) fun _ s' hq => wpAny_pure (wpAny_pure hq))
  show wpAny _ _ (assign (.Name y py) X.env (.ref L)) _ _ _
  refine wpAny_assign_Name (store_ok2 (v := V.ref L) I' hN hy (.inl hyl) rfl (fun s2 I2 ⟨a, sb, ha⟩ => ?_) (.inr hyl))
  obtain ⟨f0, f1, f2, f3, f4, f5⟩ := f
  have haC : C ≠ a := by
    rcases ha with z | z
    · rw [z]; exact f1
    · exact fun e => f4 y a z e.symm
  refine ⟨m, hn.sameBut sb haC, fun h3 sb3 => ?_⟩
  exact ⟨_, H', I2.turned (t' := s2.toks) (fun b o hb e => (sb3.2 b hb).trans e) f0 f1 f3 f4 f5, q⟩
theorem ds_setDc (i : Nat) {y : Str} {py spos : Pos} {kx vx tg iter : Expr} {ifs : List Expr} {scope : Scope} {own : List (Str × Nat)} {fi : Ix} {c : CT} {t : Bx} {ke va : Ex} (hi : DI X Γ k Wx tg iter fi) (ok : BlkOk X.N X.env.scope scope own) (hv : ∀ i ∈ c.slots, i ∈ own.map (·.2))
    (hg : ∀ (s : Shared) (H : Hp) (C : Addr) (cl : List (Str × Addr)) (fp : List Addr), (Cx.bk X scope s H C cl fp).N.Nodup → (Cx.bk X scope s H C cl fp).calm = true → PG (Cx.bk X scope s H C cl fp) tg (c.tg X.K))
    (ht : ∀ (s : Shared) (H : Hp) (C : Addr) (cl : List (Str × Addr)) (fp : List Addr), DTs (Cx.bk X scope s H C cl fp) Γ k W0 ifs t)
    (hk : ∀ (s : Shared) (H : Hp) (C : Addr) (cl : List (Str × Addr)) (fp : List Addr), DE (Cx.bk X scope s H C cl fp) Γ k W0 kx ke)
    (he : ∀ (s : Shared) (H : Hp) (C : Addr) (cl : List (Str × Addr)) (fp : List Addr), DE (Cx.bk X scope s H C cl fp) Γ k W0 vx va)
    (hsw : swapsWith (.DictComp kx vx [⟨tg, iter, ifs, 0⟩] scope pos) (some (.Name y py)) spos.line X.env = pure true)
    (hy : X.N[i]? = some y := by rfl) (hyl : X.env.scope.names.lookup y = some .local := by rfl) (hs : ∀ x, foldedSetIterable iter X.env x = pure x := by intro _; rfl) :
    DS X Γ k Wx (.Assign [.Name y py] (.DictComp kx vx [⟨tg, iter, ifs, 0⟩] scope pos) spos) (sSet i (cDc (own.map (·.2)) fi c t ke va)) := fun g =>
  PS.imp (ps_setDc g.calm g.nd hy hyl hsw (hi g) ok (fun s H C cl fp => hg s H C cl fp g.nd g.calm) (fun s H C cl fp => ht s H C cl fp (g.blk scope s H C cl fp)) (fun s H C cl fp => hk s H C cl fp (g.blk scope s H C cl fp)) (fun s H C cl fp => he s H C cl fp (g.blk scope s H C cl fp)) hs) fun D' σ H q => by
    obtain ⟨ρ, env, L, rl, re, q⟩ := q
    have q2 : tEx Γ Wx (cDc (own.map (·.2)) fi c t ke va) σ H (fun x H1 => gName i x σ H1 D'.nx) := tG_toS rl re q fun ρ1 H1 w v L1 _ a1 re1 r1 h1 => h1 ρ1 H1 _ (.refl a1.rl) (re1.set i r1)
    obtain ⟨ρ, env, L, rl, re, q⟩ := q2
    refine tG_bindE rl re q fun ρ1 H1 S J L1 ea a1 re1 hS h1 => ?_
    intro D hD
    exact dc_read g.K hv a1.rl re1 hS h1 D hD
end
end Z

/-! ZW: what a meaning leads to: Ev (a value and a heap), EvS (a block). -/
namespace Z
open PySem PySem.Spec PyProof.Rows L2
def Ev {α : Type} (r : Res α) (Q : α → LH → Prop) : Prop := match r with
  | .ok a L => Q a L
  | _ => False
def EvO (r : OV) (Q : W → LH → Prop) : Prop := match r with
  | some (w, L) => Q w L
  | none => False
def EvS (r : SRes) (N : Env → LH → Prop) (R : W → LH → Prop) : Prop := match r with
  | .nx e L => N e L
  | .rt w L => R w L
  | _ => False
section
variable {α β : Type} {env : Env} {L : LH} {Q : W → LH → Prop} {N : Env → LH → Prop} {R : W → LH → Prop}
theorem Ev.mono {r : Res α} {Q Q' : α → LH → Prop} (h : Ev r Q) (i : ∀ a L, Q a L → Q' a L) : Ev r Q' := by
  cases r with
  | ok a L => exact i a L h
  | exc e L => exact h
  | stk => exact h
theorem EvS.mono {r : SRes} {N' : Env → LH → Prop} {R' : W → LH → Prop} (h : EvS r N R) (i : ∀ e L, N e L → N' e L) (j : ∀ e L, R e L → R' e L) : EvS r N' R' := by
  cases r with
  | nx a L => exact i a L h
  | rt a L => exact j a L h
  | bk e L => exact h
  | ct e L => exact h
  | exc e a L => exact h
  | stk => exact h
theorem Ev.ex {r : Res α} {Q : α → LH → Prop} (h : Ev r Q) : ∃ a L, r = .ok a L ∧ Q a L := by
  cases r with
  | ok a L => exact ⟨a, L, rfl, h⟩
  | exc e L => exact h.elim
  | stk => exact h.elim
theorem ev_ok {a : α} {Q : α → LH → Prop} : Ev (.ok a L) Q = Q a L := rfl
theorem ev_bind {r : Res α} {k : α → LH → Res β} {Q : β → LH → Prop} : Ev (r.bind k) Q = Ev r fun a L => Ev (k a L) Q := by cases r <;> rfl
theorem ev_only {r : Res α} {Q : α → LH → Prop} : Ev r.only Q = Ev r Q := by cases r <;> rfl
theorem ev_ofO {r : OV} : Ev (ofO r) Q = EvO r Q := by cases r <;> rfl
theorem ev_ofOB {r : Option Bool} {Q : Bool → LH → Prop} : Ev (ofOB r L) Q = match r with | some b => Q b L | none => False := by cases r <;> rfl
theorem ev_ite {c : Prop} [Decidable c] {r s : Res α} {Q : α → LH → Prop} : Ev (if c then r else s) Q = if c then Ev r Q else Ev s Q := by split <;> rfl
theorem evs_ite {c : Prop} [Decidable c] {r s : SRes} : EvS (if c then r else s) N R = if c then EvS r N R else EvS s N R := by split <;> rfl
theorem evo_some {w : W} : EvO (some (w, L)) Q = Q w L := rfl
theorem evo_ite {c : Prop} [Decidable c] {r : OV} : EvO (if c then r else none) Q = (c ∧ EvO r Q) := by
  split
  · rename_i h; simp [h]
  · rename_i h; simp [h, EvO]
theorem evs_toS {r : Res α} {k : α → LH → SRes} : EvS (r.toS env k) N R = Ev r fun a L => EvS (k a L) N R := by cases r <;> rfl
theorem evs_seq {a b : Sx} : EvS (sSeq a b env L) N R = EvS (a env L) (fun e L => EvS (b e L) N R) R := by
  unfold sSeq; cases a env L <;> rfl
/-! ### expressions -/
theorem ev_C {w : W} : Ev (cC w env L) Q = Q w L := rfl
theorem ev_var {i : Nat} : Ev (cVar i env L) Q = match env[i]? with | some (some w) => Q w L | _ => False := by
  unfold cVar
  cases env[i]? with
  | none => rfl
  | some o => cases o <;> rfl
theorem ev_op2 {o : W → W → LH → OV} {f h : Ex} : Ev (cOp2 o f h env L) Q = Ev (f env L) fun a L1 => Ev (h env L1) fun b L2 => EvO (o a b L2) Q := by
  unfold cOp2; simp only [ev_bind, ev_ofO]
theorem ev_op1 {o : W → LH → OV} {f : Ex} : Ev (cOp1 o f env L) Q = Ev (f env L) fun a L1 => EvO (o a L1) Q := by
  unfold cOp1; simp only [ev_bind, ev_ofO]
theorem ev_opL {o : List W → LH → OV} {f : ExL} : Ev (cOpL o f env L) Q = Ev (f env L) fun a L1 => EvO (o a L1) Q := by
  unfold cOpL; simp only [ev_bind, ev_ofO]
theorem ev_nil {Q : List W → LH → Prop} : Ev (cNil env L) Q = Q [] L := rfl
theorem ev_cons {f : Ex} {g : ExL} {Q : List W → LH → Prop} : Ev (cCons f g env L) Q = Ev (f env L) fun a L1 => Ev (g env L1) fun as L2 => Q (a :: as) L2 := by
  unfold cCons; simp only [ev_bind, ev_ok]
theorem ev_call {g : Fn} {d : List W} {fs : ExL} : Ev (cCall g d fs env L) Q = Ev (fs env L) fun as L1 => Ev (g (as ++ d) L1) Q := by
  unfold cCall; simp only [ev_bind]
theorem ev_bVal {f : Ex} {Q : Bool → LH → Prop} : Ev (bVal f env L) Q = Ev (f env L) fun a L1 => match blW a with | some b => Q b L1 | none => False := by
  unfold bVal; simp only [ev_bind, ev_ofOB]
theorem ev_bTru {f : Ex} {Q : Bool → LH → Prop} : Ev (bTru f env L) Q = Ev (f env L) fun a L1 => match truW a L1 with | some b => Q b L1 | none => False := by
  unfold bTru; simp only [ev_bind, ev_ofOB]
theorem ev_bNot {t : Bx} {Q : Bool → LH → Prop} : Ev (bNot t env L) Q = Ev (t env L) fun b L1 => Q (!b) L1 := by
  unfold bNot; simp only [ev_bind, ev_ok]
theorem ev_bAnd {t u : Bx} {Q : Bool → LH → Prop} : Ev (bAnd t u env L) Q = Ev (t env L) fun b L1 => if b = true then Ev (u env L1) Q else Q false L1 := by
  unfold bAnd; simp only [ev_bind, ev_ite, ev_ok]
theorem ev_bOr {t u : Bx} {Q : Bool → LH → Prop} : Ev (bOr t u env L) Q = Ev (t env L) fun b L1 => if b = true then Q true L1 else Ev (u env L1) Q := by
  unfold bOr; simp only [ev_bind, ev_ite, ev_ok]
theorem ev_bYes {Q : Bool → LH → Prop} : Ev (bYes env L) Q = Q true L := rfl
theorem ev_cIf {t : Bx} {f h : Ex} : Ev (cIf t f h env L) Q = Ev (t env L) fun b L1 => if b = true then Ev (f env L1) Q else Ev (h env L1) Q := by
  unfold cIf; simp only [ev_bind, ev_ite]
theorem ev_cNot {f : Ex} : Ev (cNot f env L) Q = Ev (f env L) fun a L1 => match truW a L1 with | some b => Q (.bl (!b)) L1 | none => False := by
  unfold cNot; simp only [ev_bind, ev_ofOB, ev_ok]
theorem ev_cAnd {f h : Ex} : Ev (cAnd f h env L) Q = Ev (f env L) fun a L1 => match truW a L1 with | some b => if b = true then Ev (h env L1) Q else Q a L1 | none => False := by
  unfold cAnd; simp only [ev_bind, ev_ofOB, ev_ok, ev_ite]
theorem ev_cOr {f h : Ex} : Ev (cOr f h env L) Q = Ev (f env L) fun a L1 => match truW a L1 with | some b => if b = true then Q a L1 else Ev (h env L1) Q | none => False := by
  unfold cOr; simp only [ev_bind, ev_ofOB, ev_ok, ev_ite]
theorem ev_chain {o o' : W → W → LH → OV} {f g h : Ex} : Ev (cChain o o' f g h env L) Q = Ev (f env L) fun a L1 => Ev (g env L1) fun b L2 => EvO (o a b L2) fun z L3 => match blW z with | some c => if c = true then Ev (h env L3) (fun y L5 => EvO (o' b y L5) Q) else Q (.bl false) L3 | none => False := by
  unfold cChain; simp only [ev_bind, ev_ofO, ev_ofOB, ev_ok, ev_ite]
theorem ev_part_none {Q : Option Int → LH → Prop} : Ev (cPart none env L) Q = Q none L := rfl
theorem ev_part_some {f : Ex} {Q : Option Int → LH → Prop} : Ev (cPart (some f) env L) Q = Ev (f env L) fun a L1 => match a with | .int i => Q (some i) L1 | _ => False := by
  unfold cPart
  simp only [ev_bind]
  congr
  funext a L1
  cases a <;> rfl
theorem ev_sl {f : Ex} {lo hi : Option Ex} : Ev (cSl f lo hi env L) Q = Ev (f env L) fun a L1 => Ev (cPart lo env L1) fun l L2 => Ev (cPart hi env L2) fun h L3 => EvO (oSl a l h L3) Q := by
  unfold cSl; simp only [ev_bind, ev_ofO]
theorem ev_mth {chk : W → LH → Bool} {o : W → List W → LH → OV} {f : Ex} {fs : ExL} : Ev (cMth chk o f fs env L) Q = Ev (f env L) fun a L1 => chk a L1 = true ∧ Ev (fs env L1) fun as L2 => EvO (o a as L2) Q := by
  unfold cMth
  simp only [ev_bind]
  congr
  funext a L1
  split
  · rename_i h; simp [h, ev_bind, ev_ofO]
  · rename_i h; simp [h, Ev]
/-! ### blocks -/
theorem evs_skip : EvS (sSkip env L) N R = N env L := rfl
theorem evs_set {i : Nat} {f : Ex} : EvS (sSet i f env L) N R = Ev (f env L) fun w L1 => N (env.set i (some w)) L1 := by
  unfold sSet; simp only [evs_toS]; rfl
theorem evs_ret {f : Ex} : EvS (sRet f env L) N R = Ev (f env L) R := by
  unfold sRet; simp only [evs_toS]; rfl
theorem evs_expr {f : Ex} : EvS (sExpr f env L) N R = Ev (f env L) fun _ L1 => N env L1 := by
  unfold sExpr; simp only [evs_toS]; rfl
theorem evs_if {t : Bx} {a b : Sx} : EvS (sIf t a b env L) N R = Ev (t env L) fun c L1 => if c = true then EvS (a env L1) N R else EvS (b env L1) N R := by
  unfold sIf; simp only [evs_toS, evs_ite]
theorem evs_par {i j : Nat} {f : ExL} : EvS (sPar i j f env L) N R = Ev (f env L) fun ws L1 => match ws with | [a, b] => N ((env.set i (some a)).set j (some b)) L1 | _ => False := by
  unfold sPar; simp only [evs_toS]
  congr
  funext ws L1
  match ws with
  | [] => rfl
  | [_] => rfl
  | [_, _] => rfl
  | _ :: _ :: _ :: _ => rfl
theorem evs_as {v : Ex} {t : Tx} : EvS (sAs v t env L) N R = Ev (v env L) fun w L1 => Ev (t w env L1) N := by
  unfold sAs; simp only [evs_toS]
  congr
  funext w L1
  unfold tgt
  cases t w env L1 <;> rfl
theorem ev_gN {i : Nat} {w : W} : Ev (gN i w env L) N = N (env.set i (some w)) L := rfl
theorem ev_gsNil : Ev (gsNil [] env L) N = N env L := rfl
theorem ev_gsCons {t : Tx} {u : List W → Env → LH → Res Env} {w : W} {ws : List W} : Ev (gsCons t u (w :: ws) env L) N = Ev (t w env L) fun e L1 => Ev (u ws e L1) N := by
  unfold gsCons; simp only [ev_bind]
theorem ev_gTup {n : Nat} {u : List W → Env → LH → Res Env} {ws : List W} : Ev (gTupW n u (.tup ws) env L) N = (ws.length = n ∧ Ev (u ws env L) N) := by
  unfold gTupW
  simp only
  split
  · rename_i h; simp [h]
  · rename_i h; simp [h, Ev]
theorem ev_gIx {f h : Ex} {w : W} : Ev (gIx f h w env L) N = Ev (f env L) fun o L1 => Ev (h env L1) fun i L2 => match oPut o i w L2 with | some L3 => N env L3 | none => False := by
  unfold gIx; simp only [ev_bind]
  congr; funext o L1; congr; funext i L2
  cases oPut o i w L2 <;> rfl
theorem evs_aug {i : Nat} {o : W → W → LH → OV} {v : Ex} : EvS (sAug i o v env L) N R = match env[i]? with | some (some a) => Ev (v env L) fun w L1 => EvO (o a w L1) fun z L2 => N (env.set i (some z)) L2 | _ => False := by
  unfold sAug
  cases env[i]? with
  | none => rfl
  | some o => cases o with
    | none => rfl
    | some a => simp only [evs_toS, ev_ofO]; rfl
theorem ev_defF {n m : Nat} {b : Sx} {as : List W} : Ev (defF n m b as L) Q = (as.length = m ∧ EvS (b (as.map some ++ List.replicate (n - m) none) L) (fun _ L' => Q .non L') Q) := by
  unfold defF
  split
  · rename_i h
    simp only [h, true_and]
    cases b (as.map some ++ List.replicate (n - m) none) L <;> rfl
  · rename_i h; simp [h, Ev]
/-! ### loops -/
theorem for_inv {S : Src} {t : Tx} {b : Sx} (P : Nat → Env → LH → Prop) {n : Nat} (hs : ∀ i env L, i < n → P i env L → ∃ w, S.get L i = some (some w) ∧ Ev (t w env L) fun e1 L1 => EvS (b e1 L1) (fun e L => P (i + 1) e L) R)
    (hd : ∀ env L, P n env L → S.get L n = some none ∧ N env L) : ∀ (m i : Nat) (env : Env) (L : LH), i + m = n → P i env L → EvS (forLoop S t b (m + 1) i env L) N R
  | 0, i, env, L, e, p => by
    have e : i = n := by omega
    subst e
    obtain ⟨h1, h2⟩ := hd env L p
    unfold forLoop
    rw [h1]
    exact h2
  | m + 1, i, env, L, e, p => by
    obtain ⟨w, h1, h2⟩ := hs i env L (by omega) p
    unfold forLoop
    rw [h1]
    simp only
    cases et : t w env L with
    | exc e L => rw [et] at h2; exact h2.elim
    | stk => rw [et] at h2; exact h2.elim
    | ok e1 L1 =>
      rw [et] at h2
      simp only [Ev] at h2
      simp only
      cases eb : b e1 L1 with
      | nx e2 L2 => rw [eb] at h2; exact for_inv P hs hd m (i + 1) e2 L2 (by omega) h2
      | rt w2 L2 => rw [eb] at h2; exact h2
      | bk e2 L2 => rw [eb] at h2; exact h2.elim
      | ct e2 L2 => rw [eb] at h2; exact h2.elim
      | exc e3 e2 L2 => rw [eb] at h2; exact h2.elim
      | stk => rw [eb] at h2; exact h2.elim
theorem evs_for {it : Ix} {t : Tx} {b : Sx} : EvS (sFor it t b env L) N R = Ev (it env L) fun S L1 => EvS (forLoop S t b (S.len + 1) 0 env L1) N R := by
  unfold sFor; simp only [evs_toS]
theorem ev_rng1 {f : ExL} {Q : Src → LH → Prop} : Ev (iRng1 f env L) Q = Ev (f env L) fun as L1 => match as with | [.int j] => (-(2 ^ 62) ≤ j ∧ j < 2 ^ 62) ∧ Q (srcR 0 j.toNat) L1 | _ => False := by
  unfold iRng1; simp only [ev_bind]
  congr; funext as L1
  match as with
  | [] => rfl
  | [.int j] => 
    show Ev (if -(2 ^ 62) ≤ j ∧ j < 2 ^ 62 then _ else _) _ = ((-(2 ^ 62) ≤ j ∧ j < 2 ^ 62) ∧ _)
    by_cases h : -(2 ^ 62) ≤ j ∧ j < 2 ^ 62
    · rw [if_pos h]; simp only [h, true_and]; rfl
    · rw [if_neg h]; simp only [h, false_and]; rfl
  | [.non] => rfl
  | [.bl _] => rfl
  | [.str _] => rfl
  | [.tup _] => rfl
  | [.ref _] => rfl
  | [.ty _] => rfl
  | [.cls _] => rfl
  | [.fn _] => rfl
  | [.scr _] => rfl
  | a :: _ :: _ => cases a <;> rfl
theorem ev_iSeq {f : Ex} {Q : Src → LH → Prop} : Ev (iSeq f env L) Q = Ev (f env L) fun a L1 => match srcOf a L1 with | some S => Q S L1 | none => False := by
  unfold iSeq; simp only [ev_bind]
  congr; funext a L1
  cases srcOf a L1 <;> rfl
theorem lc_inv {S : Src} {c : CT} {t : Bx} {e : Ex} {Q : List W → LH → Prop} (P : Nat → LH → List W → Prop) {n : Nat}
    (hs : ∀ i L acc, i < n → P i L acc → ∃ w, S.get L i = some (some w) ∧ ∃ env1, c.set w env = some env1 ∧ Ev (t env1 L) fun b L1 => if b = true then Ev (e env1 L1) fun y L2 => acc.length < 16777216 ∧ P (i + 1) L2 (acc ++ [y]) else P (i + 1) L1 acc)
    (hd : ∀ L acc, P n L acc → S.get L n = some none ∧ Q acc L) : ∀ (m i : Nat) (L : LH) (acc : List W), i + m = n → P i L acc → Ev (lcLoop S c t e env (m + 1) i L acc) Q
  | 0, i, L, acc, ee, p => by
    have ee : i = n := by omega
    subst ee
    obtain ⟨h1, h2⟩ := hd L acc p
    unfold lcLoop
    rw [h1]
    exact h2
  | m + 1, i, L, acc, ee, p => by
    obtain ⟨w, h1, env1, h2, h3⟩ := hs i L acc (by omega) p
    unfold lcLoop
    rw [h1]
    simp only
    rw [h2]
    simp only [ev_bind, ev_only, ev_ite]
    refine h3.mono fun b L1 hb => ?_
    cases b with
    | false => exact lc_inv P hs hd m (i + 1) L1 acc (by omega) hb
    | true =>
      simp only [if_true] at hb ⊢
      refine hb.mono fun y L2 hy => ?_
      rw [if_pos hy.1]
      exact lc_inv P hs hd m (i + 1) L2 (acc ++ [y]) (by omega) hy.2
theorem ev_lc {vs : List Nat} {it : Ix} {c : CT} {t : Bx} {e : Ex} : Ev (cLc vs it c t e env L) Q = Ev (it env L) fun S L1 => Ev (lcLoop S c t e (wipeE env vs) (S.len + 1) 0 L1 []) fun acc L2 => Q (.ref L2.length) (L2 ++ [.lst acc]) := by
  unfold cLc; simp only [ev_bind, ev_ok]
/-! ### operations -/
theorem o_addI {i j : Int} : EvO (oAdd (.int i) (.int j) L) Q = Q (.int (i + j)) L := rfl
theorem o_subI {i j : Int} : EvO (oSub (.int i) (.int j) L) Q = Q (.int (i - j)) L := rfl
theorem o_addS {x y : Str} : EvO (oAdd (.str x) (.str y) L) Q = (x.length + y.length ≤ 16777216 ∧ Q (.str (x ++ y)) L) := evo_ite
theorem o_addT {x y : List W} : EvO (oAdd (.tup x) (.tup y) L) Q = (x.length + y.length ≤ 16777216 ∧ Q (.tup (x ++ y)) L) := evo_ite
theorem o_mulI {i j : Int} : EvO (oMul (.int i) (.int j) L) Q = (((-(2 ^ 64) < i ∧ i < 2 ^ 64) ∨ (-(2 ^ 64) < j ∧ j < 2 ^ 64)) ∧ Q (.int (i * j)) L) := evo_ite
theorem o_modI {i j : Int} : EvO (oMod (.int i) (.int j) L) Q = (0 < j ∧ Q (.int (i % j)) L) := evo_ite
theorem o_divI {i j : Int} : EvO (oDiv (.int i) (.int j) L) Q = ((0 < j ∧ j < 1073741824) ∧ Q (.int (i / j)) L) := evo_ite
theorem o_powI {i j : Int} : EvO (oPow (.int i) (.int j) L) Q = ((0 ≤ j ∧ j ≤ 1000000 ∧ i.natAbs < 2 ^ 64) ∧ Q (.int (i ^ j.toNat)) L) := evo_ite
theorem o_cmpI {p : Int → Int → Bool} {i j : Int} : EvO (oCmp p (.int i) (.int j) L) Q = Q (.bl (p i j)) L := rfl
theorem o_intI {i : Int} : EvO (oInt [.int i] L) Q = Q (.int i) L := rfl
theorem o_intB {b : Bool} : EvO (oInt [.bl b] L) Q = Q (.int (if b then 1 else 0)) L := rfl
theorem o_absI {i : Int} : EvO (oAbs [.int i] L) Q = Q (.int (if i < 0 then -i else i)) L := rfl
theorem o_lst {ws : List W} : EvO (oLst ws L) Q = (ws.length ≤ 16777216 ∧ Q (.ref L.length) (L ++ [.lst ws])) := evo_ite
theorem o_tup {ws : List W} : EvO (oTup ws L) Q = (ws.length ≤ 16777216 ∧ Q (.tup ws) L) := evo_ite
theorem bl_bl {b : Bool} : blW (.bl b) = some b := rfl
end
end Z

/-! Z12: a dict is walked: locked while it is walked, then let go. -/
namespace Z
open PySem PySem.Spec PyProof.Rows L2
/-- within body the dict that f tells is locked -/
def lockE (f : Ex) (body : Ex) : Ex := fun env L => match f env L with
  | .ok (.ref n) _ => match L[n]? with
    | some (.dic kvs) => (body env (L.set n (.lck kvs))).only.bind fun w L2 => match L2[n]? with
      | some (.lck kvs') => .ok w (L2.set n (.dic kvs'))
      | _ => .stk
    | _ => .stk
  | _ => .stk
def lockS (f : Ex) (body : Sx) : Sx := fun env L => match f env L with
  | .ok (.ref n) _ => match L[n]? with
    | some (.dic kvs) => match body env (L.set n (.lck kvs)) with
      | .nx e L2 => match L2[n]? with
        | some (.lck kvs') => .nx e (L2.set n (.dic kvs'))
        | _ => .stk
      | .rt w L2 => match L2[n]? with
        | some (.lck kvs') => .rt w (L2.set n (.dic kvs'))
        | _ => .stk
      | .bk e L2 => match L2[n]? with
        | some (.lck kvs') => .bk e (L2.set n (.dic kvs'))
        | _ => .stk
      | .ct e L2 => match L2[n]? with
        | some (.lck kvs') => .ct e (L2.set n (.dic kvs'))
        | _ => .stk
      | _ => .stk
    | _ => .stk
  | _ => .stk
section
variable {X : Cx} {Γ : Ctx} {k : Nat} {Wx : WX} {pos : Pos}
theorem d_lock {e : Expr} (f : Ex) {body : Ex} (h : DE X Γ k Wx e body) : DE X Γ k Wx e (lockE f body) := fun g =>
  PE.imp (pe_lock (h g)) fun σ H Q q => by
    obtain ⟨ρ, env, L, rl, re, q⟩ := q
    unfold lockE at q
    split at q
    · rename_i n L' ef
      split at q
      · rename_i kvs eo
        obtain ⟨p, ep, us, hp, rk⟩ := rl.obj n _ eo
        refine ⟨p, .dK us, hp, trivial, fun od => ?_⟩
        have af : Aft Γ ρ H (L.set n (.lck kvs)) ρ (upd H p (.frz od (.dK us))) := .set rl eo ep ⟨od, us, upd_same, rk.mono (List.prefix_refl _) (.write hp rfl)⟩
        refine ⟨ρ, env, _, af.rl, re.mono af.pre af.kp, ?_⟩
        cases eb : body env (L.set n (.lck kvs)) with
        | exc e' L2 => rw [eb] at q; exact q.elim
        | stk => rw [eb] at q; exact q.elim
        | ok w L2 =>
          rw [eb] at q
          simp only [Res.only, Res.bind] at q
          intro ρ' H' v a r
          split at q
          · rename_i kvs' eo2
            obtain ⟨a2, h1⟩ := Aft.free hp ep a eo2
            exact ⟨h1, q ρ' _ v a2 (r.free h1)⟩
          · exact q.elim
      · exact q.elim
    · exact q.elim
theorem ds_lock {st : Stmt} (f : Ex) {body : Sx} (h : DS X Γ k Wx st body) : DS X Γ k Wx st (lockS f body) := fun g =>
  PS.imp (ps_lock (h g)) fun D σ H q => by
    obtain ⟨ρ, env, L, rl, re, q⟩ := q
    unfold lockS at q
    split at q
    · rename_i n L' ef
      split at q
      · rename_i kvs eo
        obtain ⟨p, ep, us, hp, rk⟩ := rl.obj n _ eo
        refine ⟨p, .dK us, hp, trivial, fun od => ?_⟩
        have af : Aft Γ ρ H (L.set n (.lck kvs)) ρ (upd H p (.frz od (.dK us))) := .set rl eo ep ⟨od, us, upd_same, rk.mono (List.prefix_refl _) (.write hp rfl)⟩
        refine ⟨ρ, env, _, af.rl, re.mono af.pre af.kp, ?_⟩
        cases eb : body env (L.set n (.lck kvs)) with
        | exc e' en L2 => rw [eb] at q; exact q.elim
        | stk => rw [eb] at q; exact q.elim
        | nx w L2 =>
          rw [eb] at q
          simp only at q
          intro ρ' H' v a r
          split at q
          · rename_i kvs' eo2
            obtain ⟨a2, h1⟩ := Aft.free hp ep a eo2
            exact ⟨h1, q ρ' _ v a2 (r.free h1)⟩
          · exact q.elim
        | rt w L2 =>
          rw [eb] at q
          simp only at q
          intro ρ' H' v a r
          split at q
          · rename_i kvs' eo2
            obtain ⟨a2, h1⟩ := Aft.free hp ep a eo2
            exact ⟨h1, q ρ' _ v a2 (r.free h1)⟩
          · exact q.elim
        | bk w L2 =>
          rw [eb] at q
          simp only at q
          intro ρ' H' v a r
          split at q
          · rename_i kvs' eo2
            obtain ⟨a2, h1⟩ := Aft.free hp ep a eo2
            exact ⟨h1, q ρ' _ v a2 (r.free h1)⟩
          · exact q.elim
        | ct w L2 =>
          rw [eb] at q
          simp only at q
          intro ρ' H' v a r
          split at q
          · rename_i kvs' eo2
            obtain ⟨a2, h1⟩ := Aft.free hp ep a eo2
            exact ⟨h1, q ρ' _ v a2 (r.free h1)⟩
          · exact q.elim
      · exact q.elim
    · exact q.elim
/-! ### its keys, values, pairs -/
def kW : Key → W
  | .inl i => .int i
  | .inr x => .str x
def lckL (L : LH) (n : Nat) : Option (List (Key × W)) := match L[n]? with
  | some (.lck kvs) => some kvs
  | _ => none
theorem rw_kW {ρ : List Addr} {H : Hp} (kk : Key) : RW Γ ρ H (kW kk) (kV kk) := by
  cases kk with
  | inl i => exact .int i
  | inr x => exact .str x
theorem lck_inv {ρ : List Addr} {H : Hp} {L : LH} {n : Nat} {p : Addr} {kvs : List (Key × W)} (rl : RL Γ ρ L H) (ep : ρ[n]? = some p) (h : lckL L n = some kvs) : ∃ od vs, H p = some (.frz od (.dK vs)) ∧ RKs Γ ρ H kvs vs := by
  unfold lckL at h
  split at h
  · rename_i ks e
    cases h
    obtain ⟨p', ep', od, vs, hp, rk⟩ := rl.obj n _ e
    rw [ep] at ep'; cases ep'
    exact ⟨od, vs, hp, rk⟩
  · cases h
theorem RKs.get {κ : Type} {ρ : List Addr} {H : Hp} : ∀ {ws : List (κ × W)} {vs : List (κ × V)} {i : Nat} {kk : κ} {w : W}, RKs Γ ρ H ws vs → ws[i]? = some (kk, w) → ∃ v, vs[i]? = some (kk, v) ∧ RW Γ ρ H w v
  | _, _, _, _, _, .nil, e => by simp at e
  | _, _, 0, _, _, .cons r _, e => by simp at e; obtain ⟨rfl, rfl⟩ := e; exact ⟨_, rfl, r⟩
  | _, _, i + 1, kk, w, .cons _ t, e => by
    obtain ⟨v, h1, h2⟩ := RKs.get (i := i) (kk := kk) (w := w) t (by simpa using e)
    exact ⟨v, by simpa using h1, h2⟩
def srcK (n : Nat) (m : Nat) : Src := ⟨m, fun L' i => (lckL L' n).map fun kvs => (kvs[i]?).map fun kv => kW kv.1⟩
def srcV (n : Nat) (m : Nat) : Src := ⟨m, fun L' i => (lckL L' n).map fun kvs => (kvs[i]?).map fun kv => kv.2⟩
def srcI (n : Nat) (m : Nat) : Src := ⟨m, fun L' i => (lckL L' n).map fun kvs => (kvs[i]?).map fun kv => W.tup [kW kv.1, kv.2]⟩
def iKy (f : Ex) : Ix := fun env L => (f env L).bind fun a L1 => match a with
  | .ref n => match lckL L1 n with
    | some kvs => .ok (srcK n kvs.length) L1
    | none => .stk
  | _ => .stk
def iVl (f : Ex) : Ix := fun env L => (f env L).bind fun a L1 => match a with
  | .ref n => match lckL L1 n with
    | some kvs => .ok (srcV n kvs.length) L1
    | none => .stk
  | _ => .stk
def iIt (f : Ex) : Ix := fun env L => (f env L).bind fun a L1 => match a with
  | .ref n => match lckL L1 n with
    | some kvs => .ok (srcI n kvs.length) L1
    | none => .stk
  | _ => .stk
theorem di_keys {tg e : Expr} {f : Ex} (he : DE X Γ k Wx e f) : DI X Γ k Wx tg e (iKy f) := fun g =>
  PI.imp (pi_keys (he g)) fun σ H R q => by
    obtain ⟨ρ, env, L, rl, re, q⟩ := q
    refine tG_bindE rl re q fun ρ1 H1 a v L1 ea a1 re1 r1 h1 => ?_
    split at h1
    · rename_i n
      cases el : lckL L1 n with
      | none => rw [el] at h1; exact h1.elim
      | some kvs =>
        rw [el] at h1
        simp only at h1
        cases r1 with
        | ref ep =>
          rename_i p
          obtain ⟨od, vs, hp, rk⟩ := lck_inv a1.rl ep el
          refine ⟨p, od, rfl, .inl ⟨vs, hp, ?_⟩⟩
          refine out_ok (R := RSrc Γ) h1 a1.rl ?_
          intro ρ' H' L' pr kp rl' i
          have hp' := kp.frz _ _ _ hp
          refine ⟨fun w h => ?_, fun h => ?_⟩
          · simp only [srcK] at h
            cases el' : lckL L' n with
            | none => rw [el'] at h; cases h
            | some ks =>
              rw [el'] at h
              obtain ⟨od', vs', hp2, rk'⟩ := lck_inv rl' (pre_get pr ep) el'
              rw [hp'] at hp2; cases hp2
              have hw : (ks[i]?).map (fun kv => kW kv.1) = some w := Option.some.inj h
              cases ek : ks[i]? with
              | none => rw [ek] at hw; cases hw
              | some kv =>
                rw [ek] at hw; cases hw
                obtain ⟨v, ev, rv⟩ := rk'.get (kk := kv.1) (w := kv.2) ek
                refine ⟨⟨hp', (List.getElem?_eq_some_iff.mp ev).1⟩, fun x H2 y => ?_⟩
                obtain ⟨rfl, k', v', e', rfl⟩ := y
                rw [ev] at e'; cases e'
                exact ⟨.refl rl', rw_kW _⟩
          · simp only [srcK] at h
            cases el' : lckL L' n with
            | none => rw [el'] at h; cases h
            | some ks =>
              rw [el'] at h
              obtain ⟨od', vs', hp2, rk'⟩ := lck_inv rl' (pre_get pr ep) el'
              rw [hp'] at hp2; cases hp2
              have hw : (ks[i]?).map (fun kv => kW kv.1) = none := Option.some.inj h
              refine ⟨hp', ?_⟩
              rw [← rk'.length]
              cases ek : ks[i]? with
              | none => exact List.getElem?_eq_none_iff.mp ek
              | some kv => rw [ek] at hw; cases hw
    · exact h1.elim
theorem di_values {tg e : Expr} {f : Ex} {apos cpos : Pos} (he : DE X Γ k Wx e f) (hbase : attributeBase e "values" X.env (eval e X.env) = eval e X.env := by rfl) (hline : (apos.endLine == cpos.line) = true := by rfl) :
    DI X Γ k Wx tg (.Call (.Attribute e "values" apos) [] [] cpos) (iVl f) := fun g =>
  PI.imp (pi_values (he g) hbase hline) fun σ H R q => by
    obtain ⟨ρ, env, L, rl, re, q⟩ := q
    refine tG_bindE rl re q fun ρ1 H1 a v L1 ea a1 re1 r1 h1 => ?_
    split at h1
    · rename_i n
      cases el : lckL L1 n with
      | none => rw [el] at h1; exact h1.elim
      | some kvs =>
        rw [el] at h1
        simp only at h1
        cases r1 with
        | ref ep =>
          rename_i p
          obtain ⟨od, vs, hp, rk⟩ := lck_inv a1.rl ep el
          refine ⟨p, od, vs, rfl, hp, ?_⟩
          refine out_ok (R := RSrc Γ) h1 a1.rl ?_
          intro ρ' H' L' pr kp rl' i
          have hp' := kp.frz _ _ _ hp
          refine ⟨fun w h => ?_, fun h => ?_⟩
          · simp only [srcV] at h
            cases el' : lckL L' n with
            | none => rw [el'] at h; cases h
            | some ks =>
              rw [el'] at h
              obtain ⟨od', vs', hp2, rk'⟩ := lck_inv rl' (pre_get pr ep) el'
              rw [hp'] at hp2; cases hp2
              have hw : (ks[i]?).map (fun kv => kv.2) = some w := Option.some.inj h
              cases ek : ks[i]? with
              | none => rw [ek] at hw; cases hw
              | some kv =>
                rw [ek] at hw; cases hw
                obtain ⟨v, ev, rv⟩ := rk'.get (kk := kv.1) (w := kv.2) ek
                refine ⟨⟨hp', (List.getElem?_eq_some_iff.mp ev).1⟩, fun x H2 y => ?_⟩
                obtain ⟨rfl, k', e'⟩ := y
                rw [ev] at e'; cases e'
                exact ⟨.refl rl', rv⟩
          · simp only [srcV] at h
            cases el' : lckL L' n with
            | none => rw [el'] at h; cases h
            | some ks =>
              rw [el'] at h
              obtain ⟨od', vs', hp2, rk'⟩ := lck_inv rl' (pre_get pr ep) el'
              rw [hp'] at hp2; cases hp2
              have hw : (ks[i]?).map (fun kv => kv.2) = none := Option.some.inj h
              refine ⟨hp', ?_⟩
              rw [← rk'.length]
              cases ek : ks[i]? with
              | none => exact List.getElem?_eq_none_iff.mp ek
              | some kv => rw [ek] at hw; cases hw
    · exact h1.elim
theorem di_items {elts : List Expr} {kk : Nat} {tpos : Pos} {e : Expr} {f : Ex} {apos cpos : Pos} (he : DE X Γ k Wx e f) (hbase : attributeBase e "items" X.env (eval e X.env) = eval e X.env := by rfl) (hline : (apos.endLine == cpos.line) = true := by rfl) :
    DI X Γ k Wx (.Tuple elts kk tpos) (.Call (.Attribute e "items" apos) [] [] cpos) (iIt f) := fun g =>
  PI.imp (pi_items (he g) hbase hline) fun σ H R q => by
    obtain ⟨ρ, env, L, rl, re, q⟩ := q
    refine tG_bindE rl re q fun ρ1 H1 a v L1 ea a1 re1 r1 h1 => ?_
    split at h1
    · rename_i n
      cases el : lckL L1 n with
      | none => rw [el] at h1; exact h1.elim
      | some kvs =>
        rw [el] at h1
        simp only at h1
        cases r1 with
        | ref ep =>
          rename_i p
          obtain ⟨od, vs, hp, rk⟩ := lck_inv a1.rl ep el
          refine ⟨p, od, vs, rfl, hp, ?_⟩
          refine out_ok (R := RSrc Γ) h1 a1.rl ?_
          intro ρ' H' L' pr kp rl' i
          have hp' := kp.frz _ _ _ hp
          refine ⟨fun w h => ?_, fun h => ?_⟩
          · simp only [srcI] at h
            cases el' : lckL L' n with
            | none => rw [el'] at h; cases h
            | some ks =>
              rw [el'] at h
              obtain ⟨od', vs', hp2, rk'⟩ := lck_inv rl' (pre_get pr ep) el'
              rw [hp'] at hp2; cases hp2
              have hw : (ks[i]?).map (fun kv => W.tup [kW kv.1, kv.2]) = some w := Option.some.inj h
              cases ek : ks[i]? with
              | none => rw [ek] at hw; cases hw
              | some kv =>
                rw [ek] at hw; cases hw
                obtain ⟨v, ev, rv⟩ := rk'.get (kk := kv.1) (w := kv.2) ek
                refine ⟨⟨hp', (List.getElem?_eq_some_iff.mp ev).1⟩, fun x H2 y => ?_⟩
                obtain ⟨T, k', v', e', rfl, hT, rfl⟩ := y
                rw [ev] at e'; cases e'
                refine ⟨.fresh rl' hT, .tup (.inl (.inl upd_same)) (.cons (rw_kW _) (.one (rv.mono (List.prefix_refl _) (.fresh hT))))⟩
          · simp only [srcI] at h
            cases el' : lckL L' n with
            | none => rw [el'] at h; cases h
            | some ks =>
              rw [el'] at h
              obtain ⟨od', vs', hp2, rk'⟩ := lck_inv rl' (pre_get pr ep) el'
              rw [hp'] at hp2; cases hp2
              have hw : (ks[i]?).map (fun kv => W.tup [kW kv.1, kv.2]) = none := Option.some.inj h
              refine ⟨hp', ?_⟩
              rw [← rk'.length]
              cases ek : ks[i]? with
              | none => exact List.getElem?_eq_none_iff.mp ek
              | some kv => rw [ek] at hw; cases hw
    · exact h1.elim
end
end Z

/-! Z13: instances: fields read and written, methods, making. -/
namespace Z
open PySem PySem.Spec PyProof.Rows L2
/-- the class numbers cs have no attribute named f but by the instance -/
def Flds (K : PySem.W.Frag) (Γ : Ctx) (cs : List Nat) (f : Str) : Prop := ∀ c ∈ cs, Cls K (Γ.cls c) ∧ NoAttr K (Γ.cls c) f
def insW (a : W) (L : LH) : Option (Nat × Nat × List (Str × W)) := match a with
  | .ref n => match L[n]? with
    | some (.ins c fs) => some (n, c, fs)
    | _ => none
  | _ => none
def oFld (cs : List Nat) (f : Str) (a : W) (L : LH) : OV := match insW a L with
  | some (_, c, fs) => if cs.contains c = true then (fs.lookup f).map fun w => (w, L) else none
  | none => none
section
variable {X : Cx} {Γ : Ctx} {k : Nat} {Wx : WX} {pos : Pos}
theorem insW_inv {ρ : List Addr} {H : Hp} {L : LH} {a : W} {v : V} {n c : Nat} {fs : List (Str × W)} (rl : RL Γ ρ L H) (r : RW Γ ρ H a v) (h : insW a L = some (n, c, fs)) :
    ∃ p dx vs, a = .ref n ∧ L[n]? = some (.ins c fs) ∧ v = .ref p ∧ ρ[n]? = some p ∧ H p = some (.ins (Γ.cls c) dx vs) ∧ RKs Γ ρ H fs vs := by
  unfold insW at h
  split at h
  · rename_i m
    split at h
    · rename_i c' fs' e
      cases h
      cases r with
      | ref ep =>
        obtain ⟨p, ep', dx, vs, hp, rk⟩ := rl.obj _ _ e
        rw [ep] at ep'; cases ep'
        exact ⟨_, dx, vs, rfl, e, rfl, ep, hp, rk⟩
    · cases h
  · cases h
theorem d_fld {e : Expr} {f : Str} {g : Ex} (cs : List Nat) (hf : Flds X.K Γ cs f) (he : DE X Γ k Wx e g) (hb : attributeBase e f X.env (eval e X.env) = eval e X.env := by rfl) : DE X Γ k Wx (.Attribute e f pos) (cOp1 (oFld cs f) g) := fun G =>
  PE.imp (pe_fld (he G) hb) fun σ H Q q => by
    obtain ⟨ρ, env, L, rl, re, q⟩ := q
    refine tG_bind rl re q fun ρ1 H1 a v L1 a1 re1 r1 h1 => ?_
    cases ei : insW a L1 with
    | none => simp only [oFld, ei] at h1; exact h1.elim
    | some z =>
      obtain ⟨n, c, fs⟩ := z
      obtain ⟨p, dx, vs, rfl, eo, rfl, ep, hp, rk⟩ := insW_inv a1.rl r1 ei
      simp only [oFld, ei] at h1
      split at h1
      · rename_i hc
        have hm : c ∈ cs := by simpa using hc
        cases el : fs.lookup f with
        | none => rw [el] at h1; exact h1.elim
        | some w =>
          rw [el] at h1
          obtain ⟨v, ev, rv⟩ := (rk.look (x := f)).1 w el
          refine ⟨p, Γ.cls c, dx, vs, v, rfl, hp, (hf c hm).1, (hf c hm).2, ev, ?_⟩
          exact out_ok (R := RW Γ) h1 a1.rl rv
      · exact h1.elim
/-- a field put: in its place, or behind -/
def putFW (f : Str) (w : W) : List (Str × W) → List (Str × W)
  | [] => [(f, w)]
  | (g, u) :: r => if g = f then (f, w) :: r else (g, u) :: putFW f w r
theorem RKs.putF {ρ : List Addr} {H : Hp} {f : Str} {w : W} {v : V} (r : RW Γ ρ H w v) : ∀ {ws : List (Str × W)} {vs : List (Str × V)}, RKs Γ ρ H ws vs → RKs Γ ρ H (putFW f w ws) (L2.putF f v vs)
  | _, _, .nil => .cons r .nil
  | _, _, .cons (k := g) q t => by
    unfold putFW L2.putF
    split
    · rename_i e; subst e; exact .cons r t
    · exact .cons q (RKs.putF r t)
/-- the field f of a := w -/
def oPutF (cs : List Nat) (f : Str) (a w : W) (L : LH) : Option LH := match insW a L with
  | some (n, c, fs) => if cs.contains c = true ∧ fs.length < 1000 then some (L.set n (.ins c (putFW f w fs))) else none
  | none => none
def sFldP (cs : List Nat) (f : Str) (o v : Ex) : Sx := fun env L => (v env L).toS env fun w L1 => (o env L1).toS env fun a L2 => match oPutF cs f a w L2 with
  | some L3 => .nx env L3
  | none => .stk
theorem ds_fld {o value : Expr} {f : Str} {fo fv : Ex} {pos' : Pos} (cs : List Nat) (hf : Flds X.K Γ cs f) (ho : DE X Γ k Wx o fo) (hv : DE X Γ k Wx value fv) (hs : swapsWith value (some (.Attribute o f pos')) pos.line X.env = pure false := by rfl) :
    DS X Γ k Wx (.Assign [.Attribute o f pos'] value pos) (sFldP cs f fo fv) := fun g =>
  PS.imp (ps_fld (ho g) (hv g) hs) fun D σ H q => by
    obtain ⟨ρ, env, L, rl, re, q⟩ := q
    refine tG_toS rl re q fun ρ1 H1 w v L1 _ a1 re1 r1 h1 => ?_
    refine tG_toS a1.rl re1 h1 fun ρ2 H2 a u Lb _ a2 re2 r2 h2 => ?_
    unfold oPutF at h2
    cases ei : insW a Lb with
    | none => rw [ei] at h2; exact h2.elim
    | some z =>
      obtain ⟨n, c, fs⟩ := z
      obtain ⟨p, dx, vs, rfl, eo, rfl, ep, hp, rk⟩ := insW_inv a2.rl r2 ei
      rw [ei] at h2
      simp only at h2
      split at h2
      · rename_i e
        split at e
        · rename_i hc
          cases e
          have hm : c ∈ cs := by simpa using hc.1
          refine ⟨p, Γ.cls c, dx, vs, rfl, hp, (hf c hm).1, (hf c hm).2, by rw [← rk.length]; exact hc.2, ?_⟩
          have r1' := r1.mono a2.pre a2.kp
          have kp : Keep H2 (upd H2 p (.ins (Γ.cls c) dx (L2.putF f v vs))) := .write hp rfl
          have a3 : Aft Γ ρ2 H2 (Lb.set n (.ins c (putFW f w fs))) ρ2 (upd H2 p (.ins (Γ.cls c) dx (L2.putF f v vs))) :=
            .set a2.rl eo ep ⟨dx, _, upd_same, (rk.mono (List.prefix_refl _) kp).putF (r1'.mono (List.prefix_refl _) kp)⟩
          exact h2 ρ2 _ σ a3 (re2.mono a3.pre a3.kp)
        · cases e
      · exact h2.elim
/-! ### methods -/
/-- a method asked of whatever class the receiver has -/
def tMA (X : Cx) (k : Nat) (m : Str) (E : L2.St → XK) (ta : TE) (t : TA) : TE := fun σ H Q => ta σ H fun x H1 => ∃ a C dx fs f fd ps ds dvs sp, x = .ref a ∧ H1 a = some (.ins C dx fs) ∧ fs.lookup m = none ∧ Cls X.K C ∧ Meth X.K C m f ∧
  FnOk X.prog X.w X.K X.mg X.base (L2.CX X.prog X.w) k f fd ps sp ∧ Binds X.K fd ps ds ∧ Vals dvs ds ∧ t σ H1 fun vs H2 => sp (x :: (vs ++ dvs)) H2 Q (E σ)
theorem pe_methA {o e : Expr} {es : List Expr} {ta : TE} {t : TA} {m : Str} {apos : Pos} {E : L2.St → XK} {pl : Sem Bool} (he : PE X o ta) (hr : Room k X.A) (hx : ∀ σ, PassesAt (L2.CX X.prog X.w) X σ (E σ)) (ha : PA X (e :: es) t)
    (hst : starEach (e :: es) X.env = (false, eval e X.env) :: starEach es X.env) (hpl : (backTo pos (starEach es X.env)).any (·.1) = false)
    (ht : eval (.Call (.Attribute o m apos) (e :: es) [] pos) X.env = (do let ov ← eval o X.env; standAt apos.atName; let (f, first) ← holding [ov] (getMethod ov m pl); callWith pos f first (backTo pos (starEach (e :: es) X.env)) (backToKw pos (keywordEach [] X.env)))) :
    PE X (.Call (.Attribute o m apos) (e :: es) [] pos) (tMA X k m E ta t) := by
  constructor
  intro pins s σ H Q I h
  refine PySem.W.methodCall_KW (pl := pl) (thn (he.run pins s σ H _ I h) ?_) ht
  rintro u s1 ⟨x, H1, I1, rx, a, C, dx, fs, f, fd, ps, ds, dvs, sp, ex, ea, l, c, hm, F, hb, hd, q⟩
  subst ex
  cases (show u = Value.ref a from rx)
  refine getmeth_ok I1 ea c hm l ?_
  refine PySem.W.callWith_K (first := [.ref a]) (h₀ := X.base) I.ok.mod.kin hm.kp (thn (ha.run pos pins s1 σ H1 _ I1 q) ?_) hst hpl
  rintro us s2 ⟨vs, H2, I2, r, q2⟩
  exact ⟨I2.kIn, run_fnSD (us := .ref a :: us) (vs := .ref a :: vs) F hr hb hd (hx σ) I2 (.cons rfl r) q2⟩
theorem pe_methA0 {o : Expr} {ta : TE} {m : Str} {apos : Pos} {E : L2.St → XK} {pl : Sem Bool} (he : PE X o ta) (hr : Room k X.A) (hx : ∀ σ, PassesAt (L2.CX X.prog X.w) X σ (E σ))
    (ht : eval (.Call (.Attribute o m apos) [] [] pos) X.env = (do let ov ← eval o X.env; standAt apos.atName; let (f, first) ← holding [ov] (getMethod ov m pl); callWith pos f first (backTo pos (starEach [] X.env)) (backToKw pos (keywordEach [] X.env)))) :
    PE X (.Call (.Attribute o m apos) [] [] pos) (tMA X k m E ta tNil) := by
  constructor
  intro pins s σ H Q I h
  refine PySem.W.methodCall_KW (pl := pl) (thn (he.run pins s σ H _ I h) ?_) ht
  rintro u s1 ⟨x, H1, I1, rx, a, C, dx, fs, f, fd, ps, ds, dvs, sp, ex, ea, l, c, hm, F, hb, hd, q⟩
  subst ex
  cases (show u = Value.ref a from rx)
  refine getmeth_ok I1 ea c hm l ?_
  exact PySem.W.callWith_K0 (first := [.ref a]) I1.kIn hm.kp (run_fnSD (us := [.ref a]) (vs := [.ref a]) F hr hb hd (hx σ) I1 (.cons rfl .nil) q)
/-- the classes that have the method, what it means there, its defaults -/
def MthS (P : Program) (w : World) (K : PySem.W.Frag) (mg : Str → Option Value) (base : Heap) (Γ : Ctx) (k : Nat) (m : Str) (tbl : List (Nat × (Fn × List W))) : Prop :=
  ∀ c g dws, tbl.lookup c = some (g, dws) → Cls K (Γ.cls c) ∧ ∃ f ps, Meth K (Γ.cls c) m f ∧ FnS P w K mg base Γ k f ps dws g
def cMeth (tbl : List (Nat × (Fn × List W))) (m : Str) (fo : Ex) (fs : ExL) : Ex := fun env L => (fo env L).bind fun a L1 => match insW a L1 with
  | some (_, c, fl) => match tbl.lookup c with
    | some (g, dws) => if (fl.lookup m).isNone = true then (fs env L1).bind fun as Lb => g (a :: (as ++ dws)) Lb else .stk
    | none => .stk
  | none => .stk
theorem meth_read {o : Expr} {m : Str} {fo : Ex} {fs : ExL} {tbl : List (Nat × (Fn × List W))} (S : MthS X.prog X.w X.K X.mg X.base Γ k m tbl) {σ : L2.St} {H : Hp} {Q : VK} {t : TA}
    (ht : ∀ {H : Hp} {Q : List V → Hp → Prop}, tExL Γ Wx fs σ H Q → t σ H Q) (q : tEx Γ Wx (cMeth tbl m fo fs) σ H Q) : tMA X k m (L2.WE Wx) (tEx Γ Wx fo) t σ H Q := by
  obtain ⟨ρ, env, L, rl, re, q⟩ := q
  refine tG_bind rl re q fun ρ1 H1 a v L1 a1 re1 r1 h1 => ?_
  cases ei : insW a L1 with
  | none => rw [ei] at h1; exact h1.elim
  | some z =>
    obtain ⟨n, c, fl⟩ := z
    obtain ⟨p, dx, vs, rfl, eo, rfl, ep, hp, rk⟩ := insW_inv a1.rl r1 ei
    rw [ei] at h1
    simp only at h1
    cases et : tbl.lookup c with
    | none => rw [et] at h1; exact h1.elim
    | some gd =>
      obtain ⟨g, dws⟩ := gd
      rw [et] at h1
      simp only at h1
      obtain ⟨cl, f, ps, hm, FS⟩ := S c g dws et
      obtain ⟨fd, ds, dvs, F, B, D, rd⟩ := FS.ex
      split at h1
      · rename_i hn
        have hl : fl.lookup m = none := Option.isNone_iff_eq_none.mp hn
        refine ⟨p, Γ.cls c, dx, vs, f, fd, ps, ds, dvs, spG Γ g, rfl, hp, (rk.look (x := m)).2 hl, cl, hm, F, B, D, ht ?_⟩
        refine tG_bind a1.rl re1 h1 fun ρ2 H2 as us Lb a2 re2 r2 h2 => ?_
        exact call_read a2.rl (.cons (r1.mono a2.pre a2.kp) (r2.append (rd _ _))) h2
      · exact h1.elim
theorem d_meth {o e : Expr} {es : List Expr} {m : Str} {apos : Pos} {fo : Ex} {fs : ExL} {pl : Sem Bool} {tbl : List (Nat × (Fn × List W))} (S : MthS X.prog X.w X.K X.mg X.base Γ k m tbl) (ho : DE X Γ k Wx o fo) (ha : DA X Γ k Wx (e :: es) fs)
    (hst : starEach (e :: es) X.env = (false, eval e X.env) :: starEach es X.env := by rfl) (hpl : (backTo pos (starEach es X.env)).any (·.1) = false := by rfl)
    (ht : eval (.Call (.Attribute o m apos) (e :: es) [] pos) X.env = (do let ov ← eval o X.env; standAt apos.atName; let (f, first) ← holding [ov] (getMethod ov m pl); callWith pos f first (backTo pos (starEach (e :: es) X.env)) (backToKw pos (keywordEach [] X.env))) := by rfl) :
    DE X Γ k Wx (.Call (.Attribute o m apos) (e :: es) [] pos) (cMeth tbl m fo fs) := fun g =>
  PE.imp (pe_methA (k := k) (ho g) g.room (fun σ => L2.passAt g.tk σ) (ha g) hst hpl ht) fun σ H Q q => meth_read (o := o) S (fun z => z) q
theorem d_meth0 {o : Expr} {m : Str} {apos : Pos} {fo : Ex} {pl : Sem Bool} {tbl : List (Nat × (Fn × List W))} (S : MthS X.prog X.w X.K X.mg X.base Γ k m tbl) (ho : DE X Γ k Wx o fo)
    (ht : eval (.Call (.Attribute o m apos) [] [] pos) X.env = (do let ov ← eval o X.env; standAt apos.atName; let (f, first) ← holding [ov] (getMethod ov m pl); callWith pos f first (backTo pos (starEach [] X.env)) (backToKw pos (keywordEach [] X.env))) := by rfl) :
    DE X Γ k Wx (.Call (.Attribute o m apos) [] [] pos) (cMeth tbl m fo cNil) := fun g =>
  PE.imp (pe_methA0 (k := k) (ho g) g.room (fun σ => L2.passAt g.tk σ) ht) fun σ H Q q => meth_read (o := o) S (fun {H Q} z => by
    obtain ⟨ρ, env, L, rl, re, z⟩ := z
    exact out_ok (R := RWs Γ) z rl .nil) q
end
end Z

/-! Z14: instances are made. -/
namespace Z
open PySem PySem.Spec PyProof.Rows L2
section
variable {X : Cx} {Γ : Ctx} {k : Nat} {Wx : WX} {pos : Pos}
/-- C(..), its exceptions wished for at the caller's slots -/
def tMkA (X : Cx) (C : Addr) (sp : Sp) (dvs : List V) (E : L2.St → XK) (t : TA) : TE := fun σ H Q => t σ H fun vs H1 => ∀ x dx, H1 x = none → H1 dx = none → dx ≠ x →
  sp (.ref x :: (vs ++ dvs)) (upd (upd H1 dx (.own x)) x (.ins C dx [])) (fun v H2 => v = .non ∧ Q (.ref x) H2) (E σ)
theorem mk_run {C f : Addr} {fd : FuncData} {ps : List Str} {sp : Sp} {dvs : List V} {ds : List Value} {E : L2.St → XK} {pins : List (Addr × Obj)} {σ : L2.St} {H : Hp} {s : Shared} {Q : VK} {us : List Value} {vs : List V} (M : Mk X.K C f)
    (F : FnOk X.prog X.w X.K X.mg X.base (L2.CX X.prog X.w) k f fd ps sp) (hr : Room (k + 1) X.A) (hb : Binds X.K fd ps ds) (hd : Vals dvs ds) (hx : PassesAt (L2.CX X.prog X.w) X σ (E σ)) (I : Inv X pins σ H s) (r : Vals vs us)
    (h : ∀ x dx, H x = none → H dx = none → dx ≠ x → sp (.ref x :: (vs ++ dvs)) (upd (upd H dx (.own x)) x (.ins C dx [])) (fun v H2 => v = .non ∧ Q (.ref x) H2) (E σ)) :
    wpAny (model X.prog X.w) X.A (call (.ref C) us) (EP X pins σ Q) X.xe s := by
  have n1 : H (s.heap.objs.size + 1) = none := I.hok.fresh (Nat.le_succ _)
  have n0 : H s.heap.objs.size = none := I.hok.fresh (Nat.le_refl _)
  have hq := h _ _ n1 n0 (Nat.ne_of_lt (Nat.lt_succ_self _))
  have J := Inv.made (C := C) I
  have rr : Vals (V.ref (s.heap.objs.size + 1) :: (vs ++ dvs)) (Value.ref (s.heap.objs.size + 1) :: (us ++ ds)) := .cons rfl (r.append hd)
  have hl : (Value.ref (s.heap.objs.size + 1) :: us ++ ds).length = ps.length := (F.len _ _ _ _ hq ▸ rr.length).symm
  have run := F.run _ X.stack _ _ ⟨Value.ref (s.heap.objs.size + 1) :: us, []⟩ (Value.ref (s.heap.objs.size + 1) :: (us ++ ds)) _ _ (E σ) (hr.make C us []) (J.env0.make C us []) (hb _ (Value.ref (s.heap.objs.size + 1) :: us) J.kIn hl) rr hq
  refine wpAny_call (make_map (f := f) I.kIn M.makes M.init (beq_iff_eq.mp M.fn) (codeAny_mono run ?_))
  rintro (e | fl) s' z
  · exact hx pins _ _ e s' J z
  · cases fl with
    | ret u =>
      obtain ⟨v, H', I3, rv, ev, q3⟩ := J.after z
      subst ev
      exact ⟨rv, V.ref (s.heap.objs.size + 1), H', I3, rfl, q3⟩
    | next => exact z.elim
    | brk => exact z.elim
    | cont => exact z.elim
theorem pe_mkA {x : Str} {p : Pos} {e : Expr} {es : List Expr} {C f : Addr} {fd : FuncData} {ps : List Str} {sp : Sp} {dvs : List V} {ds : List Value} {E : L2.St → XK} {t : TA} (M : Mk X.K C f) (F : FnOk X.prog X.w X.K X.mg X.base (L2.CX X.prog X.w) k f fd ps sp) (hr : Room (k + 1) X.A)
    (hg : Gl X x) (hm : X.mg x = some (.ref C)) (hb : Binds X.K fd ps ds) (hd : Vals dvs ds) (hx : ∀ σ, PassesAt (L2.CX X.prog X.w) X σ (E σ)) (ha : PA X (e :: es) t)
    (hdb : (x == ("__debug__" : Str)) = false) (he : starEach (e :: es) X.env = (false, eval e X.env) :: starEach es X.env) (hpl : (backTo pos (starEach es X.env)).any (·.1) = false) : PE X (.Call (.Name x p) (e :: es) [] pos) (tMkA X C sp dvs E t) := by
  constructor
  intro pins s σ H Q I h
  refine wpAny_Call_Name_kw (ld_glob I hg hm ?_ hdb)
  refine PySem.W.callWith_K (h₀ := X.base) I.ok.mod.kin M.kp (thn (ha.run pos pins s σ H _ I h) ?_) he hpl
  rintro us s1 ⟨vs, H1, I1, r, q⟩
  exact ⟨I1.kIn, mk_run M F hr hb hd (hx σ) I1 r q⟩
theorem pe_mkA0 {x : Str} {p : Pos} {C f : Addr} {fd : FuncData} {ps : List Str} {sp : Sp} {dvs : List V} {ds : List Value} {E : L2.St → XK} (M : Mk X.K C f) (F : FnOk X.prog X.w X.K X.mg X.base (L2.CX X.prog X.w) k f fd ps sp) (hr : Room (k + 1) X.A)
    (hg : Gl X x) (hm : X.mg x = some (.ref C)) (hb : Binds X.K fd ps ds) (hd : Vals dvs ds) (hx : ∀ σ, PassesAt (L2.CX X.prog X.w) X σ (E σ)) (hdb : (x == ("__debug__" : Str)) = false) : PE X (.Call (.Name x p) [] [] pos) (tMkA X C sp dvs E tNil) := by
  constructor
  intro pins s σ H Q I h
  refine wpAny_Call_Name_kw (ld_glob I hg hm ?_ hdb)
  exact PySem.W.callWith_K0 I.kIn M.kp (mk_run (us := []) M F hr hb hd (hx σ) I .nil h)
/-- a class's making: its number, what __init__ means -/
def cMake (c : Nat) (g : Fn) (dws : List W) (fs : ExL) : Ex := fun env L => (fs env L).bind fun as L1 => (g (.ref L1.length :: (as ++ dws)) (L1 ++ [.ins c []])).bind fun r Lb => match r with
  | .non => .ok (.ref L1.length) Lb
  | _ => .stk
theorem make_read {c : Nat} {g : Fn} {ws dws : List W} {vs dvs : List V} {σ : L2.St} {ρ : List Addr} {H : Hp} {L : LH} {Q : VK} (rl : RL Γ ρ L H) (r : RWs Γ ρ H ws vs) (rd : ∀ ρ H, RWs Γ ρ H dws dvs)
    (h : Out (RW Γ) Γ Wx σ ρ H ((g (.ref L.length :: (ws ++ dws)) (L ++ [.ins c []])).bind fun r Lb => match r with | .non => .ok (.ref L.length) Lb | _ => .stk) Q) (x dx : Addr) (hx : H x = none) (hdx : H dx = none) (hne : dx ≠ x) :
    spG Γ g (.ref x :: (vs ++ dvs)) (upd (upd H dx (.own x)) x (.ins (Γ.cls c) dx [])) (fun v H2 => v = .non ∧ Q (.ref x) H2) (L2.WE Wx σ) := by
  have a1 : Aft Γ ρ H L ρ (upd H dx (.own x)) := .fresh rl hdx
  have hx1 : (upd H dx (.own x)) x = none := by rw [upd_ne (Ne.symm hne)]; exact hx
  have a2 : Aft Γ ρ (upd H dx (.own x)) (L ++ [.ins c []]) (ρ ++ [x]) (upd (upd H dx (.own x)) x (.ins (Γ.cls c) dx [])) := .push a1.rl hx1 ⟨dx, [], upd_same, .nil⟩
  have a := a1.trans a2
  have ex : (ρ ++ [x])[L.length]? = some x := by rw [← rl.len]; exact List.getElem?_concat_length
  refine ⟨ρ ++ [x], L ++ [.ins c []], .ref L.length :: (ws ++ dws), a.rl, .cons (.ref ex) ((r.mono a.pre a.kp).append (rd _ _)), ?_⟩
  cases eg : g (.ref L.length :: (ws ++ dws)) (L ++ [.ins c []]) with
  | stk => rw [eg] at h; exact h.elim
  | exc e Lb => rw [eg] at h; exact fun ρ' H' cc d b rr => h ρ' H' cc d (a.trans b) rr
  | ok w Lb =>
    rw [eg] at h
    intro ρ' H' v b rr
    cases w with
    | non =>
      cases rr
      exact ⟨rfl, h ρ' H' _ (a.trans b) (.ref (b.get ex))⟩
    | _ => exact h.elim
theorem d_make {C f : Addr} {ps : List Str} {c : Nat} {dws : List W} {g : Fn} {x : Str} {p : Pos} {e : Expr} {es : List Expr} {fs : ExL} (M : Mk X.K C f) (S : FnS X.prog X.w X.K X.mg X.base Γ k f ps dws g) (hC : C = Γ.cls c) (hm : X.mg x = some (.ref C)) (ha : DA X Γ (k + 1) Wx (e :: es) fs) (hg : Gl X x := by rfl)
    (hdb : (x == ("__debug__" : Str)) = false := by decide) (he : starEach (e :: es) X.env = (false, eval e X.env) :: starEach es X.env := by rfl) (hpl : (backTo pos (starEach es X.env)).any (·.1) = false := by rfl) :
    DE X Γ (k + 1) Wx (.Call (.Name x p) (e :: es) [] pos) (cMake c g dws fs) := fun G => by
  subst hC
  obtain ⟨fd, ds, dvs, F, B, D, rd⟩ := S.ex
  refine PE.imp (pe_mkA M F G.room hg hm B D (fun σ => L2.passAt G.tk σ) (ha G) hdb he hpl) fun σ H Q q => ?_
  obtain ⟨ρ, env, L, rl, re, q⟩ := q
  refine tG_bind rl re q fun ρ1 H1 as vs L1 a1 re1 r1 h1 => fun x dx hx hdx hne => ?_
  exact make_read a1.rl r1 rd h1 x dx hx hdx hne
theorem d_make0 {C f : Addr} {ps : List Str} {c : Nat} {dws : List W} {g : Fn} {x : Str} {p : Pos} (M : Mk X.K C f) (S : FnS X.prog X.w X.K X.mg X.base Γ k f ps dws g) (hC : C = Γ.cls c) (hm : X.mg x = some (.ref C)) (hg : Gl X x := by rfl)
    (hdb : (x == ("__debug__" : Str)) = false := by decide) : DE X Γ (k + 1) Wx (.Call (.Name x p) [] [] pos) (cMake c g dws cNil) := fun G => by
  subst hC
  obtain ⟨fd, ds, dvs, F, B, D, rd⟩ := S.ex
  refine PE.imp (pe_mkA0 M F G.room hg hm B D (fun σ => L2.passAt G.tk σ) hdb) fun σ H Q q => ?_
  obtain ⟨ρ, env, L, rl, re, q⟩ := q
  exact fun x dx hx hdx hne => make_read rl .nil rd q x dx hx hdx hne
/-- a higher level will do -/
theorem FnS.mono {P : Program} {w : World} {K : PySem.W.Frag} {mg : Str → Option Value} {base : Heap} {j k : Nat} {f : Addr} {ps : List Str} {dws : List W} {g : Fn} (S : FnS P w K mg base Γ j f ps dws g) (h : j ≤ k) : FnS P w K mg base Γ k f ps dws g :=
  ⟨let ⟨fd, ds, dvs, F, r⟩ := S.ex; ⟨fd, ds, dvs, F.mono h, r⟩, S.kp⟩
theorem MthS.nil {P : Program} {w : World} {K : PySem.W.Frag} {mg : Str → Option Value} {base : Heap} {m : Str} : MthS P w K mg base Γ k m [] := fun c g dws e => by simp at e
theorem MthS.cons {P : Program} {w : World} {K : PySem.W.Frag} {mg : Str → Option Value} {base : Heap} {m : Str} {c : Nat} {g : Fn} {dws : List W} {tbl : List (Nat × (Fn × List W))} {f : Addr} {ps : List Str} (hc : Cls K (Γ.cls c)) (hm : Meth K (Γ.cls c) m f) (S : FnS P w K mg base Γ k f ps dws g)
    (r : MthS P w K mg base Γ k m tbl) : MthS P w K mg base Γ k m ((c, (g, dws)) :: tbl) := fun c' g' dws' e => by
  rw [List.lookup_cons] at e
  by_cases h : c' = c
  · subst h
    rw [beq_self_eq_true] at e
    cases e
    exact ⟨hc, f, ps, hm, S⟩
  · rw [beq_eq_false_iff_ne.mpr h] at e
    exact r c' g' dws' e
theorem Flds.nil {K : PySem.W.Frag} {f : Str} : Flds K Γ [] f := fun c h => by simp at h
theorem Flds.cons {K : PySem.W.Frag} {f : Str} {c : Nat} {cs : List Nat} (hc : Cls K (Γ.cls c)) (hn : NoAttr K (Γ.cls c) f) (r : Flds K Γ cs f) : Flds K Γ (c :: cs) f := fun c' h => by
  rcases List.mem_cons.mp h with rfl | h
  · exact ⟨hc, hn⟩
  · exact r c' h
end
end Z

/-! Z15: own exceptions: the base's __init__ asked by its class. -/
namespace Z
open PySem PySem.Spec PyProof.Rows L2
section
variable {X : Cx} {pos : Pos}
/-- S.__init__(self, ..), S a class over ValueError without an __init__ of its own -/
theorem pe_baseInit {x : Str} {S : Addr} {mc : Value} {e : Expr} {es : List Expr} {ta : TA} {p1 p2 : Pos} {pl : Sem Bool} (hg : Gl X x) (hm : X.mg x = some (.ref S)) (rd : PySem.W.readsIn X.K S mc = true) (ga : PySem.W.specialIn X.K (.ref S) "__getattribute__" = some (some (.builtin "type.__getattribute__"))) (vV : PySem.W.findCls X.K (.ref S) mc "__init__" = some (.val (.builtin "ValueError.__init__"))) (ha : PA X (e :: es) ta)
    (hdb : (x == ("__debug__" : Str)) = false := by decide)
    (hc : eval (.Call (.Attribute (.Name x p1) "__init__" p2) (e :: es) [] pos) X.env = (do let ov ← eval (.Name x p1) X.env; standAt p2.atName; let (f, first) ← holding [ov] (getMethod ov "__init__" pl); callWith pos f first (backTo pos (starEach (e :: es) X.env)) (backToKw pos (keywordEach [] X.env))) := by rfl)
    (he : starEach (e :: es) X.env = (false, eval e X.env) :: starEach es X.env := by rfl) (hpl : (backTo pos (starEach es X.env)).any (·.1) = false := by rfl) :
    PE X (.Call (.Attribute (.Name x p1) "__init__" p2) (e :: es) [] pos) (tVeI X.K ta) := by
  constructor
  intro pins s σ H Q I h
  refine PySem.W.methodCall_KW (ld_glob I hg hm ?_ hdb) hc
  refine PySem.W.method_cls I.kIn ga (PySem.W.cls_value I.kIn rd vV (by decide +kernel) ?_)
  show wpAny _ _ (callWith pos (Value.builtin "ValueError.__init__") [] (backTo pos (starEach (e :: es) X.env)) []) _ _ _
  refine PyProof.Rows.callWith_method1 (thn (ha.run pos pins _ σ H _ (I.tok _) h) ?_) he hpl
  rintro us s1 ⟨vs, H1, I1, r1, a, C, ws, rfl, hl, T, ea, q⟩
  cases r1 with
  | @cons _ u0 _ ur ra rw' =>
    cases (show u0 = Value.ref a from ra)
    exact oinit_ok T I1 ea (by rw [← Paired.length rw', sizeLine_eq]; omega) fun s' J => ⟨.non, H1, J, rfl, q⟩
end
/-- __init__ of an own exception with one field -/
def spX (C : Addr) (fld : Str) : Sp := fun vs H Q _ => ∃ a y, vs = [.ref a, y] ∧ H a = some (exo a C none) ∧ ∀ d, H d = none → d ≠ a → Q .non (upd (upd H d (exd d [(fld, y)])) a (exo a C (some d)))
def tInit1 (K : PySem.W.Frag) (fld txt : Str) : TS := tSeq (tDrop (tVeI K (tCons (tVar 0) (tCons (tC (.str txt)) tNil)))) (tSeq (tOst K fld (tVar 0) (tVar 1)) tNext)
theorem exc_init {P : Program} {w : World} {K : PySem.W.Frag} {mg : Str → Option Value} {base : Heap} {x qual fld txt : Str} {st : Stmt} {f C : Addr} {fd : FuncData} {k : Nat} (F : Fun K x qual st f fd) (S : FnScope ["self", fld] ["self", fld] (defScope st)) (T : OexC K C)
    (hno : PySem.W.findIn K (.ref C) fld = some none)
    (hb : ∀ (cdv : Value) (A : Around) (outer : List PySem.Env) (s : Shared) (H : Hp) (E : XK), PSs (CxD P w K mg base ["self", fld] qual (defScope st) f cdv A outer s H E) (defBody st) (tInit1 K fld txt)) :
    FnOk P w K mg base (L2.CX P w) (k + 1) f fd ["self", fld] (spX C fld) := by
  refine F.okX S (fun vs H Q E h => ?_) fun cdv A outer s H vs Q E hr h => ⟨_, hb cdv A outer s H E, ?_⟩
  · obtain ⟨a, y, rfl, _⟩ := h; rfl
  · obtain ⟨a, y, rfl, ea, q⟩ := h
    refine ⟨.ref a, rfl, a, C, [.str txt], rfl, by simp, T, ea, ?_⟩
    refine ⟨y, rfl, .ref a, rfl, a, C, rfl, T, hno, .inl ⟨ea, fun d hd hne => ?_⟩⟩
    exact q d hd hne
/-- raise C(e): what is made, and raised -/
theorem mk_read {Γ : Ctx} {Wx : WX} {C : Addr} {c : Nat} {fld : Str} {fe : Ex} {σ : L2.St} {H : Hp} {Q : XK} (hC : C = Γ.cls c)
    (h : ∃ ρ env L, RL Γ ρ L H ∧ REnv Γ ρ H env σ ∧ match fe env L with
      | .ok w L' => ∀ ρ' H' cc d, Aft Γ ρ H L' ρ' H' → RExn Γ ρ' H' ⟨c, [(fld, w)]⟩ cc d → Q cc d H'
      | _ => False) (hW : True) : tMkO C (spX C fld) [] (tCons (tEx Γ Wx fe) tNil) σ H Q := by
  subst hC
  obtain ⟨ρ, env, L, rl, re, h⟩ := h
  cases ee : fe env L with
  | exc e L' => rw [ee] at h; exact h.elim
  | stk => rw [ee] at h; exact h.elim
  | ok w L' =>
    rw [ee] at h
    refine ⟨ρ, env, L, rl, re, ?_⟩
    rw [ee]
    intro ρ1 H1 v a1 r1
    refine ⟨by simp, fun a ha => ⟨a, v, rfl, upd_same, fun d hd hne => ⟨rfl, d, [(fld, v)], ?_, ?_, ?_, ?_⟩⟩⟩
    · rw [upd_same]
    · rw [upd_ne hne, upd_same]
    · rw [upd_ne hne] at hd; exact hd
    · have hd1 : H1 d = none := by rw [upd_ne hne] at hd; exact hd
      have e1 : upd (del (upd (upd (upd H1 a (exo a (Γ.cls c) none)) d (exd d [(fld, v)])) a (exo a (Γ.cls c) (some d))) a) d (.xd [(fld, v)]) = upd H1 d (.xd [(fld, v)]) := by
        funext b
        by_cases hb : b = d
        · subst hb; rw [upd_same, upd_same]
        · rw [upd_ne hb, upd_ne hb]
          by_cases hba : b = a
          · subst hba; rw [del_same, ha]
          · rw [del_ne hba, upd_ne hba, upd_ne hb, upd_ne hba]
      rw [e1]
      have a2 : Aft Γ ρ1 H1 L' ρ1 (upd H1 d (.xd [(fld, v)])) := .fresh a1.rl hd1
      refine h ρ1 _ _ _ (a1.trans a2) ⟨rfl, d, [(fld, v)], rfl, a1.rl.out hd1, upd_same, .cons (r1.mono (List.prefix_refl _) a2.kp) .nil⟩
/-- raise C(e) -/
def sRaise (c : Nat) (fld : Str) (fe : Ex) : Sx := fun env L => match fe env L with
  | .ok w L' => .exc ⟨c, [(fld, w)]⟩ env L'
  | _ => .stk
section
variable {X : Cx} {Γ : Ctx} {k : Nat} {Wx : WX} {pos : Pos}
theorem Good.low (g : Good X Γ k Wx) : Good X Γ k W0 := ⟨g.K, g.calm, g.nd, g.room, g.tk.imp fun _ _ _ _ h => h.elim, g.own⟩
theorem Good.pass0 (g : Good X Γ k Wx) : Passes (L2.CX X.prog X.w) X fun _ _ _ => False := fun pins σ H s e s' I c => L2.passAt g.low.tk σ pins H s e s' I c
theorem ds_raise {x fld : Str} {C f : Addr} {c : Nat} {fd : FuncData} {p pos' : Pos} {e : Expr} {fe : Ex} (T : OexC X.K C) (hC : C = Γ.cls c) (iC : PySem.W.findIn X.K (.ref C) "__init__" = some (some (.ref f))) (tI : PySem.W.typeIn X.K (.ref f) = some (.type "function"))
    (F : FnOk X.prog X.w X.K X.mg X.base (L2.CX X.prog X.w) k f fd ["self", fld] (spX C fld)) (B : Binds X.K fd ["self", fld] []) (hm : X.mg x = some (.ref C)) (he : DE X Γ (k + 1) W0 e fe) (hg : Gl X x := by rfl) (hdb : (x == ("__debug__" : Str)) = false := by decide)
    (hst : starEach [e] X.env = (false, eval e X.env) :: starEach [] X.env := by rfl) (hpl : (backTo pos' (starEach [] X.env)).any (·.1) = false := by rfl) :
    DS X Γ (k + 1) Wx (.Raise (some (.Call (.Name x p) [e] [] pos')) none pos) (sRaise c fld fe) := fun g =>
  PS.imp (L2.ps_raise g.calm g.tk (pmk_oex T iC tI F g.room B .nil g.pass0 hg hm (pa_cons (he g.low) pa_nil hst) hdb hst hpl)) fun D σ H q => by
    obtain ⟨ρ, env, L, rl, re, q⟩ := q
    refine mk_read hC ⟨ρ, env, L, rl, re, ?_⟩ trivial
    unfold sRaise at q
    cases ee : fe env L with
    | exc e L' => rw [ee] at q; exact q.elim
    | stk => rw [ee] at q; exact q.elim
    | ok w L' =>
      rw [ee] at q
      intro ρ' H' cc d a r
      exact q ρ' H' σ cc d a (re.mono a.pre a.kp) r
end
end Z

/-! Z16: while, pop. -/
namespace Z
open PySem PySem.Spec PyProof.Rows L2
def whLoop (t : Bx) (b : Sx) : Nat → Env → LH → SRes
  | 0, _, _ => .stk
  | f + 1, env, L => (t env L).toS env fun c L1 => if c = true then (match b env L1 with
      | .nx env2 Lb => whLoop t b f env2 Lb
      | .ct env2 Lb => whLoop t b f env2 Lb
      | .bk env2 Lb => .nx env2 Lb
      | r => r) else .nx env L1
@[irreducible] def fuelW : Nat := 1000000
theorem fuelW_eq : fuelW = 1000000 := by unfold fuelW; rfl
@[irreducible] def sWhile (fuel : Nat) (t : Bx) (b : Sx) : Sx := fun env L => whLoop t b fuel env L
section
variable {X : Cx} {Γ : Ctx} {k : Nat} {Wx : WX} {pos : Pos}
theorem ds_while {c : Expr} {body : List Stmt} {t : Bx} {b : Sx} (fuel : Nat) (hc : DT X Γ k Wx c t) (hb : DSs X Γ k Wx body b) : DS X Γ k Wx (.While c body [] pos) (sWhile fuel t b) := fun g =>
  PS.imp (ps_while g.own (hc g) (hb g)) fun D σ H q => by
    obtain ⟨ρ, env, L, rl, re, q⟩ := q
    unfold sWhile at q
    refine ⟨fun m σ' H' => ∃ ρ' env' L', RL Γ ρ' L' H' ∧ REnv Γ ρ' H' env' σ' ∧ SOut Γ Wx ρ' H' (whLoop t b m env' L') D, ⟨fuel, ρ, env, L, rl, re, q⟩, ?_⟩
    rintro m σ H ⟨ρ, env, L, rl, re, q⟩
    cases m with
    | zero => exact q.elim
    | succ f =>
      unfold whLoop at q
      refine tG_toS rl re q fun ρ1 H1 c v L1 _ a1 re1 r1 h1 => ?_
      cases (show c = v from r1)
      cases c with
      | false => exact h1 ρ1 H1 σ (.refl a1.rl) re1
      | true =>
        simp only [if_true] at h1 ⊢
        refine ⟨fun σ' H' => ∃ ρ' env' L', RL Γ ρ' L' H' ∧ REnv Γ ρ' H' env' σ' ∧ SOut Γ Wx ρ' H' (whLoop t b f env' L') D, fun σ' H' hN => ⟨f, Nat.lt_succ_self _, hN⟩, ρ1, env, L1, a1.rl, re1, ?_⟩
        cases eb : b env L1 with
        | nx env2 Lb => rw [eb] at h1; exact fun ρ' H' σ' a r => ⟨ρ', env2, Lb, a.rl, r, h1.rebase a⟩
        | ct env2 Lb => rw [eb] at h1; exact fun ρ' H' σ' a r => ⟨ρ', env2, Lb, a.rl, r, h1.rebase a⟩
        | bk env2 Lb => rw [eb] at h1; exact h1
        | rt w Lb => rw [eb] at h1; exact h1
        | exc e env2 Lb => rw [eb] at h1; exact h1
        | stk => rw [eb] at h1; exact h1.elim
theorem d_bm0 {T id : String} {name : Str} {apos : Pos} {chk : W → LH → Bool} {o : W → List W → LH → OV} {ob : Expr} {f : Ex} (hchk : ∀ {ρ : List Addr} {H : Hp} {L : LH} {a : W} {v : V}, RL Γ ρ L H → RW Γ ρ H a v → chk a L = true → tyV X.K T v H)
    (pa : PlainAttrs T) (slot : Slot T name id) (hty : typeOf (.builtin id) = pure (.type "method_descriptor")) (hm : Good X Γ k Wx → MtR X id (vM Γ o)) (ho : DE X Γ k Wx ob f)
    (hbase : attributeBase ob name X.env (eval ob X.env) = eval ob X.env) (hline : (apos.endLine == pos.line) = true) :
    DE X Γ k Wx (.Call (.Attribute ob name apos) [] [] pos) (cMth chk o f cNil) := fun g =>
  PE.imp (pe_bm0 pa slot hty (hm g) (ho g) hbase hline) fun σ H Q q => by
    obtain ⟨ρ, env, L, rl, re, q⟩ := q
    refine tG_bind rl re q fun ρ1 H1 a v L1 a1 re1 r1 h1 => ?_
    split at h1
    · rename_i hc
      exact ⟨hchk a1.rl r1 hc, ρ1, L1, a, [], a1.rl, r1, .nil, out_of h1⟩
    · exact h1.elim
def oPop (a : W) (as : List W) (L : LH) : OV := match a, as with
  | .ref n, [] => match L[n]? with
    | some (.lst xs) => match xs[xs.length - 1]? with
      | some w => some (w, L.set n (.lst xs.dropLast))
      | none => none
    | _ => none
  | _, _ => none
theorem m_pop (g : Good X Γ k Wx) : MtR X "list.pop" (vM Γ oPop) := by
  refine MtR.imp mt_pop fun x xs H Q h => ?_
  obtain ⟨ρ, L, a, as, rl, ra, rs, h⟩ := h
  unfold oPop at h
  split at h
  · rename_i n
    split at h
    · rename_i ys eo
      cases ey : ys[ys.length - 1]? with
      | none => rw [ey] at h; exact h.elim
      | some w =>
        rw [ey] at h
        obtain ⟨p, vs, rfl, hp, r, ep⟩ := rl.lst ra eo
        cases rs
        obtain ⟨y, e1, ry⟩ := r.get ey
        rw [r.length] at e1
        refine ⟨p, vs, y, rfl, rfl, hp, e1, ?_⟩
        have kp : Keep H (upd H p (.lst vs.dropLast)) := .write hp rfl
        refine h ρ _ _ (.set rl eo ep ⟨_, upd_same, ?_⟩) (ry.mono (List.prefix_refl _) kp)
        rw [List.dropLast_eq_take, List.dropLast_eq_take, r.length]
        exact (r.take _).mono (List.prefix_refl _) (by rw [List.dropLast_eq_take] at kp; exact kp)
    · exact h.elim
  · exact h.elim
theorem d_pop {apos : Pos} {ob : Expr} {f : Ex} (ho : DE X Γ k Wx ob f) (hbase : attributeBase ob "pop" X.env (eval ob X.env) = eval ob X.env := by rfl) (hline : (apos.endLine == pos.line) = true := by rfl) :
    DE X Γ k Wx (.Call (.Attribute ob "pop" apos) [] [] pos) (cMth isLst oPop f cNil) :=
  d_bm0 isLst_ok PySem.F.plainAttrs_list PySem.F.slot_list_pop PySem.F.type_list_pop m_pop ho hbase hline
def oRev (a : W) (L : LH) : OV := match a with
  | .ref n => match seqL L n with
    | some xs => some (.ref L.length, L ++ [.lst xs.reverse])
    | none => none
  | _ => none
theorem RWs.rev {ρ : List Addr} {H : Hp} : ∀ {ws : List W} {vs : List V}, RWs Γ ρ H ws vs → RWs Γ ρ H ws.reverse vs.reverse
  | _, _, .nil => .nil
  | _, _, .cons r t => by
    rw [List.reverse_cons, List.reverse_cons]
    exact (RWs.rev t).append (.one r)
theorem d_rev {e : Expr} {f : Ex} {j : Nat} {p1 p2 p3 : Pos} (he : DE X Γ k Wx e f) : DE X Γ k Wx (.Subscript e (.Slice none none (some (.UnaryOp .USub (.Constant (.int 1) j p1) p2)) p3) pos) (cOp1 oRev f) := fun g =>
  PE.imp (pe_revL (he g)) fun σ H Q q => by
    obtain ⟨ρ, env, L, rl, re, q⟩ := q
    refine tG_bind rl re q fun ρ1 H1 a v L1 a1 re1 r1 h1 => ?_
    unfold oRev at h1
    split at h1
    · rename_i n
      cases es : seqL L1 n with
      | none => rw [es] at h1; exact h1.elim
      | some xs =>
        rw [es] at h1
        obtain ⟨p, vs, rfl, s, r, _⟩ := a1.rl.seq r1 es
        refine ⟨p, vs, rfl, by rw [g.K]; exact s, fun q hq => ?_⟩
        refine h1 (ρ1 ++ [q]) _ _ (.push a1.rl hq ⟨_, upd_same, r.rev.mono (pre_app _ _) (.fresh hq)⟩) (.ref ?_)
        rw [← a1.rl.len]; exact List.getElem?_concat_length
    · exact h1.elim
end
end Z

/-! Z17: sep.join(..), s.split(sep), starred items of displays. -/
namespace Z
open PySem PySem.Spec PyProof.Rows L2
section
variable {X : Cx} {Γ : Ctx} {k : Nat} {Wx : WX} {pos : Pos}
def oJoin (a : W) (as : List W) (L : LH) : OV := match a, as with
  | .str s, [b] => match seqW b L with
    | some ws => match strsW ws with
      | some ys => if (ys.map (·.length)).sum + ys.length * s.length ≤ 16777216 then some (.str (Txt.join s ys), L) else none
      | none => none
    | none => none
  | _, _ => none
theorem m_join (g : Good X Γ k Wx) : MtR X "str.join" (vM Γ oJoin) := by
  refine MtR.imp mt_join fun x xs H Q h => ?_
  obtain ⟨ρ, L, a, as, rl, ra, rs, h⟩ := h
  unfold oJoin at h
  split at h
  · rename_i s b
    cases es : seqW b L with
    | none => simp only [es] at h; exact h.elim
    | some ws =>
      simp only [es] at h
      cases ey : strsW ws with
      | none => simp only [ey] at h; exact h.elim
      | some ys =>
        simp only [ey] at h
        split at h
        · rename_i hz
          obtain ⟨y, rfl, rb⟩ := rs.one_inv
          obtain ⟨p, vs, rfl, sq, r⟩ := seqW_inv rl rb es
          cases ra
          have ev := strsW_ok r ey
          subst ev
          rw [← g.K] at sq
          exact ⟨s, p, ys, rfl, rfl, sq, hz, h.here rl (.str _)⟩
        · exact h.elim
  · exact h.elim
theorem d_join {apos : Pos} {ob e : Expr} {es : List Expr} {f : Ex} {fs : ExL} (ho : DE X Γ k Wx ob f) (ha : DA X Γ k Wx (e :: es) fs)
    (hbase : attributeBase ob "join" X.env (eval ob X.env) = eval ob X.env := by rfl)
    (hfew : ((backTo pos (starEach (e :: es) X.env)).all (fun x => !x.1) && (backToKw pos (keywordEach [] X.env)).all (fun x => x.1.isSome)
      && decide ((e :: es).length + ([] : List Keyword).length + (if ([] : List Keyword).isEmpty then 0 else 1) < 30)) = true := by rfl)
    (hline : (apos.endLine == pos.line) = true := by rfl) (hs : starEach (e :: es) X.env = (false, eval e X.env) :: starEach es X.env := by rfl) (hplain : (backTo pos (starEach es X.env)).any (·.1) = false := by rfl) :
    DE X Γ k Wx (.Call (.Attribute ob "join" apos) (e :: es) [] pos) (cMth isStr oJoin f fs) :=
  d_bm isStr_ok PySem.F.plainAttrs_str PySem.F.slot_str_join PySem.F.type_str_join m_join ho ha hbase hfew hline hs hplain
def oSplit (a : W) (as : List W) (L : LH) : OV := match a, as with
  | .str x, [.str y] => if (y.length == 0) = false ∧ x.length + 2 ≤ 16777216 then some (.ref L.length, L ++ [.lst ((Txt.split x y).map W.str)]) else none
  | _, _ => none
theorem m_split (g : Good X Γ k Wx) : MtR X "str.split" (vM Γ oSplit) := by
  refine MtR.imp mt_split fun x xs H Q h => ?_
  obtain ⟨ρ, L, a, as, rl, ra, rs, h⟩ := h
  unfold oSplit at h
  split at h
  · rename_i s b
    split at h
    · rename_i hz
      obtain ⟨y, rfl, rb⟩ := rs.one_inv
      cases ra
      cases rb
      exact ⟨s, b, rfl, rfl, hz.1, by rw [line_eq]; exact hz.2, h.lst rl (RWs.strs _)⟩
    · exact h.elim
  · exact h.elim
theorem d_split {apos : Pos} {ob e : Expr} {es : List Expr} {f : Ex} {fs : ExL} (ho : DE X Γ k Wx ob f) (ha : DA X Γ k Wx (e :: es) fs)
    (hbase : attributeBase ob "split" X.env (eval ob X.env) = eval ob X.env := by rfl)
    (hfew : ((backTo pos (starEach (e :: es) X.env)).all (fun x => !x.1) && (backToKw pos (keywordEach [] X.env)).all (fun x => x.1.isSome)
      && decide ((e :: es).length + ([] : List Keyword).length + (if ([] : List Keyword).isEmpty then 0 else 1) < 30)) = true := by rfl)
    (hline : (apos.endLine == pos.line) = true := by rfl) (hs : starEach (e :: es) X.env = (false, eval e X.env) :: starEach es X.env := by rfl) (hplain : (backTo pos (starEach es X.env)).any (·.1) = false := by rfl) :
    DE X Γ k Wx (.Call (.Attribute ob "split" apos) (e :: es) [] pos) (cMth isStr oSplit f fs) :=
  d_bm isStr_ok PySem.F.plainAttrs_str PySem.F.slot_str_split PySem.F.type_str_split m_split ho ha hbase hfew hline hs hplain
/-! ### starred items -/
def cStar (f : Ex) (g : ExL) : ExL := fun env L => (f env L).bind fun a L1 => match seqW a L1 with
  | some ws => (g env L1).bind fun as L2 => .ok (ws ++ as) L2
  | none => .stk
theorem da_star {e : Expr} {es : List Expr} {f : Ex} {fs : ExL} {p : Pos} (ha : DE X Γ k Wx e f) (hr : DA X Γ k Wx es fs) (hs : starEach (.Starred e p :: es) X.env = (true, eval e X.env) :: starEach es X.env := by rfl) : DA X Γ k Wx (.Starred e p :: es) (cStar f fs) := fun g =>
  PA.imp (StX.pa_star (ha g) (hr g) hs) fun σ H Q h => by
    obtain ⟨ρ, env, L, rl, re, h⟩ := h
    refine tG_bind rl re h fun ρ1 H1 w v L1 a1 re1 r1 h1 => ?_
    cases es : seqW w L1 with
    | none => simp only [es] at h1; exact h1.elim
    | some ws =>
      simp only [es] at h1
      obtain ⟨p, vs, rfl, sq, r⟩ := seqW_inv a1.rl r1 es
      rw [← g.K] at sq
      refine ⟨p, vs, rfl, sq.symm, ?_⟩
      refine tG_bind a1.rl re1 h1 fun ρ2 H2 us zs L2 a2 re2 r2 h2 => ?_
      exact out_ok (R := RWs Γ) h2 a2.rl ((r.mono a2.pre a2.kp).append r2)
end
end Z

/-! Z18: try .. except X as e, try .. except X; e.f in the suite. -/
namespace Z
open PySem PySem.Spec PyProof.Rows L2
theorem RExn.mono {Γ : Ctx} {ρ ρ' : List Addr} {H H' : Hp} {L' : LH} {e : Exn} {c : Value} {d : Option Addr} (h : RExn Γ ρ H e c d) (a : Aft Γ ρ H L' ρ' H') : RExn Γ ρ' H' e c d := by
  obtain ⟨m, fs⟩ := e
  cases fs with
  | nil => exact h
  | cons p r =>
    obtain ⟨h1, b, vs, hd, nb, hb, rk⟩ := h
    refine ⟨h1, b, vs, hd, fun m => ?_, a.fr b _ hb nb, rk.mono a.pre a.kp⟩
    have := a.nw b m nb
    rw [hb] at this; cases this
theorem RExn.look {Γ : Ctx} {ρ : List Addr} {H : Hp} {e : Exn} {c : Value} {d : Option Addr} (h : RExn Γ ρ H e c d) {f : Str} {w : W} (l : e.fs.lookup f = some w) : ∃ b vs v, d = some b ∧ H b = some (.xd vs) ∧ vs.lookup f = some v ∧ RW Γ ρ H w v := by
  obtain ⟨m, fs⟩ := e
  cases fs with
  | nil => simp at l
  | cons p r =>
    obtain ⟨h1, b, vs, hd, nb, hb, rk⟩ := h
    obtain ⟨v, ev, rv⟩ := (rk.look (x := f)).1 w l
    exact ⟨b, vs, v, hd, hb, ev, rv⟩
/-- in the suite: slot i names the caught exception -/
def xSlot (i : Option Nat) (a : Addr) (σ : L2.St) : Prop := ∀ j, i = some j → j < σ.length → σ[j]? = some (some (V.ref a))
def tXG {α β : Type} (R : List Addr → Hp → α → β → Prop) (Γ : Ctx) (i : Option Nat) (a : Addr) (cls : Value) (d : Option Addr) (f : Exn → Env → LH → Res α) : L2.St → Hp → (β → Hp → Prop) → Prop := fun σ H Q =>
  ∃ ρ env L x, RL Γ ρ L H ∧ REnv Γ ρ H env σ ∧ RExn Γ ρ H x cls d ∧ xSlot i a σ ∧ Out R Γ W0 σ ρ H (f x env L) Q
def DX (X : Cx) (Γ : Ctx) (i : Option Nat) (a : Addr) (cls : Value) (d : Option Addr) (e : Expr) (f : Exn → Ex) : Prop := X.K = Γ.K → PE X e (tXG (RW Γ) Γ i a cls d f)
def DXA (X : Cx) (Γ : Ctx) (i : Option Nat) (a : Addr) (cls : Value) (d : Option Addr) (e : List Expr) (f : Exn → ExL) : Prop := X.K = Γ.K → PA X e (tXG (RWs Γ) Γ i a cls d f)
section
variable {X : Cx} {Γ : Ctx} {i : Option Nat} {a : Addr} {cls : Value} {d : Option Addr} {pos : Pos}
theorem dx_const {e : Expr} {v : V} {w : W} (h : PE X e (tC v)) (r : ∀ ρ H, RW Γ ρ H w v) : DX X Γ i a cls d e (fun _ => cC w) := fun _ => by
  refine PE.imp h fun σ H Q h => ?_
  obtain ⟨ρ, env, L, x, rl, re, rx, hs, h⟩ := h
  exact out_ok h rl (r _ _)
theorem dx_int {n : Int} {j} : DX X Γ i a cls d (.Constant (.int n) j pos) (fun _ => cC (.int n)) := dx_const pe_int fun _ _ => .int n
theorem dx_bl {n : Bool} {j} : DX X Γ i a cls d (.Constant (.bool n) j pos) (fun _ => cC (.bl n)) := dx_const pe_bl fun _ _ => .bl n
theorem dx_non {j} : DX X Γ i a cls d (.Constant .none j pos) (fun _ => cC .non) := dx_const pe_non fun _ _ => .non
theorem dx_str {n : Str} {j} : DX X Γ i a cls d (.Constant (.str n) j pos) (fun _ => cC (.str n)) := dx_const pe_str fun _ _ => .str n
theorem dx_var (j : Nat) {x : Str} (hN : X.N[j]? = some x := by rfl) (hv : Vis X.env.scope x := by first | exact Or.inl rfl | exact Or.inr (Or.inl rfl) | exact Or.inr (Or.inr rfl)) (hd : (x == ("__debug__" : Str)) = false := by decide)
    (hcd : (x == ("__classdict__" : Str)) = false := by decide) : DX X Γ i a cls d (.Name x pos) (fun _ => cVar j) := fun _ => by
  refine PE.imp (pe_var hN hv hd hcd) fun σ H Q h => ?_
  obtain ⟨ρ, env, L, x, rl, re, rx, hs, h⟩ := h
  simp only [cVar] at h
  cases e : env[j]? with
  | none => rw [e] at h; exact h.elim
  | some o =>
    cases o with
    | none => rw [e] at h; exact h.elim
    | some w =>
      rw [e] at h
      obtain ⟨v, e1, r⟩ := re.val j w e
      exact ⟨v, e1, out_ok h rl r⟩
theorem dxa_nil : DXA X Γ i a cls d [] (fun _ => cNil) := fun _ => PA.imp pa_nil fun σ H Q h => by
  obtain ⟨ρ, env, L, x, rl, re, rx, hs, h⟩ := h
  exact out_ok (R := RWs Γ) h rl .nil
/-- one part, then the rest -/
theorem tXG_bind {α β γ δ : Type} {R : List Addr → Hp → α → β → Prop} {R' : List Addr → Hp → γ → δ → Prop} {σ : L2.St} {ρ : List Addr} {H : Hp} {L : LH} {env : Env} {x : Exn} {f : Exn → Env → LH → Res α} {k : α → LH → Res γ} {Q : δ → Hp → Prop} {Q1 : β → Hp → Prop}
    (rl : RL Γ ρ L H) (re : REnv Γ ρ H env σ) (rx : RExn Γ ρ H x cls d) (hs : xSlot i a σ) (h : Out R' Γ W0 σ ρ H ((f x env L).bind k) Q)
    (next : ∀ ρ1 H1 w v L1, Aft Γ ρ H L1 ρ1 H1 → REnv Γ ρ1 H1 env σ → R ρ1 H1 w v → Out R' Γ W0 σ ρ1 H1 (k w L1) Q → Q1 v H1) : tXG R Γ i a cls d f σ H Q1 := by
  refine ⟨ρ, env, L, x, rl, re, rx, hs, ?_⟩
  cases hf : f x env L with
  | ok w L1 =>
    rw [hf] at h
    exact fun ρ1 H1 v a r => next ρ1 H1 w v L1 a (re.mono a.pre a.kp) r (Out.rebase a h)
  | exc e L1 => rw [hf] at h; exact h
  | stk => rw [hf] at h; exact h
theorem dxa_cons {e : Expr} {es : List Expr} {f : Exn → Ex} {fs : Exn → ExL} (ha : DX X Γ i a cls d e f) (hr : DXA X Γ i a cls d es fs) (hs : starEach (e :: es) X.env = (false, eval e X.env) :: starEach es X.env := by rfl) :
    DXA X Γ i a cls d (e :: es) (fun x => cCons (f x) (fs x)) := fun g =>
  PA.imp (pa_cons (ha g) (hr g) hs) fun σ H Q h => by
    obtain ⟨ρ, env, L, x, rl, re, rx, hs, h⟩ := h
    refine tXG_bind rl re rx hs h fun ρ1 H1 w v L1 a1 re1 r1 h1 => ?_
    refine tXG_bind a1.rl re1 (rx.mono a1) hs h1 fun ρ2 H2 ws vs L2 a2 re2 r2 h2 => ?_
    exact out_ok (R := RWs Γ) h2 a2.rl (.cons (r1.mono a2.pre a2.kp) r2)
theorem dx_tup {es : List Expr} {f : Exn → ExL} {x1} (h : DXA X Γ i a cls d es f) : DX X Γ i a cls d (.Tuple es x1 pos) (fun x => cOpL oTup (f x)) := fun g =>
  PE.imp (pe_tup (h g)) fun σ H Q h => by
    obtain ⟨ρ, env, L, x, rl, re, rx, hs, h⟩ := h
    refine tXG_bind rl re rx hs h fun ρ1 H1 ws vs L1 a1 re1 r1 h1 => ?_
    have h1 := out_of h1
    unfold oTup at h1
    split at h1
    · rename_i hz
      exact ⟨by rw [← r1.length, line_eq]; exact hz, h1.tup a1.rl r1⟩
    · exact h1.elim
theorem dx_lst {es : List Expr} {f : Exn → ExL} (h : DXA X Γ i a cls d es f) : DX X Γ i a cls d (.List es pos) (fun x => cOpL oLst (f x)) := fun g =>
  PE.imp (pe_lst (h g)) fun σ H Q h => by
    obtain ⟨ρ, env, L, x, rl, re, rx, hs, h⟩ := h
    refine tXG_bind rl re rx hs h fun ρ1 H1 ws vs L1 a1 re1 r1 h1 => ?_
    have h1 := out_of h1
    unfold oLst at h1
    split at h1
    · rename_i hz
      exact ⟨by rw [← r1.length, line_eq]; exact hz, h1.lst a1.rl r1⟩
    · exact h1.elim
/-- e.f, e the caught exception, of one of the classes cs -/
def XFlds (K : PySem.W.Frag) (Γ : Ctx) (cs : List Nat) (f : Str) : Prop := ∀ c ∈ cs, XfC K (Γ.cls c) ∧ PySem.W.findIn K (.ref (Γ.cls c)) f = some none
theorem XFlds.nil {K : PySem.W.Frag} {f : Str} : XFlds K Γ [] f := fun c h => by simp at h
theorem XFlds.cons {K : PySem.W.Frag} {f : Str} {c : Nat} {cs : List Nat} (hc : XfC K (Γ.cls c)) (hn : PySem.W.findIn K (.ref (Γ.cls c)) f = some none) (r : XFlds K Γ cs f) : XFlds K Γ (c :: cs) f := fun c' h => by
  rcases List.mem_cons.mp h with rfl | h
  · exact ⟨hc, hn⟩
  · exact r c' h
def cXf (cs : List Nat) (f : Str) (x : Exn) : Ex := fun _ L => if cs.contains x.cls = true then (match x.fs.lookup f with
  | some w => .ok w L
  | none => .stk) else .stk
theorem dx_fld {j : Nat} {oe : Obj} {pn : List (Addr × Obj)} {n f : Str} {p : Pos} (cs : List Nat) (S : XFlds X.K Γ cs f) (hz : Zc cls d oe) (hf : ∃ vs, oe.data = .fields vs) (hN : X.N[j]? = some n := by rfl) (hv : Vis X.env.scope n := by first | exact Or.inl rfl | exact Or.inr (Or.inl rfl) | exact Or.inr (Or.inr rfl))
    (hd : (n == ("__debug__" : Str)) = false := by decide) (hcd : (n == ("__classdict__" : Str)) = false := by decide)
    (hb : attributeBase (.Name n p) f X.env (eval (.Name n p) X.env) = eval (.Name n p) X.env := by rfl) :
    DX (X.suite a ((a, oe) :: pn)) Γ (some j) a cls d (.Attribute (.Name n p) f pos) (cXf cs f) := fun _ => by
  constructor
  intro pins s σ H Q I h
  obtain ⟨ρ, env, L, x, rl, re, rx, hs, h⟩ := h
  unfold cXf at h
  split at h
  · rename_i hc
    have hm : x.cls ∈ cs := by simpa using hc
    cases el : x.fs.lookup f with
    | none => rw [el] at h; exact h.elim
    | some w =>
      rw [el] at h
      obtain ⟨b, vs, v, ed, hb', ev, rv⟩ := rx.look el
      obtain ⟨T, hno⟩ := S _ hm
      refine (pe_xf (X := X) T hno hz hf (pe_var hN hv hd hcd) hb).run pins s σ H Q I ?_
      exact ⟨.ref a, hs j rfl (by rw [I.len]; exact (List.getElem?_eq_some_iff.mp hN).1), rfl, rx.1, b, vs, v, ed, hb', ev, out_ok (R := RW Γ) h rl rv⟩
  · exact h.elim
/-! ### the suite's statements -/
def tXS (Γ : Ctx) (i : Option Nat) (a : Addr) (cls : Value) (d : Option Addr) (f : Exn → Sx) : TS := fun D σ H => ∃ ρ env L x, RL Γ ρ L H ∧ REnv Γ ρ H env σ ∧ RExn Γ ρ H x cls d ∧ xSlot i a σ ∧ SOut Γ W0 ρ H (f x env L) D
def DXS (X : Cx) (Γ : Ctx) (i : Option Nat) (a : Addr) (cls : Value) (d : Option Addr) (st : List Stmt) (f : Exn → Sx) : Prop := X.K = Γ.K → PSs X st (tXS Γ i a cls d f)
def DX1 (X : Cx) (Γ : Ctx) (i : Option Nat) (a : Addr) (cls : Value) (d : Option Addr) (st : Stmt) (f : Exn → Sx) : Prop := X.K = Γ.K → PS X st (tXS Γ i a cls d f)
theorem dxs_one {st : Stmt} {f : Exn → Sx} (h : DX1 X Γ i a cls d st f) : DXS X Γ i a cls d [st] f := fun g => pss_one (h g)
theorem tXG_toS {α β : Type} {R : List Addr → Hp → α → β → Prop} {σ : L2.St} {ρ : List Addr} {H : Hp} {L : LH} {env : Env} {x : Exn} {f : Exn → Env → LH → Res α} {k : α → LH → SRes} {D : Ends} {Q1 : β → Hp → Prop}
    (rl : RL Γ ρ L H) (re : REnv Γ ρ H env σ) (rx : RExn Γ ρ H x cls d) (hs : xSlot i a σ) (h : SOut Γ W0 ρ H ((f x env L).toS env k) D)
    (next : ∀ ρ1 H1 w v L1, Aft Γ ρ H L1 ρ1 H1 → REnv Γ ρ1 H1 env σ → R ρ1 H1 w v → SOut Γ W0 ρ1 H1 (k w L1) D → Q1 v H1) : tXG R Γ i a cls d f σ H Q1 := by
  refine ⟨ρ, env, L, x, rl, re, rx, hs, ?_⟩
  cases hf : f x env L with
  | ok w L1 =>
    rw [hf] at h
    exact fun ρ1 H1 v a r => next ρ1 H1 w v L1 a (re.mono a.pre a.kp) r (h.rebase a)
  | exc e L1 =>
    rw [hf] at h
    exact fun ρ1 H1 c d a r => h ρ1 H1 σ c d a (re.mono a.pre a.kp) r
  | stk => rw [hf] at h; exact h
theorem dx_ret {e : Expr} {f : Exn → Ex} (he : DX X Γ i a cls d e f) : DX1 X Γ i a cls d (.Return (some e) pos) (fun x => sRet (f x)) := fun g =>
  PS.imp (ps_ret (he g)) fun D σ H h => by
    obtain ⟨ρ, env, L, x, rl, re, rx, hs, h⟩ := h
    exact tXG_toS rl re rx hs h fun ρ1 H1 a v L1 a1 re1 r1 h1 => h1 ρ1 H1 v (.refl a1.rl) r1
theorem dx_pass : DX1 X Γ i a cls d (.Pass pos) (fun _ => sSkip) := fun g => PS.imp ps_pass fun D σ H h => by
  obtain ⟨ρ, env, L, x, rl, re, rx, hs, h⟩ := h
  exact h ρ H σ (.refl rl) re
end
/-! ### try -/
def unS (i : Option Nat) (r : SRes) : SRes := match i with
  | none => match r with
    | .exc _ _ _ => .stk
    | r => r
  | some j => match r with
    | .nx env L => .nx (env.set j none) L
    | .bk env L => .bk (env.set j none) L
    | .ct env L => .ct (env.set j none) L
    | .rt w L => .rt w L
    | _ => .stk
def enS (i : Option Nat) (env : Env) : Env := match i with
  | none => env
  | some j => env.set j none
def sTry (i : Option Nat) (tbl : List (Nat × Bool)) (fb : Sx) (fs : Exn → Sx) : Sx := fun env L => match fb env L with
  | .exc e env' L' => match tbl.lookup e.cls with
    | some true => unS i (fs e (enS i env') L')
    | some false => .exc e env' L'
    | none => .stk
  | r => r
section
variable {X : Cx} {Γ : Ctx} {k : Nat} {Wx : WX} {pos : Pos}
theorem Good.tr (g : Good X Γ k Wx) {pn : List (Addr × Obj)} {xe : Value → Shared → Prop} {W : WX} (tk : Takes (X.tr pn xe) W) (own : PassesOwn (model X.prog X.w) X.A X.env xe) : Good (X.tr pn xe) Γ k W := ⟨g.K, g.calm, g.nd, g.room, tk, own⟩
theorem REnv.gone {ρ : List Addr} {H : Hp} {env : Env} {σ : L2.St} (h : REnv Γ ρ H env σ) (j : Nat) (o : Option V) : REnv Γ ρ H (env.set j none) (σ.set j o) := by
  refine ⟨by rw [List.length_set, List.length_set]; exact h.len, fun l w e => ?_⟩
  by_cases hj : j = l
  · subst hj
    by_cases hl : j < env.length
    · rw [List.getElem?_set_self hl] at e; cases e
    · rw [List.getElem?_eq_none (by rw [List.length_set]; omega)] at e; cases e
  · rw [List.getElem?_set_ne hj] at e
    obtain ⟨v, e1, r⟩ := h.val l w e
    exact ⟨v, by rw [List.getElem?_set_ne hj]; exact e1, r⟩
/-- which of the classes the clause catches -/
def ExmS (K : PySem.W.Frag) (Γ : Ctx) (c : Value) (tbl : List (Nat × Bool)) : Prop := ∀ m b, tbl.lookup m = some b → PySem.W.exmOne K (.ref (Γ.cls m)) c = some b
theorem ExmS.nil {K : PySem.W.Frag} {c : Value} : ExmS K Γ c [] := fun m b h => by simp at h
theorem ExmS.cons {K : PySem.W.Frag} {c : Value} {m : Nat} {b : Bool} {tbl : List (Nat × Bool)} (h : PySem.W.exmOne K (.ref (Γ.cls m)) c = some b) (r : ExmS K Γ c tbl) : ExmS K Γ c ((m, b) :: tbl) := fun m' b' e => by
  rw [List.lookup_cons] at e
  by_cases hm : m' = m
  · subst hm
    rw [beq_self_eq_true] at e
    cases e; exact h
  · rw [beq_eq_false_iff_ne.mpr hm] at e
    exact r m' b' e
/-- an error of the class C under «except S» -/
theorem exm_of {K : PySem.W.Frag} {C S : Addr} {b : Bool} (h1 : PySem.W.subIn K (.ref S) (.type "BaseException") = some true) (h2 : PySem.W.isClsIn K S = true) (h3 : PySem.W.typeIn K (.ref S) = some (.type "type")) (h4 : PySem.W.subIn K (.ref C) (.ref S) = some b) :
    PySem.W.exmOne K (.ref C) (.ref S) = some b := by
  have e1 : (PySem.W.subIn K (.ref S) (.type "BaseException") == some true) = true := by rw [h1] <;> rfl
  have e2 : ((PySem.W.clsIn K S).isSome && PySem.W.typeIn K (.ref S) == some (.type "type")) = true := by
    have h2' : (PySem.W.clsIn K S).isSome = true := h2
    rw [h2', h3] <;> rfl
  show (if (PySem.W.subIn K (.ref S) (.type "BaseException") == some true) = true then (if ((PySem.W.clsIn K S).isSome && PySem.W.typeIn K (.ref S) == some (.type "type")) = true then PySem.W.subIn K (.ref C) (.ref S) else none) else none) = some b
  rw [if_pos e1, if_pos e2]
  exact h4
theorem ds_tryAs {i : Nat} {n x : Str} {cv : Value} {tbl : List (Nat × Bool)} {body suite : List Stmt} {b₀ : Stmt} {np pos' : Pos} {fb : Sx} {fs : Exn → Sx} (hc : Names X x cv) (ht : ExmS X.K Γ cv tbl) (hi : X.N[i]? = some n) (hln : X.env.kindOf n = some .local)
    (hs : X.stack = X.env :: X.outer) (hf : X.env.frame = some X.env.locals) (hb : ∀ (W : WX) (pn : List (Addr × Obj)) (xe : Value → Shared → Prop), DSs (X.tr pn xe) Γ k W body fb)
    (hsu : ∀ (a : Addr) (oe : Obj) (cls : Value) (d : Option Addr) (pn : List (Addr × Obj)), Zc cls d oe → (∃ vs, oe.data = .fields vs) → DXS (X.suite a ((a, oe) :: pn)) Γ (some i) a cls d (b₀ :: suite) fs) :
    DS X Γ k Wx (.Try body [.ExceptHandler (some (.Name x np)) (some n) (b₀ :: suite) pos'] [] [] pos) (sTry (some i) tbl fb fs) := fun g => by
  refine PS.imp (ps_try_as (X := X) (tb := fun W => tSx Γ W fb) (ts := fun a cls d => tXS Γ (some i) a cls d fs) hs hf g.nd hi hln hc g.tk (fun W pn xe tk own => hb W pn xe (g.tr tk own)) (fun a oe cls d pn hz hf => hsu a oe cls d pn hz hf g.K)) fun D σ H q => ?_
  obtain ⟨ρ, env, L, rl, re, q⟩ := q
  refine ⟨ρ, env, L, rl, re, ?_⟩
  unfold sTry at q
  cases eb : fb env L with
  | nx env' L' => rw [eb] at q; exact q
  | rt w L' => rw [eb] at q; exact q
  | bk w L' => rw [eb] at q; exact q
  | ct w L' => rw [eb] at q; exact q
  | stk => rw [eb] at q; exact q.elim
  | exc e env' L' =>
    rw [eb] at q
    simp only at q
    intro ρ' H' σ' c d af re' rx
    cases et : tbl.lookup e.cls with
    | none => rw [et] at q; exact q.elim
    | some b =>
      rw [et] at q
      have hcl : c = .ref (Γ.cls e.cls) := rx.1
      refine ⟨b, by rw [hcl]; exact ht _ _ et, fun hb a ha => ?_, fun hb => ?_⟩
      · subst hb
        simp only at q
        refine ⟨ρ', env'.set i none, L', e, af.rl, re'.gone i _, rx, fun j ej hl => ?_, ?_⟩
        · cases ej
          rw [List.length_set] at hl
          rw [List.getElem?_set_self hl]
        · show SOut Γ W0 ρ' H' (fs e (env'.set i none) L') _
          have q' := SOut.rebase af q
          simp only [unS, enS] at q'
          cases ef : fs e (env'.set i none) L' with
          | nx env2 Lb => rw [ef] at q'; exact fun ρ2 H2 σ2 a2 r2 => q' ρ2 H2 _ a2 (r2.gone i _)
          | bk env2 Lb => rw [ef] at q'; exact fun ρ2 H2 σ2 a2 r2 => q' ρ2 H2 _ a2 (r2.gone i _)
          | ct env2 Lb => rw [ef] at q'; exact fun ρ2 H2 σ2 a2 r2 => q' ρ2 H2 _ a2 (r2.gone i _)
          | rt w Lb => rw [ef] at q'; exact q'
          | exc e2 env2 Lb => rw [ef] at q'; exact q'.elim
          | stk => rw [ef] at q'; exact q'.elim
      · subst hb
        simp only at q
        exact q ρ' H' σ' c d af re' rx
theorem ds_try {x : Str} {cv : Value} {tbl : List (Nat × Bool)} {body suite : List Stmt} {b₀ : Stmt} {np pos' : Pos} {fb : Sx} {fs : Exn → Sx} (hc : Names X x cv) (ht : ExmS X.K Γ cv tbl)
    (hs : X.stack = X.env :: X.outer) (hf : X.env.frame = some X.env.locals) (hb : ∀ (W : WX) (pn : List (Addr × Obj)) (xe : Value → Shared → Prop), DSs (X.tr pn xe) Γ k W body fb)
    (hsu : ∀ (a : Addr) (oe : Obj) (cls : Value) (d : Option Addr) (pn : List (Addr × Obj)), Zc cls d oe → (∃ vs, oe.data = .fields vs) → DXS (X.suite a ((a, oe) :: pn)) Γ none a cls d (b₀ :: suite) fs) :
    DS X Γ k Wx (.Try body [.ExceptHandler (some (.Name x np)) none (b₀ :: suite) pos'] [] [] pos) (sTry none tbl fb fs) := fun g => by
  refine PS.imp (ps_try_only (X := X) (tb := fun W => tSx Γ W fb) (ts := fun a cls d => tXS Γ none a cls d fs) hs hf hc g.tk (fun W pn xe tk own => hb W pn xe (g.tr tk own)) (fun a oe cls d pn hz hf => hsu a oe cls d pn hz hf g.K)) fun D σ H q => ?_
  obtain ⟨ρ, env, L, rl, re, q⟩ := q
  refine ⟨ρ, env, L, rl, re, ?_⟩
  unfold sTry at q
  cases eb : fb env L with
  | nx env' L' => rw [eb] at q; exact q
  | rt w L' => rw [eb] at q; exact q
  | bk w L' => rw [eb] at q; exact q
  | ct w L' => rw [eb] at q; exact q
  | stk => rw [eb] at q; exact q.elim
  | exc e env' L' =>
    rw [eb] at q
    simp only at q
    intro ρ' H' σ' c d af re' rx
    cases et : tbl.lookup e.cls with
    | none => rw [et] at q; exact q.elim
    | some b =>
      rw [et] at q
      have hcl : c = .ref (Γ.cls e.cls) := rx.1
      refine ⟨b, by rw [hcl]; exact ht _ _ et, fun hb a ha => ?_, fun hb => ?_⟩
      · subst hb
        simp only at q
        refine ⟨ρ', env', L', e, af.rl, re', rx, (fun j ej _ => by cases ej), ?_⟩
        have q' := SOut.rebase af q
        simp only [unS, enS] at q'
        cases ef : fs e env' L' with
        | nx env2 Lb => rw [ef] at q'; exact q'
        | bk env2 Lb => rw [ef] at q'; exact q'
        | ct env2 Lb => rw [ef] at q'; exact q'
        | rt w Lb => rw [ef] at q'; exact q'
        | exc e2 env2 Lb => rw [ef] at q'; exact q'.elim
        | stk => rw [ef] at q'; exact q'.elim
      · subst hb
        simp only at q
        exact q ρ' H' σ' c d af re' rx
end
end Z

/-! printed by canon.py: meanings with their callees as parameters -/
namespace Z
open PySem PySem.Spec PyProof.Rows L2
def f_is_integer : Fn := defF 1 1 (sRet (cAnd (cOpL oIsi (cCons (cVar 0) (cCons (cC (.ty "int")) cNil))) (cNot (cOpL oIsi (cCons (cVar 0) (cCons (cC (.ty "bool")) cNil))))))
-- is_integer: 
def f_is_between (g_is_integer : Fn) : Fn := defF 3 3 (sRet (cAnd (cCall g_is_integer [] (cCons (cVar 0) cNil)) (cChain oLe oLe (cVar 1) (cVar 0) (cVar 2))))
-- is_between: 0
def f_is_value (g_is_between : Fn) : Fn := defF 1 1 (sRet (cCall g_is_between [] (cCons (cVar 0) (cCons (cC (.int 0)) (cCons (cC (.int 2)) cNil)))))
-- is_value: 1
def f_is_name : Fn := defF 2 1 (sRet (cAnd (cOpL oIsi (cCons (cVar 0) (cCons (cC (.ty "str")) cNil))) (cAnd (cChain oLe oLe (cC (.int 1)) (cOpL oLen (cCons (cVar 0) cNil)) (cC (.int 8))) (cOpL oAll (cCons (cLc [1] (iSeq (cVar 0)) (CT.one 1) bYes (cOp2 oInD (cVar 1) (cC (.str "abcdefghijklmnopqrstuvwxyz")))) cNil)))))
-- is_name: 
def f_has_kind : Fn := defF 3 3 (sRet (cAnd (cOpL oIsi (cCons (cVar 0) (cCons (cC (.ty "tuple")) cNil))) (cAnd (cOp2 oEq (cOpL oLen (cCons (cVar 0) cNil)) (cVar 2)) (cAnd (cOpL oIsi (cCons (cOp2 oIx (cVar 0) (cC (.int 0))) (cCons (cC (.ty "str")) cNil))) (cOp2 oEq (cOp2 oIx (cVar 0) (cC (.int 0))) (cVar 1))))))
-- has_kind: 
def f_inner_terms : Fn := defF 1 1 (sSeq (sIf (bNot (bTru (cOpL oIsi (cCons (cVar 0) (cCons (cC (.ty "tuple")) cNil))))) (sRet (cOpL oTup cNil)) sSkip) (sSeq (sIf (bVal (cOp2 oEq (cOp2 oIx (cVar 0) (cC (.int 0))) (cC (.str "call")))) (sRet (cOp2 oIx (cVar 0) (cC (.int 2)))) sSkip) (sRet (cIf (bOr (bVal (cOp2 oInD (cOp2 oIx (cVar 0) (cC (.int 0))) (cC (.tup [(.str "plus"), (.str "less"), (.str "same")])))) (bVal (cOp2 oEq (cOp2 oIx (cVar 0) (cC (.int 0))) (cC (.str "if"))))) (cSl (cVar 0) (some (cC (.int 1))) none) (cOpL oTup cNil)))))
-- inner_terms: 
def f_has_form (g_is_value g_has_kind g_is_between g_is_name : Fn) : Fn := defF 3 2 (sSeq (sIf (bOr (bTru (cCall g_is_value [] (cCons (cVar 0) cNil))) (bTru (cCall g_has_kind [] (cCons (cVar 0) (cCons (cC (.str "tick")) (cCons (cC (.int 1)) cNil)))))) (sRet (cC (.bl true))) sSkip) (sSeq (sIf (bTru (cCall g_has_kind [] (cCons (cVar 0) (cCons (cC (.str "arg")) (cCons (cC (.int 2)) cNil))))) (sRet (cCall g_is_between [] (cCons (cOp2 oIx (cVar 0) (cC (.int 1))) (cCons (cC (.int 0)) (cCons (cOp2 oSub (cVar 1) (cC (.int 1))) cNil))))) sSkip) (sSeq (sIf (bTru (cCall g_has_kind [] (cCons (cVar 0) (cCons (cC (.str "cell")) (cCons (cC (.int 2)) cNil))))) (sRet (cCall g_is_name [] (cCons (cOp2 oIx (cVar 0) (cC (.int 1))) cNil))) sSkip) (sSeq (sIf (bTru (cCall g_has_kind [] (cCons (cVar 0) (cCons (cC (.str "call")) (cCons (cC (.int 3)) cNil))))) (sRet (cAnd (cCall g_is_name [] (cCons (cOp2 oIx (cVar 0) (cC (.int 1))) cNil)) (cAnd (cOpL oIsi (cCons (cOp2 oIx (cVar 0) (cC (.int 2))) (cCons (cC (.ty "tuple")) cNil))) (cOp2 oLe (cOpL oLen (cCons (cOp2 oIx (cVar 0) (cC (.int 2))) cNil)) (cC (.int 2)))))) sSkip) (sRet (cOr (cOpL oAny (cCons (cLc [2] (iSeq (cC (.tup [(.str "plus"), (.str "less"), (.str "same")]))) (CT.one 2) bYes (cCall g_has_kind [] (cCons (cVar 0) (cCons (cVar 2) (cCons (cC (.int 3)) cNil))))) cNil)) (cCall g_has_kind [] (cCons (cVar 0) (cCons (cC (.str "if")) (cCons (cC (.int 4)) cNil))))))))))
-- has_form: 2 4 1 3
def f_is_term (g_has_form g_inner_terms : Fn) : Fn := defF 7 2 (sSeq (sPar 3 4 (cCons (cOpL oLst (cCons (cVar 0) cNil)) (cCons (cC (.int 0)) cNil))) (sSeq (sFor (iRng1 (cCons (cC (.int 8)) cNil)) (gN 2) (sSeq (sAug 4 (oAug oAdd) (cOpL oLen (cCons (cVar 3) cNil))) (sSeq (sIf (bOr (bVal (cOp2 oGt (cVar 4) (cC (.int 30)))) (bNot (bTru (cOpL oAll (cCons (cLc [6] (iSeq (cVar 3)) (CT.one 6) bYes (cCall g_has_form [] (cCons (cVar 6) (cCons (cVar 1) cNil)))) cNil))))) (sRet (cC (.bl false))) sSkip) (sSeq (sSet 3 (cLc2 [5, 6] [6] (iSeq (cVar 3)) (CT.one 5) bYes (iSeq (cCall g_inner_terms [] (cCons (cVar 5) cNil))) (CT.one 6) bYes (cVar 6))) (sIf (bVal (cOp2 oEq (cVar 3) (cOpL oLst cNil))) (sRet (cC (.bl true))) sSkip))))) (sRet (cC (.bl false)))))
-- is_term: 6 5
def f_term_size (g_inner_terms g_term_size : Fn) : Fn := defF 2 1 (sRet (cOp2 oAdd (cC (.int 1)) (cOpL oSum (cCons (cLc [1] (iSeq (cCall g_inner_terms [] (cCons (cVar 0) cNil))) (CT.one 1) bYes (cCall g_term_size [] (cCons (cVar 1) cNil))) cNil))))
-- term_size: 5 8
def f_term_depth (g_inner_terms g_term_depth : Fn) : Fn := defF 2 1 (sSeq (sIf (bVal (cOp2 oEq (cCall g_inner_terms [] (cCons (cVar 0) cNil)) (cOpL oTup cNil))) (sRet (cC (.int 1))) sSkip) (sRet (cOp2 oAdd (cC (.int 1)) (cOpL oMax (cCons (cLc [1] (iSeq (cCall g_inner_terms [] (cCons (cVar 0) cNil))) (CT.one 1) bYes (cOpL oInt (cCons (cCall g_term_depth [] (cCons (cVar 1) cNil)) cNil))) cNil)))))
-- term_depth: 5 9
def f_leaves (g_inner_terms g_leaves : Fn) : Fn := defF 3 1 (sSeq (sSet 1 (cOpL oLst (cCons (cVar 0) cNil))) (sSeq (sFor (iSeq (cCall g_inner_terms [] (cCons (cVar 0) cNil))) (gN 2) (sExpr (cMth isLst oExtend (cVar 1) (cCons (cCall g_leaves [] (cCons (cVar 2) cNil)) cNil)))) (sRet (cVar 1))))
-- leaves: 5 10
def f_names_with (g_leaves : Fn) : Fn := defF 5 2 (sSeq (sSet 2 (cDc [3] (iSeq (cCall g_leaves [] (cCons (cVar 0) cNil))) (CT.one 3) (bAnd (bTru (cOpL oIsi (cCons (cVar 3) (cCons (cC (.ty "tuple")) cNil)))) (bVal (cOp2 oEq (cOp2 oIx (cVar 3) (cC (.int 0))) (cVar 1)))) (cOp2 oIx (cVar 3) (cC (.int 1))) (cC (.bl true)))) (sRet (cOpL oSortedS (cCons (lockE (cVar 2) (cLc [4] (iKy (cVar 2)) (CT.one 4) bYes (cOpL oStr (cCons (cVar 4) cNil)))) cNil))))
-- names_with: 10
def f_cells_in (g_names_with : Fn) : Fn := defF 1 1 (sRet (cCall g_names_with [] (cCons (cVar 0) (cCons (cC (.str "cell")) cNil))))
-- cells_in: 11
def f_calls_in (g_names_with : Fn) : Fn := defF 1 1 (sRet (cCall g_names_with [] (cCons (cVar 0) (cCons (cC (.str "call")) cNil))))
-- calls_in: 11
def f_has_tick (g_leaves : Fn) : Fn := defF 1 1 (sRet (cOp2 oInD (cOpL oTup (cCons (cC (.str "tick")) cNil)) (cCall g_leaves [] (cCons (cVar 0) cNil))))
-- has_tick: 10
def f_law_pool : Fn := defF 5 2 (sSeq (sSet 2 (cIf (bVal (cOp2 oLt (cVar 1) (cOpL oLen (cCons (cVar 0) cNil)))) (cOp2 oIx (cVar 0) (cVar 1)) (cOp2 oAdd (cOp2 oMul (cC (.int 7)) (cOpL oSum (cCons (cSl (cVar 0) none (some (cC (.int 63)))) cNil))) (cVar 1)))) (sSeq (sSet 3 (cOpL oAbs (cCons (cVar 2) cNil))) (sSeq (sSet 4 (cOp2 oAdd (cOp2 oAdd (cOp2 oAdd (cOp2 oMod (cOpL oInt (cCons (cVar 3) cNil)) (cC (.int 2147483629))) (cOp2 oMul (cOp2 oMul (cC (.int 7919)) (cVar 1)) (cVar 1))) (cOp2 oMul (cC (.int 31)) (cVar 1))) (cC (.int 17)))) (sSeq (sSet 4 (cOp2 oMod (cOpL oInt (cCons (cOp2 oMul (cVar 4) (cC (.int 48271))) cNil)) (cC (.int 2147483647)))) (sRet (cOpL oLst (cCons (cOp2 oMul (cVar 3) (cOpL oInt (cCons (cOp2 oGe (cVar 3) (cOp2 oPow (cC (.int 10)) (cC (.int 18)))) cNil))) (cCons (cOp2 oMod (cOpL oInt (cCons (cOp2 oMul (cVar 4) (cVar 4)) cNil)) (cC (.int 2147483629))) cNil))))))))
-- law_pool: 
def f_law_draw : Fn := defF 3 2 (sSeq (sIf (bVal (cOp2 oGt (cOp2 oIx (cVar 0) (cC (.int 0))) (cC (.int 0)))) (sSeq (sSet 2 (cOp2 oMod (cOpL oInt (cCons (cOp2 oIx (cVar 0) (cC (.int 0))) cNil)) (cVar 1))) (sSeq (sAs (cOp2 oDiv (cOp2 oIx (cVar 0) (cC (.int 0))) (cVar 1)) (gIx (cVar 0) (cC (.int 0)))) (sRet (cVar 2)))) sSkip) (sSeq (sAs (cOp2 oMod (cOpL oInt (cCons (cOp2 oAdd (cOp2 oMul (cOp2 oIx (cVar 0) (cC (.int 1))) (cC (.int 48271))) (cC (.int 11))) cNil)) (cC (.int 2147483647))) (gIx (cVar 0) (cC (.int 1)))) (sRet (cOp2 oMod (cOpL oInt (cCons (cOp2 oDiv (cOp2 oMod (cOpL oInt (cCons (cOp2 oMul (cOp2 oIx (cVar 0) (cC (.int 1))) (cOp2 oIx (cVar 0) (cC (.int 1)))) cNil)) (cC (.int 2147483629))) (cC (.int 16))) cNil)) (cVar 1)))))
-- law_draw: 
def f_law_pick (g_law_draw : Fn) : Fn := defF 2 2 (sRet (cOp2 oIx (cVar 1) (cCall g_law_draw [] (cCons (cVar 0) (cCons (cOpL oLen (cCons (cVar 1) cNil)) cNil)))))
-- law_pick: 16
def f_law_names (g_law_draw g_law_pick : Fn) : Fn := defF 9 2 (sSeq (sSet 2 (cC (.str "abcdefghijklmnopqrstuvwxyz"))) (sSeq (sAs (cOpL oTup (cCons (cCall g_law_draw [] (cCons (cVar 0) (cCons (cC (.int 26)) cNil))) (cCons (cOp2 oAdd (cC (.int 1)) (cOp2 oMul (cC (.int 2)) (cCall g_law_draw [] (cCons (cVar 0) (cCons (cC (.int 6)) cNil))))) cNil))) (gTupW 2 (gsCons (gN 4) (gsCons (gN 5) gsNil)))) (sSeq (sSet 3 (cOpL oLst (cCons (cOpL oTup (cCons (cC (.str "")) (cCons (cC (.str "")) cNil))) (cCons (cOpL oTup (cCons (cC (.str "")) (cCons (cC (.str "q")) cNil))) (cCons (cOpL oTup (cCons (cC (.str "ab")) (cCons (cC (.str "")) cNil))) (cCons (cOpL oTup (cCons (cC (.str "abcdefg")) (cCons (cC (.str "")) cNil))) (cCons (cOpL oTup (cCons (cC (.str "")) (cCons (cC (.str "abcdefg")) cNil))) cNil))))))) (sSeq (sAs (cCall g_law_pick [] (cCons (cVar 0) (cCons (cVar 3) cNil))) (gTupW 2 (gsCons (gN 6) (gsCons (gN 7) gsNil)))) (sRet (cLc [8] (iRng1 (cCons (cVar 1) cNil)) (CT.one 8) bYes (cOp2 oAdd (cOp2 oAdd (cVar 6) (cOp2 oIx (cVar 2) (cOp2 oMod (cOpL oInt (cCons (cOp2 oAdd (cVar 4) (cOp2 oMul (cVar 5) (cVar 8))) cNil)) (cC (.int 26))))) (cVar 7))))))))
-- law_names: 16 17
def f_law_term (g_law_draw g_law_pick g_law_term : Fn) : Fn := defF 8 4 (sSeq (sSet 4 (cCall g_law_draw [] (cCons (cVar 0) (cCons (cIf (bVal (cOp2 oGt (cVar 3) (cC (.int 0)))) (cC (.int 9)) (cC (.int 4))) cNil)))) (sSeq (sIf (bOr (bVal (cOp2 oEq (cVar 4) (cC (.int 0)))) (bOr (bAnd (bVal (cOp2 oEq (cVar 4) (cC (.int 1)))) (bVal (cOp2 oEq (cVar 2) (cC (.int 0))))) (bAnd (bVal (cOp2 oInD (cVar 4) (cOpL oLst (cCons (cC (.int 2)) (cCons (cC (.int 8)) cNil))))) (bVal (cOp2 oEq (cOp2 oIx (cVar 1) (cC (.str "cells"))) (cOpL oLst cNil)))))) (sRet (cCall g_law_draw [] (cCons (cVar 0) (cCons (cC (.int 3)) cNil)))) sSkip) (sSeq (sIf (bVal (cOp2 oEq (cVar 4) (cC (.int 1)))) (sRet (cOpL oTup (cCons (cC (.str "arg")) (cCons (cCall g_law_draw [] (cCons (cVar 0) (cCons (cVar 2) cNil))) cNil)))) sSkip) (sSeq (sIf (bOr (bVal (cOp2 oEq (cVar 4) (cC (.int 2)))) (bVal (cOp2 oEq (cVar 4) (cC (.int 8))))) (sRet (cOpL oTup (cCons (cC (.str "cell")) (cCons (cOp2 oIx (cCall g_law_pick [] (cCons (cVar 0) (cCons (cOp2 oIx (cVar 1) (cC (.str "cells"))) cNil))) (cC (.int 0))) cNil)))) sSkip) (sSeq (sIf (bVal (cOp2 oEq (cVar 4) (cC (.int 3)))) (sRet (cIf (bVal (cOp2 oEq (cCall g_law_draw [] (cCons (cVar 0) (cCons (cC (.int 3)) cNil))) (cC (.int 0)))) (cOpL oTup (cCons (cC (.str "tick")) cNil)) (cCall g_law_draw [] (cCons (cVar 0) (cCons (cC (.int 3)) cNil))))) sSkip) (sSeq (sIf (bAnd (bVal (cOp2 oEq (cVar 4) (cC (.int 4)))) (bVal (cOp2 oNe (cOp2 oIx (cVar 1) (cC (.str "functions"))) (cOpL oLst cNil)))) (sSeq (sSet 6 (cCall g_law_pick [] (cCons (cVar 0) (cCons (cOp2 oIx (cVar 1) (cC (.str "functions"))) cNil)))) (sRet (cOpL oTup (cCons (cC (.str "call")) (cCons (cOp2 oIx (cVar 6) (cC (.str "name"))) (cCons (cOpL oTuple (cCons (cLc [7] (iRng1 (cCons (cOp2 oIx (cVar 6) (cC (.str "many"))) cNil)) (CT.one 7) bYes (cCall g_law_term [] (cCons (cVar 0) (cCons (cVar 1) (cCons (cVar 2) (cCons (cC (.int 0)) cNil)))))) cNil)) cNil)))))) sSkip) (sSeq (sIf (bVal (cOp2 oEq (cVar 4) (cC (.int 7)))) (sRet (cOp2 oAdd (cOpL oTup (cCons (cC (.str "if")) cNil)) (cOpL oTuple (cCons (cLc [7] (iRng1 (cCons (cC (.int 3)) cNil)) (CT.one 7) bYes (cCall g_law_term [] (cCons (cVar 0) (cCons (cVar 1) (cCons (cVar 2) (cCons (cOp2 oSub (cVar 3) (cC (.int 1))) cNil)))))) cNil)))) sSkip) (sSeq (sSet 5 (cCall g_law_pick [] (cCons (cVar 0) (cCons (cOpL oLst (cCons (cC (.str "plus")) (cCons (cC (.str "less")) (cCons (cC (.str "same")) cNil)))) cNil)))) (sRet (cOpL oTup (cCons (cVar 5) (cCons (cCall g_law_term [] (cCons (cVar 0) (cCons (cVar 1) (cCons (cVar 2) (cCons (cOp2 oSub (cVar 3) (cC (.int 1))) cNil))))) (cCons (cCall g_law_term [] (cCons (cVar 0) (cCons (cVar 1) (cCons (cVar 2) (cCons (cOp2 oSub (cVar 3) (cC (.int 1))) cNil))))) cNil)))))))))))))
-- law_term: 16 17 19
def f_law_inner : Fn := defF 1 1 (sSeq (sIf (bOr (bNot (bTru (cOpL oIsi (cCons (cVar 0) (cCons (cC (.ty "tuple")) cNil))))) (bVal (cOp2 oInD (cOp2 oIx (cVar 0) (cC (.int 0))) (cOpL oLst (cCons (cC (.str "arg")) (cCons (cC (.str "cell")) (cCons (cC (.str "tick")) cNil))))))) (sRet (cOpL oLst cNil)) sSkip) (sRet (cIf (bVal (cOp2 oEq (cOp2 oIx (cVar 0) (cC (.int 0))) (cC (.str "call")))) (cOpL oList (cCons (cOp2 oIx (cVar 0) (cC (.int 2))) cNil)) (cOpL oList (cCons (cSl (cVar 0) (some (cC (.int 1))) none) cNil)))))
-- law_inner: 
def f_law_counts (g_law_inner g_law_counts : Fn) : Fn := defF 8 1 (sSeq (sAs (cOpL oTup (cCons (cDict [(cC (.str "size"), cC (.int 1)), (cC (.str "cell"), cOpL oLst cNil), (cC (.str "call"), cOpL oLst cNil), (cC (.str "tick"), cC (.bl false))]) (cCons (cCall g_law_inner [] (cCons (cVar 0) cNil)) cNil))) (gTupW 2 (gsCons (gN 3) (gsCons (gN 4) gsNil)))) (sSeq (sSet 1 (cC (.int 0))) (sSeq (sIf (bAnd (bTru (cOpL oIsi (cCons (cVar 0) (cCons (cC (.ty "tuple")) cNil)))) (bVal (cOp2 oInD (cOp2 oIx (cVar 0) (cC (.int 0))) (cOpL oLst (cCons (cC (.str "cell")) (cCons (cC (.str "call")) cNil)))))) (sAs (cOpL oLst (cCons (cOp2 oIx (cVar 0) (cC (.int 1))) cNil)) (gIx (cVar 3) (cOp2 oIx (cVar 0) (cC (.int 0))))) sSkip) (sSeq (sAs (cOp2 oEq (cVar 0) (cOpL oTup (cCons (cC (.str "tick")) cNil))) (gIx (cVar 3) (cC (.str "tick")))) (sSeq (sFor (iSeq (cVar 4)) (gN 2) (sSeq (sSet 5 (cCall g_law_counts [] (cCons (cVar 2) cNil))) (sSeq (sAs (cOpL oTup (cCons (cOp2 oAdd (cOp2 oIx (cVar 3) (cC (.str "size"))) (cOp2 oIx (cVar 5) (cC (.str "size")))) (cCons (cOr (cOp2 oIx (cVar 3) (cC (.str "tick"))) (cOp2 oIx (cVar 5) (cC (.str "tick")))) cNil))) (gTupW 2 (gsCons (gIx (cVar 3) (cC (.str "size"))) (gsCons (gIx (cVar 3) (cC (.str "tick"))) gsNil)))) (sSeq (sSet 1 (cOpL oMax (cCons (cOpL oInt (cCons (cVar 1) cNil)) (cCons (cOpL oInt (cCons (cOp2 oIx (cVar 5) (cC (.str "depth"))) cNil)) cNil)))) (sFor (iSeq (cOpL oLst (cCons (cC (.str "cell")) (cCons (cC (.str "call")) cNil)))) (gN 6) (sAs (cOp2 oAdd (cOp2 oIx (cVar 3) (cVar 6)) (cLc [7] (iSeq (cOp2 oIx (cVar 5) (cVar 6))) (CT.one 7) (bVal (cOp2 oNotInD (cVar 7) (cOp2 oIx (cVar 3) (cVar 6)))) (cVar 7))) (gIx (cVar 3) (cVar 6)))))))) (sSeq (sAs (cOp2 oAdd (cC (.int 1)) (cVar 1)) (gIx (cVar 3) (cC (.str "depth")))) (sRet (cVar 3))))))))
-- law_counts: 20 21
def f_law_bent (g_law_inner g_law_draw g_law_bent : Fn) : Fn := defF 5 3 (sSeq (sSet 3 (cCall g_law_inner [] (cCons (cVar 1) cNil))) (sSeq (sIf (bOr (bVal (cOp2 oEq (cVar 3) (cOpL oLst cNil))) (bVal (cOp2 oEq (cCall g_law_draw [] (cCons (cVar 0) (cCons (cC (.int 3)) cNil))) (cC (.int 0))))) (sRet (cVar 2)) sSkip) (sSeq (sSet 4 (cCall g_law_draw [] (cCons (cVar 0) (cCons (cOpL oLen (cCons (cVar 3) cNil)) cNil)))) (sSeq (sAs (cCall g_law_bent [] (cCons (cVar 0) (cCons (cOp2 oIx (cVar 3) (cVar 4)) (cCons (cVar 2) cNil)))) (gIx (cVar 3) (cVar 4))) (sRet (cIf (bVal (cOp2 oEq (cOp2 oIx (cVar 1) (cC (.int 0))) (cC (.str "call")))) (cOpL oTup (cCons (cOp2 oIx (cVar 1) (cC (.int 0))) (cCons (cOp2 oIx (cVar 1) (cC (.int 1))) (cCons (cOpL oTuple (cCons (cVar 3) cNil)) cNil)))) (cOp2 oAdd (cOpL oTup (cCons (cOp2 oIx (cVar 1) (cC (.int 0))) cNil)) (cOpL oTuple (cCons (cVar 3) cNil)))))))))
-- law_bent: 20 16 22
def f_law (g_law_pool g_law_names g_law_draw g_law_term g_law_counts g_is_term g_term_size g_term_depth g_cells_in g_calls_in g_has_tick g_law_bent : Fn) : Fn := defF 13 1 (sSeq (sFor (iRng1 (cCons (cOpL oMax (cCons (cC (.int 1)) (cCons (cOpL oMin (cCons (cOpL oLen (cCons (cVar 0) cNil)) (cCons (cC (.int 2)) cNil))) cNil))) cNil)) (gN 1) (sSeq (sSet 2 (cCall g_law_pool [] (cCons (cVar 0) (cCons (cVar 1) cNil)))) (sSeq (sPar 5 6 (cCons (cCall g_law_names [] (cCons (cVar 2) (cCons (cC (.int 4)) cNil))) (cCons (cCall g_law_draw [] (cCons (cVar 2) (cCons (cC (.int 3)) cNil))) cNil))) (sSeq (sSet 3 (cDict [(cC (.str "cells"), cOpL oLst (cCons (cOpL oTup (cCons (cOp2 oIx (cVar 5) (cC (.int 0))) (cCons (cC (.str "table")) cNil))) (cCons (cOpL oTup (cCons (cOp2 oIx (cVar 5) (cC (.int 1))) (cCons (cC (.str "frozen")) cNil))) cNil))), (cC (.str "functions"), cOpL oLst cNil)])) (sSeq (sFor (iSeq (cOpL oLst (cCons (cOpL oTup (cCons (cOp2 oIx (cVar 5) (cC (.int 2))) (cCons (cC (.int 2)) cNil))) (cCons (cOpL oTup (cCons (cOp2 oIx (cVar 5) (cC (.int 3))) (cCons (cC (.int 0)) cNil))) cNil)))) (gTupW 2 (gsCons (gN 7) (gsCons (gN 8) gsNil))) (sExpr (cMth isLst oAppend (cOp2 oIx (cVar 3) (cC (.str "functions"))) (cCons (cDict [(cC (.str "name"), cVar 7), (cC (.str "many"), cVar 8)]) cNil)))) (sFor (iRng1 (cCons (cC (.int 12)) cNil)) (gN 4) (sSeq (sSet 9 (cCall g_law_term [] (cCons (cVar 2) (cCons (cVar 3) (cCons (cVar 6) (cCons (cCall g_law_draw [] (cCons (cVar 2) (cCons (cC (.int 4)) cNil))) cNil)))))) (sSeq (sSet 10 (cCall g_law_counts [] (cCons (cVar 9) cNil))) (sIf (bVal (cOp2 oLe (cOp2 oIx (cVar 10) (cC (.str "size"))) (cC (.int 30)))) (sSeq (sIf (bOr (bVal (cOp2 oIsNot (cCall g_is_term [] (cCons (cVar 9) (cCons (cVar 6) cNil))) (cC (.bl true)))) (bVal (cOp2 oNe (cOpL oLst (cCons (cCall g_term_size [] (cCons (cVar 9) cNil)) (cCons (cCall g_term_depth [] (cCons (cVar 9) cNil)) cNil))) (cOpL oLst (cCons (cOp2 oIx (cVar 10) (cC (.str "size"))) (cCons (cOp2 oIx (cVar 10) (cC (.str "depth"))) cNil)))))) (sRet (cC (.bl false))) sSkip) (sSeq (sIf (bVal (cOp2 oNe (cCall g_cells_in [] (cCons (cVar 9) cNil)) (cOpL oSortedS (cCons (cLc [7] (iSeq (cOp2 oIx (cVar 10) (cC (.str "cell")))) (CT.one 7) bYes (cOpL oStr (cCons (cVar 7) cNil))) cNil)))) (sRet (cC (.bl false))) sSkip) (sSeq (sIf (bOr (bVal (cOp2 oNe (cCall g_calls_in [] (cCons (cVar 9) cNil)) (cOpL oSortedS (cCons (cLc [7] (iSeq (cOp2 oIx (cVar 10) (cC (.str "call")))) (CT.one 7) bYes (cOpL oStr (cCons (cVar 7) cNil))) cNil)))) (bVal (cOp2 oNe (cCall g_has_tick [] (cCons (cVar 9) cNil)) (cOp2 oIx (cVar 10) (cC (.str "tick")))))) (sRet (cC (.bl false))) sSkip) (sSeq (sSet 11 (cOpL oLst (cCons (cC .non) (cCons (cC (.int 3)) (cCons (cOp1 oNeg (cC (.int 1))) (cCons (cC (.bl true)) (cCons (cC (.str "1")) (cCons (cOpL oTup cNil) (cCons (cOpL oTup (cCons (cC (.str "arg")) (cCons (cVar 6) cNil))) (cCons (cOpL oTup (cCons (cC (.str "arg")) (cCons (cC (.bl true)) cNil))) (cCons (cOpL oTup (cCons (cC (.str "cell")) (cCons (cC (.str "A")) cNil))) (cCons (cOpL oTup (cCons (cC (.str "cell")) cNil)) (cCons (cOpL oTup (cCons (cC (.str "tick")) (cCons (cC (.int 1)) cNil))) (cCons (cOpL oLst (cCons (cC (.str "tick")) cNil)) cNil)))))))))))))) (sSeq (sSet 11 (cOp2 oAdd (cVar 11) (cOpL oLst (cCons (cOpL oTup (cCons (cC (.str "plus")) (cCons (cC (.int 1)) cNil))) (cCons (cOpL oTup (cCons (cC (.str "less")) (cCons (cC (.int 0)) (cCons (cC (.int 1)) (cCons (cC (.int 2)) cNil))))) (cCons (cOpL oTup (cCons (cC (.str "if")) (cCons (cC (.int 1)) (cCons (cC (.int 1)) cNil)))) (cCons (cOpL oTup (cCons (cC (.str "call")) (cCons (cC (.str "f")) (cCons (cOpL oLst (cCons (cC (.int 1)) cNil)) cNil)))) (cCons (cOpL oTup (cCons (cC (.str "call")) (cCons (cC (.str "f")) (cCons (cOpL oTup (cCons (cC (.int 1)) (cCons (cC (.int 1)) (cCons (cC (.int 1)) cNil)))) cNil)))) (cCons (cOpL oTup (cCons (cC (.str "call")) (cCons (cC (.str "F")) (cCons (cOpL oTup cNil) cNil)))) cNil))))))))) (sFor (iSeq (cOp2 oAdd (cVar 11) (cOpL oLst (cCons (cOpL oTup (cCons (cC (.str "Plus")) (cCons (cC (.int 1)) (cCons (cC (.int 1)) cNil)))) (cCons (cOpL oTup (cCons (cC (.str "same")) (cCons (cC (.int 0)) (cCons (cC .non) cNil)))) (cCons (cOpL oTup (cCons (cC (.int 1)) (cCons (cC (.int 1)) (cCons (cC (.int 1)) cNil)))) (cCons (cOpL oTup (cCons (cC (.str "call")) (cCons (cC (.str "f")) cNil))) (cCons (cOpL oTup (cCons (cC (.str "call")) (cCons (cC (.str "f")) (cCons (cOpL oTup (cCons (cC .non) cNil)) cNil)))) cNil)))))))) (gN 12) (sIf (bVal (cOp2 oIsNot (cCall g_is_term [] (cCons (cCall g_law_bent [] (cCons (cVar 2) (cCons (cVar 9) (cCons (cVar 12) cNil)))) (cCons (cVar 6) cNil))) (cC (.bl false)))) (sRet (cC (.bl false))) sSkip))))))) sSkip))))))))) (sRet (cC (.bl true))))
-- law: 15 18 16 19 21 7 8 9 12 13 14 22
end Z

/-! ZL: the laws' own helpers. -/
namespace Z
open PySem PySem.Spec PyProof.Rows L2
def bDraw : Sx := sSeq (sIf (bVal (cOp2 oGt (cOp2 oIx (cVar 0) (cC (.int 0))) (cC (.int 0)))) (sSeq (sSet 2 (cOp2 oMod (cOpL oInt (cCons (cOp2 oIx (cVar 0) (cC (.int 0))) cNil)) (cVar 1))) (sSeq (sAs (cOp2 oDiv (cOp2 oIx (cVar 0) (cC (.int 0))) (cVar 1)) (gIx (cVar 0) (cC (.int 0)))) (sRet (cVar 2)))) sSkip) (sSeq (sAs (cOp2 oMod (cOpL oInt (cCons (cOp2 oAdd (cOp2 oMul (cOp2 oIx (cVar 0) (cC (.int 1))) (cC (.int 48271))) (cC (.int 11))) cNil)) (cC (.int 2147483647))) (gIx (cVar 0) (cC (.int 1)))) (sRet (cOp2 oMod (cOpL oInt (cCons (cOp2 oDiv (cOp2 oMod (cOpL oInt (cCons (cOp2 oMul (cOp2 oIx (cVar 0) (cC (.int 1))) (cOp2 oIx (cVar 0) (cC (.int 1)))) cNil)) (cC (.int 2147483629))) (cC (.int 16))) cNil)) (cVar 1))))
def PoolOk (p : Nat) (L : LH) : Prop := ∃ a b : Int, L[p]? = some (.lst [.int a, .int b]) ∧ 0 ≤ a ∧ 0 ≤ b ∧ b < 2147483647
structure Upd (p : Nat) (L L' : LH) : Prop where
  len : L.length ≤ L'.length
  old : ∀ n o, n ≠ p → L[n]? = some o → L'[n]? = some o
  pool : PoolOk p L'
theorem Upd.trans {p : Nat} {L L1 L2 : LH} (a : Upd p L L1) (b : Upd p L1 L2) : Upd p L L2 :=
  ⟨Nat.le_trans a.len b.len, fun n o h e => b.old n o h (a.old n o h e), b.pool⟩
theorem upd_set {p : Nat} {L : LH} {a b : Int} {o : LO} (e : L[p]? = some o) (ha : 0 ≤ a) (hb : 0 ≤ b) (hb' : b < 2147483647) : Upd p L (L.set p (.lst [.int a, .int b])) := by
  have hp : p < L.length := (List.getElem?_eq_some_iff.mp e).1
  refine ⟨by rw [List.length_set]; exact Nat.le_refl _, fun n o h e => by rw [List.getElem?_set_ne (Ne.symm h)]; exact e, a, b, by rw [List.getElem?_set_self hp], ha, hb, hb'⟩
theorem ix_at {L : LH} {n : Nat} {xs : List W} {i : Int} {Q : W → LH → Prop} (e : L[n]? = some (.lst xs)) : EvO (oIx (.ref n) (.int i) L) Q = match atI xs i with | some w => Q w L | none => False := by
  have h1 : dicW (.ref n) L = none := by simp only [dicW, e]
  have h2 : seqW (.ref n) L = some xs := by
    show seqL L n = some xs
    unfold seqL; rw [e]; rfl
  unfold oIx; rw [h1]
  show EvO (oIxS (.ref n) (.int i) L) Q = _
  unfold oIxS
  simp only [h2]
  cases atI xs i <;> rfl
theorem at0 {α : Type} {x : α} {xs : List α} : atI (x :: xs) 0 = some x := atI_nat (j := 0) rfl
theorem at1 {α : Type} {x y : α} {xs : List α} : atI (x :: y :: xs) 1 = some y := atI_nat (j := 1) rfl
theorem put_at {L : LH} {n : Nat} {xs : List W} {j : Nat} {w : W} (e : L[n]? = some (.lst xs)) (h : j < xs.length) : oPut (.ref n) (.int j) w L = some (L.set n (.lst (xs.set j w))) := by
  have : ixN xs.length (j : Int) = some j := by
    unfold ixN
    rw [if_pos (by omega), if_pos (by omega)]
    simp
  simp only [oPut, e, this]
theorem draw_ok {p : Nat} {m : Int} {L : LH} (hp : PoolOk p L) (hm : 0 < m) (hm2 : m < 1073741824) : Ev (defF 3 2 bDraw [.ref p, .int m] L) fun w L' => ∃ r : Int, w = .int r ∧ 0 ≤ r ∧ r < m ∧ Upd p L L' := by
  obtain ⟨a, b, e, ha, hb, hb'⟩ := hp
  have hlt : p < L.length := (List.getElem?_eq_some_iff.mp e).1
  simp only [bDraw, ev_ok, ev_bind, ev_only, ev_ofO, ev_ofOB, ev_ite, evs_ite, evo_some, evs_toS, evs_seq, ev_C, ev_var, ev_op2, ev_op1, ev_opL, ev_nil, ev_cons, ev_call, ev_bVal, ev_bTru, ev_bNot, ev_bAnd, ev_bOr, ev_bYes, ev_cIf, ev_cNot, ev_cAnd, ev_cOr, ev_chain, ev_part_none, ev_part_some, ev_sl, ev_mth, evs_skip, evs_set, evs_ret, evs_expr, evs_if, evs_par, evs_as, ev_gN, ev_gsNil, ev_gsCons, ev_gTup, ev_gIx, evs_aug, ev_defF, evs_for, ev_rng1, ev_iSeq, ev_lc, o_addI, o_subI, o_addS, o_addT, o_mulI, o_modI, o_divI, o_powI, o_cmpI, o_intI, o_intB, o_absI, o_lst, o_tup, bl_bl, List.map_cons, List.map_nil, List.cons_append, List.nil_append, List.append_nil, List.getElem?_cons_zero, List.getElem?_cons_succ, List.set_cons_zero, List.set_cons_succ, List.length_cons, List.length_nil, List.replicate, Nat.reduceAdd, Nat.reduceSub, Nat.reduceLeDiff, true_and, and_true, if_true, decide_eq_true_eq, Nat.zero_add, ix_at e, at0, at1]
  by_cases h0 : 0 < a
  · have e2 : oPut (.ref p) (.int 0) (.int (a / m)) L = some (L.set p (.lst [.int (a / m), .int b])) := put_at (j := 0) e (by simp)
    simp only [h0, if_true, ev_ok, ev_bind, ev_only, ev_ofO, ev_ofOB, ev_ite, evs_ite, evo_some, evs_toS, evs_seq, ev_C, ev_var, ev_op2, ev_op1, ev_opL, ev_nil, ev_cons, ev_call, ev_bVal, ev_bTru, ev_bNot, ev_bAnd, ev_bOr, ev_bYes, ev_cIf, ev_cNot, ev_cAnd, ev_cOr, ev_chain, ev_part_none, ev_part_some, ev_sl, ev_mth, evs_skip, evs_set, evs_ret, evs_expr, evs_if, evs_par, evs_as, ev_gN, ev_gsNil, ev_gsCons, ev_gTup, ev_gIx, evs_aug, ev_defF, evs_for, ev_rng1, ev_iSeq, ev_lc, o_addI, o_subI, o_addS, o_addT, o_mulI, o_modI, o_divI, o_powI, o_cmpI, o_intI, o_intB, o_absI, o_lst, o_tup, bl_bl, List.map_cons, List.map_nil, List.cons_append, List.nil_append, List.append_nil, List.getElem?_cons_zero, List.getElem?_cons_succ, List.set_cons_zero, List.set_cons_succ, List.length_cons, List.length_nil, List.replicate, Nat.reduceAdd, Nat.reduceSub, Nat.reduceLeDiff, true_and, and_true, if_true, decide_eq_true_eq, Nat.zero_add, e2]
    refine ⟨hm, ⟨hm, hm2⟩, a % m, rfl, Int.emod_nonneg _ (by omega), Int.emod_lt_of_pos _ hm, upd_set e (Int.ediv_nonneg ha (by omega)) hb hb'⟩
  · simp only [h0, if_false, ev_ok, ev_bind, ev_only, ev_ofO, ev_ofOB, ev_ite, evs_ite, evo_some, evs_toS, evs_seq, ev_C, ev_var, ev_op2, ev_op1, ev_opL, ev_nil, ev_cons, ev_call, ev_bVal, ev_bTru, ev_bNot, ev_bAnd, ev_bOr, ev_bYes, ev_cIf, ev_cNot, ev_cAnd, ev_cOr, ev_chain, ev_part_none, ev_part_some, ev_sl, ev_mth, evs_skip, evs_set, evs_ret, evs_expr, evs_if, evs_par, evs_as, ev_gN, ev_gsNil, ev_gsCons, ev_gTup, ev_gIx, evs_aug, ev_defF, evs_for, ev_rng1, ev_iSeq, ev_lc, o_addI, o_subI, o_addS, o_addT, o_mulI, o_modI, o_divI, o_powI, o_cmpI, o_intI, o_intB, o_absI, o_lst, o_tup, bl_bl, List.map_cons, List.map_nil, List.cons_append, List.nil_append, List.append_nil, List.getElem?_cons_zero, List.getElem?_cons_succ, List.set_cons_zero, List.set_cons_succ, List.length_cons, List.length_nil, List.replicate, Nat.reduceAdd, Nat.reduceSub, Nat.reduceLeDiff, true_and, and_true, if_true, decide_eq_true_eq, Nat.zero_add]
    have e2 : ∀ c : Int, oPut (.ref p) (.int 1) (.int c) L = some (L.set p (.lst [.int a, .int c])) := fun c => put_at (j := 1) e (by simp)
    have e3 : ∀ c : Int, (L.set p (.lst [.int a, .int c]))[p]? = some (.lst [.int a, .int c]) := fun c => List.getElem?_set_self hlt
    simp only [e2, ix_at (e3 _), at1, ev_ok, ev_bind, ev_only, ev_ofO, ev_ofOB, ev_ite, evs_ite, evo_some, evs_toS, evs_seq, ev_C, ev_var, ev_op2, ev_op1, ev_opL, ev_nil, ev_cons, ev_call, ev_bVal, ev_bTru, ev_bNot, ev_bAnd, ev_bOr, ev_bYes, ev_cIf, ev_cNot, ev_cAnd, ev_cOr, ev_chain, ev_part_none, ev_part_some, ev_sl, ev_mth, evs_skip, evs_set, evs_ret, evs_expr, evs_if, evs_par, evs_as, ev_gN, ev_gsNil, ev_gsCons, ev_gTup, ev_gIx, evs_aug, ev_defF, evs_for, ev_rng1, ev_iSeq, ev_lc, o_addI, o_subI, o_addS, o_addT, o_mulI, o_modI, o_divI, o_powI, o_cmpI, o_intI, o_intB, o_absI, o_lst, o_tup, bl_bl, List.map_cons, List.map_nil, List.cons_append, List.nil_append, List.append_nil, List.getElem?_cons_zero, List.getElem?_cons_succ, List.set_cons_zero, List.set_cons_succ, List.length_cons, List.length_nil, List.replicate, Nat.reduceAdd, Nat.reduceSub, Nat.reduceLeDiff, true_and, and_true, if_true, decide_eq_true_eq, Nat.zero_add]
    have b1 := Int.emod_nonneg (b * 48271 + 11) (show (2147483647 : Int) ≠ 0 by decide)
    have b2 := Int.emod_lt_of_pos (b * 48271 + 11) (show (0 : Int) < 2147483647 by decide)
    refine ⟨.inr (by decide), by decide, .inl ⟨by omega, by omega⟩, by decide, by decide, hm, _, rfl, Int.emod_nonneg _ (by omega), Int.emod_lt_of_pos _ hm, upd_set e ha b1 b2⟩
end Z

/-! ZT: values, terms. -/
namespace Z
open PySem PySem.Spec PyProof.Rows L2
theorem isi_of {w : W} {t n : String} {L : LH} {Q : W → LH → Prop} (h : tyName w L = some t) : EvO (oIsi [w, .ty n] L) Q = match kitB t n with | some b => Q (.bl b) L | none => False := by
  simp only [oIsi, h]
  cases kitB t n <;> rfl
theorem is_integer_ok {w : W} {t : String} {L : LH} (h : tyName w L = some t) : f_is_integer [w] L = .ok (.bl (t == "int")) L := by
  cases w with
  | ref n =>
    simp only [tyName] at h
    have e : tyName (.ref n) L = some t := h
    split at h
    · cases h
      simp only [f_is_integer, defF, List.length_cons, List.length_nil, if_true, List.map_cons, List.map_nil, Nat.sub_self, List.replicate, List.append_nil, sRet, cAnd, cOpL, cCons, cNil, cVar, cC, List.getElem?_cons_zero, Res.bind, oIsi, e, Nat.zero_add, ofO]
      rfl
    · cases h
      simp only [f_is_integer, defF, List.length_cons, List.length_nil, if_true, List.map_cons, List.map_nil, Nat.sub_self, List.replicate, List.append_nil, sRet, cAnd, cOpL, cCons, cNil, cVar, cC, List.getElem?_cons_zero, Res.bind, oIsi, e, Nat.zero_add, ofO]
      rfl
    · cases h
  | non => cases h; rfl
  | bl b => cases h; rfl
  | int i => cases h; rfl
  | str x => cases h; rfl
  | tup ws => cases h; rfl
  | _ => cases h
/-- an int within bounds -/
def btw (w : W) (lo hi : Int) : Bool := match w with
  | .int i => decide (lo ≤ i) && decide (i ≤ hi)
  | _ => false
theorem is_between_ok {w : W} {t : String} {L : LH} {lo hi : Int} (h : tyName w L = some t) : f_is_between f_is_integer [w, .int lo, .int hi] L = .ok (.bl (btw w lo hi)) L := by
  have hi' := is_integer_ok h
  simp only [f_is_between, defF, List.length_cons, List.length_nil, if_true, List.map_cons, List.map_nil, Nat.sub_self, List.replicate, List.append_nil, sRet, cAnd, cCall, cCons, cNil, cVar, List.getElem?_cons_zero, Res.bind, hi', Nat.zero_add, Nat.reduceAdd, Res.toS]
  cases w with
  | int i =>
    cases h
    simp only [truW, ofOB, Res.bind, cChain, cVar, List.getElem?_cons_zero, List.getElem?_cons_succ, oLe, oCmp, ofO, btw, blW]
    by_cases h1 : lo ≤ i
    · simp [h1, Res.bind, btw, oLe, oCmp, ofO, blW, ofOB]
    · simp [h1, Res.bind, btw, oLe, oCmp, ofO, blW, ofOB]
  | ref n =>
    simp only [tyName] at h
    split at h <;> cases h <;> rfl
  | _ => cases h <;> rfl
theorem oLen_eq {a : W} {L : LH} {n : Nat} (h : lenW a L = some n) : oLen [a] L = some (.int n, L) := by
  simp only [oLen, h]; rfl
theorem eqX_ii {L : LH} {i j : Int} : eqX L (.int i) (.int j) = some (i == j) := by
  have : eqX L (.int i) (.int j) = eqD L (.int i) (.int j) := rfl
  rw [this]
  unfold eqD toD
  rfl
theorem eqX_ss {L : LH} {a b : Str} (ha : PyData.strOk a = true) (hb : PyData.strOk b = true) : eqX L (.str a) (.str b) = some (a == b) := by
  have : eqX L (.str a) (.str b) = eqD L (.str a) (.str b) := rfl
  rw [this]
  unfold eqD toD
  have h1 : SeqAt.shaped (.str a) = true := by unfold SeqAt.shaped PyData.canLay0 PyData.depth; rw [ha]; rfl
  have h2 : SeqAt.shaped (.str b) = true := by unfold SeqAt.shaped PyData.canLay0 PyData.depth; rw [hb]; rfl
  simp only [h1, h2, and_self, if_true]
  rfl
/-- a tuple of so many parts, of this kind -/
def kindOf (w : W) (kd : Str) (n : Int) : Bool := match w with
  | .tup (.str s :: r) => ((r.length : Int) + 1 == n) && (s == kd)
  | _ => false
theorem kindOf_cons {s kd : Str} {r : List W} {n : Int} : kindOf (.tup (.str s :: r)) kd n = (((r.length : Int) + 1 == n) && (s == kd)) := rfl
structure HK (L : LH) (w : W) : Prop where
  ty : ∃ t, tyName w L = some t
  fst : ∀ x r, w = .tup (x :: r) → (∃ t, tyName x L = some t) ∧ ∀ s, x = .str s → PyData.strOk s = true
theorem has_kind_ok {w : W} {L : LH} {kd : Str} {n : Int} (h : HK L w) (hk : PyData.strOk kd = true) (hn : 1 ≤ n) : f_has_kind [w, .str kd, .int n] L = .ok (.bl (kindOf w kd n)) L := by
  obtain ⟨⟨t, ht⟩, hf⟩ := h
  have no : kitB t "tuple" = some false → kindOf w kd n = false → f_has_kind [w, .str kd, .int n] L = .ok (.bl (kindOf w kd n)) L := fun e e2 => by
    simp only [f_has_kind, defF, sRet, sSeq, sIf, sSet, sSkip, cAnd, cOr, cNot, cIf, cCall, cCons, cNil, cVar, cC, cOpL, cOp2, bVal, bTru, bNot, bAnd, bOr, cChain, Res.bind, Res.toS, ofO, ofOB, blW, truW, List.length_cons, List.length_nil, if_true, List.map_cons, List.map_nil, Nat.sub_self, List.replicate, List.append_nil, List.cons_append, List.nil_append, List.getElem?_cons_zero, List.getElem?_cons_succ, Nat.zero_add, Nat.reduceAdd, Nat.reduceSub, oIsi, ht, e, e2, Option.map]
    rfl
  cases w with
  | tup ws =>
    cases ht
    have e : kitB "tuple" "tuple" = some true := rfl
    have tn : tyName (.tup ws) L = some "tuple" := rfl
    have ln : oLen [.tup ws] L = some (.int ws.length, L) := oLen_eq rfl
    simp only [f_has_kind, defF, sRet, sSeq, sIf, sSet, sSkip, cAnd, cOr, cNot, cIf, cCall, cCons, cNil, cVar, cC, cOpL, cOp2, bVal, bTru, bNot, bAnd, bOr, cChain, Res.bind, Res.toS, ofO, ofOB, blW, truW, List.length_cons, List.length_nil, if_true, List.map_cons, List.map_nil, Nat.sub_self, List.replicate, List.append_nil, List.cons_append, List.nil_append, List.getElem?_cons_zero, List.getElem?_cons_succ, Nat.zero_add, Nat.reduceAdd, Nat.reduceSub, oIsi, tn, e, Option.map, ln, oEq, eqX_ii, oB]
    cases hlen : ((ws.length : Int) == n) with
    | false =>
      simp only [Bool.false_eq_true, if_false]
      have : kindOf (.tup ws) kd n = false := by
        unfold kindOf
        split
        · rename_i s r heq
          cases heq
          rw [show ((r.length : Int) + 1 == n) = false from hlen]; rfl
        · rfl
      rw [this]
    | true =>
      simp only [if_true]
      cases ws with
      | nil => simp at hlen; omega
      | cons x r =>
        obtain ⟨⟨t2, h2⟩, h3⟩ := hf x r rfl
        have ix : oIx (.tup (x :: r)) (.int 0) L = some (x, L) := by
          unfold oIx
          show oIxS _ _ _ = _
          unfold oIxS
          simp only [seqW, at0, Option.map]
        simp only [ix, h2]
        have no2 : kitB t2 "str" = some false → kindOf (.tup (x :: r)) kd n = false → (match Option.map (fun b => (W.bl b, L)) (kitB t2 "str") with | some (w, L) => Res.ok w L | none => Res.stk).bind (fun a L1 => (match truW a L1 with | some b => Res.ok b L1 | none => Res.stk).bind fun b L2 => if b = true then Res.stk else .ok a L2) = .ok (.bl (kindOf (.tup (x :: r)) kd n)) L := fun e e2 => by
          rw [e, e2]; rfl
        cases x with
        | str s =>
          cases h2
          have e : kitB "str" "str" = some true := rfl
          simp only [e, Option.map, if_true, ix, eqX_ss (h3 s rfl) hk, oB, Res.bind]
          rw [kindOf_cons, show ((r.length : Int) + 1 == n) = true from hlen]
          rfl
        | ref m =>
          simp only [tyName] at h2
          split at h2 <;> cases h2 <;> rfl
        | _ => cases h2 <;> rfl
  | ref m =>
    have ht' := ht
    simp only [tyName] at ht'
    split at ht'
    · cases ht'; exact no rfl rfl
    · cases ht'; exact no rfl rfl
    · cases ht'
  | non => cases ht; exact no rfl rfl
  | bl b => cases ht; exact no rfl rfl
  | int i => cases ht; exact no rfl rfl
  | str x => cases ht; exact no rfl rfl
  | _ => cases ht
/-! ### comprehensions without effect -/
def SrcIs (S : Src) (L0 : LH) (ws : List W) : Prop := S.len = ws.length ∧ ∀ L, L0 <+: L → ∀ i, S.get L i = some ws[i]?
theorem lc_pureA {S : Src} {j : Nat} {e : Ex} {env : Env} {L1 : LH} {ws acc0 : List W} {g : W → W} (hS : SrcIs S L1 ws) (hl : acc0.length + ws.length ≤ 16777216)
    (he : ∀ w ∈ ws, ∀ L, L1 <+: L → Ev (e (env.set j (some w)) L) fun y L' => y = g w ∧ L <+: L') :
    Ev (lcLoop S (.one j) bYes e env (S.len + 1) 0 L1 acc0) fun acc L' => acc = acc0 ++ ws.map g ∧ L1 <+: L' := by
  refine lc_inv (P := fun i L acc => acc = acc0 ++ (ws.take i).map g ∧ L1 <+: L) (n := ws.length) (fun i L acc hi p => ?_) (fun L acc p => ?_) S.len 0 L1 acc0 (by rw [hS.1]; omega) ⟨by simp, List.prefix_refl _⟩
  · obtain ⟨rfl, pr⟩ := p
    have e1 : ws[i]? = some ws[i] := List.getElem?_eq_getElem hi
    refine ⟨ws[i], by rw [hS.2 L pr i, e1], env.set j (some ws[i]), rfl, ?_⟩
    rw [ev_bYes]
    simp only [if_true]
    refine (he _ (List.getElem_mem hi) L pr).mono fun y L' h => ?_
    obtain ⟨rfl, pr'⟩ := h
    refine ⟨?_, ?_, pr.trans pr'⟩
    · rw [List.length_append, List.length_map, List.length_take]; omega
    · rw [List.take_succ_eq_append_getElem hi, List.map_append, List.append_assoc]; rfl
  · obtain ⟨rfl, pr⟩ := p
    refine ⟨?_, ?_, pr⟩
    · rw [hS.2 L pr, List.getElem?_eq_none (Nat.le_refl _)]
    · rw [List.take_length]
theorem lc_pure {S : Src} {j : Nat} {e : Ex} {env : Env} {L1 : LH} {ws : List W} {g : W → W} (hS : SrcIs S L1 ws) (hl : ws.length ≤ 16777216)
    (he : ∀ w ∈ ws, ∀ L, L1 <+: L → Ev (e (env.set j (some w)) L) fun y L' => y = g w ∧ L <+: L') :
    Ev (lcLoop S (.one j) bYes e env (S.len + 1) 0 L1 []) fun acc L' => acc = ws.map g ∧ L1 <+: L' :=
  lc_pureA (acc0 := []) hS (by simpa using hl) he
theorem lc2In_eq {S : Src} {c : CT} {t : Bx} {e : Ex} {env : Env} : ∀ (f i : Nat) (L : LH) (acc : List W), lc2In S c t e env f i L acc = lcLoop S c t e env f i L acc
  | 0, _, _, _ => rfl
  | f + 1, i, L, acc => by
    unfold lc2In lcLoop
    simp only [lc2In_eq f] <;> rfl
theorem lc2_pure {S : Src} {j j1 : Nat} {it1 : Ix} {vs1 : List Nat} {e : Ex} {env : Env} {L1 : LH} {ws : List W} (ks : W → List W) (hS : SrcIs S L1 ws) (hl : (ws.flatMap ks).length ≤ 16777216)
    (hi : ∀ w ∈ ws, ∀ L, L1 <+: L → Ev (it1 (env.set j (some w)) L) fun S1 L2 => L <+: L2 ∧ SrcIs S1 L2 (ks w) ∧ ∀ x ∈ ks w, ∀ L3, L2 <+: L3 → Ev (e ((wipeE (env.set j (some w)) vs1).set j1 (some x)) L3) fun y L4 => y = x ∧ L3 <+: L4) :
    ∀ (m i : Nat) (L : LH) (acc : List W), i + m = ws.length → L1 <+: L → acc = (ws.take i).flatMap ks →
    Ev (lc2Loop S (.one j) bYes it1 vs1 (.one j1) bYes e env (m + 1) i L acc) fun acc L' => acc = ws.flatMap ks ∧ L1 <+: L'
  | 0, i, L, acc, ei, pr, ea => by
    have ei : i = ws.length := by omega
    subst ei
    unfold lc2Loop
    rw [hS.2 L pr, List.getElem?_eq_none (Nat.le_refl _)]
    rw [List.take_length] at ea
    exact ⟨ea, pr⟩
  | m + 1, i, L, acc, ei, pr, ea => by
    have hlt : i < ws.length := by omega
    have e1 : ws[i]? = some ws[i] := List.getElem?_eq_getElem hlt
    unfold lc2Loop
    rw [hS.2 L pr, e1]
    simp only [CT.set, ev_bind, ev_only, ev_bYes, if_true]
    refine (hi _ (List.getElem_mem hlt) L pr).mono fun S1 L2 q => ?_
    obtain ⟨pr2, hS1, hx⟩ := q
    rw [lc2In_eq]
    have hlen : acc.length + (ks ws[i]).length ≤ 16777216 := by
      rw [ea]
      have e3 : (ws.take (i + 1)).flatMap ks = (ws.take i).flatMap ks ++ ks ws[i] := by
        rw [List.take_succ_eq_append_getElem hlt, List.flatMap_append]; simp
      have e4 : ws.flatMap ks = (ws.take (i + 1)).flatMap ks ++ (ws.drop (i + 1)).flatMap ks := by
        rw [← List.flatMap_append, List.take_append_drop]
      rw [e4, e3] at hl
      simp only [List.length_append] at hl
      omega
    refine (lc_pureA (g := fun x => x) hS1 hlen hx).mono fun acc' L3 q => ?_
    obtain ⟨rfl, pr3⟩ := q
    refine lc2_pure ks hS hl hi m (i + 1) L3 _ (by omega) (pr.trans (pr2.trans pr3)) ?_
    rw [List.take_succ_eq_append_getElem hlt, List.flatMap_append, ea]
    simp
theorem srcIs_tup {ws : List W} {L : LH} : SrcIs ⟨ws.length, fun _ i => some ws[i]?⟩ L ws := ⟨rfl, fun _ _ _ => rfl⟩
theorem pre_at {L L' : LH} {n : Nat} {o : LO} (p : L <+: L') (h : L[n]? = some o) : L'[n]? = some o := by
  obtain ⟨t, rfl⟩ := p
  rw [List.getElem?_append_left]; · exact h
  exact (List.getElem?_eq_some_iff.mp h).1
theorem seqL_at {L : LH} {n : Nat} {ws : List W} (h : L[n]? = some (.lst ws)) : seqL L n = some ws := by
  unfold seqL; rw [h]; rfl
theorem srcOf_at {L : LH} {n : Nat} {ws : List W} (h : L[n]? = some (.lst ws)) : ∃ S, srcOf (.ref n) L = some S ∧ SrcIs S L ws := by
  refine ⟨⟨ws.length, fun L' i => (seqL L' n).map fun ws => ws[i]?⟩, ?_, rfl, fun L' p i => ?_⟩
  · simp only [srcOf, seqL_at h]
  · simp only [seqL_at (pre_at p h), Option.map]
theorem at_last {L : LH} {o : LO} : (L ++ [o])[L.length]? = some o := List.getElem?_concat_length
theorem pre_last {L : LH} {o : LO} : L <+: L ++ [o] := ⟨[o], rfl⟩
theorem blsW_map : ∀ bs : List Bool, blsW (bs.map .bl) = some bs
  | [] => rfl
  | b :: r => by
    show (blsW (r.map .bl)).map _ = _
    rw [blsW_map r]; rfl
theorem intsW_map : ∀ bs : List Int, intsW (bs.map .int) = some bs
  | [] => rfl
  | b :: r => by
    show (intsW (r.map .int)).map _ = _
    rw [intsW_map r]; rfl
theorem strsW_map : ∀ bs : List Str, strsW (bs.map .str) = some bs
  | [] => rfl
  | b :: r => by
    show (strsW (r.map .str)).map _ = _
    rw [strsW_map r]; rfl
theorem all_at {L : LH} {n : Nat} {bs : List Bool} (h : L[n]? = some (.lst (bs.map .bl))) : oAll [.ref n] L = some (.bl (bs.all id), L) := by
  simp only [oAll, lstOf, seqL_at h, Option.bind, blsW_map]; rfl
theorem any_at {L : LH} {n : Nat} {bs : List Bool} (h : L[n]? = some (.lst (bs.map .bl))) : oAny [.ref n] L = some (.bl (bs.any id), L) := by
  simp only [oAny, lstOf, seqL_at h, Option.bind, blsW_map]; rfl
theorem sum_at {L : LH} {n : Nat} {bs : List Int} (h : L[n]? = some (.lst (bs.map .int))) : oSum [.ref n] L = some (.int bs.sum, L) := by
  simp only [oSum, lstOf, seqL_at h, Option.bind, intsW_map]; rfl
theorem max_at {L : LH} {n : Nat} {bs : List Int} (h : L[n]? = some (.lst (bs.map .int))) (h0 : 0 < bs.length) : oMax [.ref n] L = some (.int (maxI bs), L) := by
  simp only [oMax, lstOf, seqL_at h, Option.bind, intsW_map, if_pos h0]
theorem sorted_at {L : LH} {n : Nat} {bs : List Str} (h : L[n]? = some (.lst (bs.map .str))) (h0 : bs.length < 64) : oSortedS [.ref n] L = some (.ref L.length, L ++ [.lst ((srtS bs).map .str)]) := by
  simp only [oSortedS, lstOf, seqL_at h, Option.bind, strsW_map, if_pos h0]
/-! ### names -/
def letters : Str := "abcdefghijklmnopqrstuvwxyz"
def nameB (s : Str) : Bool := decide (1 ≤ s.length ∧ s.length ≤ 8) && s.cps.toList.all fun c => strIn ⟨#[c]⟩ letters
theorem is_name_ok {s : Str} {L : LH} (h : s.length ≤ 16777216) : Ev (f_is_name [.str s] L) fun w L' => w = .bl (nameB s) ∧ L <+: L' := by
  have e : kitB "str" "str" = some true := rfl
  have ln : oLen [.str s] L = some (.int s.length, L) := oLen_eq (by simp only [lenW, if_pos h])
  have ty : tyName (.str s) L = some "str" := rfl
  simp only [f_is_name, wipeE, ev_ok, ev_bind, ev_only, ev_ofO, ev_ofOB, ev_ite, evs_ite, evo_some, evs_toS, evs_seq, ev_C, ev_var, ev_op2, ev_op1, ev_opL, ev_nil, ev_cons, ev_call, ev_bVal, ev_bTru, ev_bNot, ev_bAnd, ev_bOr, ev_bYes, ev_cIf, ev_cNot, ev_cAnd, ev_cOr, ev_chain, ev_part_none, ev_part_some, ev_sl, ev_mth, evs_skip, evs_set, evs_ret, evs_expr, evs_if, evs_par, evs_as, ev_gN, ev_gsNil, ev_gsCons, ev_gTup, ev_gIx, evs_aug, ev_defF, evs_for, ev_rng1, ev_iSeq, ev_lc, o_addI, o_subI, o_addS, o_addT, o_mulI, o_modI, o_divI, o_powI, o_cmpI, o_intI, o_intB, o_absI, o_lst, o_tup, bl_bl, List.map_cons, List.map_nil, List.cons_append, List.nil_append, List.append_nil, List.getElem?_cons_zero, List.getElem?_cons_succ, List.set_cons_zero, List.set_cons_succ, List.length_cons, List.length_nil, List.replicate, Nat.reduceAdd, Nat.reduceSub, Nat.reduceLeDiff, true_and, and_true, if_true, decide_eq_true_eq, Nat.zero_add, isi_of ty, e, truW, ln, oLe, o_cmpI]
  by_cases h1 : 1 ≤ s.length
  · have h1' : (1 : Int) ≤ s.length := by omega
    simp only [h1', decide_true, if_true]
    by_cases h2 : s.length ≤ 8
    · have h2' : (s.length : Int) ≤ 8 := by omega
      simp only [h2', decide_true, if_true, srcOf]
      have hS : SrcIs ⟨s.cps.size, fun _ i => some ((s.cps[i]?).map fun c => W.str ⟨#[c]⟩)⟩ L (s.cps.toList.map fun c => W.str ⟨#[c]⟩) := by
        refine ⟨by simp, fun L' _ i => ?_⟩
        simp
      refine (lc_pure (g := fun w => match w with | .str x => .bl (strIn x letters) | _ => .non) hS (by simp; exact Nat.le_trans h2 (by decide)) fun w hw L' pr => ?_).mono fun acc L' q => ?_
      · obtain ⟨c, hc, rfl⟩ := List.mem_map.mp hw
        simp only [wipeE, ev_ok, ev_bind, ev_only, ev_ofO, ev_ofOB, ev_ite, evs_ite, evo_some, evs_toS, evs_seq, ev_C, ev_var, ev_op2, ev_op1, ev_opL, ev_nil, ev_cons, ev_call, ev_bVal, ev_bTru, ev_bNot, ev_bAnd, ev_bOr, ev_bYes, ev_cIf, ev_cNot, ev_cAnd, ev_cOr, ev_chain, ev_part_none, ev_part_some, ev_sl, ev_mth, evs_skip, evs_set, evs_ret, evs_expr, evs_if, evs_par, evs_as, ev_gN, ev_gsNil, ev_gsCons, ev_gTup, ev_gIx, evs_aug, ev_defF, evs_for, ev_rng1, ev_iSeq, ev_lc, o_addI, o_subI, o_addS, o_addT, o_mulI, o_modI, o_divI, o_powI, o_cmpI, o_intI, o_intB, o_absI, o_lst, o_tup, bl_bl, List.map_cons, List.map_nil, List.cons_append, List.nil_append, List.append_nil, List.getElem?_cons_zero, List.getElem?_cons_succ, List.set_cons_zero, List.set_cons_succ, List.length_cons, List.length_nil, List.replicate, Nat.reduceAdd, Nat.reduceSub, Nat.reduceLeDiff, true_and, and_true, if_true, decide_eq_true_eq, Nat.zero_add]
        exact ⟨rfl, List.prefix_refl _⟩
      · obtain ⟨rfl, pr⟩ := q
        have : (List.map (fun w => match w with | .str x => W.bl (strIn x letters) | _ => .non) (List.map (fun c => W.str ⟨#[c]⟩) s.cps.toList)) = (s.cps.toList.map fun c => strIn ⟨#[c]⟩ letters).map .bl := by
          rw [List.map_map, List.map_map]; rfl
        rw [this, all_at at_last, evo_some]
        refine ⟨?_, pr.trans pre_last⟩
        unfold nameB
        rw [show decide (1 ≤ s.length ∧ s.length ≤ 8) = true from by simp [h1, h2], Bool.true_and, List.all_map]
        rfl
    · have h2' : ¬ (s.length : Int) ≤ 8 := by omega
      simp only [h2', decide_false, Bool.false_eq_true, if_false]
      refine ⟨?_, List.prefix_refl _⟩
      unfold nameB
      rw [show decide (1 ≤ s.length ∧ s.length ≤ 8) = false from by simp [h2], Bool.false_and]
  · have h1' : ¬ (1 : Int) ≤ s.length := by omega
    simp only [h1', decide_false, Bool.false_eq_true, if_false, truW]
    refine ⟨?_, List.prefix_refl _⟩
    unfold nameB
    rw [show decide (1 ≤ s.length ∧ s.length ≤ 8) = false from by simp [h1], Bool.false_and]
/-! ### forms -/
theorem so_tick : PyData.strOk "tick" = true := by decide +kernel
theorem so_arg : PyData.strOk "arg" = true := by decide +kernel
theorem so_cell : PyData.strOk "cell" = true := by decide +kernel
theorem so_call : PyData.strOk "call" = true := by decide +kernel
theorem so_plus : PyData.strOk "plus" = true := by decide +kernel
theorem so_less : PyData.strOk "less" = true := by decide +kernel
theorem so_same : PyData.strOk "same" = true := by decide +kernel
theorem so_if : PyData.strOk "if" = true := by decide +kernel
theorem kindOf_inv {w : W} {kd : Str} {n : Int} (h : kindOf w kd n = true) : ∃ r, w = .tup (.str kd :: r) ∧ (r.length : Int) + 1 = n := by
  unfold kindOf at h
  split at h
  · rename_i s r
    rw [Bool.and_eq_true, beq_iff_eq, beq_iff_eq] at h
    exact ⟨r, by rw [h.2], h.1⟩
  · cases h
def c_is_between : Fn := f_is_between f_is_integer
def c_is_value : Fn := f_is_value c_is_between
def c_has_form : Fn := f_has_form c_is_value f_has_kind c_is_between f_is_name
theorem is_value_ok {w : W} {t : String} {L : LH} (h : tyName w L = some t) : c_is_value [w] L = .ok (.bl (btw w 0 2)) L := by
  have := is_between_ok (lo := 0) (hi := 2) h
  simp only [c_is_value, f_is_value, defF, sRet, sSeq, sIf, sSet, sSkip, cAnd, cOr, cNot, cIf, cCall, cCons, cNil, cVar, cC, cOpL, cOp2, bVal, bTru, bNot, bAnd, bOr, cChain, Res.bind, Res.toS, ofO, ofOB, blW, truW, List.length_cons, List.length_nil, if_true, List.map_cons, List.map_nil, Nat.sub_self, List.replicate, List.append_nil, List.cons_append, List.nil_append, List.getElem?_cons_zero, List.getElem?_cons_succ, Nat.zero_add, Nat.reduceAdd, Nat.reduceSub]
  rw [show c_is_between = f_is_between f_is_integer from rfl, this]
theorem ix_tup {ws : List W} {i : Nat} {w : W} {L : LH} (h : ws[i]? = some w) : oIx (.tup ws) (.int i) L = some (w, L) := by
  unfold oIx
  show oIxS _ _ _ = _
  unfold oIxS
  simp only [seqW, atI_nat h, Option.map]
theorem ix_tup0 {x : W} {r : List W} {L : LH} : oIx (.tup (x :: r)) (.int 0) L = some (x, L) := ix_tup (i := 0) rfl
theorem ix_tup1 {x y : W} {r : List W} {L : LH} : oIx (.tup (x :: y :: r)) (.int 1) L = some (y, L) := ix_tup (i := 1) rfl
theorem ix_tup2 {x y z : W} {r : List W} {L : LH} : oIx (.tup (x :: y :: z :: r)) (.int 2) L = some (z, L) := ix_tup (i := 2) rfl
def argB (many : Int) : W → Bool
  | .tup [_, x] => btw x 0 (many - 1)
  | _ => false
def cellB : W → Bool
  | .tup [_, .str s] => nameB s
  | _ => false
def callB : W → Bool
  | .tup [_, .str s, .tup ks] => nameB s && decide (ks.length ≤ 2)
  | _ => false
def formB (many : Int) (w : W) : Bool :=
  if (btw w 0 2 || kindOf w "tick" 1) = true then true else if kindOf w "arg" 2 = true then argB many w else if kindOf w "cell" 2 = true then cellB w else if kindOf w "call" 3 = true then callB w
  else (kindOf w "plus" 3 || (kindOf w "less" 3 || kindOf w "same" 3)) || kindOf w "if" 4
structure FK (L : LH) (w : W) : Prop where
  hk : HK L w
  arg : ∀ y, w = .tup [.str "arg", y] → ∃ t, tyName y L = some t
  cell : ∀ y, w = .tup [.str "cell", y] → ∃ s, y = .str s ∧ s.length ≤ 16777216
  call : ∀ y z, w = .tup [.str "call", y, z] → (∃ s, y = .str s ∧ s.length ≤ 16777216) ∧ ∃ t, tyName z L = some t
theorem HK.mono {L L' : LH} {w : W} (h : HK L w) (p : L <+: L') : HK L' w := by
  have ty : ∀ {w : W} {t : String}, tyName w L = some t → tyName w L' = some t := fun {w t} e => by
    cases w with
    | ref n =>
      simp only [tyName] at e ⊢
      split at e
      · rename_i xs e1; rw [pre_at p e1]; exact e
      · rename_i xs e1; rw [pre_at p e1]; exact e
      · cases e
    | _ => exact e
  exact ⟨h.ty.imp fun t e => ty e, fun x r e => ⟨(h.fst x r e).1.imp fun t e => ty e, (h.fst x r e).2⟩⟩
theorem ev_has_kind {w : W} {L : LH} {kd : Str} {n : Int} {Q : W → LH → Prop} (h : HK L w) (hk : PyData.strOk kd = true) (hn : 1 ≤ n) : Ev (f_has_kind [w, .str kd, .int n] L) Q = Q (.bl (kindOf w kd n)) L := by
  rw [has_kind_ok h hk hn, ev_ok]
theorem len2 {r : List W} (h : (r.length : Int) + 1 = 2) : ∃ y, r = [y] := by
  match r with
  | [y] => exact ⟨y, rfl⟩
  | [] => simp at h
  | _ :: _ :: _ => simp at h; omega
theorem len3 {r : List W} (h : (r.length : Int) + 1 = 3) : ∃ y z, r = [y, z] := by
  match r with
  | [y, z] => exact ⟨y, z, rfl⟩
  | [] => simp at h
  | [_] => simp at h
  | _ :: _ :: _ :: _ => simp at h; omega
theorem has_form_ok {w : W} {L : LH} {many : Int} (h : FK L w) : Ev (c_has_form [w, .int many] L) fun v L' => v = .bl (formB many w) ∧ L <+: L' := by
  obtain ⟨t, ht⟩ := h.hk.ty
  simp only [c_has_form, f_has_form, wipeE, ev_ok, ev_bind, ev_only, ev_ofO, ev_ofOB, ev_ite, evs_ite, evo_some, evs_toS, evs_seq, ev_C, ev_var, ev_op2, ev_op1, ev_opL, ev_nil, ev_cons, ev_call, ev_bVal, ev_bTru, ev_bNot, ev_bAnd, ev_bOr, ev_bYes, ev_cIf, ev_cNot, ev_cAnd, ev_cOr, ev_chain, ev_part_none, ev_part_some, ev_sl, ev_mth, evs_skip, evs_set, evs_ret, evs_expr, evs_if, evs_par, evs_as, ev_gN, ev_gsNil, ev_gsCons, ev_gTup, ev_gIx, evs_aug, ev_defF, evs_for, ev_rng1, ev_iSeq, ev_lc, o_addI, o_subI, o_addS, o_addT, o_mulI, o_modI, o_divI, o_powI, o_cmpI, o_intI, o_intB, o_absI, o_lst, o_tup, bl_bl, List.map_cons, List.map_nil, List.cons_append, List.nil_append, List.append_nil, List.getElem?_cons_zero, List.getElem?_cons_succ, List.set_cons_zero, List.set_cons_succ, List.length_cons, List.length_nil, List.replicate, Nat.reduceAdd, Nat.reduceSub, Nat.reduceLeDiff, true_and, and_true, if_true, decide_eq_true_eq, Nat.zero_add, is_value_ok ht, truW, ev_has_kind h.hk so_tick (show (1 : Int) ≤ 1 by decide), ev_has_kind h.hk so_arg (show (1 : Int) ≤ 2 by decide), ev_has_kind h.hk so_cell (show (1 : Int) ≤ 2 by decide), ev_has_kind h.hk so_call (show (1 : Int) ≤ 3 by decide)]
  unfold formB
  by_cases h1 : btw w 0 2 = true
  · rw [h1]; simp
  simp only [Bool.not_eq_true] at h1
  rw [h1]
  by_cases h2 : kindOf w "tick" 1 = true
  · rw [h2]; simp
  simp only [Bool.not_eq_true] at h2
  simp only [h2, Bool.or_false, Bool.false_eq_true, if_false]
  by_cases h3 : kindOf w "arg" 2 = true
  · obtain ⟨r, rfl, hr⟩ := kindOf_inv h3
    obtain ⟨y, rfl⟩ := len2 hr
    obtain ⟨t', hy⟩ := h.arg y rfl
    simp only [h3, if_true, ix_tup1, evo_some]
    rw [show c_is_between = f_is_between f_is_integer from rfl, is_between_ok hy, ev_ok]
    exact ⟨rfl, List.prefix_refl _⟩
  simp only [Bool.not_eq_true] at h3
  simp only [h3, Bool.false_eq_true, if_false]
  by_cases h4 : kindOf w "cell" 2 = true
  · obtain ⟨r, rfl, hr⟩ := kindOf_inv h4
    obtain ⟨y, rfl⟩ := len2 hr
    obtain ⟨s, rfl, hs⟩ := h.cell y rfl
    simp only [h4, if_true, ix_tup1, evo_some]
    exact is_name_ok hs
  simp only [Bool.not_eq_true] at h4
  simp only [h4, Bool.false_eq_true, if_false]
  by_cases h5 : kindOf w "call" 3 = true
  · obtain ⟨r, rfl, hr⟩ := kindOf_inv h5
    obtain ⟨y, z, rfl⟩ := len3 hr
    obtain ⟨⟨s, rfl, hs⟩, t2, hz⟩ := h.call y z rfl
    simp only [h5, if_true, ix_tup1, evo_some]
    refine (is_name_ok hs).mono fun v L' q => ?_
    obtain ⟨rfl, pr⟩ := q
    simp only
    cases hn : nameB s with
    | false =>
      simp only [Bool.false_eq_true, if_false]
      refine ⟨?_, pr⟩
      unfold callB
      split
      · rename_i e; cases e; rw [hn]; rfl
      · rfl
    | true =>
      simp only [if_true, ix_tup2, evo_some]
      cases z with
      | tup ks =>
        have ty : tyName (.tup ks) L' = some "tuple" := rfl
        have e : kitB "tuple" "tuple" = some true := rfl
        have ln : oLen [.tup ks] L' = some (.int ks.length, L') := oLen_eq rfl
        simp only [isi_of ty, e, if_true, ix_tup2, evo_some, ln, oLe, o_cmpI]
        refine ⟨?_, pr⟩
        show W.bl (decide ((ks.length : Int) ≤ 2)) = .bl (nameB s && decide (ks.length ≤ 2))
        rw [hn, Bool.true_and]
        congr 1
        rw [decide_eq_decide]; omega
      | ref m =>
        have hz' := hz
        simp only [tyName] at hz'
        split at hz'
        · rename_i xs e1
          have ty : tyName (.ref m) L' = some "list" := by simp only [tyName, pre_at pr e1]
          have e : kitB "list" "tuple" = some false := rfl
          simp only [isi_of ty, e, Bool.false_eq_true, if_false]
          exact ⟨rfl, pr⟩
        · rename_i xs e1
          have ty : tyName (.ref m) L' = some "dict" := by simp only [tyName, pre_at pr e1]
          have e : kitB "dict" "tuple" = some false := rfl
          simp only [isi_of ty, e, Bool.false_eq_true, if_false]
          exact ⟨rfl, pr⟩
        · cases hz'
      | non =>
        have ty : tyName .non L' = some "NoneType" := rfl
        have e : kitB "NoneType" "tuple" = some false := rfl
        simp only [isi_of ty, e, Bool.false_eq_true, if_false]
        exact ⟨rfl, pr⟩
      | bl b =>
        have ty : tyName (.bl b) L' = some "bool" := rfl
        have e : kitB "bool" "tuple" = some false := rfl
        simp only [isi_of ty, e, Bool.false_eq_true, if_false]
        exact ⟨rfl, pr⟩
      | int b =>
        have ty : tyName (.int b) L' = some "int" := rfl
        have e : kitB "int" "tuple" = some false := rfl
        simp only [isi_of ty, e, Bool.false_eq_true, if_false]
        exact ⟨rfl, pr⟩
      | str b =>
        have ty : tyName (.str b) L' = some "str" := rfl
        have e : kitB "str" "tuple" = some false := rfl
        simp only [isi_of ty, e, Bool.false_eq_true, if_false]
        exact ⟨rfl, pr⟩
      | _ => cases hz
  simp only [Bool.not_eq_true] at h5
  simp only [h5, Bool.false_eq_true, if_false]
  have hS : SrcIs ⟨[W.str "plus", W.str "less", W.str "same"].length, fun _ i => some [W.str "plus", W.str "less", W.str "same"][i]?⟩ L [W.str "plus", W.str "less", W.str "same"] := srcIs_tup
  simp only [srcOf]
  refine (lc_pure (g := fun v => match v with | .str x => .bl (kindOf w x 3) | _ => .non) hS (by decide) fun v hv L' pr => ?_).mono fun acc L' q => ?_
  · have hk := h.hk.mono pr
    simp only [List.mem_cons, List.mem_nil_iff, or_false] at hv
    rcases hv with rfl | rfl | rfl
    · simp only [wipeE, ev_ok, ev_bind, ev_only, ev_ofO, ev_ofOB, ev_ite, evs_ite, evo_some, evs_toS, evs_seq, ev_C, ev_var, ev_op2, ev_op1, ev_opL, ev_nil, ev_cons, ev_call, ev_bVal, ev_bTru, ev_bNot, ev_bAnd, ev_bOr, ev_bYes, ev_cIf, ev_cNot, ev_cAnd, ev_cOr, ev_chain, ev_part_none, ev_part_some, ev_sl, ev_mth, evs_skip, evs_set, evs_ret, evs_expr, evs_if, evs_par, evs_as, ev_gN, ev_gsNil, ev_gsCons, ev_gTup, ev_gIx, evs_aug, ev_defF, evs_for, ev_rng1, ev_iSeq, ev_lc, o_addI, o_subI, o_addS, o_addT, o_mulI, o_modI, o_divI, o_powI, o_cmpI, o_intI, o_intB, o_absI, o_lst, o_tup, bl_bl, List.map_cons, List.map_nil, List.cons_append, List.nil_append, List.append_nil, List.getElem?_cons_zero, List.getElem?_cons_succ, List.set_cons_zero, List.set_cons_succ, List.length_cons, List.length_nil, List.replicate, Nat.reduceAdd, Nat.reduceSub, Nat.reduceLeDiff, true_and, and_true, if_true, decide_eq_true_eq, Nat.zero_add, ev_has_kind hk so_plus (show (1 : Int) ≤ 3 by decide)]; exact List.prefix_refl _
    · simp only [wipeE, ev_ok, ev_bind, ev_only, ev_ofO, ev_ofOB, ev_ite, evs_ite, evo_some, evs_toS, evs_seq, ev_C, ev_var, ev_op2, ev_op1, ev_opL, ev_nil, ev_cons, ev_call, ev_bVal, ev_bTru, ev_bNot, ev_bAnd, ev_bOr, ev_bYes, ev_cIf, ev_cNot, ev_cAnd, ev_cOr, ev_chain, ev_part_none, ev_part_some, ev_sl, ev_mth, evs_skip, evs_set, evs_ret, evs_expr, evs_if, evs_par, evs_as, ev_gN, ev_gsNil, ev_gsCons, ev_gTup, ev_gIx, evs_aug, ev_defF, evs_for, ev_rng1, ev_iSeq, ev_lc, o_addI, o_subI, o_addS, o_addT, o_mulI, o_modI, o_divI, o_powI, o_cmpI, o_intI, o_intB, o_absI, o_lst, o_tup, bl_bl, List.map_cons, List.map_nil, List.cons_append, List.nil_append, List.append_nil, List.getElem?_cons_zero, List.getElem?_cons_succ, List.set_cons_zero, List.set_cons_succ, List.length_cons, List.length_nil, List.replicate, Nat.reduceAdd, Nat.reduceSub, Nat.reduceLeDiff, true_and, and_true, if_true, decide_eq_true_eq, Nat.zero_add, ev_has_kind hk so_less (show (1 : Int) ≤ 3 by decide)]; exact List.prefix_refl _
    · simp only [wipeE, ev_ok, ev_bind, ev_only, ev_ofO, ev_ofOB, ev_ite, evs_ite, evo_some, evs_toS, evs_seq, ev_C, ev_var, ev_op2, ev_op1, ev_opL, ev_nil, ev_cons, ev_call, ev_bVal, ev_bTru, ev_bNot, ev_bAnd, ev_bOr, ev_bYes, ev_cIf, ev_cNot, ev_cAnd, ev_cOr, ev_chain, ev_part_none, ev_part_some, ev_sl, ev_mth, evs_skip, evs_set, evs_ret, evs_expr, evs_if, evs_par, evs_as, ev_gN, ev_gsNil, ev_gsCons, ev_gTup, ev_gIx, evs_aug, ev_defF, evs_for, ev_rng1, ev_iSeq, ev_lc, o_addI, o_subI, o_addS, o_addT, o_mulI, o_modI, o_divI, o_powI, o_cmpI, o_intI, o_intB, o_absI, o_lst, o_tup, bl_bl, List.map_cons, List.map_nil, List.cons_append, List.nil_append, List.append_nil, List.getElem?_cons_zero, List.getElem?_cons_succ, List.set_cons_zero, List.set_cons_succ, List.length_cons, List.length_nil, List.replicate, Nat.reduceAdd, Nat.reduceSub, Nat.reduceLeDiff, true_and, and_true, if_true, decide_eq_true_eq, Nat.zero_add, ev_has_kind hk so_same (show (1 : Int) ≤ 3 by decide)]; exact List.prefix_refl _
  · obtain ⟨rfl, pr⟩ := q
    have e : (List.map (fun v => match v with | .str x => W.bl (kindOf w x 3) | _ => .non) [W.str "plus", W.str "less", W.str "same"]) = [kindOf w "plus" 3, kindOf w "less" 3, kindOf w "same" 3].map .bl := rfl
    rw [e, any_at at_last, evo_some]
    have pr2 : L <+: L' ++ [.lst ([kindOf w "plus" 3, kindOf w "less" 3, kindOf w "same" 3].map .bl)] := pr.trans pre_last
    simp only [truW, List.any_cons, List.any_nil, Bool.or_false, id]
    cases hb : (kindOf w "plus" 3 || (kindOf w "less" 3 || kindOf w "same" 3)) with
    | true => simp only [if_true, Bool.true_or]; exact ⟨by first | rfl | trivial, pr2⟩
    | false =>
      simp only [Bool.false_eq_true, if_false, Bool.false_or]
      rw [ev_has_kind (h.hk.mono pr2) so_if (by decide)]
      exact ⟨rfl, pr2⟩
end Z

/-! ZU: terms. -/
namespace Z
open PySem PySem.Spec PyProof.Rows L2
@[simp] theorem sn_arg_cell : (Str.ofString "arg" = Str.ofString "cell") = False := eq_false (by decide +kernel)
@[simp] theorem sn_arg_tick : (Str.ofString "arg" = Str.ofString "tick") = False := eq_false (by decide +kernel)
@[simp] theorem sn_arg_call : (Str.ofString "arg" = Str.ofString "call") = False := eq_false (by decide +kernel)
@[simp] theorem sn_arg_if : (Str.ofString "arg" = Str.ofString "if") = False := eq_false (by decide +kernel)
@[simp] theorem sn_arg_plus : (Str.ofString "arg" = Str.ofString "plus") = False := eq_false (by decide +kernel)
@[simp] theorem sn_arg_less : (Str.ofString "arg" = Str.ofString "less") = False := eq_false (by decide +kernel)
@[simp] theorem sn_arg_same : (Str.ofString "arg" = Str.ofString "same") = False := eq_false (by decide +kernel)
@[simp] theorem sn_cell_arg : (Str.ofString "cell" = Str.ofString "arg") = False := eq_false (by decide +kernel)
@[simp] theorem sn_cell_tick : (Str.ofString "cell" = Str.ofString "tick") = False := eq_false (by decide +kernel)
@[simp] theorem sn_cell_call : (Str.ofString "cell" = Str.ofString "call") = False := eq_false (by decide +kernel)
@[simp] theorem sn_cell_if : (Str.ofString "cell" = Str.ofString "if") = False := eq_false (by decide +kernel)
@[simp] theorem sn_cell_plus : (Str.ofString "cell" = Str.ofString "plus") = False := eq_false (by decide +kernel)
@[simp] theorem sn_cell_less : (Str.ofString "cell" = Str.ofString "less") = False := eq_false (by decide +kernel)
@[simp] theorem sn_cell_same : (Str.ofString "cell" = Str.ofString "same") = False := eq_false (by decide +kernel)
@[simp] theorem sn_tick_arg : (Str.ofString "tick" = Str.ofString "arg") = False := eq_false (by decide +kernel)
@[simp] theorem sn_tick_cell : (Str.ofString "tick" = Str.ofString "cell") = False := eq_false (by decide +kernel)
@[simp] theorem sn_tick_call : (Str.ofString "tick" = Str.ofString "call") = False := eq_false (by decide +kernel)
@[simp] theorem sn_tick_if : (Str.ofString "tick" = Str.ofString "if") = False := eq_false (by decide +kernel)
@[simp] theorem sn_tick_plus : (Str.ofString "tick" = Str.ofString "plus") = False := eq_false (by decide +kernel)
@[simp] theorem sn_tick_less : (Str.ofString "tick" = Str.ofString "less") = False := eq_false (by decide +kernel)
@[simp] theorem sn_tick_same : (Str.ofString "tick" = Str.ofString "same") = False := eq_false (by decide +kernel)
@[simp] theorem sn_call_arg : (Str.ofString "call" = Str.ofString "arg") = False := eq_false (by decide +kernel)
@[simp] theorem sn_call_cell : (Str.ofString "call" = Str.ofString "cell") = False := eq_false (by decide +kernel)
@[simp] theorem sn_call_tick : (Str.ofString "call" = Str.ofString "tick") = False := eq_false (by decide +kernel)
@[simp] theorem sn_call_if : (Str.ofString "call" = Str.ofString "if") = False := eq_false (by decide +kernel)
@[simp] theorem sn_call_plus : (Str.ofString "call" = Str.ofString "plus") = False := eq_false (by decide +kernel)
@[simp] theorem sn_call_less : (Str.ofString "call" = Str.ofString "less") = False := eq_false (by decide +kernel)
@[simp] theorem sn_call_same : (Str.ofString "call" = Str.ofString "same") = False := eq_false (by decide +kernel)
@[simp] theorem sn_if_arg : (Str.ofString "if" = Str.ofString "arg") = False := eq_false (by decide +kernel)
@[simp] theorem sn_if_cell : (Str.ofString "if" = Str.ofString "cell") = False := eq_false (by decide +kernel)
@[simp] theorem sn_if_tick : (Str.ofString "if" = Str.ofString "tick") = False := eq_false (by decide +kernel)
@[simp] theorem sn_if_call : (Str.ofString "if" = Str.ofString "call") = False := eq_false (by decide +kernel)
@[simp] theorem sn_if_plus : (Str.ofString "if" = Str.ofString "plus") = False := eq_false (by decide +kernel)
@[simp] theorem sn_if_less : (Str.ofString "if" = Str.ofString "less") = False := eq_false (by decide +kernel)
@[simp] theorem sn_if_same : (Str.ofString "if" = Str.ofString "same") = False := eq_false (by decide +kernel)
@[simp] theorem sn_plus_arg : (Str.ofString "plus" = Str.ofString "arg") = False := eq_false (by decide +kernel)
@[simp] theorem sn_plus_cell : (Str.ofString "plus" = Str.ofString "cell") = False := eq_false (by decide +kernel)
@[simp] theorem sn_plus_tick : (Str.ofString "plus" = Str.ofString "tick") = False := eq_false (by decide +kernel)
@[simp] theorem sn_plus_call : (Str.ofString "plus" = Str.ofString "call") = False := eq_false (by decide +kernel)
@[simp] theorem sn_plus_if : (Str.ofString "plus" = Str.ofString "if") = False := eq_false (by decide +kernel)
@[simp] theorem sn_plus_less : (Str.ofString "plus" = Str.ofString "less") = False := eq_false (by decide +kernel)
@[simp] theorem sn_plus_same : (Str.ofString "plus" = Str.ofString "same") = False := eq_false (by decide +kernel)
@[simp] theorem sn_less_arg : (Str.ofString "less" = Str.ofString "arg") = False := eq_false (by decide +kernel)
@[simp] theorem sn_less_cell : (Str.ofString "less" = Str.ofString "cell") = False := eq_false (by decide +kernel)
@[simp] theorem sn_less_tick : (Str.ofString "less" = Str.ofString "tick") = False := eq_false (by decide +kernel)
@[simp] theorem sn_less_call : (Str.ofString "less" = Str.ofString "call") = False := eq_false (by decide +kernel)
@[simp] theorem sn_less_if : (Str.ofString "less" = Str.ofString "if") = False := eq_false (by decide +kernel)
@[simp] theorem sn_less_plus : (Str.ofString "less" = Str.ofString "plus") = False := eq_false (by decide +kernel)
@[simp] theorem sn_less_same : (Str.ofString "less" = Str.ofString "same") = False := eq_false (by decide +kernel)
@[simp] theorem sn_same_arg : (Str.ofString "same" = Str.ofString "arg") = False := eq_false (by decide +kernel)
@[simp] theorem sn_same_cell : (Str.ofString "same" = Str.ofString "cell") = False := eq_false (by decide +kernel)
@[simp] theorem sn_same_tick : (Str.ofString "same" = Str.ofString "tick") = False := eq_false (by decide +kernel)
@[simp] theorem sn_same_call : (Str.ofString "same" = Str.ofString "call") = False := eq_false (by decide +kernel)
@[simp] theorem sn_same_if : (Str.ofString "same" = Str.ofString "if") = False := eq_false (by decide +kernel)
@[simp] theorem sn_same_plus : (Str.ofString "same" = Str.ofString "plus") = False := eq_false (by decide +kernel)
@[simp] theorem sn_same_less : (Str.ofString "same" = Str.ofString "less") = False := eq_false (by decide +kernel)
theorem cutW_tail {x : W} {r : List W} : cutW (x :: r) (some 1) none = r := by
  unfold cutW
  have h1 : HT.sIx (x :: r).length 0 (some 1) = 1 := by
    have := HT.sIx_nat (x :: r).length 0 1
    rw [show ((1 : Nat) : Int) = 1 from rfl] at this
    rw [this, List.length_cons]; omega
  have h2 : HT.sIx (x :: r).length (x :: r).length none = r.length + 1 := rfl
  rw [h1, h2]
  show List.take (r.length + 1 - 1) r = r
  rw [Nat.add_sub_cancel, List.take_length]
/-- the terms within -/
def innerW : W → Option (List W)
  | .tup (.str s :: r) => if s = "call" then (match r with | [_, .tup ks] => some ks | _ => none) else if s = "plus" ∨ s = "less" ∨ s = "same" ∨ s = "if" then some r else some []
  | .int _ => some []
  | _ => none
theorem inner_ok {w : W} {ks : List W} {L : LH} (h : innerW w = some ks) (hs : ∀ s r, w = .tup (.str s :: r) → PyData.strOk s = true) : f_inner_terms [w] L = .ok (.tup ks) L := by
  unfold innerW at h
  split at h
  · rename_i s r
    have ho := hs s r rfl
    have ty : tyName (.tup (.str s :: r)) L = some "tuple" := rfl
    have e : kitB "tuple" "tuple" = some true := rfl
    simp only [f_inner_terms, defF, sRet, sSeq, sIf, sSet, sSkip, cAnd, cOr, cNot, cIf, cCall, cCons, cNil, cVar, cC, cOpL, cOp2, bVal, bTru, bNot, bAnd, bOr, cChain, Res.bind, Res.toS, ofO, ofOB, blW, truW, List.length_cons, List.length_nil, if_true, List.map_cons, List.map_nil, Nat.sub_self, List.replicate, List.append_nil, List.cons_append, List.nil_append, List.getElem?_cons_zero, List.getElem?_cons_succ, Nat.zero_add, Nat.reduceAdd, Nat.reduceSub, oIsi, ty, e, Option.map, List.isEmpty, Bool.not_false, Bool.not_true, Bool.false_eq_true, if_false, ix_tup0, oEq, eqX_ss ho so_call, oB]
    by_cases hc : s = "call"
    · rw [if_pos hc] at h
      split at h
      · cases h
        simp only [hc, beq_self_eq_true, if_true, ix_tup2]
      · cases h
    · rw [if_neg hc] at h
      have hb : (s == ("call" : Str)) = false := beq_eq_false_iff_ne.mpr hc
      simp only [hb, Bool.false_eq_true, if_false]
      have hin : oInD (.str s) (.tup [.str "plus", .str "less", .str "same"]) L = some (.bl (decide (s = "plus" ∨ s = "less" ∨ s = "same")), L) := by
        show some (W.bl ((("plus" : Str) == s) || ((("less" : Str) == s) || ((("same" : Str) == s) || false))), L) = _
        have c : ∀ a : Str, (a == s) = decide (s = a) := fun a => by rw [Bool.eq_iff_iff, beq_iff_eq, decide_eq_true_eq]; exact eq_comm
        rw [c, c, c, Bool.or_false, Bool.decide_or, Bool.decide_or]
      simp only [List.getElem?_cons_zero, ix_tup0, hin, eqX_ss ho so_if]
      by_cases hp : s = "plus" ∨ s = "less" ∨ s = "same"
      · rw [if_pos (hp.elim .inl fun q => .inr (q.elim .inl fun q => .inr (.inl q)))] at h
        cases h
        simp only [hp, decide_true, if_true, List.getElem?_cons_zero, ix_tup0, cSl, Res.bind, cPart, cVar, cC, List.getElem?_cons_zero, oSl, ofO, cutW_tail]
      · simp only [hp, decide_false, Bool.false_eq_true, if_false]
        by_cases hi : s = "if"
        · rw [if_pos (.inr (.inr (.inr hi)))] at h
          cases h
          simp only [hi, beq_self_eq_true, if_true, List.getElem?_cons_zero, ix_tup0, cSl, Res.bind, cPart, cVar, cC, List.getElem?_cons_zero, oSl, ofO, cutW_tail]
        · have hno : ¬ (s = "plus" ∨ s = "less" ∨ s = "same" ∨ s = "if") := fun q => by
            rcases q with q | q | q | q
            · exact hp (.inl q)
            · exact hp (.inr (.inl q))
            · exact hp (.inr (.inr q))
            · exact hi q
          rw [if_neg hno] at h
          cases h
          have hb2 : (s == ("if" : Str)) = false := beq_eq_false_iff_ne.mpr hi
          simp only [hb2, Bool.false_eq_true, if_false]
          rfl
  · cases h; rfl
  · cases h
inductive Tm where
  | val (i : Int) | arg (i : Int) | cell (s : Str) | tick | call0 (s : Str) | call2 (s : Str) (a b : Tm) | bin (h : Str) (a b : Tm) | ite (a b c : Tm)
namespace Tm
def enc : Tm → W
  | .val i => .int i
  | .arg i => .tup [.str "arg", .int i]
  | .cell s => .tup [.str "cell", .str s]
  | .tick => .tup [.str "tick"]
  | .call0 s => .tup [.str "call", .str s, .tup []]
  | .call2 s a b => .tup [.str "call", .str s, .tup [a.enc, b.enc]]
  | .bin h a b => .tup [.str h, a.enc, b.enc]
  | .ite a b c => .tup [.str "if", a.enc, b.enc, c.enc]
def kids : Tm → List Tm
  | .call2 _ a b => [a, b]
  | .bin _ a b => [a, b]
  | .ite a b c => [a, b, c]
  | _ => []
structure NameOk (s : Str) : Prop where
  nm : nameB s = true
  so : PyData.strOk s = true
def ok (many : Int) : Tm → Prop
  | .val i => 0 ≤ i ∧ i ≤ 2
  | .arg i => 0 ≤ i ∧ i < many
  | .cell s => NameOk s
  | .tick => True
  | .call0 s => NameOk s
  | .call2 s a b => NameOk s ∧ a.ok many ∧ b.ok many
  | .bin h a b => (h = "plus" ∨ h = "less" ∨ h = "same") ∧ a.ok many ∧ b.ok many
  | .ite a b c => a.ok many ∧ b.ok many ∧ c.ok many
def size : Tm → Nat
  | .call2 _ a b => 1 + (a.size + b.size)
  | .bin _ a b => 1 + (a.size + b.size)
  | .ite a b c => 1 + (a.size + (b.size + c.size))
  | _ => 1
def dep : Tm → Nat
  | .call2 _ a b => 1 + max a.dep b.dep
  | .bin _ a b => 1 + max a.dep b.dep
  | .ite a b c => 1 + max a.dep (max b.dep c.dep)
  | _ => 1
variable {many : Int} {L : LH}
theorem NameOk.len {s : Str} (h : NameOk s) : s.length ≤ 8 := by
  have := h.nm
  unfold nameB at this
  rw [Bool.and_eq_true, decide_eq_true_eq] at this
  exact this.1.2
theorem kids_ok {t k : Tm} (h : t.ok many) (m : k ∈ t.kids) : k.ok many := by
  cases t <;> simp [kids] at m
  · rcases m with rfl | rfl
    · exact h.2.1
    · exact h.2.2
  · rcases m with rfl | rfl
    · exact h.2.1
    · exact h.2.2
  · rcases m with rfl | rfl | rfl
    · exact h.1
    · exact h.2.1
    · exact h.2.2
theorem size_eq (t : Tm) : t.size = 1 + (t.kids.map size).sum := by cases t <;> simp [size, kids]
theorem size_kid {t k : Tm} (m : k ∈ t.kids) : k.size < t.size := by
  cases t <;> simp [kids] at m
  · rcases m with rfl | rfl <;> simp [size] <;> omega
  · rcases m with rfl | rfl <;> simp [size] <;> omega
  · rcases m with rfl | rfl | rfl <;> simp [size] <;> omega
theorem dep_kid {t k : Tm} (m : k ∈ t.kids) : k.dep < t.dep := by
  cases t <;> simp [kids] at m
  · rcases m with rfl | rfl <;> simp [dep] <;> omega
  · rcases m with rfl | rfl <;> simp [dep] <;> omega
  · rcases m with rfl | rfl | rfl <;> simp [dep] <;> omega
theorem dep_pos (t : Tm) : 1 ≤ t.dep := by cases t <;> simp [dep]
theorem size_pos (t : Tm) : 1 ≤ t.size := by cases t <;> simp [size]
theorem so_h {h : Str} (e : h = "plus" ∨ h = "less" ∨ h = "same") : PyData.strOk h = true := by
  rcases e with rfl | rfl | rfl
  · exact so_plus
  · exact so_less
  · exact so_same
theorem enc_head {t : Tm} (h : t.ok many) (s : Str) (r : List W) (e : t.enc = .tup (.str s :: r)) : PyData.strOk s = true := by
  cases t <;> simp [enc] at e
  · obtain ⟨rfl, _⟩ := e; exact so_arg
  · obtain ⟨rfl, _⟩ := e; exact so_cell
  · obtain ⟨rfl, _⟩ := e; exact so_tick
  · obtain ⟨rfl, _⟩ := e; exact so_call
  · obtain ⟨rfl, _⟩ := e; exact so_call
  · obtain ⟨rfl, _⟩ := e; exact so_h h.1
  · obtain ⟨rfl, _⟩ := e; exact so_if
theorem enc_inner {t : Tm} (h : t.ok many) : innerW t.enc = some (t.kids.map enc) := by
  cases t with
  | bin hh a b =>
    have hc : hh ≠ "call" := by rcases h.1 with rfl | rfl | rfl <;> decide +kernel
    show (if hh = "call" then _ else _) = _
    rw [if_neg hc, if_pos (h.1.elim .inl fun q => .inr (q.elim .inl fun q => .inr (.inl q)))]
    rfl
  | _ => rfl
theorem inner_t {t : Tm} (h : t.ok many) : f_inner_terms [t.enc] L = .ok (.tup (t.kids.map enc)) L := inner_ok (enc_inner h) (enc_head h)
theorem enc_ty (t : Tm) : ∃ ty, tyName t.enc L = some ty := by cases t <;> exact ⟨_, rfl⟩
theorem fk_t {t : Tm} (h : t.ok many) : FK L t.enc := by
  refine ⟨⟨enc_ty t, fun x r e => ⟨?_, fun s es => enc_head h s r (by rw [e, es])⟩⟩, fun y e => ?_, fun y e => ?_, fun y z e => ?_⟩
  · cases t <;> simp [enc] at e <;> obtain ⟨rfl, _⟩ := e <;> exact ⟨_, rfl⟩
  · cases t <;> simp [enc] at e
    · obtain rfl := e; exact ⟨_, rfl⟩
  · cases t <;> simp [enc] at e
    · obtain rfl := e; exact ⟨_, rfl, Nat.le_trans (NameOk.len h) (by decide)⟩
  · cases t <;> simp [enc] at e
    · obtain ⟨rfl, rfl⟩ := e; exact ⟨⟨_, rfl, Nat.le_trans (NameOk.len h) (by decide)⟩, _, rfl⟩
    · obtain ⟨rfl, rfl⟩ := e; exact ⟨⟨_, rfl, Nat.le_trans (NameOk.len h.1) (by decide)⟩, _, rfl⟩
    · have := h.1; obtain ⟨rfl, _⟩ := e; rcases this with q | q | q <;> exact absurd q (by decide +kernel)
theorem form_t {t : Tm} (h : t.ok many) : formB many t.enc = true := by
  cases t with
  | val i =>
    unfold formB
    rw [show btw (enc (.val i)) 0 2 = true from by show (decide (0 ≤ i) && decide (i ≤ 2)) = true; simp [h.1, h.2]]
    rfl
  | arg i =>
    show btw (.int i) 0 (many - 1) = true
    show (decide (0 ≤ i) && decide (i ≤ many - 1)) = true
    have h1 := h.1; have h2 := h.2
    simp [h1]; omega
  | cell s => exact NameOk.nm h
  | tick => rfl
  | call0 s =>
    show (nameB s && decide (0 ≤ 2)) = true
    rw [NameOk.nm h]; rfl
  | call2 s a b =>
    show (nameB s && decide (2 ≤ 2)) = true
    rw [NameOk.nm h.1]; rfl
  | bin hh a b => rcases h.1 with rfl | rfl | rfl <;> rfl
  | ite a b c => rfl
end Tm
end Z

/-! ZV: is_term. -/
namespace Z
open PySem PySem.Spec PyProof.Rows L2
theorem tyName_mono {L L' : LH} (p : L <+: L') {w : W} {t : String} (e : tyName w L = some t) : tyName w L' = some t := by
  cases w with
  | ref n =>
    simp only [tyName] at e ⊢
    split at e
    · rename_i xs e1; rw [pre_at p e1]; exact e
    · rename_i xs e1; rw [pre_at p e1]; exact e
    · cases e
  | _ => exact e
theorem FK.mono {L L' : LH} {w : W} (h : FK L w) (p : L <+: L') : FK L' w :=
  ⟨h.hk.mono p, fun y e => (h.arg y e).imp fun t q => tyName_mono p q, h.cell, fun y z e => ⟨(h.call y z e).1, (h.call y z e).2.imp fun t q => tyName_mono p q⟩⟩
theorem oLen_at {L : LH} {n : Nat} {ws : List W} (h : L[n]? = some (.lst ws)) : oLen [.ref n] L = some (.int ws.length, L) := by
  refine oLen_eq ?_
  simp only [lenW, dicW, h, seqW, seqL_at h, Option.map]
theorem eq_nil {L : LH} {n m : Nat} {ws : List W} (h : L[n]? = some (.lst ws)) (hm : L[m]? = some (.lst [])) : eqX L (.ref n) (.ref m) = some ws.isEmpty := by
  unfold eqX lenDiff
  simp only [seqL_at h, seqL_at hm]
  cases ws with
  | nil =>
    simp only [List.length_nil, bne_self_eq_false, Bool.false_eq_true, if_false]
    unfold eqD toD
    simp only [seqL_at h, seqL_at hm]
    unfold toDs
    rfl
  | cons x r => rfl
theorem seq_at {L : LH} {n : Nat} {ws : List W} (h : L[n]? = some (.lst ws)) : seqW (.ref n) L = some ws := seqL_at h
inductive Bent (L0 : LH) (many : Int) : W → Prop
  | odd {w : W} : FK L0 w → formB many w = false → Bent L0 many w
  | node {w b : W} {pre post : List Tm} : FK L0 w → formB many w = true → innerW w = some (pre.map Tm.enc ++ b :: post.map Tm.enc) → (∀ s r, w = .tup (.str s :: r) → PyData.strOk s = true) → (∀ t ∈ pre, t.ok many) → (∀ t ∈ post, t.ok many) → pre.length + post.length ≤ 3 → Bent L0 many b → Bent L0 many w
def c_is_term : Fn := f_is_term c_has_form f_inner_terms
theorem flatMap_congr' {α β : Type} {f g : α → List β} : ∀ {l : List α}, (∀ x ∈ l, f x = g x) → l.flatMap f = l.flatMap g
  | [], _ => rfl
  | x :: r, h => by
    rw [List.flatMap_cons, List.flatMap_cons, h x List.mem_cons_self, flatMap_congr' fun y hy => h y (List.mem_cons_of_mem _ hy)]
namespace Tm
theorem kids_len (t : Tm) : t.kids.length ≤ 3 := by cases t <;> simp [kids]
theorem sum_kids : ∀ ts : List Tm, (ts.map size).sum = ts.length + ((ts.flatMap kids).map size).sum
  | [] => rfl
  | t :: r => by
    simp only [List.map_cons, List.sum_cons, List.flatMap_cons, List.map_append, List.sum_append, List.length_cons]
    rw [sum_kids r, size_eq t]
    omega
theorem len_le_sum : ∀ ts : List Tm, ts.length ≤ (ts.map size).sum
  | [] => Nat.le_refl _
  | t :: r => by
    have := len_le_sum r
    have := size_pos t
    simp only [List.map_cons, List.sum_cons, List.length_cons]; omega
end Tm
def xAll : Ex := cOpL oAll (cCons (cLc [6] (iSeq (cVar 3)) (CT.one 6) bYes (cCall c_has_form [] (cCons (cVar 6) (cCons (cVar 1) cNil)))) cNil)
def xNext : Ex := cLc2 [5, 6] [6] (iSeq (cVar 3)) (CT.one 5) bYes (iSeq (cCall f_inner_terms [] (cCons (cVar 5) cNil))) (CT.one 6) bYes (cVar 6)
theorem c_is_term_eq : c_is_term = defF 7 2 (sSeq (sPar 3 4 (cCons (cOpL oLst (cCons (cVar 0) cNil)) (cCons (cC (.int 0)) cNil))) (sSeq (sFor (iRng1 (cCons (cC (.int 8)) cNil)) (gN 2) (sSeq (sAug 4 (oAug oAdd) (cOpL oLen (cCons (cVar 3) cNil))) (sSeq (sIf (bOr (bVal (cOp2 oGt (cVar 4) (cC (.int 30)))) (bNot (bTru xAll))) (sRet (cC (.bl false))) sSkip) (sSeq (sSet 3 xNext) (sIf (bVal (cOp2 oEq (cVar 3) (cOpL oLst cNil))) (sRet (cC (.bl true))) sSkip))))) (sRet (cC (.bl false))))) := rfl
/-- what a whole layer's turn leads to -/
theorem all_forms {L : LH} {n : Nat} {ws : List W} {many : Int} {env : Env} (h : L[n]? = some (.lst ws)) (hl : ws.length ≤ 16777216) (he1 : env[1]? = some (some (.int many))) (he3 : env[3]? = some (some (.ref n))) (hlen : env.length = 7) (hf : ∀ w ∈ ws, FK L w) :
    Ev (xAll env L) fun w L' => w = .bl (ws.all (formB many)) ∧ L <+: L' := by
  obtain ⟨S, e1, hS⟩ := srcOf_at h
  simp only [xAll, wipeE, ev_ok, ev_bind, ev_only, ev_ofO, ev_ofOB, ev_ite, evs_ite, evo_some, evs_toS, evs_seq, ev_C, ev_var, ev_op2, ev_op1, ev_opL, ev_nil, ev_cons, ev_call, ev_bVal, ev_bTru, ev_bNot, ev_bAnd, ev_bOr, ev_bYes, ev_cIf, ev_cNot, ev_cAnd, ev_cOr, ev_chain, ev_part_none, ev_part_some, ev_sl, ev_mth, evs_skip, evs_set, evs_ret, evs_expr, evs_if, evs_par, evs_as, ev_gN, ev_gsNil, ev_gsCons, ev_gTup, ev_gIx, evs_aug, ev_defF, evs_for, ev_rng1, ev_iSeq, ev_lc, o_addI, o_subI, o_addS, o_addT, o_mulI, o_modI, o_divI, o_powI, o_cmpI, o_intI, o_intB, o_absI, o_lst, o_tup, bl_bl, List.map_cons, List.map_nil, List.cons_append, List.nil_append, List.append_nil, List.getElem?_cons_zero, List.getElem?_cons_succ, List.set_cons_zero, List.set_cons_succ, List.length_cons, List.length_nil, List.replicate, Nat.reduceAdd, Nat.reduceSub, Nat.reduceLeDiff, true_and, and_true, if_true, decide_eq_true_eq, Nat.zero_add, he3, e1]
  refine (lc_pure (g := fun w => .bl (formB many w)) hS hl fun w hw L' pr => ?_).mono fun acc L' q => ?_
  · have g6 : ((env.set 6 none).set 6 (some w))[6]? = some (some w) := by
      rw [List.getElem?_set_self]; rw [List.length_set]; omega
    have g1 : ((env.set 6 none).set 6 (some w))[1]? = some (some (.int many)) := by
      rw [List.getElem?_set_ne (by decide), List.getElem?_set_ne (by decide)]; exact he1
    simp only [wipeE, ev_ok, ev_bind, ev_only, ev_ofO, ev_ofOB, ev_ite, evs_ite, evo_some, evs_toS, evs_seq, ev_C, ev_var, ev_op2, ev_op1, ev_opL, ev_nil, ev_cons, ev_call, ev_bVal, ev_bTru, ev_bNot, ev_bAnd, ev_bOr, ev_bYes, ev_cIf, ev_cNot, ev_cAnd, ev_cOr, ev_chain, ev_part_none, ev_part_some, ev_sl, ev_mth, evs_skip, evs_set, evs_ret, evs_expr, evs_if, evs_par, evs_as, ev_gN, ev_gsNil, ev_gsCons, ev_gTup, ev_gIx, evs_aug, ev_defF, evs_for, ev_rng1, ev_iSeq, ev_lc, o_addI, o_subI, o_addS, o_addT, o_mulI, o_modI, o_divI, o_powI, o_cmpI, o_intI, o_intB, o_absI, o_lst, o_tup, bl_bl, List.map_cons, List.map_nil, List.cons_append, List.nil_append, List.append_nil, List.getElem?_cons_zero, List.getElem?_cons_succ, List.set_cons_zero, List.set_cons_succ, List.length_cons, List.length_nil, List.replicate, Nat.reduceAdd, Nat.reduceSub, Nat.reduceLeDiff, true_and, and_true, if_true, decide_eq_true_eq, Nat.zero_add, g6, g1]
    exact has_form_ok ((hf w hw).mono pr)
  · obtain ⟨rfl, pr⟩ := q
    have e : ws.map (fun w => W.bl (formB many w)) = (ws.map (formB many)).map .bl := by rw [List.map_map]; rfl
    rw [e, all_at at_last, evo_some]
    refine ⟨?_, pr.trans pre_last⟩
    rw [List.all_map]; rfl
theorem next_layer {L : LH} {n : Nat} {ws : List W} {env : Env} (ks : W → List W) (h : L[n]? = some (.lst ws)) (hl : (ws.flatMap ks).length ≤ 16777216) (he3 : env[3]? = some (some (.ref n))) (hlen : env.length = 7)
    (hf : ∀ w ∈ ws, innerW w = some (ks w) ∧ ∀ s r, w = .tup (.str s :: r) → PyData.strOk s = true) :
    Ev (xNext env L) fun w L' => ∃ m, w = .ref m ∧ L'[m]? = some (.lst (ws.flatMap ks)) ∧ L <+: L' := by
  obtain ⟨S, e1, hS⟩ := srcOf_at h
  simp only [xNext, cLc2, wipeE, ev_ok, ev_bind, ev_only, ev_ofO, ev_ofOB, ev_ite, evs_ite, evo_some, evs_toS, evs_seq, ev_C, ev_var, ev_op2, ev_op1, ev_opL, ev_nil, ev_cons, ev_call, ev_bVal, ev_bTru, ev_bNot, ev_bAnd, ev_bOr, ev_bYes, ev_cIf, ev_cNot, ev_cAnd, ev_cOr, ev_chain, ev_part_none, ev_part_some, ev_sl, ev_mth, evs_skip, evs_set, evs_ret, evs_expr, evs_if, evs_par, evs_as, ev_gN, ev_gsNil, ev_gsCons, ev_gTup, ev_gIx, evs_aug, ev_defF, evs_for, ev_rng1, ev_iSeq, ev_lc, o_addI, o_subI, o_addS, o_addT, o_mulI, o_modI, o_divI, o_powI, o_cmpI, o_intI, o_intB, o_absI, o_lst, o_tup, bl_bl, List.map_cons, List.map_nil, List.cons_append, List.nil_append, List.append_nil, List.getElem?_cons_zero, List.getElem?_cons_succ, List.set_cons_zero, List.set_cons_succ, List.length_cons, List.length_nil, List.replicate, Nat.reduceAdd, Nat.reduceSub, Nat.reduceLeDiff, true_and, and_true, if_true, decide_eq_true_eq, Nat.zero_add, he3, e1]
  have hgo := lc2_pure (j := 5) (j1 := 6) (it1 := iSeq (cCall f_inner_terms [] (cCons (cVar 5) cNil))) (vs1 := [6]) (e := cVar 6) (env := (env.set 6 none).set 5 none) ks hS hl (fun w hw L' pr => ?_) S.len 0 L [] (by rw [hS.1]; omega) (List.prefix_refl _) rfl
  · exact hgo.mono fun acc L' q => by
      obtain ⟨rfl, pr⟩ := q
      exact ⟨_, rfl, at_last, pr.trans pre_last⟩
  · have g5 : ((((env.set 6 none).set 5 none)).set 5 (some w))[5]? = some (some w) := by
      rw [List.getElem?_set_self]; rw [List.length_set, List.length_set]; omega
    obtain ⟨hi, hs⟩ := hf w hw
    simp only [wipeE, ev_ok, ev_bind, ev_only, ev_ofO, ev_ofOB, ev_ite, evs_ite, evo_some, evs_toS, evs_seq, ev_C, ev_var, ev_op2, ev_op1, ev_opL, ev_nil, ev_cons, ev_call, ev_bVal, ev_bTru, ev_bNot, ev_bAnd, ev_bOr, ev_bYes, ev_cIf, ev_cNot, ev_cAnd, ev_cOr, ev_chain, ev_part_none, ev_part_some, ev_sl, ev_mth, evs_skip, evs_set, evs_ret, evs_expr, evs_if, evs_par, evs_as, ev_gN, ev_gsNil, ev_gsCons, ev_gTup, ev_gIx, evs_aug, ev_defF, evs_for, ev_rng1, ev_iSeq, ev_lc, o_addI, o_subI, o_addS, o_addT, o_mulI, o_modI, o_divI, o_powI, o_cmpI, o_intI, o_intB, o_absI, o_lst, o_tup, bl_bl, List.map_cons, List.map_nil, List.cons_append, List.nil_append, List.append_nil, List.getElem?_cons_zero, List.getElem?_cons_succ, List.set_cons_zero, List.set_cons_succ, List.length_cons, List.length_nil, List.replicate, Nat.reduceAdd, Nat.reduceSub, Nat.reduceLeDiff, true_and, and_true, if_true, decide_eq_true_eq, Nat.zero_add, g5, inner_ok hi hs, srcOf]
    refine ⟨List.prefix_refl _, srcIs_tup, fun x hx L3 p3 => ?_⟩
    have g6 : (((((env.set 6 none).set 5 none).set 5 (some w)).set 6 none).set 6 (some x))[6]? = some (some x) := by
      rw [List.getElem?_set_self]; simp only [List.length_set]; omega
    simp only [wipeE, ev_ok, ev_bind, ev_only, ev_ofO, ev_ofOB, ev_ite, evs_ite, evo_some, evs_toS, evs_seq, ev_C, ev_var, ev_op2, ev_op1, ev_opL, ev_nil, ev_cons, ev_call, ev_bVal, ev_bTru, ev_bNot, ev_bAnd, ev_bOr, ev_bYes, ev_cIf, ev_cNot, ev_cAnd, ev_cOr, ev_chain, ev_part_none, ev_part_some, ev_sl, ev_mth, evs_skip, evs_set, evs_ret, evs_expr, evs_if, evs_par, evs_as, ev_gN, ev_gsNil, ev_gsCons, ev_gTup, ev_gIx, evs_aug, ev_defF, evs_for, ev_rng1, ev_iSeq, ev_lc, o_addI, o_subI, o_addS, o_addT, o_mulI, o_modI, o_divI, o_powI, o_cmpI, o_intI, o_intB, o_absI, o_lst, o_tup, bl_bl, List.map_cons, List.map_nil, List.cons_append, List.nil_append, List.append_nil, List.getElem?_cons_zero, List.getElem?_cons_succ, List.set_cons_zero, List.set_cons_succ, List.length_cons, List.length_nil, List.replicate, Nat.reduceAdd, Nat.reduceSub, Nat.reduceLeDiff, true_and, and_true, if_true, decide_eq_true_eq, Nat.zero_add, g6]
    exact List.prefix_refl _
theorem len7 {env : Env} {w m : W} (h : ∃ x2 n p x5 x6, env = [some w, some m, x2, some (.ref n), some (.int p), x5, x6]) : env.length = 7 := by
  obtain ⟨_, _, _, _, _, rfl⟩ := h; rfl
theorem is_term_ok {t : Tm} {many : Int} {L0 : LH} (ht : t.ok many) (hs : t.size ≤ 30) (hd : t.dep ≤ 8) : Ev (c_is_term [t.enc, .int many] L0) fun w L' => w = .bl true ∧ L0 <+: L' := by
  simp only [c_is_term_eq, wipeE, ev_ok, ev_bind, ev_only, ev_ofO, ev_ofOB, ev_ite, evs_ite, evo_some, evs_toS, evs_seq, ev_C, ev_var, ev_op2, ev_op1, ev_opL, ev_nil, ev_cons, ev_call, ev_bVal, ev_bTru, ev_bNot, ev_bAnd, ev_bOr, ev_bYes, ev_cIf, ev_cNot, ev_cAnd, ev_cOr, ev_chain, ev_part_none, ev_part_some, ev_sl, ev_mth, evs_skip, evs_set, evs_ret, evs_expr, evs_if, evs_par, evs_as, ev_gN, ev_gsNil, ev_gsCons, ev_gTup, ev_gIx, evs_aug, ev_defF, evs_for, ev_rng1, ev_iSeq, ev_lc, o_addI, o_subI, o_addS, o_addT, o_mulI, o_modI, o_divI, o_powI, o_cmpI, o_intI, o_intB, o_absI, o_lst, o_tup, bl_bl, List.map_cons, List.map_nil, List.cons_append, List.nil_append, List.append_nil, List.getElem?_cons_zero, List.getElem?_cons_succ, List.set_cons_zero, List.set_cons_succ, List.length_cons, List.length_nil, List.replicate, Nat.reduceAdd, Nat.reduceSub, Nat.reduceLeDiff, true_and, and_true, if_true, decide_eq_true_eq, Nat.zero_add]
  refine ⟨by decide, ?_⟩
  refine for_inv (fun i env L => L0 <+: L ∧ ∃ n ts p x2 x5 x6, env = [some t.enc, some (.int many), x2, some (.ref n), some (.int p), x5, x6] ∧ L[n]? = some (.lst (ts.map Tm.enc)) ∧ (∀ t ∈ ts, t.ok many) ∧ ts ≠ [] ∧ 0 ≤ p ∧ p + (ts.map Tm.size).sum ≤ 30 ∧ ∀ t ∈ ts, t.dep ≤ 8 - i)
    (n := 8) (fun i env L hi hp => ?_) (fun env L hp => ?_) 8 0 _ _ rfl ⟨pre_last, L0.length, [t], 0, _, _, _, rfl, at_last, by simpa using ht, by simp, by decide, by simp; omega, by simpa using hd⟩
  · obtain ⟨pr, n, ts, p, x2, x5, x6, rfl, hL, hok, hne, hp0, hsum, hdep⟩ := hp
    refine ⟨.int (0 + i), by simp [srcR, hi], ?_⟩
    have hlen : ts.length ≤ (ts.map Tm.size).sum := Tm.len_le_sum ts
    have hll : ts.length ≤ 30 := by omega
    simp only [wipeE, ev_ok, ev_bind, ev_only, ev_ofO, ev_ofOB, ev_ite, evs_ite, evo_some, evs_toS, evs_seq, ev_C, ev_var, ev_op2, ev_op1, ev_opL, ev_nil, ev_cons, ev_call, ev_bVal, ev_bTru, ev_bNot, ev_bAnd, ev_bOr, ev_bYes, ev_cIf, ev_cNot, ev_cAnd, ev_cOr, ev_chain, ev_part_none, ev_part_some, ev_sl, ev_mth, evs_skip, evs_set, evs_ret, evs_expr, evs_if, evs_par, evs_as, ev_gN, ev_gsNil, ev_gsCons, ev_gTup, ev_gIx, evs_aug, ev_defF, evs_for, ev_rng1, ev_iSeq, ev_lc, o_addI, o_subI, o_addS, o_addT, o_mulI, o_modI, o_divI, o_powI, o_cmpI, o_intI, o_intB, o_absI, o_lst, o_tup, bl_bl, List.map_cons, List.map_nil, List.cons_append, List.nil_append, List.append_nil, List.getElem?_cons_zero, List.getElem?_cons_succ, List.set_cons_zero, List.set_cons_succ, List.length_cons, List.length_nil, List.replicate, Nat.reduceAdd, Nat.reduceSub, Nat.reduceLeDiff, true_and, and_true, if_true, decide_eq_true_eq, Nat.zero_add, oAug, oLen_at hL, List.length_map, oGt, o_cmpI]
    have h30 : ¬ (p + (ts.length : Int) > 30) := by omega
    simp only [h30, decide_false, Bool.false_eq_true, if_false]
    have hfk : ∀ w ∈ ts.map Tm.enc, FK L w := fun w hw => by
      obtain ⟨t', ht', rfl⟩ := List.mem_map.mp hw
      exact Tm.fk_t (hok t' ht')
    refine (all_forms hL (by simp; omega) rfl rfl rfl hfk).mono fun w L1 q => ?_
    obtain ⟨rfl, p1⟩ := q
    have hall : (ts.map Tm.enc).all (formB many) = true := by
      rw [List.all_map, List.all_eq_true]
      exact fun t' ht' => Tm.form_t (hok t' ht')
    simp only [hall, truW, Bool.not_true, Bool.false_eq_true, if_false]
    have hin : ∀ w ∈ ts.map Tm.enc, innerW w = some (((innerW w).getD [])) ∧ ∀ s r, w = .tup (.str s :: r) → PyData.strOk s = true := fun w hw => by
      obtain ⟨t', ht', rfl⟩ := List.mem_map.mp hw
      exact ⟨by rw [Tm.enc_inner (hok t' ht')]; rfl, Tm.enc_head (hok t' ht')⟩
    have hflat : (ts.map Tm.enc).flatMap (fun w => (innerW w).getD []) = (ts.flatMap Tm.kids).map Tm.enc := by
      rw [List.map_flatMap, List.flatMap_map]
      refine flatMap_congr' fun t' ht' => ?_
      rw [Tm.enc_inner (hok t' ht')]; rfl
    have hsk := Tm.sum_kids ts
    have hlk := Tm.len_le_sum (ts.flatMap Tm.kids)
    refine (next_layer (fun w => (innerW w).getD []) (pre_at p1 hL) (by rw [hflat, List.length_map]; omega) rfl rfl hin).mono fun w L2 q => ?_
    obtain ⟨m, rfl, hm, p2⟩ := q
    rw [hflat] at hm
    simp only [oEq, oB, eq_nil (pre_at pre_last hm) at_last, Option.map, evo_some, blW]
    have pA : L0 <+: L2 ++ [LO.lst []] := pr.trans (p1.trans (p2.trans pre_last))
    cases hz : ((ts.flatMap Tm.kids).map Tm.enc).isEmpty with
    | true => simp only [if_true]; exact pA
    | false =>
      simp only [Bool.false_eq_true, if_false]
      refine ⟨pA, m, ts.flatMap Tm.kids, p + ts.length, _, _, _, rfl, pre_at pre_last hm, fun t' ht' => ?_, ?_, by omega, by omega, fun t' ht' => ?_⟩
      · obtain ⟨u, hu, hk⟩ := List.mem_flatMap.mp ht'
        exact Tm.kids_ok (hok u hu) hk
      · intro e; rw [e] at hz; cases hz
      · obtain ⟨u, hu, hk⟩ := List.mem_flatMap.mp ht'
        have := hdep u hu
        have := Tm.dep_kid hk
        omega
  · obtain ⟨pr, n, ts, p, x2, x5, x6, rfl, hL, hok, hne, hp0, hsum, hdep⟩ := hp
    cases ts with
    | nil => exact absurd rfl hne
    | cons u r =>
      have := hdep u List.mem_cons_self
      have := Tm.dep_pos u
      omega
theorem flat_len : ∀ ts : List Tm, (ts.flatMap Tm.kids).length ≤ 3 * ts.length
  | [] => Nat.le_refl _
  | t :: r => by
    have := flat_len r
    have := Tm.kids_len t
    rw [List.flatMap_cons, List.length_append, List.length_cons]; omega
theorem flat_enc {many : Int} {ts : List Tm} (hok : ∀ t ∈ ts, t.ok many) : (ts.map Tm.enc).flatMap (fun w => (innerW w).getD []) = (ts.flatMap Tm.kids).map Tm.enc := by
  rw [List.map_flatMap, List.flatMap_map]
  refine flatMap_congr' fun t' ht' => ?_
  rw [Tm.enc_inner (hok t' ht')]; rfl
theorem is_term_bent {w : W} {many : Int} {L0 : LH} (hb : Bent L0 many w) : Ev (c_is_term [w, .int many] L0) fun v L' => v = .bl false ∧ L0 <+: L' := by
  simp only [c_is_term_eq, wipeE, ev_ok, ev_bind, ev_only, ev_ofO, ev_ofOB, ev_ite, evs_ite, evo_some, evs_toS, evs_seq, ev_C, ev_var, ev_op2, ev_op1, ev_opL, ev_nil, ev_cons, ev_call, ev_bVal, ev_bTru, ev_bNot, ev_bAnd, ev_bOr, ev_bYes, ev_cIf, ev_cNot, ev_cAnd, ev_cOr, ev_chain, ev_part_none, ev_part_some, ev_sl, ev_mth, evs_skip, evs_set, evs_ret, evs_expr, evs_if, evs_par, evs_as, ev_gN, ev_gsNil, ev_gsCons, ev_gTup, ev_gIx, evs_aug, ev_defF, evs_for, ev_rng1, ev_iSeq, ev_lc, o_addI, o_subI, o_addS, o_addT, o_mulI, o_modI, o_divI, o_powI, o_cmpI, o_intI, o_intB, o_absI, o_lst, o_tup, bl_bl, List.map_cons, List.map_nil, List.cons_append, List.nil_append, List.append_nil, List.getElem?_cons_zero, List.getElem?_cons_succ, List.set_cons_zero, List.set_cons_succ, List.length_cons, List.length_nil, List.replicate, Nat.reduceAdd, Nat.reduceSub, Nat.reduceLeDiff, true_and, and_true, if_true, decide_eq_true_eq, Nat.zero_add]
  refine ⟨by decide, ?_⟩
  refine for_inv (fun i env L => L0 <+: L ∧ ∃ n pre b post p x2 x5 x6, env = [some w, some (.int many), x2, some (.ref n), some (.int p), x5, x6] ∧ L[n]? = some (.lst (pre.map Tm.enc ++ b :: post.map Tm.enc)) ∧ (∀ t ∈ pre, t.ok many) ∧ (∀ t ∈ post, t.ok many) ∧ 0 ≤ p ∧ Bent L0 many b ∧ pre.length + post.length ≤ 100)
    (n := 8) (fun i env L hi hp => ?_) (fun env L hp => ?_) 8 0 _ _ rfl ⟨pre_last, L0.length, [], w, [], 0, _, _, _, rfl, at_last, by simp, by simp, by decide, hb, by simp⟩
  · obtain ⟨pr, n, pre, b, post, p, x2, x5, x6, rfl, hL, hok1, hok2, hp0, hb, hlen⟩ := hp
    refine ⟨.int (0 + i), by simp [srcR, hi], ?_⟩
    have hlw : (pre.map Tm.enc ++ b :: post.map Tm.enc).length = pre.length + post.length + 1 := by simp; omega
    simp only [wipeE, ev_ok, ev_bind, ev_only, ev_ofO, ev_ofOB, ev_ite, evs_ite, evo_some, evs_toS, evs_seq, ev_C, ev_var, ev_op2, ev_op1, ev_opL, ev_nil, ev_cons, ev_call, ev_bVal, ev_bTru, ev_bNot, ev_bAnd, ev_bOr, ev_bYes, ev_cIf, ev_cNot, ev_cAnd, ev_cOr, ev_chain, ev_part_none, ev_part_some, ev_sl, ev_mth, evs_skip, evs_set, evs_ret, evs_expr, evs_if, evs_par, evs_as, ev_gN, ev_gsNil, ev_gsCons, ev_gTup, ev_gIx, evs_aug, ev_defF, evs_for, ev_rng1, ev_iSeq, ev_lc, o_addI, o_subI, o_addS, o_addT, o_mulI, o_modI, o_divI, o_powI, o_cmpI, o_intI, o_intB, o_absI, o_lst, o_tup, bl_bl, List.map_cons, List.map_nil, List.cons_append, List.nil_append, List.append_nil, List.getElem?_cons_zero, List.getElem?_cons_succ, List.set_cons_zero, List.set_cons_succ, List.length_cons, List.length_nil, List.replicate, Nat.reduceAdd, Nat.reduceSub, Nat.reduceLeDiff, true_and, and_true, if_true, decide_eq_true_eq, Nat.zero_add, oAug, oLen_at hL, oGt, o_cmpI]
    by_cases h30 : p + ((pre.map Tm.enc ++ b :: post.map Tm.enc).length : Int) > 30
    · simp only [h30, decide_true, if_true]; exact pr
    simp only [h30, decide_false, Bool.false_eq_true, if_false]
    rw [hlw] at h30
    have hfb : FK L0 b := by cases hb with
      | odd h _ => exact h
      | node h => exact h
    have hfk : ∀ v ∈ pre.map Tm.enc ++ b :: post.map Tm.enc, FK L v := fun v hv => by
      rcases List.mem_append.mp hv with hv | hv
      · obtain ⟨t', ht', rfl⟩ := List.mem_map.mp hv
        exact Tm.fk_t (hok1 t' ht')
      · rcases List.mem_cons.mp hv with rfl | hv
        · exact hfb.mono pr
        · obtain ⟨t', ht', rfl⟩ := List.mem_map.mp hv
          exact Tm.fk_t (hok2 t' ht')
    refine (all_forms hL (by omega) rfl rfl rfl hfk).mono fun v L1 q => ?_
    obtain ⟨rfl, p1⟩ := q
    have hall : (pre.map Tm.enc ++ b :: post.map Tm.enc).all (formB many) = formB many b := by
      rw [List.all_append, List.all_cons, List.all_map, List.all_map]
      rw [show pre.all (formB many ∘ Tm.enc) = true from List.all_eq_true.mpr fun t' ht' => Tm.form_t (hok1 t' ht')]
      rw [show post.all (formB many ∘ Tm.enc) = true from List.all_eq_true.mpr fun t' ht' => Tm.form_t (hok2 t' ht')]
      simp
    simp only [hall, truW]
    cases hb with
    | odd _ hf => simp only [hf, Bool.not_false, if_true]; exact pr.trans p1
    | @node _ b' pre' post' _ hf hi hs ho1 ho2 hl3 hb' =>
      simp only [hf, Bool.not_true, Bool.false_eq_true, if_false]
      have hin : ∀ v ∈ pre.map Tm.enc ++ b :: post.map Tm.enc, innerW v = some (((innerW v).getD [])) ∧ ∀ s r, v = .tup (.str s :: r) → PyData.strOk s = true := fun v hv => by
        rcases List.mem_append.mp hv with hv | hv
        · obtain ⟨t', ht', rfl⟩ := List.mem_map.mp hv
          exact ⟨by rw [Tm.enc_inner (hok1 t' ht')]; rfl, Tm.enc_head (hok1 t' ht')⟩
        · rcases List.mem_cons.mp hv with rfl | hv
          · exact ⟨by rw [hi]; rfl, hs⟩
          · obtain ⟨t', ht', rfl⟩ := List.mem_map.mp hv
            exact ⟨by rw [Tm.enc_inner (hok2 t' ht')]; rfl, Tm.enc_head (hok2 t' ht')⟩
      have hflat : (pre.map Tm.enc ++ b :: post.map Tm.enc).flatMap (fun w => (innerW w).getD []) = (pre.flatMap Tm.kids ++ pre').map Tm.enc ++ b' :: (post' ++ post.flatMap Tm.kids).map Tm.enc := by
        rw [List.flatMap_append, List.flatMap_cons, flat_enc hok1, flat_enc hok2, hi]
        simp
      have l1 := flat_len pre
      have l2 := flat_len post
      refine (next_layer (fun w => (innerW w).getD []) (pre_at p1 hL) (by rw [hflat]; simp only [List.length_append, List.length_cons, List.length_map]; omega) rfl rfl hin).mono fun v L2 q => ?_
      obtain ⟨m, rfl, hm, p2⟩ := q
      rw [hflat] at hm
      have pA : L0 <+: L2 ++ [LO.lst []] := pr.trans (p1.trans (p2.trans pre_last))
      have hne : ((pre.flatMap Tm.kids ++ pre').map Tm.enc ++ b' :: (post' ++ post.flatMap Tm.kids).map Tm.enc).isEmpty = false := by
        simp [List.isEmpty_iff]
      simp only [oEq, oB, eq_nil (pre_at pre_last hm) at_last, Option.map, evo_some, blW, hne, Bool.false_eq_true, if_false]
      refine ⟨pA, m, _, b', _, _, _, _, _, rfl, pre_at pre_last hm, fun t' ht' => ?_, fun t' ht' => ?_, by omega, hb', ?_⟩
      · rcases List.mem_append.mp ht' with ht' | ht'
        · obtain ⟨u, hu, hk⟩ := List.mem_flatMap.mp ht'
          exact Tm.kids_ok (hok1 u hu) hk
        · exact ho1 _ ht'
      · rcases List.mem_append.mp ht' with ht' | ht'
        · exact ho2 _ ht'
        · obtain ⟨u, hu, hk⟩ := List.mem_flatMap.mp ht'
          exact Tm.kids_ok (hok2 u hu) hk
      · simp only [List.length_append]; omega
  · obtain ⟨pr, n, pre, b, post, p, x2, x5, x6, rfl, hL, hok1, hok2, hp0, hb⟩ := hp
    refine ⟨by simp [srcR], ?_⟩
    first | exact pr | exact ⟨rfl, pr⟩
end Z

/-! ZX: term_size, term_depth, leaves, .. -/
namespace Z
open PySem PySem.Spec PyProof.Rows L2
theorem lc_map {α : Type} {S : Src} {j : Nat} {e : Ex} {env : Env} {L1 : LH} {ts : List α} {f g : α → W} (hS : SrcIs S L1 (ts.map f)) (hl : ts.length ≤ 16777216)
    (he : ∀ t ∈ ts, ∀ L, L1 <+: L → Ev (e (env.set j (some (f t))) L) fun y L' => y = g t ∧ L <+: L') :
    Ev (lcLoop S (.one j) bYes e env (S.len + 1) 0 L1 []) fun acc L' => acc = ts.map g ∧ L1 <+: L' := by
  refine lc_inv (P := fun i L acc => acc = (ts.take i).map g ∧ L1 <+: L) (n := ts.length) (fun i L acc hi p => ?_) (fun L acc p => ?_) S.len 0 L1 [] (by rw [hS.1, List.length_map]; omega) ⟨rfl, List.prefix_refl _⟩
  · obtain ⟨rfl, pr⟩ := p
    have e1 : (ts.map f)[i]? = some (f ts[i]) := by rw [List.getElem?_map, List.getElem?_eq_getElem hi]; rfl
    refine ⟨f ts[i], by rw [hS.2 L pr i, e1], env.set j (some (f ts[i])), rfl, ?_⟩
    rw [ev_bYes]
    simp only [if_true]
    refine (he _ (List.getElem_mem hi) L pr).mono fun y L' h => ?_
    obtain ⟨rfl, pr'⟩ := h
    refine ⟨?_, ?_, pr.trans pr'⟩
    · rw [List.length_map, List.length_take]; omega
    · rw [List.take_succ_eq_append_getElem hi, List.map_append]; rfl
  · obtain ⟨rfl, pr⟩ := p
    refine ⟨?_, ?_, pr⟩
    · rw [hS.2 L pr, List.getElem?_eq_none (by rw [List.length_map]; exact Nat.le_refl _)]
    · rw [List.take_length]
variable {many : Int}
def SizeS (many : Int) (self : Fn) (d : Nat) : Prop := ∀ (t : Tm) (L : LH), t.ok many → t.dep ≤ d → Ev (self [t.enc] L) fun w L' => w = .int t.size ∧ L <+: L'
theorem size_step {self : Fn} {d : Nat} (h : SizeS many self d) : SizeS many (f_term_size f_inner_terms self) (d + 1) := fun t L ht hd => by
  have hk3 := Tm.kids_len t
  simp only [f_term_size, wipeE, ev_ok, ev_bind, ev_only, ev_ofO, ev_ofOB, ev_ite, evs_ite, evo_some, evs_toS, evs_seq, ev_C, ev_var, ev_op2, ev_op1, ev_opL, ev_nil, ev_cons, ev_call, ev_bVal, ev_bTru, ev_bNot, ev_bAnd, ev_bOr, ev_bYes, ev_cIf, ev_cNot, ev_cAnd, ev_cOr, ev_chain, ev_part_none, ev_part_some, ev_sl, ev_mth, evs_skip, evs_set, evs_ret, evs_expr, evs_if, evs_par, evs_as, ev_gN, ev_gsNil, ev_gsCons, ev_gTup, ev_gIx, evs_aug, ev_defF, evs_for, ev_rng1, ev_iSeq, ev_lc, o_addI, o_subI, o_addS, o_addT, o_mulI, o_modI, o_divI, o_powI, o_cmpI, o_intI, o_intB, o_absI, o_lst, o_tup, bl_bl, List.map_cons, List.map_nil, List.cons_append, List.nil_append, List.append_nil, List.getElem?_cons_zero, List.getElem?_cons_succ, List.set_cons_zero, List.set_cons_succ, List.length_cons, List.length_nil, List.replicate, Nat.reduceAdd, Nat.reduceSub, Nat.reduceLeDiff, true_and, and_true, if_true, decide_eq_true_eq, Nat.zero_add, Tm.inner_t ht, srcOf]
  refine (lc_map (g := fun k : Tm => .int k.size) (S := ⟨(t.kids.map Tm.enc).length, fun _ i => some (t.kids.map Tm.enc)[i]?⟩) srcIs_tup (by omega) fun k hk L1 p1 => ?_).mono fun acc L1 q => ?_
  · simp only [wipeE, ev_ok, ev_bind, ev_only, ev_ofO, ev_ofOB, ev_ite, evs_ite, evo_some, evs_toS, evs_seq, ev_C, ev_var, ev_op2, ev_op1, ev_opL, ev_nil, ev_cons, ev_call, ev_bVal, ev_bTru, ev_bNot, ev_bAnd, ev_bOr, ev_bYes, ev_cIf, ev_cNot, ev_cAnd, ev_cOr, ev_chain, ev_part_none, ev_part_some, ev_sl, ev_mth, evs_skip, evs_set, evs_ret, evs_expr, evs_if, evs_par, evs_as, ev_gN, ev_gsNil, ev_gsCons, ev_gTup, ev_gIx, evs_aug, ev_defF, evs_for, ev_rng1, ev_iSeq, ev_lc, o_addI, o_subI, o_addS, o_addT, o_mulI, o_modI, o_divI, o_powI, o_cmpI, o_intI, o_intB, o_absI, o_lst, o_tup, bl_bl, List.map_cons, List.map_nil, List.cons_append, List.nil_append, List.append_nil, List.getElem?_cons_zero, List.getElem?_cons_succ, List.set_cons_zero, List.set_cons_succ, List.length_cons, List.length_nil, List.replicate, Nat.reduceAdd, Nat.reduceSub, Nat.reduceLeDiff, true_and, and_true, if_true, decide_eq_true_eq, Nat.zero_add]
    exact h k L1 (Tm.kids_ok ht hk) (by have := Tm.dep_kid hk; omega)
  · obtain ⟨rfl, p1⟩ := q
    have e : t.kids.map (fun k : Tm => W.int k.size) = (t.kids.map fun k => (k.size : Int)).map .int := by rw [List.map_map]; rfl
    rw [e, sum_at at_last, evo_some]
    simp only [wipeE, ev_ok, ev_bind, ev_only, ev_ofO, ev_ofOB, ev_ite, evs_ite, evo_some, evs_toS, evs_seq, ev_C, ev_var, ev_op2, ev_op1, ev_opL, ev_nil, ev_cons, ev_call, ev_bVal, ev_bTru, ev_bNot, ev_bAnd, ev_bOr, ev_bYes, ev_cIf, ev_cNot, ev_cAnd, ev_cOr, ev_chain, ev_part_none, ev_part_some, ev_sl, ev_mth, evs_skip, evs_set, evs_ret, evs_expr, evs_if, evs_par, evs_as, ev_gN, ev_gsNil, ev_gsCons, ev_gTup, ev_gIx, evs_aug, ev_defF, evs_for, ev_rng1, ev_iSeq, ev_lc, o_addI, o_subI, o_addS, o_addT, o_mulI, o_modI, o_divI, o_powI, o_cmpI, o_intI, o_intB, o_absI, o_lst, o_tup, bl_bl, List.map_cons, List.map_nil, List.cons_append, List.nil_append, List.append_nil, List.getElem?_cons_zero, List.getElem?_cons_succ, List.set_cons_zero, List.set_cons_succ, List.length_cons, List.length_nil, List.replicate, Nat.reduceAdd, Nat.reduceSub, Nat.reduceLeDiff, true_and, and_true, if_true, decide_eq_true_eq, Nat.zero_add]
    refine ⟨?_, p1.trans pre_last⟩
    congr 1
    rw [Tm.size_eq t, Int.natCast_add]
    congr 1
    generalize t.kids = l
    induction l with
    | nil => rfl
    | cons a r ih => simp only [List.map_cons, List.sum_cons, Int.natCast_add, ih]
theorem size_base (self : Fn) : SizeS many self 0 := fun t L ht hd => by have := Tm.dep_pos t; omega
/-! data -/
mutual
def PDat : W → Option PyData
  | .non => some .none
  | .bl b => some (.bool b)
  | .int i => some (.int i)
  | .str x => some (.str x)
  | .tup ws => (PDats ws).map .tuple
  | _ => none
def PDats : List W → Option (List PyData)
  | [] => some []
  | w :: ws => match PDat w, PDats ws with
    | some d, some ds => some (d :: ds)
    | _, _ => none
end
mutual
def wdep : W → Nat
  | .tup ws => 1 + wdeps ws
  | _ => 0
def wdeps : List W → Nat
  | [] => 0
  | w :: ws => max (wdep w) (wdeps ws)
end
mutual
theorem toD_of {L : LH} : ∀ (n : Nat) (w : W) (d : PyData), PDat w = some d → 2 * wdep w ≤ n → toD L n w = some d
  | n, .non, d, e, h => by unfold PDat at e; unfold toD; exact e
  | n, .bl b, d, e, h => by unfold PDat at e; unfold toD; exact e
  | n, .int b, d, e, h => by unfold PDat at e; unfold toD; exact e
  | n, .str b, d, e, h => by unfold PDat at e; unfold toD; exact e
  | 0, .tup ws, d, e, h => by unfold wdep at h; omega
  | n + 1, .tup ws, d, e, h => by
    unfold PDat at e
    unfold toD
    cases ed : PDats ws with
    | none => rw [ed] at e; cases e
    | some ds =>
      rw [ed] at e
      unfold wdep at h
      rw [toDs_of n ws ds ed (by omega)]
      exact e
  | n, .ref _, d, e, h => by unfold PDat at e; cases e
  | n, .ty _, d, e, h => by unfold PDat at e; cases e
  | n, .cls _, d, e, h => by unfold PDat at e; cases e
  | n, .fn _, d, e, h => by unfold PDat at e; cases e
  | n, .scr _, d, e, h => by unfold PDat at e; cases e
theorem toDs_of {L : LH} : ∀ (n : Nat) (ws : List W) (ds : List PyData), PDats ws = some ds → 2 * wdeps ws + 1 ≤ n → toDs L n ws = some ds
  | n, [], ds, e, h => by unfold PDats at e; unfold toDs; exact e
  | 0, w :: ws, ds, e, h => by omega
  | n + 1, w :: ws, ds, e, h => by
    unfold PDats at e
    unfold toDs
    unfold wdeps at h
    cases e1 : PDat w with
    | none => rw [e1] at e; cases e
    | some d =>
      cases e2 : PDats ws with
      | none => rw [e1, e2] at e; cases e
      | some ds' =>
        rw [e1, e2] at e
        rw [toD_of n w d e1 (by omega), toDs_of (n + 1) ws ds' e2 (by omega)]
        exact e
end
/-- data that can be compared -/
structure Dat (w : W) (d : PyData) : Prop where
  to : PDat w = some d
  dep : wdep w ≤ 20
  lay : d.canLay0 = true
  low : d.depth ≤ 64
theorem eqX_dat {L : LH} {a b : W} {d e : PyData} (ha : Dat a d) (hb : Dat b e) : eqX L a b = some (PyData.eqv d e) := by
  have h1 : toD L 40 a = some d := toD_of 40 a d ha.to (by have := ha.dep; omega)
  have h2 : toD L 40 b = some e := toD_of 40 b e hb.to (by have := hb.dep; omega)
  have s1 : SeqAt.shaped d = true := by unfold SeqAt.shaped; rw [ha.lay, decide_eq_true ha.low]; rfl
  have s2 : SeqAt.shaped e = true := by unfold SeqAt.shaped; rw [hb.lay, decide_eq_true hb.low]; rfl
  have hl : lenDiff L a b = false := by
    cases a <;> first | rfl | (have := ha.to; unfold PDat at this; cases this)
  unfold eqX eqD
  rw [hl]
  simp only [Bool.false_eq_true, if_false, h1, h2, s1, s2, and_self, if_true]
namespace Tm
def dat : Tm → PyData
  | .val i => .int i
  | .arg i => .tuple [.str "arg", .int i]
  | .cell s => .tuple [.str "cell", .str s]
  | .tick => .tuple [.str "tick"]
  | .call0 s => .tuple [.str "call", .str s, .tuple []]
  | .call2 s a b => .tuple [.str "call", .str s, .tuple [a.dat, b.dat]]
  | .bin h a b => .tuple [.str h, a.dat, b.dat]
  | .ite a b c => .tuple [.str "if", a.dat, b.dat, c.dat]
theorem pdat : ∀ t : Tm, PDat t.enc = some t.dat
  | .val i => rfl
  | .arg i => rfl
  | .cell s => rfl
  | .tick => rfl
  | .call0 s => rfl
  | .call2 s a b => by simp only [enc, PDat, PDats, pdat a, pdat b, Option.map, dat]
  | .bin h a b => by simp only [enc, PDat, PDats, pdat a, pdat b, Option.map, dat]
  | .ite a b c => by simp only [enc, PDat, PDats, pdat a, pdat b, pdat c, Option.map, dat]
theorem wdep_le : ∀ t : Tm, wdep t.enc ≤ 2 * t.dep
  | .val i => by simp [enc, wdep]
  | .arg i => by simp [enc, wdep, wdeps, dep]
  | .cell i => by simp [enc, wdep, wdeps, dep]
  | .tick => by simp [enc, wdep, wdeps, dep]
  | .call0 i => by simp [enc, wdep, wdeps, dep]
  | .call2 s a b => by
    have := wdep_le a; have := wdep_le b
    simp [enc, wdep, wdeps, dep]; omega
  | .bin s a b => by
    have := wdep_le a; have := wdep_le b
    simp [enc, wdep, wdeps, dep]; omega
  | .ite a b c => by
    have := wdep_le a; have := wdep_le b; have := wdep_le c
    simp [enc, wdep, wdeps, dep]; omega
theorem ddep_le : ∀ t : Tm, t.dat.depth ≤ 2 * t.dep
  | .val i => by simp [dat, PyData.depth]
  | .arg i => by simp [dat, PyData.depth, PyData.depthAll, dep]
  | .cell i => by simp [dat, PyData.depth, PyData.depthAll, dep]
  | .tick => by simp [dat, PyData.depth, PyData.depthAll, dep]
  | .call0 i => by simp [dat, PyData.depth, PyData.depthAll, dep]
  | .call2 s a b => by
    have := ddep_le a; have := ddep_le b
    simp [dat, PyData.depth, PyData.depthAll, dep]; omega
  | .bin s a b => by
    have := ddep_le a; have := ddep_le b
    simp [dat, PyData.depth, PyData.depthAll, dep]; omega
  | .ite a b c => by
    have := ddep_le a; have := ddep_le b; have := ddep_le c
    simp [dat, PyData.depth, PyData.depthAll, dep]; omega
theorem lay : ∀ {t : Tm}, t.ok many → t.dat.canLay0 = true
  | .val i, _ => rfl
  | .arg i, _ => by simp [dat, PyData.canLay0, PyData.canLayAll0, so_arg]
  | .cell i, h => by simp [dat, PyData.canLay0, PyData.canLayAll0, so_cell, NameOk.so h]
  | .tick, _ => by simp [dat, PyData.canLay0, PyData.canLayAll0, so_tick]
  | .call0 i, h => by simp [dat, PyData.canLay0, PyData.canLayAll0, so_call, NameOk.so h]
  | .call2 s a b, h => by simp [dat, PyData.canLay0, PyData.canLayAll0, so_call, NameOk.so h.1, lay h.2.1, lay h.2.2]
  | .bin s a b, h => by simp [dat, PyData.canLay0, PyData.canLayAll0, so_h h.1, lay h.2.1, lay h.2.2]
  | .ite a b c, h => by simp [dat, PyData.canLay0, PyData.canLayAll0, so_if, lay h.1, lay h.2.1, lay h.2.2]
theorem isDat {t : Tm} (h : t.ok many) (hd : t.dep ≤ 9) : Dat t.enc t.dat :=
  ⟨pdat t, by have := wdep_le t; omega, lay h, by have := ddep_le t; omega⟩
end Tm
theorem pdats : ∀ ts : List Tm, PDats (ts.map Tm.enc) = some (ts.map Tm.dat)
  | [] => rfl
  | t :: r => by simp only [List.map_cons, PDats, Tm.pdat t, pdats r]
theorem wdeps_le {d : Nat} : ∀ ts : List Tm, (∀ t ∈ ts, t.dep ≤ d) → wdeps (ts.map Tm.enc) ≤ 2 * d
  | [], _ => by simp [wdeps]
  | t :: r, h => by
    have h1 := Tm.wdep_le t
    have h2 := h t List.mem_cons_self
    have h3 := wdeps_le r fun u hu => h u (List.mem_cons_of_mem _ hu)
    simp only [List.map_cons, wdeps]; omega
theorem ddeps_le {d : Nat} : ∀ ts : List Tm, (∀ t ∈ ts, t.dep ≤ d) → PyData.depthAll (ts.map Tm.dat) ≤ 2 * d
  | [], _ => by simp [PyData.depthAll]
  | t :: r, h => by
    have h1 := Tm.ddep_le t
    have h2 := h t List.mem_cons_self
    have h3 := ddeps_le r fun u hu => h u (List.mem_cons_of_mem _ hu)
    simp only [List.map_cons, PyData.depthAll]; omega
theorem lays {ts : List Tm} (h : ∀ t ∈ ts, t.ok many) : PyData.canLayAll0 (ts.map Tm.dat) = true := by
  induction ts with
  | nil => rfl
  | cons t r ih =>
    simp only [List.map_cons, PyData.canLayAll0, Tm.lay (h t List.mem_cons_self), Bool.true_and]
    exact ih fun u hu => h u (List.mem_cons_of_mem _ hu)
theorem dat_tup {ts : List Tm} {d : Nat} (h : ∀ t ∈ ts, t.ok many) (hd : ∀ t ∈ ts, t.dep ≤ d) (h9 : d ≤ 9) : Dat (.tup (ts.map Tm.enc)) (.tuple (ts.map Tm.dat)) := by
  refine ⟨by simp only [PDat, pdats, Option.map], ?_, lays h, ?_⟩
  · have := wdeps_le ts hd; simp only [wdep]; omega
  · have := ddeps_le ts hd; simp only [PyData.depth]; omega
theorem dat_nil : Dat (.tup []) (.tuple []) := ⟨rfl, by decide, rfl, by decide⟩
theorem eqv_nil (ds : List PyData) : PyData.eqv (.tuple ds) (.tuple []) = ds.isEmpty := by
  cases ds <;> simp [PyData.eqv, PyData.eqvAll]
def DepS (many : Int) (self : Fn) (d : Nat) : Prop := ∀ (t : Tm) (L : LH), t.ok many → t.dep ≤ d → t.dep ≤ 9 → Ev (self [t.enc] L) fun w L' => w = .int t.dep ∧ L <+: L'
theorem max2 (x y : Nat) : ((1 + max x y : Nat) : Int) = 1 + if (y : Int) > x then (y : Int) else x := by
  by_cases h : (y : Int) > x
  · rw [if_pos h]; omega
  · rw [if_neg h]; omega
theorem max3 (x y z : Nat) : ((1 + max x (max y z) : Nat) : Int) = 1 + if (if (z : Int) > y then (z : Int) else y) > x then (if (z : Int) > y then (z : Int) else y) else x := by
  by_cases h : (z : Int) > y
  · rw [if_pos h]
    by_cases h2 : (z : Int) > x
    · rw [if_pos h2]; omega
    · rw [if_neg h2]; omega
  · rw [if_neg h]
    by_cases h2 : (y : Int) > x
    · rw [if_pos h2]; omega
    · rw [if_neg h2]; omega
theorem dep_eq (t : Tm) : t.kids ≠ [] → (t.dep : Int) = 1 + maxI (t.kids.map fun k => (k.dep : Int)) := by
  intro h
  cases t with
  | call2 s a b => exact max2 _ _
  | bin s a b => exact max2 _ _
  | ite a b c => exact max3 _ _ _
  | _ => exact absurd rfl h
theorem dep_nil (t : Tm) : t.kids = [] → t.dep = 1 := by
  intro h
  cases t <;> first | rfl | cases h
theorem dep_step {self : Fn} {d : Nat} (h : DepS many self d) : DepS many (f_term_depth f_inner_terms self) (d + 1) := fun t L ht hd h9 => by
  have hk3 := Tm.kids_len t
  have hdk : ∀ k ∈ t.kids, k.dep ≤ 9 := fun k hk => by have := Tm.dep_kid hk; omega
  simp only [f_term_depth, wipeE, ev_ok, ev_bind, ev_only, ev_ofO, ev_ofOB, ev_ite, evs_ite, evo_some, evs_toS, evs_seq, ev_C, ev_var, ev_op2, ev_op1, ev_opL, ev_nil, ev_cons, ev_call, ev_bVal, ev_bTru, ev_bNot, ev_bAnd, ev_bOr, ev_bYes, ev_cIf, ev_cNot, ev_cAnd, ev_cOr, ev_chain, ev_part_none, ev_part_some, ev_sl, ev_mth, evs_skip, evs_set, evs_ret, evs_expr, evs_if, evs_par, evs_as, ev_gN, ev_gsNil, ev_gsCons, ev_gTup, ev_gIx, evs_aug, ev_defF, evs_for, ev_rng1, ev_iSeq, ev_lc, o_addI, o_subI, o_addS, o_addT, o_mulI, o_modI, o_divI, o_powI, o_cmpI, o_intI, o_intB, o_absI, o_lst, o_tup, bl_bl, List.map_cons, List.map_nil, List.cons_append, List.nil_append, List.append_nil, List.getElem?_cons_zero, List.getElem?_cons_succ, List.set_cons_zero, List.set_cons_succ, List.length_cons, List.length_nil, List.replicate, Nat.reduceAdd, Nat.reduceSub, Nat.reduceLeDiff, true_and, and_true, if_true, decide_eq_true_eq, Nat.zero_add, Tm.inner_t ht, srcOf, oEq, oB, eqX_dat (dat_tup (fun k hk => Tm.kids_ok ht hk) hdk (Nat.le_refl _)) dat_nil, eqv_nil, Option.map, blW]
  cases hz : (t.kids.map Tm.dat).isEmpty with
  | true =>
    simp only [if_true]
    have : t.kids = [] := by
      cases e : t.kids with
      | nil => rfl
      | cons a r => rw [e] at hz; cases hz
    rw [dep_nil t this]
    exact ⟨rfl, List.prefix_refl _⟩
  | false =>
    simp only [Bool.false_eq_true, if_false]
    have hne : t.kids ≠ [] := fun e => by rw [e] at hz; cases hz
    refine (lc_map (g := fun k : Tm => .int k.dep) (S := ⟨(t.kids.map Tm.enc).length, fun _ i => some (t.kids.map Tm.enc)[i]?⟩) srcIs_tup (by omega) fun k hk L1 p1 => ?_).mono fun acc L1 q => ?_
    · simp only [wipeE, ev_ok, ev_bind, ev_only, ev_ofO, ev_ofOB, ev_ite, evs_ite, evo_some, evs_toS, evs_seq, ev_C, ev_var, ev_op2, ev_op1, ev_opL, ev_nil, ev_cons, ev_call, ev_bVal, ev_bTru, ev_bNot, ev_bAnd, ev_bOr, ev_bYes, ev_cIf, ev_cNot, ev_cAnd, ev_cOr, ev_chain, ev_part_none, ev_part_some, ev_sl, ev_mth, evs_skip, evs_set, evs_ret, evs_expr, evs_if, evs_par, evs_as, ev_gN, ev_gsNil, ev_gsCons, ev_gTup, ev_gIx, evs_aug, ev_defF, evs_for, ev_rng1, ev_iSeq, ev_lc, o_addI, o_subI, o_addS, o_addT, o_mulI, o_modI, o_divI, o_powI, o_cmpI, o_intI, o_intB, o_absI, o_lst, o_tup, bl_bl, List.map_cons, List.map_nil, List.cons_append, List.nil_append, List.append_nil, List.getElem?_cons_zero, List.getElem?_cons_succ, List.set_cons_zero, List.set_cons_succ, List.length_cons, List.length_nil, List.replicate, Nat.reduceAdd, Nat.reduceSub, Nat.reduceLeDiff, true_and, and_true, if_true, decide_eq_true_eq, Nat.zero_add]
      refine (h k L1 (Tm.kids_ok ht hk) (by have := Tm.dep_kid hk; omega) (hdk k hk)).mono fun w L2 q => ?_
      obtain ⟨rfl, p2⟩ := q
      simp only [wipeE, ev_ok, ev_bind, ev_only, ev_ofO, ev_ofOB, ev_ite, evs_ite, evo_some, evs_toS, evs_seq, ev_C, ev_var, ev_op2, ev_op1, ev_opL, ev_nil, ev_cons, ev_call, ev_bVal, ev_bTru, ev_bNot, ev_bAnd, ev_bOr, ev_bYes, ev_cIf, ev_cNot, ev_cAnd, ev_cOr, ev_chain, ev_part_none, ev_part_some, ev_sl, ev_mth, evs_skip, evs_set, evs_ret, evs_expr, evs_if, evs_par, evs_as, ev_gN, ev_gsNil, ev_gsCons, ev_gTup, ev_gIx, evs_aug, ev_defF, evs_for, ev_rng1, ev_iSeq, ev_lc, o_addI, o_subI, o_addS, o_addT, o_mulI, o_modI, o_divI, o_powI, o_cmpI, o_intI, o_intB, o_absI, o_lst, o_tup, bl_bl, List.map_cons, List.map_nil, List.cons_append, List.nil_append, List.append_nil, List.getElem?_cons_zero, List.getElem?_cons_succ, List.set_cons_zero, List.set_cons_succ, List.length_cons, List.length_nil, List.replicate, Nat.reduceAdd, Nat.reduceSub, Nat.reduceLeDiff, true_and, and_true, if_true, decide_eq_true_eq, Nat.zero_add]
      exact p2
    · obtain ⟨rfl, p1⟩ := q
      have e : t.kids.map (fun k : Tm => W.int k.dep) = (t.kids.map fun k => (k.dep : Int)).map .int := by rw [List.map_map]; rfl
      rw [e, max_at at_last (by rw [List.length_map]; exact List.length_pos_iff.mpr hne), evo_some]
      simp only [wipeE, ev_ok, ev_bind, ev_only, ev_ofO, ev_ofOB, ev_ite, evs_ite, evo_some, evs_toS, evs_seq, ev_C, ev_var, ev_op2, ev_op1, ev_opL, ev_nil, ev_cons, ev_call, ev_bVal, ev_bTru, ev_bNot, ev_bAnd, ev_bOr, ev_bYes, ev_cIf, ev_cNot, ev_cAnd, ev_cOr, ev_chain, ev_part_none, ev_part_some, ev_sl, ev_mth, evs_skip, evs_set, evs_ret, evs_expr, evs_if, evs_par, evs_as, ev_gN, ev_gsNil, ev_gsCons, ev_gTup, ev_gIx, evs_aug, ev_defF, evs_for, ev_rng1, ev_iSeq, ev_lc, o_addI, o_subI, o_addS, o_addT, o_mulI, o_modI, o_divI, o_powI, o_cmpI, o_intI, o_intB, o_absI, o_lst, o_tup, bl_bl, List.map_cons, List.map_nil, List.cons_append, List.nil_append, List.append_nil, List.getElem?_cons_zero, List.getElem?_cons_succ, List.set_cons_zero, List.set_cons_succ, List.length_cons, List.length_nil, List.replicate, Nat.reduceAdd, Nat.reduceSub, Nat.reduceLeDiff, true_and, and_true, if_true, decide_eq_true_eq, Nat.zero_add]
      exact ⟨by rw [dep_eq t hne], p1.trans pre_last⟩
theorem dep_base (self : Fn) : DepS many self 0 := fun t L ht hd => by have := Tm.dep_pos t; omega
namespace Tm
def pre : Tm → List Tm
  | .call2 s a b => .call2 s a b :: (a.pre ++ b.pre)
  | .bin s a b => .bin s a b :: (a.pre ++ b.pre)
  | .ite a b c => .ite a b c :: (a.pre ++ (b.pre ++ c.pre))
  | t => [t]
theorem pre_eq (t : Tm) : t.pre = t :: t.kids.flatMap pre := by cases t <;> simp [pre, kids]
theorem pre_len (t : Tm) : t.pre.length = t.size := by
  induction t <;> simp [pre, size, *] <;> omega
theorem pre_ok {t : Tm} (h : t.ok many) : ∀ u ∈ t.pre, u.ok many := by
  induction t with
  | call2 s a b iha ihb =>
    intro u hu
    simp only [pre, List.mem_cons, List.mem_append] at hu
    rcases hu with rfl | hu | hu
    · exact h
    · exact iha h.2.1 u hu
    · exact ihb h.2.2 u hu
  | bin s a b iha ihb =>
    intro u hu
    simp only [pre, List.mem_cons, List.mem_append] at hu
    rcases hu with rfl | hu | hu
    · exact h
    · exact iha h.2.1 u hu
    · exact ihb h.2.2 u hu
  | ite a b c iha ihb ihc =>
    intro u hu
    simp only [pre, List.mem_cons, List.mem_append] at hu
    rcases hu with rfl | hu | hu | hu
    · exact h
    · exact iha h.1 u hu
    · exact ihb h.2.1 u hu
    · exact ihc h.2.2 u hu
  | _ => intro u hu; simp only [pre, List.mem_singleton] at hu; subst hu; exact h
theorem pre_dep (t : Tm) : ∀ u ∈ t.pre, u.dep ≤ t.dep := by
  induction t with
  | call2 s a b iha ihb =>
    intro u hu
    simp only [pre, List.mem_cons, List.mem_append] at hu
    rcases hu with rfl | hu | hu
    · exact Nat.le_refl _
    · have := iha u hu; simp only [dep]; omega
    · have := ihb u hu; simp only [dep]; omega
  | bin s a b iha ihb =>
    intro u hu
    simp only [pre, List.mem_cons, List.mem_append] at hu
    rcases hu with rfl | hu | hu
    · exact Nat.le_refl _
    · have := iha u hu; simp only [dep]; omega
    · have := ihb u hu; simp only [dep]; omega
  | ite a b c iha ihb ihc =>
    intro u hu
    simp only [pre, List.mem_cons, List.mem_append] at hu
    rcases hu with rfl | hu | hu | hu
    · exact Nat.le_refl _
    · have := iha u hu; simp only [dep]; omega
    · have := ihb u hu; simp only [dep]; omega
    · have := ihc u hu; simp only [dep]; omega
  | _ => intro u hu; simp only [pre, List.mem_singleton] at hu; subst hu; exact Nat.le_refl _
end Tm
theorem pre_set {L L' : LH} {n : Nat} {o : LO} (p : L <+: L') (h : L.length ≤ n) : L <+: L'.set n o := by
  obtain ⟨t, rfl⟩ := p
  rw [List.set_append_right _ _ h]
  exact ⟨_, rfl⟩
theorem set_at {L : LH} {n : Nat} {o o' : LO} (h : L[n]? = some o) : (L.set n o')[n]? = some o' := List.getElem?_set_self (List.getElem?_eq_some_iff.mp h).1
def LvS (many : Int) (self : Fn) (d : Nat) : Prop := ∀ (t : Tm) (L : LH), t.ok many → t.dep ≤ d → t.size ≤ 1000 → Ev (self [t.enc] L) fun w L' => ∃ n, w = .ref n ∧ L'[n]? = some (.lst (t.pre.map Tm.enc)) ∧ L <+: L'
theorem extend_at {L : LH} {n m : Nat} {xs ys : List W} (h : L[n]? = some (.lst xs)) (hm : L[m]? = some (.lst ys)) (hl : xs.length + ys.length ≤ 16777216) : oExtend (.ref n) [.ref m] L = some (.non, L.set n (.lst (xs ++ ys))) := by
  simp only [oExtend, h, hm]
  rw [if_pos hl]
theorem lv_step {self : Fn} {d : Nat} (h : LvS many self d) : LvS many (f_leaves f_inner_terms self) (d + 1) := fun t L ht hd h1 => by
  have hk3 := Tm.kids_len t
  simp only [f_leaves, wipeE, ev_ok, ev_bind, ev_only, ev_ofO, ev_ofOB, ev_ite, evs_ite, evo_some, evs_toS, evs_seq, ev_C, ev_var, ev_op2, ev_op1, ev_opL, ev_nil, ev_cons, ev_call, ev_bVal, ev_bTru, ev_bNot, ev_bAnd, ev_bOr, ev_bYes, ev_cIf, ev_cNot, ev_cAnd, ev_cOr, ev_chain, ev_part_none, ev_part_some, ev_sl, ev_mth, evs_skip, evs_set, evs_ret, evs_expr, evs_if, evs_par, evs_as, ev_gN, ev_gsNil, ev_gsCons, ev_gTup, ev_gIx, evs_aug, ev_defF, evs_for, ev_rng1, ev_iSeq, ev_lc, o_addI, o_subI, o_addS, o_addT, o_mulI, o_modI, o_divI, o_powI, o_cmpI, o_intI, o_intB, o_absI, o_lst, o_tup, bl_bl, List.map_cons, List.map_nil, List.cons_append, List.nil_append, List.append_nil, List.getElem?_cons_zero, List.getElem?_cons_succ, List.set_cons_zero, List.set_cons_succ, List.length_cons, List.length_nil, List.replicate, Nat.reduceAdd, Nat.reduceSub, Nat.reduceLeDiff, true_and, and_true, if_true, decide_eq_true_eq, Nat.zero_add, Tm.inner_t ht, srcOf]
  refine for_inv (fun i env L' => L <+: L' ∧ ∃ x2, env = [some t.enc, some (.ref L.length), x2] ∧ L'[L.length]? = some (.lst (t.enc :: ((t.kids.take i).flatMap Tm.pre).map Tm.enc)))
    (n := t.kids.length) (fun i env L1 hi hp => ?_) (fun env L1 hp => ?_) _ 0 _ _ (by simp) ⟨pre_last, _, rfl, at_last⟩
  · obtain ⟨p1, x2, rfl, hL⟩ := hp
    have hkm : t.kids[i] ∈ t.kids := List.getElem_mem hi
    refine ⟨t.kids[i].enc, by simp [hi], ?_⟩
    simp only [wipeE, ev_ok, ev_bind, ev_only, ev_ofO, ev_ofOB, ev_ite, evs_ite, evo_some, evs_toS, evs_seq, ev_C, ev_var, ev_op2, ev_op1, ev_opL, ev_nil, ev_cons, ev_call, ev_bVal, ev_bTru, ev_bNot, ev_bAnd, ev_bOr, ev_bYes, ev_cIf, ev_cNot, ev_cAnd, ev_cOr, ev_chain, ev_part_none, ev_part_some, ev_sl, ev_mth, evs_skip, evs_set, evs_ret, evs_expr, evs_if, evs_par, evs_as, ev_gN, ev_gsNil, ev_gsCons, ev_gTup, ev_gIx, evs_aug, ev_defF, evs_for, ev_rng1, ev_iSeq, ev_lc, o_addI, o_subI, o_addS, o_addT, o_mulI, o_modI, o_divI, o_powI, o_cmpI, o_intI, o_intB, o_absI, o_lst, o_tup, bl_bl, List.map_cons, List.map_nil, List.cons_append, List.nil_append, List.append_nil, List.getElem?_cons_zero, List.getElem?_cons_succ, List.set_cons_zero, List.set_cons_succ, List.length_cons, List.length_nil, List.replicate, Nat.reduceAdd, Nat.reduceSub, Nat.reduceLeDiff, true_and, and_true, if_true, decide_eq_true_eq, Nat.zero_add]
    refine ⟨by simp [isLst, hL], ?_⟩
    have hsz := Tm.size_kid hkm
    refine (h t.kids[i] L1 (Tm.kids_ok ht hkm) (by have := Tm.dep_kid hkm; omega) (by omega)).mono fun w L2 q => ?_
    obtain ⟨m, rfl, hm, p2⟩ := q
    have hlen : (t.enc :: ((t.kids.take i).flatMap Tm.pre).map Tm.enc).length + (t.kids[i].pre.map Tm.enc).length ≤ 16777216 := by
      rw [List.length_cons, List.length_map, List.length_map, Tm.pre_len]
      have : ((t.kids.take i).flatMap Tm.pre).length ≤ (t.kids.flatMap Tm.pre).length := by
        conv => rhs; rw [← List.take_append_drop i t.kids, List.flatMap_append, List.length_append]
        omega
      have h2 := Tm.pre_len t
      rw [Tm.pre_eq, List.length_cons] at h2
      omega
    rw [extend_at (pre_at p2 hL) hm hlen, evo_some]
    refine ⟨pre_set (p1.trans p2) (Nat.le_refl _), _, rfl, ?_⟩
    rw [set_at (pre_at p2 hL), List.take_succ_eq_append_getElem hi, List.flatMap_append, List.map_append]
    simp
  · obtain ⟨p1, x2, rfl, hL⟩ := hp
    refine ⟨by simp, ?_⟩
    simp only [wipeE, ev_ok, ev_bind, ev_only, ev_ofO, ev_ofOB, ev_ite, evs_ite, evo_some, evs_toS, evs_seq, ev_C, ev_var, ev_op2, ev_op1, ev_opL, ev_nil, ev_cons, ev_call, ev_bVal, ev_bTru, ev_bNot, ev_bAnd, ev_bOr, ev_bYes, ev_cIf, ev_cNot, ev_cAnd, ev_cOr, ev_chain, ev_part_none, ev_part_some, ev_sl, ev_mth, evs_skip, evs_set, evs_ret, evs_expr, evs_if, evs_par, evs_as, ev_gN, ev_gsNil, ev_gsCons, ev_gTup, ev_gIx, evs_aug, ev_defF, evs_for, ev_rng1, ev_iSeq, ev_lc, o_addI, o_subI, o_addS, o_addT, o_mulI, o_modI, o_divI, o_powI, o_cmpI, o_intI, o_intB, o_absI, o_lst, o_tup, bl_bl, List.map_cons, List.map_nil, List.cons_append, List.nil_append, List.append_nil, List.getElem?_cons_zero, List.getElem?_cons_succ, List.set_cons_zero, List.set_cons_succ, List.length_cons, List.length_nil, List.replicate, Nat.reduceAdd, Nat.reduceSub, Nat.reduceLeDiff, true_and, and_true, if_true, decide_eq_true_eq, Nat.zero_add]
    rw [List.take_length] at hL
    exact ⟨_, rfl, by rw [hL, Tm.pre_eq t]; rfl, p1⟩
theorem lv_base (self : Fn) : LvS many self 0 := fun t L ht hd => by have := Tm.dep_pos t; omega
end Z

/-! ZY: names_with, has_tick. -/
namespace Z
open PySem PySem.Spec PyProof.Rows L2
variable {many : Int}
theorem dc_inv {S : Src} {c : CT} {t : Bx} {ke va : Ex} {env : Env} {Q : List (Key × W) → LH → Prop} (P : Nat → LH → List (Key × W) → Prop) {n : Nat}
    (hs : ∀ i L acc, i < n → P i L acc → ∃ w, S.get L i = some (some w) ∧ ∃ env1, c.set w env = some env1 ∧ Ev (t env1 L) fun b L1 => if b = true then Ev (ke env1 L1) fun y L2 => Ev (va env1 L2) fun z L3 => ∃ kk, keyW y = some kk ∧ acc.length < 16777216 ∧ P (i + 1) L3 (putW acc kk z) else P (i + 1) L1 acc)
    (hd : ∀ L acc, P n L acc → S.get L n = some none ∧ Q acc L) : ∀ (m i : Nat) (L : LH) (acc : List (Key × W)), i + m = n → P i L acc → Ev (dcLoop S c t ke va env (m + 1) i L acc) Q
  | 0, i, L, acc, ee, p => by
    have ee : i = n := by omega
    subst ee
    obtain ⟨h1, h2⟩ := hd L acc p
    unfold dcLoop
    rw [h1]
    exact h2
  | m + 1, i, L, acc, ee, p => by
    obtain ⟨w, h1, env1, h2, h3⟩ := hs i L acc (by omega) p
    unfold dcLoop
    rw [h1]
    simp only
    rw [h2]
    simp only [ev_bind, ev_only, ev_ite]
    refine h3.mono fun b L1 hb => ?_
    cases b with
    | false => exact dc_inv P hs hd m (i + 1) L1 acc (by omega) hb
    | true =>
      simp only [if_true] at hb ⊢
      refine hb.mono fun y L2 hy => hy.mono fun z L3 hz => ?_
      obtain ⟨kk, hk, hl, hz⟩ := hz
      rw [hk]
      simp only
      rw [if_pos hl]
      exact dc_inv P hs hd m (i + 1) L3 _ (by omega) hz
def addK (ns : List Str) (s : Str) : List Str := if s ∈ ns then ns else ns ++ [s]
def kvT (s : Str) : Key × W := (.inr s, .bl true)
theorem put_names (ns : List Str) (s : Str) : putW (ns.map kvT) (.inr s) (.bl true) = (addK ns s).map kvT := by
  unfold putW addK
  have h : ((ns.map kvT).any fun kv => decide (kv.1 = (.inr s : Key))) = decide (s ∈ ns) := by
    induction ns with
    | nil => rfl
    | cons a r ih =>
      rw [List.map_cons, List.any_cons, ih, Bool.eq_iff_iff]
      simp only [kvT, Bool.or_eq_true, decide_eq_true_eq, List.mem_cons]
      constructor
      · rintro (h | h)
        · exact .inl (Sum.inr.inj (of_decide_eq_true h)).symm
        · exact .inr h
      · rintro (h | h)
        · exact .inl (decide_eq_true (by rw [h]))
        · exact .inr h
  rw [h]
  by_cases hs : s ∈ ns
  · rw [if_pos (decide_eq_true hs), if_pos hs, List.map_map]
    refine List.map_congr_left fun a _ => ?_
    show (if (kvT a).1 = _ then _ else _) = _
    split
    · rfl
    · rfl
  · rw [if_neg (by simpa using hs), if_neg hs, List.map_append]; rfl
namespace Tm
/-- the name of a node of this kind -/
def nm (kd : Str) : Tm → Option Str
  | .cell s => if kd = "cell" then some s else none
  | .call0 s => if kd = "call" then some s else none
  | .call2 s _ _ => if kd = "call" then some s else none
  | _ => none
def names (kd : Str) (t : Tm) : List Str := (t.pre.filterMap (nm kd)).foldl addK []
end Tm
theorem fold_add_len : ∀ (l ns : List Str), (l.foldl addK ns).length ≤ ns.length + l.length
  | [], ns => Nat.le_refl _
  | s :: r, ns => by
    have := fold_add_len r (addK ns s)
    have h2 : (addK ns s).length ≤ ns.length + 1 := by unfold addK; split <;> simp
    rw [List.foldl_cons, List.length_cons]; omega
theorem fold_add_mem {x : Str} : ∀ (l ns : List Str), x ∈ l.foldl addK ns ↔ x ∈ ns ∨ x ∈ l
  | [], ns => by simp
  | s :: r, ns => by
    rw [List.foldl_cons, fold_add_mem r]
    unfold addK
    split
    · rename_i h
      constructor
      · rintro (q | q); exact .inl q; exact .inr (List.mem_cons_of_mem _ q)
      · rintro (q | q); exact .inl q
        rcases List.mem_cons.mp q with rfl | q; exact .inl h; exact .inr q
    · rw [List.mem_append, List.mem_singleton, List.mem_cons]
      constructor
      · rintro ((q | q) | q); exact .inl q; exact .inr (.inl q); exact .inr (.inr q)
      · rintro (q | q | q); exact .inl (.inl q); exact .inl (.inr q); exact .inr q
theorem fold_add_nodup : ∀ (l ns : List Str), ns.Nodup → (l.foldl addK ns).Nodup
  | [], ns, h => h
  | s :: r, ns, h => by
    rw [List.foldl_cons]
    refine fold_add_nodup r _ ?_
    unfold addK
    split
    · exact h
    · rename_i hs
      rw [List.nodup_append]
      exact ⟨h, by simp, fun a ha b hb => by rw [List.mem_singleton.mp hb]; rintro rfl; exact hs ha⟩
theorem names_len (kd : Str) (t : Tm) : (t.names kd).length ≤ t.size := by
  have h1 := fold_add_len (t.pre.filterMap (Tm.nm kd)) []
  have h2 := List.length_filterMap_le (Tm.nm kd) t.pre
  rw [Tm.pre_len] at h2
  unfold Tm.names
  simp at h1
  omega
/-- one part is looked at -/
theorem part_test {u : Tm} {kd : Str} {L : LH} (hu : u.ok many) (hk : kd = "cell" ∨ kd = "call") {env : Env} (h3 : env[3]? = some (some u.enc)) (h1 : env[1]? = some (some (.str kd))) :
    Ev (bAnd (bTru (cOpL oIsi (cCons (cVar 3) (cCons (cC (.ty "tuple")) cNil)))) (bVal (cOp2 oEq (cOp2 oIx (cVar 3) (cC (.int 0))) (cVar 1))) env L) fun b L' => b = (u.nm kd).isSome ∧ L' = L := by
  have so : PyData.strOk kd = true := by rcases hk with rfl | rfl; exact so_cell; exact so_call
  have e : kitB "tuple" "tuple" = some true := rfl
  have e2 : kitB "int" "tuple" = some false := rfl
  have key : ∀ {s : Str} {r : List W}, u.enc = .tup (.str s :: r) → (u.nm kd).isSome = (s == kd) → Ev (bAnd (bTru (cOpL oIsi (cCons (cVar 3) (cCons (cC (.ty "tuple")) cNil)))) (bVal (cOp2 oEq (cOp2 oIx (cVar 3) (cC (.int 0))) (cVar 1))) env L) fun b L' => b = (u.nm kd).isSome ∧ L' = L := fun {s r} he hn => by
    have ty : tyName (.tup (.str s :: r)) L = some "tuple" := rfl
    simp only [wipeE, ev_ok, ev_bind, ev_only, ev_ofO, ev_ofOB, ev_ite, evs_ite, evo_some, evs_toS, evs_seq, ev_C, ev_var, ev_op2, ev_op1, ev_opL, ev_nil, ev_cons, ev_call, ev_bVal, ev_bTru, ev_bNot, ev_bAnd, ev_bOr, ev_bYes, ev_cIf, ev_cNot, ev_cAnd, ev_cOr, ev_chain, ev_part_none, ev_part_some, ev_sl, ev_mth, evs_skip, evs_set, evs_ret, evs_expr, evs_if, evs_par, evs_as, ev_gN, ev_gsNil, ev_gsCons, ev_gTup, ev_gIx, evs_aug, ev_defF, evs_for, ev_rng1, ev_iSeq, ev_lc, o_addI, o_subI, o_addS, o_addT, o_mulI, o_modI, o_divI, o_powI, o_cmpI, o_intI, o_intB, o_absI, o_lst, o_tup, bl_bl, List.map_cons, List.map_nil, List.cons_append, List.nil_append, List.append_nil, List.getElem?_cons_zero, List.getElem?_cons_succ, List.set_cons_zero, List.set_cons_succ, List.length_cons, List.length_nil, List.replicate, Nat.reduceAdd, Nat.reduceSub, Nat.reduceLeDiff, true_and, and_true, if_true, decide_eq_true_eq, Nat.zero_add, h3, h1, he, isi_of ty, e, truW, ix_tup0, oEq, eqX_ss (Tm.enc_head hu s r he) so, oB, Option.map, blW]
    exact hn.symm
  cases u with
  | val i =>
    have ty : tyName (Tm.enc (.val i)) L = some "int" := rfl
    simp only [wipeE, ev_ok, ev_bind, ev_only, ev_ofO, ev_ofOB, ev_ite, evs_ite, evo_some, evs_toS, evs_seq, ev_C, ev_var, ev_op2, ev_op1, ev_opL, ev_nil, ev_cons, ev_call, ev_bVal, ev_bTru, ev_bNot, ev_bAnd, ev_bOr, ev_bYes, ev_cIf, ev_cNot, ev_cAnd, ev_cOr, ev_chain, ev_part_none, ev_part_some, ev_sl, ev_mth, evs_skip, evs_set, evs_ret, evs_expr, evs_if, evs_par, evs_as, ev_gN, ev_gsNil, ev_gsCons, ev_gTup, ev_gIx, evs_aug, ev_defF, evs_for, ev_rng1, ev_iSeq, ev_lc, o_addI, o_subI, o_addS, o_addT, o_mulI, o_modI, o_divI, o_powI, o_cmpI, o_intI, o_intB, o_absI, o_lst, o_tup, bl_bl, List.map_cons, List.map_nil, List.cons_append, List.nil_append, List.append_nil, List.getElem?_cons_zero, List.getElem?_cons_succ, List.set_cons_zero, List.set_cons_succ, List.length_cons, List.length_nil, List.replicate, Nat.reduceAdd, Nat.reduceSub, Nat.reduceLeDiff, true_and, and_true, if_true, decide_eq_true_eq, Nat.zero_add, h3, isi_of ty, e2, truW, Bool.false_eq_true, if_false]
    exact rfl
  | arg i => exact key rfl (by rcases hk with rfl | rfl <;> rfl)
  | cell i => exact key rfl (by rcases hk with rfl | rfl <;> rfl)
  | tick => exact key rfl (by rcases hk with rfl | rfl <;> rfl)
  | call0 i => exact key rfl (by rcases hk with rfl | rfl <;> rfl)
  | call2 i => exact key rfl (by rcases hk with rfl | rfl <;> rfl)
  | ite i => exact key rfl (by rcases hk with rfl | rfl <;> rfl)
  | bin h a b => exact key rfl (by
      have := hu.1
      rcases this with rfl | rfl | rfl <;> rcases hk with rfl | rfl <;> rfl)
theorem nm_at {u : Tm} {kd s : Str} (h : u.nm kd = some s) : ∃ x r, u.enc = .tup (x :: .str s :: r) := by
  cases u <;> simp [Tm.nm] at h
  · obtain ⟨_, rfl⟩ := h; exact ⟨_, _, rfl⟩
  · obtain ⟨_, rfl⟩ := h; exact ⟨_, _, rfl⟩
  · obtain ⟨_, rfl⟩ := h; exact ⟨_, _, rfl⟩
theorem ev_lock {f : Ex} {b : Ex} {env : Env} {L : LH} {n : Nat} {kvs : List (Key × W)} {Q : W → LH → Prop} {L1 : LH} (hf : f env L = .ok (.ref n) L1) (hn : L[n]? = some (.dic kvs)) :
    Ev (lockE f b env L) Q = Ev (b env (L.set n (.lck kvs))) fun w L2 => match L2[n]? with | some (.lck kvs') => Q w (L2.set n (.dic kvs')) | _ => False := by
  unfold lockE
  rw [hf]
  simp only [hn, ev_bind, ev_only]
  congr
  funext w L2
  split <;> rename_i h <;> first | rfl | (simp only [h] <;> rfl)
theorem srcK_is {L : LH} {n : Nat} {kvs : List (Key × W)} (h : L[n]? = some (.lck kvs)) : SrcIs (srcK n kvs.length) L (kvs.map fun kv => kW kv.1) := by
  refine ⟨by simp [srcK], fun L' p i => ?_⟩
  have : lckL L' n = some kvs := by unfold lckL; rw [pre_at p h]
  simp only [srcK, this, Option.map]
  rw [List.getElem?_map]; rfl
def c_names_with (lv : Fn) : Fn := f_names_with lv
theorem names_with_ok {lv : Fn} {d : Nat} (hl : LvS many lv d) {t : Tm} {kd : Str} {L : LH} (ht : t.ok many) (hd : t.dep ≤ d) (hs : t.size ≤ 30) (hk : kd = "cell" ∨ kd = "call") :
    Ev (f_names_with lv [t.enc, .str kd] L) fun w L' => ∃ n, w = .ref n ∧ L'[n]? = some (.lst ((srtS (t.names kd)).map .str)) ∧ L <+: L' := by
  simp only [f_names_with, cDc, wipeE, ev_ok, ev_bind, ev_only, ev_ofO, ev_ofOB, ev_ite, evs_ite, evo_some, evs_toS, evs_seq, ev_C, ev_var, ev_op2, ev_op1, ev_opL, ev_nil, ev_cons, ev_call, ev_bVal, ev_bTru, ev_bNot, ev_bAnd, ev_bOr, ev_bYes, ev_cIf, ev_cNot, ev_cAnd, ev_cOr, ev_chain, ev_part_none, ev_part_some, ev_sl, ev_mth, evs_skip, evs_set, evs_ret, evs_expr, evs_if, evs_par, evs_as, ev_gN, ev_gsNil, ev_gsCons, ev_gTup, ev_gIx, evs_aug, ev_defF, evs_for, ev_rng1, ev_iSeq, ev_lc, o_addI, o_subI, o_addS, o_addT, o_mulI, o_modI, o_divI, o_powI, o_cmpI, o_intI, o_intB, o_absI, o_lst, o_tup, bl_bl, List.map_cons, List.map_nil, List.cons_append, List.nil_append, List.append_nil, List.getElem?_cons_zero, List.getElem?_cons_succ, List.set_cons_zero, List.set_cons_succ, List.length_cons, List.length_nil, List.replicate, Nat.reduceAdd, Nat.reduceSub, Nat.reduceLeDiff, true_and, and_true, if_true, decide_eq_true_eq, Nat.zero_add]
  refine (hl t L ht hd (by omega)).mono fun w L1 q => ?_
  obtain ⟨n, rfl, hn, p1⟩ := q
  obtain ⟨S, e1, hS⟩ := srcOf_at hn
  simp only [e1]
  refine Ev.mono (Q := fun acc L2 => acc = (t.names kd).map kvT ∧ L1 <+: L2) ?_ fun acc L2 q => ?_
  · refine dc_inv (P := fun i L2 acc => acc = (((t.pre.take i).filterMap (Tm.nm kd)).foldl addK []).map kvT ∧ L1 <+: L2) (n := t.pre.length) (fun i L2 acc hi hp => ?_) (fun L2 acc hp => ?_) S.len 0 L1 [] (by rw [hS.1]; simp) ⟨rfl, List.prefix_refl _⟩
    · obtain ⟨rfl, p2⟩ := hp
      have hm : t.pre[i] ∈ t.pre := List.getElem_mem hi
      refine ⟨t.pre[i].enc, by rw [hS.2 L2 p2, List.getElem?_map, List.getElem?_eq_getElem hi]; rfl, _, rfl, ?_⟩
      refine (part_test (kd := kd) (Tm.pre_ok ht _ hm) hk rfl rfl).mono fun b L3 q => ?_
      obtain ⟨rfl, rfl⟩ := q
      have htk : (t.pre.take (i + 1)).filterMap (Tm.nm kd) = (t.pre.take i).filterMap (Tm.nm kd) ++ (match t.pre[i].nm kd with | some s => [s] | none => []) := by
        rw [List.take_succ_eq_append_getElem hi, List.filterMap_append]
        congr 1
        cases e : t.pre[i].nm kd with
        | none => simp [e]
        | some s => simp [e]
      cases e : t.pre[i].nm kd with
      | none =>
        simp only [Option.isSome_none, Bool.false_eq_true, if_false]
        rw [htk, e]; exact ⟨by simp, p2⟩
      | some s =>
        obtain ⟨x, r, he⟩ := nm_at e
        simp only [Option.isSome_some, if_true, wipeE, ev_ok, ev_bind, ev_only, ev_ofO, ev_ofOB, ev_ite, evs_ite, evo_some, evs_toS, evs_seq, ev_C, ev_var, ev_op2, ev_op1, ev_opL, ev_nil, ev_cons, ev_call, ev_bVal, ev_bTru, ev_bNot, ev_bAnd, ev_bOr, ev_bYes, ev_cIf, ev_cNot, ev_cAnd, ev_cOr, ev_chain, ev_part_none, ev_part_some, ev_sl, ev_mth, evs_skip, evs_set, evs_ret, evs_expr, evs_if, evs_par, evs_as, ev_gN, ev_gsNil, ev_gsCons, ev_gTup, ev_gIx, evs_aug, ev_defF, evs_for, ev_rng1, ev_iSeq, ev_lc, o_addI, o_subI, o_addS, o_addT, o_mulI, o_modI, o_divI, o_powI, o_cmpI, o_intI, o_intB, o_absI, o_lst, o_tup, bl_bl, List.map_cons, List.map_nil, List.cons_append, List.nil_append, List.append_nil, List.getElem?_cons_zero, List.getElem?_cons_succ, List.set_cons_zero, List.set_cons_succ, List.length_cons, List.length_nil, List.replicate, Nat.reduceAdd, Nat.reduceSub, Nat.reduceLeDiff, true_and, and_true, if_true, decide_eq_true_eq, Nat.zero_add, he, ix_tup1]
        refine ⟨.inr s, rfl, ?_, ?_, p2⟩
        · rw [List.length_map]
          have h1 := fold_add_len ((t.pre.take i).filterMap (Tm.nm kd)) []
          have h2 := List.length_filterMap_le (Tm.nm kd) (t.pre.take i)
          have h3 := Tm.pre_len t
          rw [List.length_take] at h2
          simp at h1
          omega
        · rw [put_names, htk, e, List.foldl_append]; rfl
    · obtain ⟨rfl, p2⟩ := hp
      refine ⟨by rw [hS.2 L2 p2, List.getElem?_eq_none (by rw [List.length_map]; exact Nat.le_refl _)], ?_, p2⟩
      rw [List.take_length]; rfl
  · obtain ⟨rfl, p2⟩ := q
    have hlen := names_len kd t
    have hf : cVar 2 [some t.enc, some (.str kd), some (.ref L2.length), none, none] (L2 ++ [.dic ((t.names kd).map kvT)]) = .ok (.ref L2.length) (L2 ++ [.dic ((t.names kd).map kvT)]) := rfl
    rw [ev_lock hf at_last]
    have hset : (L2 ++ [LO.dic ((t.names kd).map kvT)]).set L2.length (.lck ((t.names kd).map kvT)) = L2 ++ [.lck ((t.names kd).map kvT)] := by
      rw [List.set_append_right _ _ (Nat.le_refl _)]; simp
    rw [hset]
    have hlk : lckL (L2 ++ [LO.lck ((t.names kd).map kvT)]) L2.length = some ((t.names kd).map kvT) := by unfold lckL; rw [at_last]
    simp only [iKy, wipeE, ev_ok, ev_bind, ev_only, ev_ofO, ev_ofOB, ev_ite, evs_ite, evo_some, evs_toS, evs_seq, ev_C, ev_var, ev_op2, ev_op1, ev_opL, ev_nil, ev_cons, ev_call, ev_bVal, ev_bTru, ev_bNot, ev_bAnd, ev_bOr, ev_bYes, ev_cIf, ev_cNot, ev_cAnd, ev_cOr, ev_chain, ev_part_none, ev_part_some, ev_sl, ev_mth, evs_skip, evs_set, evs_ret, evs_expr, evs_if, evs_par, evs_as, ev_gN, ev_gsNil, ev_gsCons, ev_gTup, ev_gIx, evs_aug, ev_defF, evs_for, ev_rng1, ev_iSeq, ev_lc, o_addI, o_subI, o_addS, o_addT, o_mulI, o_modI, o_divI, o_powI, o_cmpI, o_intI, o_intB, o_absI, o_lst, o_tup, bl_bl, List.map_cons, List.map_nil, List.cons_append, List.nil_append, List.append_nil, List.getElem?_cons_zero, List.getElem?_cons_succ, List.set_cons_zero, List.set_cons_succ, List.length_cons, List.length_nil, List.replicate, Nat.reduceAdd, Nat.reduceSub, Nat.reduceLeDiff, true_and, and_true, if_true, decide_eq_true_eq, Nat.zero_add, hlk]
    have hS2 := srcK_is (L := L2 ++ [LO.lck ((t.names kd).map kvT)]) at_last
    rw [List.map_map] at hS2
    refine (lc_map (ts := t.names kd) (f := fun s => kW (kvT s).1) (g := fun s => .str s) hS2 (by omega) fun s hs' L3 p3 => ?_).mono fun acc L3 q => ?_
    · simp only [wipeE, ev_ok, ev_bind, ev_only, ev_ofO, ev_ofOB, ev_ite, evs_ite, evo_some, evs_toS, evs_seq, ev_C, ev_var, ev_op2, ev_op1, ev_opL, ev_nil, ev_cons, ev_call, ev_bVal, ev_bTru, ev_bNot, ev_bAnd, ev_bOr, ev_bYes, ev_cIf, ev_cNot, ev_cAnd, ev_cOr, ev_chain, ev_part_none, ev_part_some, ev_sl, ev_mth, evs_skip, evs_set, evs_ret, evs_expr, evs_if, evs_par, evs_as, ev_gN, ev_gsNil, ev_gsCons, ev_gTup, ev_gIx, evs_aug, ev_defF, evs_for, ev_rng1, ev_iSeq, ev_lc, o_addI, o_subI, o_addS, o_addT, o_mulI, o_modI, o_divI, o_powI, o_cmpI, o_intI, o_intB, o_absI, o_lst, o_tup, bl_bl, List.map_cons, List.map_nil, List.cons_append, List.nil_append, List.append_nil, List.getElem?_cons_zero, List.getElem?_cons_succ, List.set_cons_zero, List.set_cons_succ, List.length_cons, List.length_nil, List.replicate, Nat.reduceAdd, Nat.reduceSub, Nat.reduceLeDiff, true_and, and_true, if_true, decide_eq_true_eq, Nat.zero_add, kvT, kW, oStr]
      exact List.prefix_refl _
    · obtain ⟨rfl, p3⟩ := q
      have hl3 : (L3 ++ [LO.lst ((t.names kd).map .str)])[L2.length]? = some (.lck ((t.names kd).map kvT)) := pre_at pre_last (pre_at p3 at_last)
      rw [hl3]
      simp only
      have hlt : L2.length < L3.length := (List.getElem?_eq_some_iff.mp (pre_at p3 at_last)).1
      have hne : ((L3 ++ [LO.lst ((t.names kd).map .str)]).set L2.length (.dic ((t.names kd).map kvT)))[L3.length]? = some (.lst ((t.names kd).map .str)) := by
        rw [List.getElem?_set_ne (by omega)]; exact at_last
      rw [sorted_at hne (by omega), evo_some]
      refine ⟨_, rfl, at_last, ?_⟩
      refine List.IsPrefix.trans ?_ pre_last
      exact (p1.trans p2).trans (pre_set (pre_last.trans (p3.trans pre_last)) (Nat.le_refl _))
end Z

/-! ZZ: has_tick, the law's own counts. -/
namespace Z
open PySem PySem.Spec PyProof.Rows L2
variable {many : Int}
namespace Tm
def isTick : Tm → Bool
  | .tick => true
  | _ => false
def tickB (t : Tm) : Bool := t.pre.any isTick
theorem eqv_tick {t : Tm} (h : t.ok many) : PyData.eqv t.dat (.tuple [.str "tick"]) = t.isTick := by
  cases t with
  | tick => rfl
  | val i => rfl
  | arg i => simp [dat, PyData.eqv, PyData.eqvAll, isTick]
  | cell i => simp [dat, PyData.eqv, PyData.eqvAll, isTick]
  | call0 i => simp [dat, PyData.eqv, PyData.eqvAll, isTick]
  | call2 s a b => simp [dat, PyData.eqv, PyData.eqvAll, isTick]
  | bin s a b => simp [dat, PyData.eqv, PyData.eqvAll, isTick]
  | ite a b c => simp [dat, PyData.eqv, PyData.eqvAll, isTick]
end Tm
theorem toD_ref {L : LH} {n : Nat} {ts : List Tm} {d : Nat} (h : L[n]? = some (.lst (ts.map Tm.enc))) (hd : ∀ t ∈ ts, t.dep ≤ d) (h9 : d ≤ 9) : toD L 40 (.ref n) = some (.list (ts.map Tm.dat)) := by
  unfold toD
  rw [seqL_at h]
  simp only
  rw [toDs_of 39 _ _ (pdats ts) (by have := wdeps_le ts hd; omega)]
  rfl
theorem has_tick_ok {lv : Fn} {d : Nat} (hl : LvS many lv d) {t : Tm} {L : LH} (ht : t.ok many) (hd : t.dep ≤ d) (hs : t.size ≤ 30) (h9 : t.dep ≤ 9) :
    Ev (f_has_tick lv [t.enc] L) fun w L' => w = .bl t.tickB ∧ L <+: L' := by
  simp only [f_has_tick, wipeE, ev_ok, ev_bind, ev_only, ev_ofO, ev_ofOB, ev_ite, evs_ite, evo_some, evs_toS, evs_seq, ev_C, ev_var, ev_op2, ev_op1, ev_opL, ev_nil, ev_cons, ev_call, ev_bVal, ev_bTru, ev_bNot, ev_bAnd, ev_bOr, ev_bYes, ev_cIf, ev_cNot, ev_cAnd, ev_cOr, ev_chain, ev_part_none, ev_part_some, ev_sl, ev_mth, evs_skip, evs_set, evs_ret, evs_expr, evs_if, evs_par, evs_as, ev_gN, ev_gsNil, ev_gsCons, ev_gTup, ev_gIx, evs_aug, ev_defF, evs_for, ev_rng1, ev_iSeq, ev_lc, o_addI, o_subI, o_addS, o_addT, o_mulI, o_modI, o_divI, o_powI, o_cmpI, o_intI, o_intB, o_absI, o_lst, o_tup, bl_bl, List.map_cons, List.map_nil, List.cons_append, List.nil_append, List.append_nil, List.getElem?_cons_zero, List.getElem?_cons_succ, List.set_cons_zero, List.set_cons_succ, List.length_cons, List.length_nil, List.replicate, Nat.reduceAdd, Nat.reduceSub, Nat.reduceLeDiff, true_and, and_true, if_true, decide_eq_true_eq, Nat.zero_add]
  refine (hl t L ht hd (by omega)).mono fun w L1 q => ?_
  obtain ⟨n, rfl, hn, p1⟩ := q
  have hdd : ∀ u ∈ t.pre, u.dep ≤ 9 := fun u hu => Nat.le_trans (Tm.pre_dep t u hu) h9
  have e1 : toD L1 40 (.tup [.str "tick"]) = some (.tuple [.str "tick"]) := toD_of 40 _ _ (Tm.pdat .tick) (by simp [wdep, wdeps])
  have e2 := toD_ref hn hdd (Nat.le_refl _)
  have s1 : SeqAt.shaped (.tuple [.str "tick"]) = true := by
    unfold SeqAt.shaped
    simp [PyData.canLay0, PyData.canLayAll0, so_tick, PyData.depth, PyData.depthAll]
  have s2 : SeqAt.shaped (.list (t.pre.map Tm.dat)) = true := by
    unfold SeqAt.shaped
    rw [Bool.and_eq_true]
    refine ⟨lays (Tm.pre_ok ht), decide_eq_true ?_⟩
    have := ddeps_le t.pre hdd
    simp only [PyData.depth]; omega
  have : oInD (.tup [.str "tick"]) (.ref n) L1 = some (.bl t.tickB, L1) := by
    have h1 : dicW (.ref n) L1 = none := by simp only [dicW, hn]
    unfold oInD
    rw [h1]
    simp only [oIn, inW, seqL_at hn]
    rw [if_neg (by rintro ⟨q, _⟩; cases q)]
    unfold inD
    rw [e1, e2]
    simp only [s1, s2, and_self, if_true, oB, Option.map]
    congr 3
    rw [List.any_map]
    unfold Tm.tickB
    rw [Bool.eq_iff_iff, List.any_eq_true, List.any_eq_true]
    constructor
    · rintro ⟨x, hx, hq⟩
      refine ⟨x, hx, ?_⟩
      rw [← Tm.eqv_tick (Tm.pre_ok ht x hx)]; exact hq
    · rintro ⟨x, hx, hq⟩
      refine ⟨x, hx, ?_⟩
      rw [← Tm.eqv_tick (Tm.pre_ok ht x hx)] at hq; exact hq
  rw [this, evo_some]
  exact ⟨rfl, p1⟩
/-! ### the law's own -/
theorem in_lst {L : LH} {n : Nat} {a : W} {ws : List W} {neg : Bool} (h : L[n]? = some (.lst ws)) (ha : flatW a = true) (hw : ws.all flatW = true) : oInD a (.ref n) L = some (.bl (ws.any fun y => eqF y a), L) := by
  have h1 : dicW (.ref n) L = none := by simp only [dicW, h]
  unfold oInD
  rw [h1]
  simp only [oIn, inW, seqL_at h]
  rw [if_pos ⟨ha, hw⟩]; rfl
theorem law_inner_ok {t : Tm} {L : LH} (ht : t.ok many) : Ev (f_law_inner [t.enc] L) fun w L' => ∃ n, w = .ref n ∧ L'[n]? = some (.lst (t.kids.map Tm.enc)) ∧ L <+: L' ∧ L.length ≤ n := by
  have e : kitB "tuple" "tuple" = some true := rfl
  have e2 : kitB "int" "tuple" = some false := rfl
  have key : ∀ {s : Str} {r : List W}, t.enc = .tup (.str s :: r) → Ev (f_law_inner [t.enc] L) (fun w L' => ∃ n, w = .ref n ∧ L'[n]? = some (.lst (t.kids.map Tm.enc)) ∧ L <+: L' ∧ L.length ≤ n) := fun {s r} he => by
    have ty : tyName (.tup (.str s :: r)) L = some "tuple" := rfl
    have so := Tm.enc_head ht s r he
    have hi := Tm.enc_inner ht
    rw [he] at hi
    simp only [f_law_inner, wipeE, ev_ok, ev_bind, ev_only, ev_ofO, ev_ofOB, ev_ite, evs_ite, evo_some, evs_toS, evs_seq, ev_C, ev_var, ev_op2, ev_op1, ev_opL, ev_nil, ev_cons, ev_call, ev_bVal, ev_bTru, ev_bNot, ev_bAnd, ev_bOr, ev_bYes, ev_cIf, ev_cNot, ev_cAnd, ev_cOr, ev_chain, ev_part_none, ev_part_some, ev_sl, ev_mth, evs_skip, evs_set, evs_ret, evs_expr, evs_if, evs_par, evs_as, ev_gN, ev_gsNil, ev_gsCons, ev_gTup, ev_gIx, evs_aug, ev_defF, evs_for, ev_rng1, ev_iSeq, ev_lc, o_addI, o_subI, o_addS, o_addT, o_mulI, o_modI, o_divI, o_powI, o_cmpI, o_intI, o_intB, o_absI, o_lst, o_tup, bl_bl, List.map_cons, List.map_nil, List.cons_append, List.nil_append, List.append_nil, List.getElem?_cons_zero, List.getElem?_cons_succ, List.set_cons_zero, List.set_cons_succ, List.length_cons, List.length_nil, List.replicate, Nat.reduceAdd, Nat.reduceSub, Nat.reduceLeDiff, true_and, and_true, if_true, decide_eq_true_eq, Nat.zero_add, he, isi_of ty, e, truW, Bool.not_true, Bool.false_eq_true, if_false, ix_tup0]
    rw [in_lst (neg := false) at_last rfl rfl, evo_some]
    simp only [blW]
    cases hb : ([W.str "arg", W.str "cell", W.str "tick"].any fun y => eqF y (.str s)) with
    | true =>
      simp only [if_true]
      refine ⟨_, rfl, ?_, pre_last.trans pre_last, by simp⟩
      have hs : s = "arg" ∨ s = "cell" ∨ s = "tick" := by
        simp [eqF] at hb
        rcases hb with q | q | q
        · exact .inl q.symm
        · exact .inr (.inl q.symm)
        · exact .inr (.inr q.symm)
      rw [at_last]
      congr 2
      cases t <;> simp [Tm.enc] at he <;> first | rfl | (obtain ⟨rfl, _⟩ := he; rcases hs with q | q | q <;> simp at q) | skip
      · obtain ⟨rfl, _⟩ := he
        rcases ht.1 with rfl | rfl | rfl <;> rcases hs with q | q | q <;> simp at q
    | false =>
      simp only [Bool.false_eq_true, if_false]
      have hs : s ≠ "arg" ∧ s ≠ "cell" ∧ s ≠ "tick" := by
        simp [eqF] at hb
        exact ⟨fun q => hb.1 q.symm, fun q => hb.2.1 q.symm, fun q => hb.2.2 q.symm⟩
      simp only [ix_tup0, evo_some, oEq, eqX_ss so so_call, oB, Option.map, blW]
      unfold innerW at hi
      simp only at hi
      by_cases hc : s = "call"
      · rw [if_pos hc] at hi
        simp only [hc, beq_self_eq_true, if_true]
        split at hi
        · rename_i ks
          cases hi
          simp only [ix_tup2, evo_some, oList, seqW]
          exact ⟨_, rfl, at_last, pre_last.trans pre_last, by simp⟩
        · cases hi
      · rw [if_neg hc] at hi
        have hb : (s == ("call" : Str)) = false := beq_eq_false_iff_ne.mpr hc
        simp only [hb, Bool.false_eq_true, if_false, oSl, evo_some, cutW_tail, oList, seqW]
        refine ⟨_, rfl, ?_, pre_last.trans pre_last, by simp⟩
        rw [at_last]
        congr 2
        split at hi
        · cases hi; rfl
        · rename_i hno
          cases t <;> simp [Tm.enc] at he
          · exact absurd he.1.symm hs.1
          · exact absurd he.1.symm hs.2.1
          · exact absurd he.1.symm hs.2.2
          · exact absurd he.1.symm hc
          · exact absurd he.1.symm hc
          · obtain ⟨rfl, _⟩ := he; exact absurd (ht.1.elim .inl fun q => .inr (q.elim .inl fun q => .inr (.inl q))) hno
          · exact absurd (.inr (.inr (.inr he.1.symm))) hno
  cases t with
  | val i =>
    have ty : tyName (.int i) L = some "int" := rfl
    simp only [f_law_inner, wipeE, ev_ok, ev_bind, ev_only, ev_ofO, ev_ofOB, ev_ite, evs_ite, evo_some, evs_toS, evs_seq, ev_C, ev_var, ev_op2, ev_op1, ev_opL, ev_nil, ev_cons, ev_call, ev_bVal, ev_bTru, ev_bNot, ev_bAnd, ev_bOr, ev_bYes, ev_cIf, ev_cNot, ev_cAnd, ev_cOr, ev_chain, ev_part_none, ev_part_some, ev_sl, ev_mth, evs_skip, evs_set, evs_ret, evs_expr, evs_if, evs_par, evs_as, ev_gN, ev_gsNil, ev_gsCons, ev_gTup, ev_gIx, evs_aug, ev_defF, evs_for, ev_rng1, ev_iSeq, ev_lc, o_addI, o_subI, o_addS, o_addT, o_mulI, o_modI, o_divI, o_powI, o_cmpI, o_intI, o_intB, o_absI, o_lst, o_tup, bl_bl, List.map_cons, List.map_nil, List.cons_append, List.nil_append, List.append_nil, List.getElem?_cons_zero, List.getElem?_cons_succ, List.set_cons_zero, List.set_cons_succ, List.length_cons, List.length_nil, List.replicate, Nat.reduceAdd, Nat.reduceSub, Nat.reduceLeDiff, true_and, and_true, if_true, decide_eq_true_eq, Nat.zero_add, Tm.enc, isi_of ty, e2, truW, Bool.not_false, if_true]
    exact ⟨_, rfl, at_last, pre_last, Nat.le_refl _⟩
  | arg i => exact key rfl
  | cell i => exact key rfl
  | tick => exact key rfl
  | call0 i => exact key rfl
  | call2 i => exact key rfl
  | ite i => exact key rfl
  | bin h a b => exact key rfl
/-! ### dicts told key by key -/
@[simp] theorem sn_size_cell : (Str.ofString "size" = Str.ofString "cell") = False := eq_false (by decide +kernel)
@[simp] theorem sn_size_call : (Str.ofString "size" = Str.ofString "call") = False := eq_false (by decide +kernel)
@[simp] theorem sn_size_tick : (Str.ofString "size" = Str.ofString "tick") = False := eq_false (by decide +kernel)
@[simp] theorem sn_size_depth : (Str.ofString "size" = Str.ofString "depth") = False := eq_false (by decide +kernel)
@[simp] theorem sn_size_name : (Str.ofString "size" = Str.ofString "name") = False := eq_false (by decide +kernel)
@[simp] theorem sn_size_many : (Str.ofString "size" = Str.ofString "many") = False := eq_false (by decide +kernel)
@[simp] theorem sn_size_cells : (Str.ofString "size" = Str.ofString "cells") = False := eq_false (by decide +kernel)
@[simp] theorem sn_size_functions : (Str.ofString "size" = Str.ofString "functions") = False := eq_false (by decide +kernel)
@[simp] theorem sn_cell_size : (Str.ofString "cell" = Str.ofString "size") = False := eq_false (by decide +kernel)
@[simp] theorem sn_cell_depth : (Str.ofString "cell" = Str.ofString "depth") = False := eq_false (by decide +kernel)
@[simp] theorem sn_cell_name : (Str.ofString "cell" = Str.ofString "name") = False := eq_false (by decide +kernel)
@[simp] theorem sn_cell_many : (Str.ofString "cell" = Str.ofString "many") = False := eq_false (by decide +kernel)
@[simp] theorem sn_cell_cells : (Str.ofString "cell" = Str.ofString "cells") = False := eq_false (by decide +kernel)
@[simp] theorem sn_cell_functions : (Str.ofString "cell" = Str.ofString "functions") = False := eq_false (by decide +kernel)
@[simp] theorem sn_call_size : (Str.ofString "call" = Str.ofString "size") = False := eq_false (by decide +kernel)
@[simp] theorem sn_call_depth : (Str.ofString "call" = Str.ofString "depth") = False := eq_false (by decide +kernel)
@[simp] theorem sn_call_name : (Str.ofString "call" = Str.ofString "name") = False := eq_false (by decide +kernel)
@[simp] theorem sn_call_many : (Str.ofString "call" = Str.ofString "many") = False := eq_false (by decide +kernel)
@[simp] theorem sn_call_cells : (Str.ofString "call" = Str.ofString "cells") = False := eq_false (by decide +kernel)
@[simp] theorem sn_call_functions : (Str.ofString "call" = Str.ofString "functions") = False := eq_false (by decide +kernel)
@[simp] theorem sn_tick_size : (Str.ofString "tick" = Str.ofString "size") = False := eq_false (by decide +kernel)
@[simp] theorem sn_tick_depth : (Str.ofString "tick" = Str.ofString "depth") = False := eq_false (by decide +kernel)
@[simp] theorem sn_tick_name : (Str.ofString "tick" = Str.ofString "name") = False := eq_false (by decide +kernel)
@[simp] theorem sn_tick_many : (Str.ofString "tick" = Str.ofString "many") = False := eq_false (by decide +kernel)
@[simp] theorem sn_tick_cells : (Str.ofString "tick" = Str.ofString "cells") = False := eq_false (by decide +kernel)
@[simp] theorem sn_tick_functions : (Str.ofString "tick" = Str.ofString "functions") = False := eq_false (by decide +kernel)
@[simp] theorem sn_depth_size : (Str.ofString "depth" = Str.ofString "size") = False := eq_false (by decide +kernel)
@[simp] theorem sn_depth_cell : (Str.ofString "depth" = Str.ofString "cell") = False := eq_false (by decide +kernel)
@[simp] theorem sn_depth_call : (Str.ofString "depth" = Str.ofString "call") = False := eq_false (by decide +kernel)
@[simp] theorem sn_depth_tick : (Str.ofString "depth" = Str.ofString "tick") = False := eq_false (by decide +kernel)
@[simp] theorem sn_depth_name : (Str.ofString "depth" = Str.ofString "name") = False := eq_false (by decide +kernel)
@[simp] theorem sn_depth_many : (Str.ofString "depth" = Str.ofString "many") = False := eq_false (by decide +kernel)
@[simp] theorem sn_depth_cells : (Str.ofString "depth" = Str.ofString "cells") = False := eq_false (by decide +kernel)
@[simp] theorem sn_depth_functions : (Str.ofString "depth" = Str.ofString "functions") = False := eq_false (by decide +kernel)
@[simp] theorem sn_name_size : (Str.ofString "name" = Str.ofString "size") = False := eq_false (by decide +kernel)
@[simp] theorem sn_name_cell : (Str.ofString "name" = Str.ofString "cell") = False := eq_false (by decide +kernel)
@[simp] theorem sn_name_call : (Str.ofString "name" = Str.ofString "call") = False := eq_false (by decide +kernel)
@[simp] theorem sn_name_tick : (Str.ofString "name" = Str.ofString "tick") = False := eq_false (by decide +kernel)
@[simp] theorem sn_name_depth : (Str.ofString "name" = Str.ofString "depth") = False := eq_false (by decide +kernel)
@[simp] theorem sn_name_many : (Str.ofString "name" = Str.ofString "many") = False := eq_false (by decide +kernel)
@[simp] theorem sn_name_cells : (Str.ofString "name" = Str.ofString "cells") = False := eq_false (by decide +kernel)
@[simp] theorem sn_name_functions : (Str.ofString "name" = Str.ofString "functions") = False := eq_false (by decide +kernel)
@[simp] theorem sn_many_size : (Str.ofString "many" = Str.ofString "size") = False := eq_false (by decide +kernel)
@[simp] theorem sn_many_cell : (Str.ofString "many" = Str.ofString "cell") = False := eq_false (by decide +kernel)
@[simp] theorem sn_many_call : (Str.ofString "many" = Str.ofString "call") = False := eq_false (by decide +kernel)
@[simp] theorem sn_many_tick : (Str.ofString "many" = Str.ofString "tick") = False := eq_false (by decide +kernel)
@[simp] theorem sn_many_depth : (Str.ofString "many" = Str.ofString "depth") = False := eq_false (by decide +kernel)
@[simp] theorem sn_many_name : (Str.ofString "many" = Str.ofString "name") = False := eq_false (by decide +kernel)
@[simp] theorem sn_many_cells : (Str.ofString "many" = Str.ofString "cells") = False := eq_false (by decide +kernel)
@[simp] theorem sn_many_functions : (Str.ofString "many" = Str.ofString "functions") = False := eq_false (by decide +kernel)
@[simp] theorem sn_cells_size : (Str.ofString "cells" = Str.ofString "size") = False := eq_false (by decide +kernel)
@[simp] theorem sn_cells_cell : (Str.ofString "cells" = Str.ofString "cell") = False := eq_false (by decide +kernel)
@[simp] theorem sn_cells_call : (Str.ofString "cells" = Str.ofString "call") = False := eq_false (by decide +kernel)
@[simp] theorem sn_cells_tick : (Str.ofString "cells" = Str.ofString "tick") = False := eq_false (by decide +kernel)
@[simp] theorem sn_cells_depth : (Str.ofString "cells" = Str.ofString "depth") = False := eq_false (by decide +kernel)
@[simp] theorem sn_cells_name : (Str.ofString "cells" = Str.ofString "name") = False := eq_false (by decide +kernel)
@[simp] theorem sn_cells_many : (Str.ofString "cells" = Str.ofString "many") = False := eq_false (by decide +kernel)
@[simp] theorem sn_cells_functions : (Str.ofString "cells" = Str.ofString "functions") = False := eq_false (by decide +kernel)
@[simp] theorem sn_functions_size : (Str.ofString "functions" = Str.ofString "size") = False := eq_false (by decide +kernel)
@[simp] theorem sn_functions_cell : (Str.ofString "functions" = Str.ofString "cell") = False := eq_false (by decide +kernel)
@[simp] theorem sn_functions_call : (Str.ofString "functions" = Str.ofString "call") = False := eq_false (by decide +kernel)
@[simp] theorem sn_functions_tick : (Str.ofString "functions" = Str.ofString "tick") = False := eq_false (by decide +kernel)
@[simp] theorem sn_functions_depth : (Str.ofString "functions" = Str.ofString "depth") = False := eq_false (by decide +kernel)
@[simp] theorem sn_functions_name : (Str.ofString "functions" = Str.ofString "name") = False := eq_false (by decide +kernel)
@[simp] theorem sn_functions_many : (Str.ofString "functions" = Str.ofString "many") = False := eq_false (by decide +kernel)
@[simp] theorem sn_functions_cells : (Str.ofString "functions" = Str.ofString "cells") = False := eq_false (by decide +kernel)
theorem val_cons {k k' : Str} {w : W} {r : List (Key × W)} : valW (((.inr k : Key), w) :: r) (.inr k') = if k = k' then some w else valW r (.inr k') := by
  unfold valW
  rw [List.find?_cons]
  by_cases h : k = k'
  · subst h; simp
  · rw [if_neg h]
    have : decide ((Sum.inr k : Key) = .inr k') = false := decide_eq_false fun q => h (Sum.inr.inj q)
    simp only [this]
theorem ix_dic {L : LH} {n : Nat} {kvs : List (Key × W)} {k : Str} {w : W} (h : L[n]? = some (.dic kvs)) (hv : valW kvs (.inr k) = some w) : oIx (.ref n) (.str k) L = some (w, L) := by
  have h1 : dicW (.ref n) L = some kvs := by simp only [dicW, h]
  unfold oIx
  rw [h1]
  simp only [oIxD, h1, keyW, hv, Option.map]
/-- what the law has counted -/
def merge (acc l : List Str) : List Str := acc ++ l.filter fun s => !acc.contains s
namespace Tm
def own (kd : Str) (t : Tm) : List Str := match t.nm kd with
  | some s => [s]
  | none => []
def cnt (kd : Str) : Tm → List Str
  | .cell s => if kd = "cell" then [s] else []
  | .call0 s => if kd = "call" then [s] else []
  | .call2 s a b => merge (merge (if kd = "call" then [s] else []) (a.cnt kd)) (b.cnt kd)
  | .bin _ a b => merge (merge [] (a.cnt kd)) (b.cnt kd)
  | .ite a b c => merge (merge (merge [] (a.cnt kd)) (b.cnt kd)) (c.cnt kd)
  | _ => []
theorem cnt_eq (kd : Str) (t : Tm) : t.cnt kd = (t.kids.map (cnt kd)).foldl merge (t.own kd) := by
  cases t <;> simp [cnt, own, nm, kids, merge] <;> split <;> simp_all
end Tm
theorem merge_mem {x : Str} {a l : List Str} : x ∈ merge a l ↔ x ∈ a ∨ x ∈ l := by
  unfold merge
  rw [List.mem_append, List.mem_filter]
  constructor
  · rintro (h | h)
    · exact .inl h
    · exact .inr h.1
  · rintro (h | h)
    · exact .inl h
    · by_cases hx : x ∈ a
      · exact .inl hx
      · exact .inr ⟨h, by simpa using hx⟩
theorem merge_nodup {a l : List Str} (ha : a.Nodup) (hl : l.Nodup) : (merge a l).Nodup := by
  unfold merge
  rw [List.nodup_append]
  refine ⟨ha, hl.filter _, fun x hx y hy e => ?_⟩
  subst e
  have := (List.mem_filter.mp hy).2
  simp at this
  exact this hx
theorem own_nodup (kd : Str) (t : Tm) : (t.own kd).Nodup := by
  unfold Tm.own
  split <;> simp
theorem own_mem {kd x : Str} {t : Tm} : x ∈ t.own kd ↔ t.nm kd = some x := by
  unfold Tm.own
  split
  · rename_i s h; rw [h]; simp [eq_comm]
  · rename_i h; rw [h]; simp
theorem own_if2 {kd s : Str} {a b : Tm} : (if kd = "call" then [s] else [] : List Str) = Tm.own kd (.call2 s a b) := by
  unfold Tm.own Tm.nm; split <;> simp_all
theorem own_if0 {kd s : Str} : Tm.cnt kd (.call0 s) = Tm.own kd (.call0 s) := by
  unfold Tm.own Tm.nm Tm.cnt; split <;> simp_all
theorem own_ifc {kd s : Str} : Tm.cnt kd (.cell s) = Tm.own kd (.cell s) := by
  unfold Tm.own Tm.nm Tm.cnt; split <;> simp_all
theorem cnt_nodup (kd : Str) (t : Tm) : (t.cnt kd).Nodup := by
  induction t with
  | call2 s a b iha ihb => exact merge_nodup (merge_nodup (by rw [own_if2 (a := a) (b := b)]; exact own_nodup kd _) iha) ihb
  | bin s a b iha ihb => exact merge_nodup (merge_nodup (by simp) iha) ihb
  | ite a b c iha ihb ihc => exact merge_nodup (merge_nodup (merge_nodup (by simp) iha) ihb) ihc
  | cell s => rw [own_ifc]; exact own_nodup kd (.cell s)
  | call0 s => rw [own_if0]; exact own_nodup kd (.call0 s)
  | _ => simp [Tm.cnt]
theorem cnt_mem {kd x : Str} (t : Tm) : x ∈ t.cnt kd ↔ x ∈ t.pre.filterMap (Tm.nm kd) := by
  induction t with
  | call2 s a b iha ihb =>
    have : x ∈ (if kd = "call" then [s] else [] : List Str) ↔ Tm.nm kd (.call2 s a b) = some x := by rw [own_if2 (a := a) (b := b)]; exact own_mem
    simp only [Tm.cnt, merge_mem, this, iha, ihb, Tm.pre, List.mem_filterMap, List.mem_cons, List.mem_append]
    constructor
    · rintro ((h | ⟨u, hu, h⟩) | ⟨u, hu, h⟩)
      · exact ⟨_, .inl rfl, h⟩
      · exact ⟨u, .inr (.inl hu), h⟩
      · exact ⟨u, .inr (.inr hu), h⟩
    · rintro ⟨u, (rfl | hu | hu), h⟩
      · exact .inl (.inl h)
      · exact .inl (.inr ⟨u, hu, h⟩)
      · exact .inr ⟨u, hu, h⟩
  | bin s a b iha ihb =>
    simp only [Tm.cnt, merge_mem, iha, ihb, Tm.pre, List.mem_filterMap, List.mem_cons, List.mem_append]
    constructor
    · rintro ((h | ⟨u, hu, h⟩) | ⟨u, hu, h⟩)
      · cases h
      · exact ⟨u, .inr (.inl hu), h⟩
      · exact ⟨u, .inr (.inr hu), h⟩
    · rintro ⟨u, (rfl | hu | hu), h⟩
      · cases h
      · exact .inl (.inr ⟨u, hu, h⟩)
      · exact .inr ⟨u, hu, h⟩
  | ite a b c iha ihb ihc =>
    simp only [Tm.cnt, merge_mem, iha, ihb, ihc, Tm.pre, List.mem_filterMap, List.mem_cons, List.mem_append]
    constructor
    · rintro (((h | ⟨u, hu, h⟩) | ⟨u, hu, h⟩) | ⟨u, hu, h⟩)
      · cases h
      · exact ⟨u, .inr (.inl hu), h⟩
      · exact ⟨u, .inr (.inr (.inl hu)), h⟩
      · exact ⟨u, .inr (.inr (.inr hu)), h⟩
    · rintro ⟨u, (rfl | hu | hu | hu), h⟩
      · cases h
      · exact .inl (.inl (.inr ⟨u, hu, h⟩))
      · exact .inl (.inr ⟨u, hu, h⟩)
      · exact .inr ⟨u, hu, h⟩
  | cell s =>
    have : x ∈ Tm.cnt kd (.cell s) ↔ Tm.nm kd (.cell s) = some x := by rw [own_ifc]; exact own_mem
    rw [this]; simp [Tm.pre]
  | call0 s =>
    have : x ∈ Tm.cnt kd (.call0 s) ↔ Tm.nm kd (.call0 s) = some x := by rw [own_if0]; exact own_mem
    rw [this]; simp [Tm.pre]
  | val i => simp [Tm.cnt, Tm.pre, Tm.nm]
  | arg i => simp [Tm.cnt, Tm.pre, Tm.nm]
  | tick => simp [Tm.cnt, Tm.pre, Tm.nm]
theorem srt_names (kd : Str) (t : Tm) : srtS (t.names kd) = srtS (t.cnt kd) := by
  refine srtS_unique ((srtS_perm _).trans ?_) (srtS_pair _)
  have h1 : (t.names kd).Nodup := fold_add_nodup _ _ (by simp)
  refine (List.perm_ext_iff_of_nodup h1 (cnt_nodup kd t)).mpr fun x => ?_
  rw [cnt_mem t]
  unfold Tm.names
  rw [fold_add_mem]; simp
end Z

/-! YA: _law_counts. -/
namespace Z
open PySem PySem.Spec PyProof.Rows L2
variable {many : Int}
theorem lc_filter {α : Type} {S : Src} {j : Nat} {tb : Bx} {e : Ex} {env : Env} {L1 : LH} {ts : List α} {f : α → W} {p : α → Bool} (hS : SrcIs S L1 (ts.map f)) (hl : ts.length ≤ 16777216)
    (ht : ∀ t ∈ ts, ∀ L, L1 <+: L → Ev (tb (env.set j (some (f t))) L) fun b L' => b = p t ∧ L <+: L')
    (he : ∀ t ∈ ts, ∀ L, L1 <+: L → Ev (e (env.set j (some (f t))) L) fun y L' => y = f t ∧ L <+: L') :
    Ev (lcLoop S (.one j) tb e env (S.len + 1) 0 L1 []) fun acc L' => acc = (ts.filter p).map f ∧ L1 <+: L' := by
  refine lc_inv (P := fun i L acc => acc = ((ts.take i).filter p).map f ∧ L1 <+: L) (n := ts.length) (fun i L acc hi q => ?_) (fun L acc q => ?_) S.len 0 L1 [] (by rw [hS.1, List.length_map]; omega) ⟨rfl, List.prefix_refl _⟩
  · obtain ⟨rfl, pr⟩ := q
    have e1 : (ts.map f)[i]? = some (f ts[i]) := by rw [List.getElem?_map, List.getElem?_eq_getElem hi]; rfl
    refine ⟨f ts[i], by rw [hS.2 L pr i, e1], env.set j (some (f ts[i])), rfl, ?_⟩
    refine (ht _ (List.getElem_mem hi) L pr).mono fun b L' h => ?_
    obtain ⟨rfl, p2⟩ := h
    cases hb : p ts[i] with
    | false =>
      simp only [Bool.false_eq_true, if_false]
      refine ⟨?_, pr.trans p2⟩
      rw [List.take_succ_eq_append_getElem hi, List.filter_append]
      simp [hb]
    | true =>
      simp only [if_true]
      refine (he _ (List.getElem_mem hi) L' (pr.trans p2)).mono fun y L2 h => ?_
      obtain ⟨rfl, p3⟩ := h
      refine ⟨?_, ?_, (pr.trans p2).trans p3⟩
      · rw [List.length_map]
        have := List.length_filter_le p (ts.take i)
        rw [List.length_take] at this
        omega
      · rw [List.take_succ_eq_append_getElem hi, List.filter_append, List.map_append]
        simp [hb]
  · obtain ⟨rfl, pr⟩ := q
    refine ⟨?_, ?_, pr⟩
    · rw [hS.2 L pr, List.getElem?_eq_none (by rw [List.length_map]; exact Nat.le_refl _)]
    · rw [List.take_length]
theorem notin_lst {L : LH} {n : Nat} {s : Str} {ss : List Str} (h : L[n]? = some (.lst (ss.map .str))) : oNotInD (.str s) (.ref n) L = some (.bl (!ss.contains s), L) := by
  have h1 : dicW (.ref n) L = none := by simp only [dicW, h]
  unfold oNotInD
  rw [h1]
  simp only [oNotIn, inW, seqL_at h]
  rw [if_pos ⟨rfl, by rw [List.all_map, List.all_eq_true]; intro _ _; rfl⟩]
  show some (W.bl (!((ss.map W.str).any fun y => eqF y (.str s))), L) = _
  congr 4
  rw [List.any_map, List.contains_eq_any_beq]
  congr 1
  funext x
  show (x == s) = (s == x)
  rw [Bool.eq_iff_iff, beq_iff_eq, beq_iff_eq]; exact eq_comm
theorem add_lst {L : LH} {n m : Nat} {xs ys : List W} (h : L[n]? = some (.lst xs)) (hm : L[m]? = some (.lst ys)) (hl : xs.length + ys.length ≤ 16777216) : oAdd (.ref n) (.ref m) L = some (.ref L.length, L ++ [.lst (xs ++ ys)]) := by
  simp only [oAdd, h, hm]
  rw [if_pos hl]
/-- all but one stand -/
def But (n : Nat) (L L' : LH) : Prop := L.length ≤ L'.length ∧ ∀ m o, m ≠ n → L[m]? = some o → L'[m]? = some o
theorem But.trans {n : Nat} {L L1 L2 : LH} (a : But n L L1) (b : But n L1 L2) : But n L L2 := ⟨Nat.le_trans a.1 b.1, fun m o h e => b.2 m o h (a.2 m o h e)⟩
theorem But.of_pre {n : Nat} {L L' : LH} (p : L <+: L') : But n L L' := ⟨p.length_le, fun m o _ e => pre_at p e⟩
theorem But.set {n : Nat} {L : LH} {o : LO} : But n L (L.set n o) := ⟨by rw [List.length_set]; exact Nat.le_refl _, fun m q h e => by rw [List.getElem?_set_ne (Ne.symm h)]; exact e⟩
theorem But.refl {n : Nat} {L : LH} : But n L L := ⟨Nat.le_refl _, fun _ _ _ e => e⟩
theorem But.pre {n : Nat} {L L1 L2 : LH} (p : L <+: L1) (h : L.length ≤ n) (b : But n L1 L2) : L <+: L2 := by
  have hlen : L.length ≤ L2.length := Nat.le_trans p.length_le b.1
  rw [List.prefix_iff_eq_take]
  apply List.ext_getElem?
  intro i
  by_cases hi : i < L.length
  · rw [List.getElem?_take_of_lt hi, List.getElem?_eq_getElem hi]
    exact (b.2 i _ (by omega) (pre_at p (List.getElem?_eq_getElem hi))).symm
  · rw [List.getElem?_eq_none (by omega), List.getElem?_eq_none (by rw [List.length_take]; omega)]
theorem ix_dic1 {L : LH} {n : Nat} {kvs : List (Key × W)} {k : Str} {Q : W → LH → Prop} (h : L[n]? = some (.dic kvs)) : EvO (oIx (.ref n) (.str k) L) Q = match valW kvs (.inr k) with | some w => Q w L | none => False := by
  have h1 : dicW (.ref n) L = some kvs := by simp only [dicW, h]
  unfold oIx
  rw [h1]
  simp only [oIxD, h1, keyW]
  cases valW kvs (.inr k) <;> rfl
theorem put_dic {L : LH} {n : Nat} {kvs : List (Key × W)} {k : Str} {v : W} (h : L[n]? = some (.dic kvs)) (hl : kvs.length < 16777216) : oPut (.ref n) (.str k) v L = some (L.set n (.dic (putW kvs (.inr k) v))) := by
  simp only [oPut, h, keyW]
  rw [if_pos hl]
def sKind : Sx := sAs (cOp2 oAdd (cOp2 oIx (cVar 3) (cVar 6)) (cLc [7] (iSeq (cOp2 oIx (cVar 5) (cVar 6))) (CT.one 7) (bVal (cOp2 oNotInD (cVar 7) (cOp2 oIx (cVar 3) (cVar 6)))) (cVar 7))) (gIx (cVar 3) (cVar 6))
theorem kind_step {env : Env} {L : LH} {nd ne nc mc : Nat} {kd : Str} {cs xs : List Str} {kvs kvs2 : List (Key × W)} {N : Env → LH → Prop} {R : W → LH → Prop} (h3 : env[3]? = some (some (.ref nd))) (h5 : env[5]? = some (some (.ref ne))) (h6 : env[6]? = some (some (.str kd))) (hlen : env.length = 8)
    (hd : L[nd]? = some (.dic kvs)) (he : L[ne]? = some (.dic kvs2)) (vc : valW kvs (.inr kd) = some (.ref nc)) (vm : valW kvs2 (.inr kd) = some (.ref mc)) (hc : L[nc]? = some (.lst (cs.map .str))) (hm : L[mc]? = some (.lst (xs.map .str))) (hk : kvs.length ≤ 10) (hl : cs.length + xs.length ≤ 1000000)
    (k : ∀ L' new, But nd L L' → L'[nd]? = some (.dic (putW kvs (.inr kd) (.ref new))) → L'[new]? = some (.lst ((merge cs xs).map .str)) → L.length ≤ new → N env L') : EvS (sKind env L) N R := by
  obtain ⟨S, e1, hS⟩ := srcOf_at hm
  simp only [sKind, wipeE, ev_ok, ev_bind, ev_only, ev_ofO, ev_ofOB, ev_ite, evs_ite, evo_some, evs_toS, evs_seq, ev_C, ev_var, ev_op2, ev_op1, ev_opL, ev_nil, ev_cons, ev_call, ev_bVal, ev_bTru, ev_bNot, ev_bAnd, ev_bOr, ev_bYes, ev_cIf, ev_cNot, ev_cAnd, ev_cOr, ev_chain, ev_part_none, ev_part_some, ev_sl, ev_mth, evs_skip, evs_set, evs_ret, evs_expr, evs_if, evs_par, evs_as, ev_gN, ev_gsNil, ev_gsCons, ev_gTup, ev_gIx, evs_aug, ev_defF, evs_for, ev_rng1, ev_iSeq, ev_lc, o_addI, o_subI, o_addS, o_addT, o_mulI, o_modI, o_divI, o_powI, o_cmpI, o_intI, o_intB, o_absI, o_lst, o_tup, bl_bl, List.map_cons, List.map_nil, List.cons_append, List.nil_append, List.append_nil, List.getElem?_cons_zero, List.getElem?_cons_succ, List.set_cons_zero, List.set_cons_succ, List.length_cons, List.length_nil, List.replicate, Nat.reduceAdd, Nat.reduceSub, Nat.reduceLeDiff, true_and, and_true, if_true, decide_eq_true_eq, Nat.zero_add, h3, h5, h6, ix_dic1 hd, ix_dic1 he, vc, vm, e1]
  refine (lc_filter (p := fun s => !cs.contains s) hS (by omega) (fun s hs L1 p1 => ?_) (fun s hs L1 p1 => ?_)).mono fun acc L1 q => ?_
  · have g7 : ((env.set 7 none).set 7 (some (.str s)))[7]? = some (some (.str s)) := by rw [List.getElem?_set_self]; rw [List.length_set]; omega
    have g3 : ((env.set 7 none).set 7 (some (.str s)))[3]? = some (some (.ref nd)) := by rw [List.getElem?_set_ne (by decide), List.getElem?_set_ne (by decide)]; exact h3
    have g6 : ((env.set 7 none).set 7 (some (.str s)))[6]? = some (some (.str kd)) := by rw [List.getElem?_set_ne (by decide), List.getElem?_set_ne (by decide)]; exact h6
    simp only [wipeE, ev_ok, ev_bind, ev_only, ev_ofO, ev_ofOB, ev_ite, evs_ite, evo_some, evs_toS, evs_seq, ev_C, ev_var, ev_op2, ev_op1, ev_opL, ev_nil, ev_cons, ev_call, ev_bVal, ev_bTru, ev_bNot, ev_bAnd, ev_bOr, ev_bYes, ev_cIf, ev_cNot, ev_cAnd, ev_cOr, ev_chain, ev_part_none, ev_part_some, ev_sl, ev_mth, evs_skip, evs_set, evs_ret, evs_expr, evs_if, evs_par, evs_as, ev_gN, ev_gsNil, ev_gsCons, ev_gTup, ev_gIx, evs_aug, ev_defF, evs_for, ev_rng1, ev_iSeq, ev_lc, o_addI, o_subI, o_addS, o_addT, o_mulI, o_modI, o_divI, o_powI, o_cmpI, o_intI, o_intB, o_absI, o_lst, o_tup, bl_bl, List.map_cons, List.map_nil, List.cons_append, List.nil_append, List.append_nil, List.getElem?_cons_zero, List.getElem?_cons_succ, List.set_cons_zero, List.set_cons_succ, List.length_cons, List.length_nil, List.replicate, Nat.reduceAdd, Nat.reduceSub, Nat.reduceLeDiff, true_and, and_true, if_true, decide_eq_true_eq, Nat.zero_add, g7, g3, g6, ix_dic1 (pre_at p1 hd), vc, notin_lst (pre_at p1 hc), blW]
    exact List.prefix_refl _
  · have g7 : ((env.set 7 none).set 7 (some (.str s)))[7]? = some (some (.str s)) := by rw [List.getElem?_set_self]; rw [List.length_set]; omega
    simp only [wipeE, ev_ok, ev_bind, ev_only, ev_ofO, ev_ofOB, ev_ite, evs_ite, evo_some, evs_toS, evs_seq, ev_C, ev_var, ev_op2, ev_op1, ev_opL, ev_nil, ev_cons, ev_call, ev_bVal, ev_bTru, ev_bNot, ev_bAnd, ev_bOr, ev_bYes, ev_cIf, ev_cNot, ev_cAnd, ev_cOr, ev_chain, ev_part_none, ev_part_some, ev_sl, ev_mth, evs_skip, evs_set, evs_ret, evs_expr, evs_if, evs_par, evs_as, ev_gN, ev_gsNil, ev_gsCons, ev_gTup, ev_gIx, evs_aug, ev_defF, evs_for, ev_rng1, ev_iSeq, ev_lc, o_addI, o_subI, o_addS, o_addT, o_mulI, o_modI, o_divI, o_powI, o_cmpI, o_intI, o_intB, o_absI, o_lst, o_tup, bl_bl, List.map_cons, List.map_nil, List.cons_append, List.nil_append, List.append_nil, List.getElem?_cons_zero, List.getElem?_cons_succ, List.set_cons_zero, List.set_cons_succ, List.length_cons, List.length_nil, List.replicate, Nat.reduceAdd, Nat.reduceSub, Nat.reduceLeDiff, true_and, and_true, if_true, decide_eq_true_eq, Nat.zero_add, g7]
    exact List.prefix_refl _
  · obtain ⟨rfl, p1⟩ := q
    have hf := List.length_filter_le (fun s => !cs.contains s) xs
    rw [add_lst (pre_at pre_last (pre_at p1 hc)) at_last (by simp only [List.length_map]; omega), evo_some]
    have p2 : L <+: (L1 ++ [LO.lst (List.map W.str (xs.filter fun s => !cs.contains s))]) ++ [.lst (cs.map .str ++ (xs.filter fun s => !cs.contains s).map .str)] := p1.trans (pre_last.trans pre_last)
    simp only [wipeE, ev_ok, ev_bind, ev_only, ev_ofO, ev_ofOB, ev_ite, evs_ite, evo_some, evs_toS, evs_seq, ev_C, ev_var, ev_op2, ev_op1, ev_opL, ev_nil, ev_cons, ev_call, ev_bVal, ev_bTru, ev_bNot, ev_bAnd, ev_bOr, ev_bYes, ev_cIf, ev_cNot, ev_cAnd, ev_cOr, ev_chain, ev_part_none, ev_part_some, ev_sl, ev_mth, evs_skip, evs_set, evs_ret, evs_expr, evs_if, evs_par, evs_as, ev_gN, ev_gsNil, ev_gsCons, ev_gTup, ev_gIx, evs_aug, ev_defF, evs_for, ev_rng1, ev_iSeq, ev_lc, o_addI, o_subI, o_addS, o_addT, o_mulI, o_modI, o_divI, o_powI, o_cmpI, o_intI, o_intB, o_absI, o_lst, o_tup, bl_bl, List.map_cons, List.map_nil, List.cons_append, List.nil_append, List.append_nil, List.getElem?_cons_zero, List.getElem?_cons_succ, List.set_cons_zero, List.set_cons_succ, List.length_cons, List.length_nil, List.replicate, Nat.reduceAdd, Nat.reduceSub, Nat.reduceLeDiff, true_and, and_true, if_true, decide_eq_true_eq, Nat.zero_add, h3, h6, put_dic (pre_at p2 hd) (show kvs.length < 16777216 by omega)]
    have hnd : nd < L.length := (List.getElem?_eq_some_iff.mp hd).1
    have hL1 : L.length ≤ L1.length := p1.length_le
    refine k _ _ ((But.of_pre p2).trans .set) (set_at (pre_at p2 hd)) ?_ (show L.length ≤ (L1 ++ [LO.lst (List.map W.str (xs.filter fun s => !cs.contains s))]).length by rw [List.length_append]; omega)
    rw [List.getElem?_set_ne (by rw [List.length_append]; omega), at_last, ← List.map_append]
    rfl
theorem ev_pairs_nil {env : Env} {L : LH} {Q : List (W × W) → LH → Prop} : Ev (cPairs [] env L) Q = Q [] L := rfl
theorem ev_pairs_cons {env : Env} {L : LH} {f h : Ex} {r : List (Ex × Ex)} {Q : List (W × W) → LH → Prop} : Ev (cPairs ((f, h) :: r) env L) Q = Ev (f env L) fun a L1 => Ev (h env L1) fun b L2 => Ev (cPairs r env L2) fun ps L3 => Q ((a, b) :: ps) L3 := by
  show Ev ((f env L).bind fun a L1 => (h env L1).bind fun b L2 => (cPairs r env L2).bind fun ps L3 => .ok ((a, b) :: ps) L3) Q = _
  simp only [ev_bind, ev_ok]
theorem ev_dict {env : Env} {L : LH} {fs : List (Ex × Ex)} {Q : W → LH → Prop} : Ev (cDict fs env L) Q = Ev (cPairs fs env L) fun ps L1 => match keysW ps with | some kvs => kvs.length ≤ 15 ∧ Q (.ref L1.length) (L1 ++ [.dic (mergeW [] kvs)]) | none => False := by
  unfold cDict
  simp only [ev_bind]
  congr
  funext ps L1
  cases keysW ps with
  | none => rfl
  | some kvs =>
    simp only
    by_cases h : kvs.length ≤ 15
    · simp [h, ev_ok]
    · simp [h, Ev]
/-- found, as it stands -/
def fnd (sz : Int) (nc nl : Nat) (tk : Bool) : List (Key × W) := [(.inr "size", .int sz), (.inr "cell", .ref nc), (.inr "call", .ref nl), (.inr "tick", .bl tk)]
structure CSt (L : LH) (nd nc nl : Nat) (sz : Int) (cs ls : List Str) (tk : Bool) : Prop where
  d : L[nd]? = some (.dic (fnd sz nc nl tk))
  c : L[nc]? = some (.lst (cs.map .str))
  l : L[nl]? = some (.lst (ls.map .str))
theorem v_size {sz : Int} {nc nl : Nat} {tk : Bool} : valW (fnd sz nc nl tk) (.inr "size") = some (.int sz) := by simp [fnd, val_cons]
theorem v_cell {sz : Int} {nc nl : Nat} {tk : Bool} : valW (fnd sz nc nl tk) (.inr "cell") = some (.ref nc) := by simp [fnd, val_cons]
theorem v_call {sz : Int} {nc nl : Nat} {tk : Bool} : valW (fnd sz nc nl tk) (.inr "call") = some (.ref nl) := by simp [fnd, val_cons]
theorem v_tick {sz : Int} {nc nl : Nat} {tk : Bool} : valW (fnd sz nc nl tk) (.inr "tick") = some (.bl tk) := by simp [fnd, val_cons]
theorem p_size {sz z : Int} {nc nl : Nat} {tk : Bool} : putW (fnd sz nc nl tk) (.inr "size") (.int z) = fnd z nc nl tk := by simp [fnd, putW]
theorem p_cell {sz : Int} {nc nl z : Nat} {tk : Bool} : putW (fnd sz nc nl tk) (.inr "cell") (.ref z) = fnd sz z nl tk := by simp [fnd, putW]
theorem p_call {sz : Int} {nc nl z : Nat} {tk : Bool} : putW (fnd sz nc nl tk) (.inr "call") (.ref z) = fnd sz nc z tk := by simp [fnd, putW]
theorem p_tick {sz : Int} {nc nl : Nat} {tk z : Bool} : putW (fnd sz nc nl tk) (.inr "tick") (.bl z) = fnd sz nc nl z := by simp [fnd, putW]
theorem p_depth {sz z : Int} {nc nl : Nat} {tk : Bool} : putW (fnd sz nc nl tk) (.inr "depth") (.int z) = fnd sz nc nl tk ++ [(.inr "depth", .int z)] := by simp [fnd, putW]
theorem m_fnd {nc nl : Nat} : mergeW [] [((.inr "size" : Key), W.int 1), (.inr "cell", .ref nc), (.inr "call", .ref nl), (.inr "tick", .bl false)] = fnd 1 nc nl false := by simp [fnd, mergeW, putW]
theorem v_depth {sz z : Int} {nc nl : Nat} {tk : Bool} : valW (fnd sz nc nl tk ++ [(.inr "depth", .int z)]) (.inr "depth") = some (.int z) := by simp [fnd, val_cons]
theorem v_cellD {sz z : Int} {nc nl : Nat} {tk : Bool} : valW (fnd sz nc nl tk ++ [(.inr "depth", .int z)]) (.inr "cell") = some (.ref nc) := by simp [fnd, val_cons]
theorem v_callD {sz z : Int} {nc nl : Nat} {tk : Bool} : valW (fnd sz nc nl tk ++ [(.inr "depth", .int z)]) (.inr "call") = some (.ref nl) := by simp [fnd, val_cons]
theorem v_sizeD {sz z : Int} {nc nl : Nat} {tk : Bool} : valW (fnd sz nc nl tk ++ [(.inr "depth", .int z)]) (.inr "size") = some (.int sz) := by simp [fnd, val_cons]
theorem v_tickD {sz z : Int} {nc nl : Nat} {tk : Bool} : valW (fnd sz nc nl tk ++ [(.inr "depth", .int z)]) (.inr "tick") = some (.bl tk) := by simp [fnd, val_cons]
/-- [term[1]] put by its kind -/
def sHead : Sx := sIf (bAnd (bTru (cOpL oIsi (cCons (cVar 0) (cCons (cC (.ty "tuple")) cNil)))) (bVal (cOp2 oInD (cOp2 oIx (cVar 0) (cC (.int 0))) (cOpL oLst (cCons (cC (.str "cell")) (cCons (cC (.str "call")) cNil)))))) (sAs (cOpL oLst (cCons (cOp2 oIx (cVar 0) (cC (.int 1))) cNil)) (gIx (cVar 3) (cOp2 oIx (cVar 0) (cC (.int 0))))) sSkip
theorem CSt.but {L L' : LH} {nd nc nl : Nat} {sz : Int} {cs ls : List Str} {tk : Bool} (h : CSt L nd nc nl sz cs ls tk) (p : L <+: L') : CSt L' nd nc nl sz cs ls tk := ⟨pre_at p h.d, pre_at p h.c, pre_at p h.l⟩
theorem head_step {env : Env} {L : LH} {nd nc nl : Nat} {t : Tm} {N : Env → LH → Prop} {R : W → LH → Prop} (ht : t.ok many) (h0 : env[0]? = some (some t.enc)) (h3 : env[3]? = some (some (.ref nd))) (hs : CSt L nd nc nl 1 [] [] false) (hne : nc ≠ nd ∧ nl ≠ nd)
    (k : ∀ L' nc' nl', But nd L L' → CSt L' nd nc' nl' 1 (t.own "cell") (t.own "call") false → nc' ≠ nd → nl' ≠ nd → N env L') : EvS (sHead env L) N R := by
  have e : kitB "tuple" "tuple" = some true := rfl
  have e2 : kitB "int" "tuple" = some false := rfl
  have hnd : nd < L.length := (List.getElem?_eq_some_iff.mp hs.d).1
  have off : ∀ {s : Str} {r : List W}, t.enc = .tup (.str s :: r) → ([W.str "cell", W.str "call"].any fun y => eqF y (.str s)) = false → t.own "cell" = [] → t.own "call" = [] → EvS (sHead env L) N R := fun {s r} he hq h1 h2 => by
    have ty : tyName (.tup (.str s :: r)) L = some "tuple" := rfl
    simp only [sHead, wipeE, ev_ok, ev_bind, ev_only, ev_ofO, ev_ofOB, ev_ite, evs_ite, evo_some, evs_toS, evs_seq, ev_C, ev_var, ev_op2, ev_op1, ev_opL, ev_nil, ev_cons, ev_call, ev_bVal, ev_bTru, ev_bNot, ev_bAnd, ev_bOr, ev_bYes, ev_cIf, ev_cNot, ev_cAnd, ev_cOr, ev_chain, ev_part_none, ev_part_some, ev_sl, ev_mth, evs_skip, evs_set, evs_ret, evs_expr, evs_if, evs_par, evs_as, ev_gN, ev_gsNil, ev_gsCons, ev_gTup, ev_gIx, evs_aug, ev_defF, evs_for, ev_rng1, ev_iSeq, ev_lc, o_addI, o_subI, o_addS, o_addT, o_mulI, o_modI, o_divI, o_powI, o_cmpI, o_intI, o_intB, o_absI, o_lst, o_tup, bl_bl, List.map_cons, List.map_nil, List.cons_append, List.nil_append, List.append_nil, List.getElem?_cons_zero, List.getElem?_cons_succ, List.set_cons_zero, List.set_cons_succ, List.length_cons, List.length_nil, List.replicate, Nat.reduceAdd, Nat.reduceSub, Nat.reduceLeDiff, true_and, and_true, if_true, decide_eq_true_eq, Nat.zero_add, h0, he, isi_of ty, e, truW, ix_tup0]
    rw [in_lst (neg := false) at_last rfl rfl, evo_some]
    simp only [blW, hq, Bool.false_eq_true, if_false]
    refine k _ nc nl (.of_pre pre_last) ?_ hne.1 hne.2
    rw [h1, h2]; exact hs.but pre_last
  have on : ∀ {s x : Str} {r : List W}, t.enc = .tup (.str s :: .str x :: r) → s = "cell" ∨ s = "call" → (s = "cell" → t.own "cell" = [x] ∧ t.own "call" = []) → (s = "call" → t.own "cell" = [] ∧ t.own "call" = [x]) → EvS (sHead env L) N R := fun {s x r} he hq h1 h2 => by
    have ty : tyName (.tup (.str s :: .str x :: r)) L = some "tuple" := rfl
    have hany : ([W.str "cell", W.str "call"].any fun y => eqF y (.str s)) = true := by
      rcases hq with rfl | rfl <;> simp [eqF]
    simp only [sHead, wipeE, ev_ok, ev_bind, ev_only, ev_ofO, ev_ofOB, ev_ite, evs_ite, evo_some, evs_toS, evs_seq, ev_C, ev_var, ev_op2, ev_op1, ev_opL, ev_nil, ev_cons, ev_call, ev_bVal, ev_bTru, ev_bNot, ev_bAnd, ev_bOr, ev_bYes, ev_cIf, ev_cNot, ev_cAnd, ev_cOr, ev_chain, ev_part_none, ev_part_some, ev_sl, ev_mth, evs_skip, evs_set, evs_ret, evs_expr, evs_if, evs_par, evs_as, ev_gN, ev_gsNil, ev_gsCons, ev_gTup, ev_gIx, evs_aug, ev_defF, evs_for, ev_rng1, ev_iSeq, ev_lc, o_addI, o_subI, o_addS, o_addT, o_mulI, o_modI, o_divI, o_powI, o_cmpI, o_intI, o_intB, o_absI, o_lst, o_tup, bl_bl, List.map_cons, List.map_nil, List.cons_append, List.nil_append, List.append_nil, List.getElem?_cons_zero, List.getElem?_cons_succ, List.set_cons_zero, List.set_cons_succ, List.length_cons, List.length_nil, List.replicate, Nat.reduceAdd, Nat.reduceSub, Nat.reduceLeDiff, true_and, and_true, if_true, decide_eq_true_eq, Nat.zero_add, h0, he, isi_of ty, e, truW, ix_tup0]
    rw [in_lst (neg := false) at_last rfl rfl, evo_some]
    have p2 : L <+: L ++ [LO.lst [W.str "cell", W.str "call"]] ++ [.lst [.str x]] := pre_last.trans pre_last
    simp only [blW, hany, if_true, wipeE, ev_ok, ev_bind, ev_only, ev_ofO, ev_ofOB, ev_ite, evs_ite, evo_some, evs_toS, evs_seq, ev_C, ev_var, ev_op2, ev_op1, ev_opL, ev_nil, ev_cons, ev_call, ev_bVal, ev_bTru, ev_bNot, ev_bAnd, ev_bOr, ev_bYes, ev_cIf, ev_cNot, ev_cAnd, ev_cOr, ev_chain, ev_part_none, ev_part_some, ev_sl, ev_mth, evs_skip, evs_set, evs_ret, evs_expr, evs_if, evs_par, evs_as, ev_gN, ev_gsNil, ev_gsCons, ev_gTup, ev_gIx, evs_aug, ev_defF, evs_for, ev_rng1, ev_iSeq, ev_lc, o_addI, o_subI, o_addS, o_addT, o_mulI, o_modI, o_divI, o_powI, o_cmpI, o_intI, o_intB, o_absI, o_lst, o_tup, bl_bl, List.map_cons, List.map_nil, List.cons_append, List.nil_append, List.append_nil, List.getElem?_cons_zero, List.getElem?_cons_succ, List.set_cons_zero, List.set_cons_succ, List.length_cons, List.length_nil, List.replicate, Nat.reduceAdd, Nat.reduceSub, Nat.reduceLeDiff, true_and, and_true, if_true, decide_eq_true_eq, Nat.zero_add, h0, h3, he, ix_tup0, ix_tup1, put_dic (pre_at p2 hs.d) (show (fnd 1 nc nl false).length < 16777216 from Nat.lt_of_sub_pos (by decide : 0 < 16777216 - 4))]
    have hnew : (L ++ [LO.lst [W.str "cell", W.str "call"]]).length ≠ nd := by rw [List.length_append]; omega
    have c1 : ∀ o : LO, ((L ++ [LO.lst [W.str "cell", W.str "call"]] ++ [LO.lst [.str x]]).set nd o)[(L ++ [LO.lst [W.str "cell", W.str "call"]]).length]? = some (.lst [.str x]) := fun o => by
      rw [List.getElem?_set_ne hnew.symm]; exact at_last
    have b1 : ∀ o : LO, But nd L ((L ++ [LO.lst [W.str "cell", W.str "call"]] ++ [LO.lst [.str x]]).set nd o) := fun o => (But.of_pre p2).trans .set
    rcases hq with rfl | rfl
    · obtain ⟨q1, q2⟩ := h1 rfl
      refine k _ (L ++ [LO.lst [W.str "cell", W.str "call"]]).length nl (b1 _) ⟨?_, ?_, ?_⟩ hnew hne.2
      · rw [set_at (pre_at p2 hs.d), p_cell]
      · rw [c1, q1]; rfl
      · rw [q2]; exact (b1 _).2 _ _ hne.2 hs.l
    · obtain ⟨q1, q2⟩ := h2 rfl
      refine k _ nc (L ++ [LO.lst [W.str "cell", W.str "call"]]).length (b1 _) ⟨?_, ?_, ?_⟩ hne.1 hnew
      · rw [set_at (pre_at p2 hs.d), p_call]
      · rw [q1]; exact (b1 _).2 _ _ hne.1 hs.c
      · rw [c1, q2]; rfl
  cases t with
  | val i =>
    have ty : tyName (.int i) L = some "int" := rfl
    simp only [sHead, wipeE, ev_ok, ev_bind, ev_only, ev_ofO, ev_ofOB, ev_ite, evs_ite, evo_some, evs_toS, evs_seq, ev_C, ev_var, ev_op2, ev_op1, ev_opL, ev_nil, ev_cons, ev_call, ev_bVal, ev_bTru, ev_bNot, ev_bAnd, ev_bOr, ev_bYes, ev_cIf, ev_cNot, ev_cAnd, ev_cOr, ev_chain, ev_part_none, ev_part_some, ev_sl, ev_mth, evs_skip, evs_set, evs_ret, evs_expr, evs_if, evs_par, evs_as, ev_gN, ev_gsNil, ev_gsCons, ev_gTup, ev_gIx, evs_aug, ev_defF, evs_for, ev_rng1, ev_iSeq, ev_lc, o_addI, o_subI, o_addS, o_addT, o_mulI, o_modI, o_divI, o_powI, o_cmpI, o_intI, o_intB, o_absI, o_lst, o_tup, bl_bl, List.map_cons, List.map_nil, List.cons_append, List.nil_append, List.append_nil, List.getElem?_cons_zero, List.getElem?_cons_succ, List.set_cons_zero, List.set_cons_succ, List.length_cons, List.length_nil, List.replicate, Nat.reduceAdd, Nat.reduceSub, Nat.reduceLeDiff, true_and, and_true, if_true, decide_eq_true_eq, Nat.zero_add, h0, Tm.enc, isi_of ty, e2, truW, Bool.false_eq_true, if_false]
    exact k _ nc nl .refl hs hne.1 hne.2
  | arg i => exact off rfl (by simp [eqF]) rfl rfl
  | tick => exact off rfl (by simp [eqF]) rfl rfl
  | ite a b c => exact off rfl (by simp [eqF]) rfl rfl
  | bin h a b => exact off rfl (by rcases ht.1 with rfl | rfl | rfl <;> simp [eqF]) rfl rfl
  | cell s => exact on rfl (.inl rfl) (fun _ => by simp [Tm.own, Tm.nm]) (fun q => by simp at q)
  | call0 s => exact on rfl (.inr rfl) (fun q => by simp at q) (fun _ => by simp [Tm.own, Tm.nm])
  | call2 s a b => exact on rfl (.inr rfl) (fun q => by simp at q) (fun _ => by simp [Tm.own, Tm.nm])
end Z

/-! YB: _law_counts, whole. -/
namespace Z
open PySem PySem.Spec PyProof.Rows L2
variable {many : Int}
theorem CSt.ne {L : LH} {nd nc nl : Nat} {sz : Int} {cs ls : List Str} {tk : Bool} (h : CSt L nd nc nl sz cs ls tk) : nc ≠ nd ∧ nl ≠ nd := by
  refine ⟨?_, ?_⟩
  · rintro rfl; have := h.d.symm.trans h.c; cases this
  · rintro rfl; have := h.d.symm.trans h.l; cases this
theorem merge_len (a l : List Str) : (merge a l).length ≤ a.length + l.length := by
  unfold merge
  rw [List.length_append]
  have := List.length_filter_le (fun s => !a.contains s) l
  omega
theorem fold_len : ∀ (ls : List (List Str)) (a : List Str), (ls.foldl merge a).length ≤ a.length + (ls.map List.length).sum
  | [], a => by simp
  | l :: r, a => by
    have h1 := fold_len r (merge a l)
    have h2 := merge_len a l
    simp only [List.foldl_cons, List.map_cons, List.sum_cons]; omega
theorem cnt_len (kd : Str) (t : Tm) : (t.cnt kd).length ≤ t.size := by
  induction t with
  | call2 s a b iha ihb =>
    have h1 := merge_len (merge (if kd = "call" then [s] else []) (a.cnt kd)) (b.cnt kd)
    have h2 := merge_len (if kd = "call" then [s] else []) (a.cnt kd)
    have h3 : (if kd = "call" then [s] else [] : List Str).length ≤ 1 := by split <;> simp
    simp only [Tm.cnt, Tm.size]; omega
  | bin s a b iha ihb =>
    have h1 := merge_len (merge [] (a.cnt kd)) (b.cnt kd)
    have h2 := merge_len [] (a.cnt kd)
    simp only [Tm.cnt, Tm.size]; simp at h2; omega
  | ite a b c iha ihb ihc =>
    have h0 := merge_len (merge (merge [] (a.cnt kd)) (b.cnt kd)) (c.cnt kd)
    have h1 := merge_len (merge [] (a.cnt kd)) (b.cnt kd)
    have h2 := merge_len [] (a.cnt kd)
    simp only [Tm.cnt, Tm.size]; simp at h2; omega
  | cell s => simp only [Tm.cnt, Tm.size]; split <;> simp
  | call0 s => simp only [Tm.cnt, Tm.size]; split <;> simp
  | _ => simp [Tm.cnt, Tm.size]
def pcnt (kd : Str) (t : Tm) (i : Nat) : List Str := ((t.kids.take i).map (Tm.cnt kd)).foldl merge (t.own kd)
theorem pcnt_len (kd : Str) (t : Tm) (i : Nat) : (pcnt kd t i).length ≤ t.size := by
  have h1 := fold_len ((t.kids.take i).map (Tm.cnt kd)) (t.own kd)
  have h2 : (t.own kd).length ≤ 1 := by unfold Tm.own; split <;> simp
  have h3 : (((t.kids.take i).map (Tm.cnt kd)).map List.length).sum ≤ ((t.kids.take i).map Tm.size).sum := by
    generalize t.kids.take i = l
    induction l with
    | nil => simp
    | cons a r ih =>
      have := cnt_len kd a
      simp only [List.map_cons, List.sum_cons]; omega
  have h4 : ((t.kids.take i).map Tm.size).sum ≤ (t.kids.map Tm.size).sum := by
    conv => rhs; rw [← List.take_append_drop i t.kids, List.map_append, List.sum_append]
    omega
  have h5 := Tm.size_eq t
  unfold pcnt
  omega
theorem pcnt_succ {kd : Str} {t : Tm} {i : Nat} (h : i < t.kids.length) : pcnt kd t (i + 1) = merge (pcnt kd t i) (t.kids[i].cnt kd) := by
  unfold pcnt
  rw [List.take_succ_eq_append_getElem h, List.map_append, List.foldl_append]; rfl
theorem pcnt_all (kd : Str) (t : Tm) : pcnt kd t t.kids.length = t.cnt kd := by
  unfold pcnt
  rw [List.take_length, Tm.cnt_eq]
def mxd (ks : List Tm) : Nat := (ks.map Tm.dep).foldl max 0
theorem mxd_dep (t : Tm) : t.dep = 1 + mxd t.kids := by cases t <;> simp [mxd, Tm.kids, Tm.dep, Nat.max_assoc]
theorem mxd_succ {ks : List Tm} {i : Nat} (h : i < ks.length) : mxd (ks.take (i + 1)) = max (mxd (ks.take i)) ks[i].dep := by
  unfold mxd
  rw [List.take_succ_eq_append_getElem h, List.map_append, List.foldl_append]; rfl
theorem tickB_eq (t : Tm) : t.tickB = (t.isTick || t.kids.any Tm.tickB) := by
  unfold Tm.tickB
  rw [Tm.pre_eq, List.any_cons, List.any_flatMap]
structure Told (L : LH) (t : Tm) (ne mc ml : Nat) : Prop where
  d : L[ne]? = some (.dic (fnd t.size mc ml t.tickB ++ [(.inr "depth", .int t.dep)]))
  c : L[mc]? = some (.lst ((t.cnt "cell").map .str))
  l : L[ml]? = some (.lst ((t.cnt "call").map .str))
def CtS (many : Int) (self : Fn) (d : Nat) : Prop := ∀ (t : Tm) (L : LH), t.ok many → t.dep ≤ d → t.dep ≤ 9 → t.size ≤ 1000 → Ev (self [t.enc] L) fun w L' => L <+: L' ∧ ∃ ne mc ml, w = .ref ne ∧ L.length ≤ ne ∧ Told L' t ne mc ml
def sPut2 : Sx := sAs (cOpL oTup (cCons (cOp2 oAdd (cOp2 oIx (cVar 3) (cC (.str "size"))) (cOp2 oIx (cVar 5) (cC (.str "size")))) (cCons (cOr (cOp2 oIx (cVar 3) (cC (.str "tick"))) (cOp2 oIx (cVar 5) (cC (.str "tick")))) cNil))) (gTupW 2 (gsCons (gIx (cVar 3) (cC (.str "size"))) (gsCons (gIx (cVar 3) (cC (.str "tick"))) gsNil)))
def sKinds : Sx := sFor (iSeq (cOpL oLst (cCons (cC (.str "cell")) (cCons (cC (.str "call")) cNil)))) (gN 6) sKind
def c_counts (self : Fn) : Fn := f_law_counts f_law_inner self
theorem c_counts_eq (self : Fn) : c_counts self = defF 8 1 (sSeq (sAs (cOpL oTup (cCons (cDict [(cC (.str "size"), cC (.int 1)), (cC (.str "cell"), cOpL oLst cNil), (cC (.str "call"), cOpL oLst cNil), (cC (.str "tick"), cC (.bl false))]) (cCons (cCall f_law_inner [] (cCons (cVar 0) cNil)) cNil))) (gTupW 2 (gsCons (gN 3) (gsCons (gN 4) gsNil)))) (sSeq (sSet 1 (cC (.int 0))) (sSeq sHead (sSeq (sAs (cOp2 oEq (cVar 0) (cOpL oTup (cCons (cC (.str "tick")) cNil))) (gIx (cVar 3) (cC (.str "tick")))) (sSeq (sFor (iSeq (cVar 4)) (gN 2) (sSeq (sSet 5 (cCall self [] (cCons (cVar 2) cNil))) (sSeq sPut2 (sSeq (sSet 1 (cOpL oMax (cCons (cOpL oInt (cCons (cVar 1) cNil)) (cCons (cOpL oInt (cCons (cOp2 oIx (cVar 5) (cC (.str "depth"))) cNil)) cNil)))) sKinds)))) (sSeq (sAs (cOp2 oAdd (cC (.int 1)) (cVar 1)) (gIx (cVar 3) (cC (.str "depth")))) (sRet (cVar 3)))))))) := rfl
theorem fnd_len {sz : Int} {nc nl : Nat} {tk : Bool} : (fnd sz nc nl tk).length = 4 := rfl
theorem put2_step {env : Env} {L : LH} {nd nc nl ne mc ml : Nat} {sz : Int} {cs ls : List Str} {tk : Bool} {u : Tm} {N : Env → LH → Prop} {R : W → LH → Prop} (h3 : env[3]? = some (some (.ref nd))) (h5 : env[5]? = some (some (.ref ne))) (hs : CSt L nd nc nl sz cs ls tk) (ht : Told L u ne mc ml)
    (k : ∀ L', But nd L L' → CSt L' nd nc nl (sz + u.size) cs ls (tk || u.tickB) → N env L') : EvS (sPut2 env L) N R := by
  have fin : EvS (sPut2 env L) N R = N env ((L.set nd (.dic (fnd (sz + u.size) nc nl tk))).set nd (.dic (fnd (sz + u.size) nc nl (tk || u.tickB)))) := by
    have e1 : oPut (.ref nd) (.str "size") (.int (sz + u.size)) L = some (L.set nd (.dic (fnd (sz + u.size) nc nl tk))) := by
      rw [put_dic hs.d (by rw [fnd_len]; decide), p_size]
    have e2 : oPut (.ref nd) (.str "tick") (.bl (tk || u.tickB)) (L.set nd (.dic (fnd (sz + u.size) nc nl tk))) = some ((L.set nd (.dic (fnd (sz + u.size) nc nl tk))).set nd (.dic (fnd (sz + u.size) nc nl (tk || u.tickB)))) := by
      rw [put_dic (set_at hs.d) (by rw [fnd_len]; decide), p_tick]
    simp only [sPut2, wipeE, ev_ok, ev_bind, ev_only, ev_ofO, ev_ofOB, ev_ite, evs_ite, evo_some, evs_toS, evs_seq, ev_C, ev_var, ev_op2, ev_op1, ev_opL, ev_nil, ev_cons, ev_call, ev_bVal, ev_bTru, ev_bNot, ev_bAnd, ev_bOr, ev_bYes, ev_cIf, ev_cNot, ev_cAnd, ev_cOr, ev_chain, ev_part_none, ev_part_some, ev_sl, ev_mth, evs_skip, evs_set, evs_ret, evs_expr, evs_if, evs_par, evs_as, ev_gN, ev_gsNil, ev_gsCons, ev_gTup, ev_gIx, evs_aug, ev_defF, evs_for, ev_rng1, ev_iSeq, ev_lc, o_addI, o_subI, o_addS, o_addT, o_mulI, o_modI, o_divI, o_powI, o_cmpI, o_intI, o_intB, o_absI, o_lst, o_tup, bl_bl, List.map_cons, List.map_nil, List.cons_append, List.nil_append, List.append_nil, List.getElem?_cons_zero, List.getElem?_cons_succ, List.set_cons_zero, List.set_cons_succ, List.length_cons, List.length_nil, List.replicate, Nat.reduceAdd, Nat.reduceSub, Nat.reduceLeDiff, true_and, and_true, if_true, decide_eq_true_eq, Nat.zero_add, h3, h5, ix_dic1 hs.d, ix_dic1 ht.d, v_size, v_sizeD, v_tick, v_tickD, truW, e1]
    cases tk with
    | true =>
      rw [Bool.true_or] at e2
      simp only [if_true, wipeE, ev_ok, ev_bind, ev_only, ev_ofO, ev_ofOB, ev_ite, evs_ite, evo_some, evs_toS, evs_seq, ev_C, ev_var, ev_op2, ev_op1, ev_opL, ev_nil, ev_cons, ev_call, ev_bVal, ev_bTru, ev_bNot, ev_bAnd, ev_bOr, ev_bYes, ev_cIf, ev_cNot, ev_cAnd, ev_cOr, ev_chain, ev_part_none, ev_part_some, ev_sl, ev_mth, evs_skip, evs_set, evs_ret, evs_expr, evs_if, evs_par, evs_as, ev_gN, ev_gsNil, ev_gsCons, ev_gTup, ev_gIx, evs_aug, ev_defF, evs_for, ev_rng1, ev_iSeq, ev_lc, o_addI, o_subI, o_addS, o_addT, o_mulI, o_modI, o_divI, o_powI, o_cmpI, o_intI, o_intB, o_absI, o_lst, o_tup, bl_bl, List.map_cons, List.map_nil, List.cons_append, List.nil_append, List.append_nil, List.getElem?_cons_zero, List.getElem?_cons_succ, List.set_cons_zero, List.set_cons_succ, List.length_cons, List.length_nil, List.replicate, Nat.reduceAdd, Nat.reduceSub, Nat.reduceLeDiff, true_and, and_true, if_true, decide_eq_true_eq, Nat.zero_add, h3, e1, e2, Bool.true_or, v_tick, Nat.reduceLeDiff]
    | false =>
      rw [Bool.false_or] at e2
      simp only [Bool.false_eq_true, if_false, wipeE, ev_ok, ev_bind, ev_only, ev_ofO, ev_ofOB, ev_ite, evs_ite, evo_some, evs_toS, evs_seq, ev_C, ev_var, ev_op2, ev_op1, ev_opL, ev_nil, ev_cons, ev_call, ev_bVal, ev_bTru, ev_bNot, ev_bAnd, ev_bOr, ev_bYes, ev_cIf, ev_cNot, ev_cAnd, ev_cOr, ev_chain, ev_part_none, ev_part_some, ev_sl, ev_mth, evs_skip, evs_set, evs_ret, evs_expr, evs_if, evs_par, evs_as, ev_gN, ev_gsNil, ev_gsCons, ev_gTup, ev_gIx, evs_aug, ev_defF, evs_for, ev_rng1, ev_iSeq, ev_lc, o_addI, o_subI, o_addS, o_addT, o_mulI, o_modI, o_divI, o_powI, o_cmpI, o_intI, o_intB, o_absI, o_lst, o_tup, bl_bl, List.map_cons, List.map_nil, List.cons_append, List.nil_append, List.append_nil, List.getElem?_cons_zero, List.getElem?_cons_succ, List.set_cons_zero, List.set_cons_succ, List.length_cons, List.length_nil, List.replicate, Nat.reduceAdd, Nat.reduceSub, Nat.reduceLeDiff, true_and, and_true, if_true, decide_eq_true_eq, Nat.zero_add, h3, e1, e2, Bool.false_or]
  rw [fin]
  have b : But nd L ((L.set nd (.dic (fnd (sz + u.size) nc nl tk))).set nd (.dic (fnd (sz + u.size) nc nl (tk || u.tickB)))) := But.set.trans .set
  exact k _ b ⟨set_at (set_at hs.d), b.2 _ _ hs.ne.1 hs.c, b.2 _ _ hs.ne.2 hs.l⟩
theorem kinds_step {a0 a1 a2 a4 a6 a7 : Option W} {L : LH} {nd nc nl ne mc ml : Nat} {sz : Int} {cs ls : List Str} {tk : Bool} {u : Tm} {N : Env → LH → Prop} {R : W → LH → Prop} (hs : CSt L nd nc nl sz cs ls tk) (ht : Told L u ne mc ml) (hne : ne ≠ nd) (hu : u.size ≤ 1000) (hcs : cs.length ≤ 1000) (hls : ls.length ≤ 1000)
    (k : ∀ L' nc' nl' b6 b7, But nd L L' → CSt L' nd nc' nl' sz (merge cs (u.cnt "cell")) (merge ls (u.cnt "call")) tk → N [a0, a1, a2, some (.ref nd), a4, some (.ref ne), b6, b7] L') : EvS (sKinds [a0, a1, a2, some (.ref nd), a4, some (.ref ne), a6, a7] L) N R := by
  have hcl := cnt_len "cell" u
  have hll := cnt_len "call" u
  have hmc : mc ≠ nd := by rintro rfl; have := hs.d.symm.trans ht.c; cases this
  have hml : ml ≠ nd := by rintro rfl; have := hs.d.symm.trans ht.l; cases this
  obtain ⟨S, e1, hS⟩ := srcOf_at (L := L ++ [.lst [W.str "cell", W.str "call"]]) (n := L.length) at_last
  have hnd : nd < L.length := (List.getElem?_eq_some_iff.mp hs.d).1
  have hnk : L.length ≠ nd := by omega
  simp only [sKinds, wipeE, ev_ok, ev_bind, ev_only, ev_ofO, ev_ofOB, ev_ite, evs_ite, evo_some, evs_toS, evs_seq, ev_C, ev_var, ev_op2, ev_op1, ev_opL, ev_nil, ev_cons, ev_call, ev_bVal, ev_bTru, ev_bNot, ev_bAnd, ev_bOr, ev_bYes, ev_cIf, ev_cNot, ev_cAnd, ev_cOr, ev_chain, ev_part_none, ev_part_some, ev_sl, ev_mth, evs_skip, evs_set, evs_ret, evs_expr, evs_if, evs_par, evs_as, ev_gN, ev_gsNil, ev_gsCons, ev_gTup, ev_gIx, evs_aug, ev_defF, evs_for, ev_rng1, ev_iSeq, ev_lc, o_addI, o_subI, o_addS, o_addT, o_mulI, o_modI, o_divI, o_powI, o_cmpI, o_intI, o_intB, o_absI, o_lst, o_tup, bl_bl, List.map_cons, List.map_nil, List.cons_append, List.nil_append, List.append_nil, List.getElem?_cons_zero, List.getElem?_cons_succ, List.set_cons_zero, List.set_cons_succ, List.length_cons, List.length_nil, List.replicate, Nat.reduceAdd, Nat.reduceSub, Nat.reduceLeDiff, true_and, and_true, if_true, decide_eq_true_eq, Nat.zero_add, e1]
  have hget : ∀ L' : LH, L'[L.length]? = some (.lst [W.str "cell", W.str "call"]) → ∀ i, S.get L' i = some [W.str "cell", W.str "call"][i]? := fun L' h i => by
    simp only [srcOf, seqL_at at_last] at e1
    cases e1
    simp only [seqL_at h, Option.map]
  refine for_inv (fun j env L1 => ∃ nc' nl' b6 b7, env = [a0, a1, a2, some (.ref nd), a4, some (.ref ne), b6, b7] ∧ But nd L L1 ∧ CSt L1 nd nc' nl' sz (if 1 ≤ j then merge cs (u.cnt "cell") else cs) (if 2 ≤ j then merge ls (u.cnt "call") else ls) tk ∧ L1[L.length]? = some (.lst [W.str "cell", W.str "call"]))
    (n := 2) (fun j env L1 hj hp => ?_) (fun env L1 hp => ?_) S.len 0 _ _ (by rw [hS.1]; rfl) ⟨nc, nl, _, _, rfl, .of_pre pre_last, hs.but pre_last, at_last⟩
  · obtain ⟨nc', nl', b6, b7, rfl, hb, hc, hk⟩ := hp
    have td : L1[ne]? = _ := hb.2 _ _ hne ht.d
    have tc : L1[mc]? = _ := hb.2 _ _ hmc ht.c
    have tl : L1[ml]? = _ := hb.2 _ _ hml ht.l
    match j, hj with
    | 0, _ =>
      refine ⟨.str "cell", by rw [hget L1 hk]; rfl, ?_⟩
      simp only [wipeE, ev_ok, ev_bind, ev_only, ev_ofO, ev_ofOB, ev_ite, evs_ite, evo_some, evs_toS, evs_seq, ev_C, ev_var, ev_op2, ev_op1, ev_opL, ev_nil, ev_cons, ev_call, ev_bVal, ev_bTru, ev_bNot, ev_bAnd, ev_bOr, ev_bYes, ev_cIf, ev_cNot, ev_cAnd, ev_cOr, ev_chain, ev_part_none, ev_part_some, ev_sl, ev_mth, evs_skip, evs_set, evs_ret, evs_expr, evs_if, evs_par, evs_as, ev_gN, ev_gsNil, ev_gsCons, ev_gTup, ev_gIx, evs_aug, ev_defF, evs_for, ev_rng1, ev_iSeq, ev_lc, o_addI, o_subI, o_addS, o_addT, o_mulI, o_modI, o_divI, o_powI, o_cmpI, o_intI, o_intB, o_absI, o_lst, o_tup, bl_bl, List.map_cons, List.map_nil, List.cons_append, List.nil_append, List.append_nil, List.getElem?_cons_zero, List.getElem?_cons_succ, List.set_cons_zero, List.set_cons_succ, List.length_cons, List.length_nil, List.replicate, Nat.reduceAdd, Nat.reduceSub, Nat.reduceLeDiff, true_and, and_true, if_true, decide_eq_true_eq, Nat.zero_add]
      refine kind_step rfl rfl rfl rfl hc.d td v_cell v_cellD hc.c tc (by rw [fnd_len]; decide) (by rw [if_neg (by decide)]; omega) fun L2 new b2 d2 c2 hn => ?_
      rw [p_cell] at d2
      refine ⟨new, nl', _, _, rfl, hb.trans b2, ⟨d2, ?_, ?_⟩, b2.2 _ _ hnk hk⟩
      · rw [if_neg (by decide)] at c2; exact c2
      · exact b2.2 _ _ hc.ne.2 hc.l
    | 1, _ =>
      refine ⟨.str "call", by rw [hget L1 hk]; rfl, ?_⟩
      simp only [wipeE, ev_ok, ev_bind, ev_only, ev_ofO, ev_ofOB, ev_ite, evs_ite, evo_some, evs_toS, evs_seq, ev_C, ev_var, ev_op2, ev_op1, ev_opL, ev_nil, ev_cons, ev_call, ev_bVal, ev_bTru, ev_bNot, ev_bAnd, ev_bOr, ev_bYes, ev_cIf, ev_cNot, ev_cAnd, ev_cOr, ev_chain, ev_part_none, ev_part_some, ev_sl, ev_mth, evs_skip, evs_set, evs_ret, evs_expr, evs_if, evs_par, evs_as, ev_gN, ev_gsNil, ev_gsCons, ev_gTup, ev_gIx, evs_aug, ev_defF, evs_for, ev_rng1, ev_iSeq, ev_lc, o_addI, o_subI, o_addS, o_addT, o_mulI, o_modI, o_divI, o_powI, o_cmpI, o_intI, o_intB, o_absI, o_lst, o_tup, bl_bl, List.map_cons, List.map_nil, List.cons_append, List.nil_append, List.append_nil, List.getElem?_cons_zero, List.getElem?_cons_succ, List.set_cons_zero, List.set_cons_succ, List.length_cons, List.length_nil, List.replicate, Nat.reduceAdd, Nat.reduceSub, Nat.reduceLeDiff, true_and, and_true, if_true, decide_eq_true_eq, Nat.zero_add]
      refine kind_step rfl rfl rfl rfl hc.d td v_call v_callD hc.l tl (by rw [fnd_len]; decide) (by rw [if_neg (by decide)]; omega) fun L2 new b2 d2 c2 hn => ?_
      rw [p_call] at d2
      refine ⟨nc', new, _, _, rfl, hb.trans b2, ⟨d2, ?_, ?_⟩, b2.2 _ _ hnk hk⟩
      · exact b2.2 _ _ hc.ne.1 hc.c
      · rw [if_neg (by decide)] at c2; exact c2
    | j + 2, h => omega
  · obtain ⟨nc', nl', b6, b7, rfl, hb, hc, hk⟩ := hp
    exact ⟨by rw [hget L1 hk]; rfl, k L1 nc' nl' b6 b7 hb hc⟩
theorem cnt_base (self : Fn) : CtS many self 0 := fun t L ht hd => by have := Tm.dep_pos t; omega
theorem cnt_step {self : Fn} {d : Nat} (h : CtS many self d) : CtS many (c_counts self) (d + 1) := fun t L0 ht hd h9 h1 => by
  have hk3 := Tm.kids_len t
  simp only [c_counts_eq, wipeE, ev_ok, ev_bind, ev_only, ev_ofO, ev_ofOB, ev_ite, evs_ite, evo_some, evs_toS, evs_seq, ev_C, ev_var, ev_op2, ev_op1, ev_opL, ev_nil, ev_cons, ev_call, ev_bVal, ev_bTru, ev_bNot, ev_bAnd, ev_bOr, ev_bYes, ev_cIf, ev_cNot, ev_cAnd, ev_cOr, ev_chain, ev_part_none, ev_part_some, ev_sl, ev_mth, evs_skip, evs_set, evs_ret, evs_expr, evs_if, evs_par, evs_as, ev_gN, ev_gsNil, ev_gsCons, ev_gTup, ev_gIx, evs_aug, ev_defF, evs_for, ev_rng1, ev_iSeq, ev_lc, o_addI, o_subI, o_addS, o_addT, o_mulI, o_modI, o_divI, o_powI, o_cmpI, o_intI, o_intB, o_absI, o_lst, o_tup, bl_bl, List.map_cons, List.map_nil, List.cons_append, List.nil_append, List.append_nil, List.getElem?_cons_zero, List.getElem?_cons_succ, List.set_cons_zero, List.set_cons_succ, List.length_cons, List.length_nil, List.replicate, Nat.reduceAdd, Nat.reduceSub, Nat.reduceLeDiff, true_and, and_true, if_true, decide_eq_true_eq, Nat.zero_add, ev_dict, ev_pairs_cons, ev_pairs_nil, keysW, keyW, m_fnd]
  generalize hLa : L0 ++ [LO.lst []] ++ [LO.lst []] = La
  have pa : L0 <+: La := by rw [← hLa]; exact pre_last.trans pre_last
  have a0 : La[L0.length]? = some (.lst []) := by rw [← hLa]; exact pre_at pre_last at_last
  have a1 : La[(L0 ++ [LO.lst []]).length]? = some (.lst []) := by rw [← hLa]; exact at_last
  generalize (L0 ++ [LO.lst []]).length = nl at a1 ⊢
  have hndL : L0.length ≤ La.length := pa.length_le
  have c0 : CSt (La ++ [.dic (fnd 1 L0.length nl false)]) La.length L0.length nl 1 [] [] false := ⟨at_last, pre_at pre_last a0, pre_at pre_last a1⟩
  refine (law_inner_ok ht).mono fun w L1 q => ?_
  obtain ⟨np, rfl, hnp, p1, hnpf⟩ := q
  have c1 := c0.but p1
  have hpr1 : L0 <+: L1 := (pa.trans pre_last).trans p1
  generalize La.length = nd at c1 hndL hnpf ⊢
  have hnpd : np ≠ nd := by
    rintro rfl
    have := c1.d.symm.trans hnp
    cases this
  refine head_step ht rfl rfl c1 c1.ne fun L2 nc' nl' b2 c2 hn1 hn2 => ?_
  have hnp2 := b2.2 _ _ hnpd hnp
  have dtk : Dat (.tup [.str "tick"]) (.tuple [.str "tick"]) := Tm.isDat (many := many) (t := .tick) trivial (by decide)
  simp only [wipeE, ev_ok, ev_bind, ev_only, ev_ofO, ev_ofOB, ev_ite, evs_ite, evo_some, evs_toS, evs_seq, ev_C, ev_var, ev_op2, ev_op1, ev_opL, ev_nil, ev_cons, ev_call, ev_bVal, ev_bTru, ev_bNot, ev_bAnd, ev_bOr, ev_bYes, ev_cIf, ev_cNot, ev_cAnd, ev_cOr, ev_chain, ev_part_none, ev_part_some, ev_sl, ev_mth, evs_skip, evs_set, evs_ret, evs_expr, evs_if, evs_par, evs_as, ev_gN, ev_gsNil, ev_gsCons, ev_gTup, ev_gIx, evs_aug, ev_defF, evs_for, ev_rng1, ev_iSeq, ev_lc, o_addI, o_subI, o_addS, o_addT, o_mulI, o_modI, o_divI, o_powI, o_cmpI, o_intI, o_intB, o_absI, o_lst, o_tup, bl_bl, List.map_cons, List.map_nil, List.cons_append, List.nil_append, List.append_nil, List.getElem?_cons_zero, List.getElem?_cons_succ, List.set_cons_zero, List.set_cons_succ, List.length_cons, List.length_nil, List.replicate, Nat.reduceAdd, Nat.reduceSub, Nat.reduceLeDiff, true_and, and_true, if_true, decide_eq_true_eq, Nat.zero_add, oEq, oB, eqX_dat (Tm.isDat ht h9) dtk, Tm.eqv_tick ht, Option.map, put_dic c2.d (show (fnd 1 nc' nl' false).length < 16777216 by rw [fnd_len]; decide), p_tick]
  have b3 : But nd L1 (L2.set nd (.dic (fnd 1 nc' nl' t.isTick))) := b2.trans .set
  have c3 : CSt (L2.set nd (.dic (fnd 1 nc' nl' t.isTick))) nd nc' nl' 1 (t.own "cell") (t.own "call") t.isTick := ⟨set_at c2.d, But.set.2 _ _ hn1 c2.c, But.set.2 _ _ hn2 c2.l⟩
  have hnp3 := b3.2 _ _ hnpd hnp
  generalize L2.set nd (.dic (fnd 1 nc' nl' t.isTick)) = L3 at b3 c3 hnp3 ⊢
  have pr3 : L0 <+: L3 := b3.pre hpr1 hndL
  obtain ⟨S, e1, hS⟩ := srcOf_at hnp3
  simp only [e1]
  have hget : ∀ L' : LH, L'[np]? = some (.lst (t.kids.map Tm.enc)) → ∀ i, S.get L' i = some (t.kids.map Tm.enc)[i]? := fun L' h i => by
    simp only [srcOf, seqL_at hnp3] at e1
    cases e1
    simp only [seqL_at h, Option.map]
  refine for_inv (fun i env L => ∃ nc nl x2 x5 x6 x7, env = [some t.enc, some (.int (mxd (t.kids.take i))), x2, some (.ref nd), some (.ref np), x5, x6, x7] ∧ L0 <+: L ∧ CSt L nd nc nl (1 + ((t.kids.take i).map Tm.size).sum) (pcnt "cell" t i) (pcnt "call" t i) (t.isTick || (t.kids.take i).any Tm.tickB) ∧ L[np]? = some (.lst (t.kids.map Tm.enc)))
    (n := t.kids.length) (fun i env L hi hp => ?_) (fun env L hp => ?_) S.len 0 _ _ (by rw [hS.1, List.length_map]; omega) ⟨nc', nl', _, _, _, _, rfl, pr3, by simpa [pcnt] using c3, hnp3⟩
  · obtain ⟨nc, nl, x2, x5, x6, x7, rfl, pr, hc, hn⟩ := hp
    have hkm : t.kids[i] ∈ t.kids := List.getElem_mem hi
    have hsz := Tm.size_kid hkm
    refine ⟨t.kids[i].enc, by rw [hget L hn, List.getElem?_map, List.getElem?_eq_getElem hi]; rfl, ?_⟩
    simp only [wipeE, ev_ok, ev_bind, ev_only, ev_ofO, ev_ofOB, ev_ite, evs_ite, evo_some, evs_toS, evs_seq, ev_C, ev_var, ev_op2, ev_op1, ev_opL, ev_nil, ev_cons, ev_call, ev_bVal, ev_bTru, ev_bNot, ev_bAnd, ev_bOr, ev_bYes, ev_cIf, ev_cNot, ev_cAnd, ev_cOr, ev_chain, ev_part_none, ev_part_some, ev_sl, ev_mth, evs_skip, evs_set, evs_ret, evs_expr, evs_if, evs_par, evs_as, ev_gN, ev_gsNil, ev_gsCons, ev_gTup, ev_gIx, evs_aug, ev_defF, evs_for, ev_rng1, ev_iSeq, ev_lc, o_addI, o_subI, o_addS, o_addT, o_mulI, o_modI, o_divI, o_powI, o_cmpI, o_intI, o_intB, o_absI, o_lst, o_tup, bl_bl, List.map_cons, List.map_nil, List.cons_append, List.nil_append, List.append_nil, List.getElem?_cons_zero, List.getElem?_cons_succ, List.set_cons_zero, List.set_cons_succ, List.length_cons, List.length_nil, List.replicate, Nat.reduceAdd, Nat.reduceSub, Nat.reduceLeDiff, true_and, and_true, if_true, decide_eq_true_eq, Nat.zero_add]
    refine (h t.kids[i] L (Tm.kids_ok ht hkm) (by have := Tm.dep_kid hkm; omega) (by have := Tm.dep_kid hkm; omega) (by omega)).mono fun w L4 q => ?_
    obtain ⟨p4, ne, mc, ml, rfl, hnf, td⟩ := q
    have hnd : nd < L.length := (List.getElem?_eq_some_iff.mp hc.d).1
    have hne : ne ≠ nd := by omega
    refine put2_step rfl rfl (hc.but p4) td fun L5 b5 c5 => ?_
    have td5 : Told L5 t.kids[i] ne mc ml := ⟨b5.2 _ _ hne td.d, b5.2 _ _ (by rintro rfl; have := (hc.but p4).d.symm.trans td.c; cases this) td.c, b5.2 _ _ (by rintro rfl; have := (hc.but p4).d.symm.trans td.l; cases this) td.l⟩
    simp only [wipeE, ev_ok, ev_bind, ev_only, ev_ofO, ev_ofOB, ev_ite, evs_ite, evo_some, evs_toS, evs_seq, ev_C, ev_var, ev_op2, ev_op1, ev_opL, ev_nil, ev_cons, ev_call, ev_bVal, ev_bTru, ev_bNot, ev_bAnd, ev_bOr, ev_bYes, ev_cIf, ev_cNot, ev_cAnd, ev_cOr, ev_chain, ev_part_none, ev_part_some, ev_sl, ev_mth, evs_skip, evs_set, evs_ret, evs_expr, evs_if, evs_par, evs_as, ev_gN, ev_gsNil, ev_gsCons, ev_gTup, ev_gIx, evs_aug, ev_defF, evs_for, ev_rng1, ev_iSeq, ev_lc, o_addI, o_subI, o_addS, o_addT, o_mulI, o_modI, o_divI, o_powI, o_cmpI, o_intI, o_intB, o_absI, o_lst, o_tup, bl_bl, List.map_cons, List.map_nil, List.cons_append, List.nil_append, List.append_nil, List.getElem?_cons_zero, List.getElem?_cons_succ, List.set_cons_zero, List.set_cons_succ, List.length_cons, List.length_nil, List.replicate, Nat.reduceAdd, Nat.reduceSub, Nat.reduceLeDiff, true_and, and_true, if_true, decide_eq_true_eq, Nat.zero_add, ix_dic1 td5.d, v_depth, oMax]
    refine kinds_step c5 td5 hne (by omega) (by have := pcnt_len "cell" t i; omega) (by have := pcnt_len "call" t i; omega) fun L6 nc6 nl6 b6 b7 but6 c6 => ?_
    refine ⟨nc6, nl6, some t.kids[i].enc, some (.ref ne), b6, b7, ?_, (But.of_pre p4 |>.trans b5 |>.trans but6).pre pr hndL, ?_, but6.2 _ _ hnpd (b5.2 _ _ hnpd (pre_at p4 hn))⟩
    · have : (if (t.kids[i].dep : Int) > (mxd (t.kids.take i) : Int) then (t.kids[i].dep : Int) else (mxd (t.kids.take i) : Int)) = ((mxd (t.kids.take (i + 1)) : Nat) : Int) := by
        rw [mxd_succ hi]
        split <;> omega
      rw [this]
    · rw [pcnt_succ hi, pcnt_succ hi]
      have e2 : (1 : Int) + ((t.kids.take (i + 1)).map Tm.size).sum = 1 + ((t.kids.take i).map Tm.size).sum + t.kids[i].size := by
        rw [List.take_succ_eq_append_getElem hi, List.map_append, List.sum_append]
        simp; omega
      have e3 : (t.isTick || (t.kids.take (i + 1)).any Tm.tickB) = (t.isTick || (t.kids.take i).any Tm.tickB || t.kids[i].tickB) := by
        rw [List.take_succ_eq_append_getElem hi, List.any_append]
        simp [Bool.or_assoc]
      rw [e2, e3]
      exact c6
  · obtain ⟨nc, nl, x2, x5, x6, x7, rfl, pr, hc, hn⟩ := hp
    refine ⟨by rw [hget L hn, List.getElem?_eq_none (by rw [List.length_map]; exact Nat.le_refl _)], ?_⟩
    rw [List.take_length] at hc ⊢
    rw [pcnt_all, pcnt_all] at hc
    simp only [wipeE, ev_ok, ev_bind, ev_only, ev_ofO, ev_ofOB, ev_ite, evs_ite, evo_some, evs_toS, evs_seq, ev_C, ev_var, ev_op2, ev_op1, ev_opL, ev_nil, ev_cons, ev_call, ev_bVal, ev_bTru, ev_bNot, ev_bAnd, ev_bOr, ev_bYes, ev_cIf, ev_cNot, ev_cAnd, ev_cOr, ev_chain, ev_part_none, ev_part_some, ev_sl, ev_mth, evs_skip, evs_set, evs_ret, evs_expr, evs_if, evs_par, evs_as, ev_gN, ev_gsNil, ev_gsCons, ev_gTup, ev_gIx, evs_aug, ev_defF, evs_for, ev_rng1, ev_iSeq, ev_lc, o_addI, o_subI, o_addS, o_addT, o_mulI, o_modI, o_divI, o_powI, o_cmpI, o_intI, o_intB, o_absI, o_lst, o_tup, bl_bl, List.map_cons, List.map_nil, List.cons_append, List.nil_append, List.append_nil, List.getElem?_cons_zero, List.getElem?_cons_succ, List.set_cons_zero, List.set_cons_succ, List.length_cons, List.length_nil, List.replicate, Nat.reduceAdd, Nat.reduceSub, Nat.reduceLeDiff, true_and, and_true, if_true, decide_eq_true_eq, Nat.zero_add, put_dic hc.d (show (fnd (1 + ((t.kids.map Tm.size).sum : Int)) nc nl (t.isTick || t.kids.any Tm.tickB)).length < 16777216 by rw [fnd_len]; decide), p_depth]
    refine ⟨(But.set).pre pr hndL, nd, nc, nl, rfl, hndL, ?_, But.set.2 _ _ hc.ne.1 hc.c, But.set.2 _ _ hc.ne.2 hc.l⟩
    rw [set_at hc.d, tickB_eq, mxd_dep, Tm.size_eq]
    simp
end Z

/-! YC: _law_bent. -/
namespace Z
open PySem PySem.Spec PyProof.Rows L2
variable {many : Int}
theorem Upd.refl {p : Nat} {L : LH} (h : PoolOk p L) : Upd p L L := ⟨Nat.le_refl _, fun _ _ _ e => e, h⟩
theorem PoolOk.pre {p : Nat} {L L' : LH} (h : PoolOk p L) (q : L <+: L') : PoolOk p L' := by
  obtain ⟨a, b, e, h1, h2, h3⟩ := h
  exact ⟨a, b, pre_at q e, h1, h2, h3⟩
theorem Upd.of_pre {p : Nat} {L L' : LH} (h : PoolOk p L) (q : L <+: L') : Upd p L L' := ⟨q.length_le, fun _ _ _ e => pre_at q e, h.pre q⟩
theorem Upd.setN {p n : Nat} {L : LH} {o o' : LO} (h : PoolOk p L) (hn : n ≠ p) : PoolOk p (L.set n o') := by
  obtain ⟨a, b, e, h1, h2, h3⟩ := h
  exact ⟨a, b, by rw [List.getElem?_set_ne hn]; exact e, h1, h2, h3⟩
theorem tyName_upd {p : Nat} {L L' : LH} (h : PoolOk p L) (u : Upd p L L') {w : W} {t : String} (e : tyName w L = some t) : tyName w L' = some t := by
  cases w with
  | ref n =>
    simp only [tyName] at e ⊢
    by_cases hn : n = p
    · subst hn
      obtain ⟨a, b, e1, _⟩ := h
      obtain ⟨a', b', e2, _⟩ := u.pool
      rw [e1] at e
      rw [e2]
      exact e
    · split at e
      · rename_i xs e1; rw [u.old n _ hn e1]; exact e
      · rename_i xs e1; rw [u.old n _ hn e1]; exact e
      · cases e
  | _ => exact e
theorem FK.upd {p : Nat} {L L' : LH} {w : W} (h : FK L w) (hp : PoolOk p L) (u : Upd p L L') : FK L' w :=
  ⟨⟨h.hk.ty.imp fun t e => tyName_upd hp u e, fun x r e => ⟨(h.hk.fst x r e).1.imp fun t q => tyName_upd hp u q, (h.hk.fst x r e).2⟩⟩, fun y e => (h.arg y e).imp fun t q => tyName_upd hp u q, h.cell, fun y z e => ⟨(h.call y z e).1, (h.call y z e).2.imp fun t q => tyName_upd hp u q⟩⟩
theorem Bent.upd {p : Nat} {L L' : LH} {w : W} (h : Bent L many w) (hp : PoolOk p L) (u : Upd p L L') : Bent L' many w := by
  induction h with
  | odd hf hb => exact .odd (hf.upd hp u) hb
  | node hf hb hi hs h1 h2 hl _ ih => exact .node (hf.upd hp u) hb hi hs h1 h2 hl ih
/-- the parts put back -/
def reb (t : Tm) (ps : List W) : W := match t with
  | .call2 s _ _ => .tup [.str "call", .str s, .tup ps]
  | .bin h _ _ => .tup (.str h :: ps)
  | .ite _ _ _ => .tup (.str "if" :: ps)
  | t => t.enc
theorem reb_bent {L : LH} {t : Tm} {r : Nat} {w : W} (ht : t.ok many) (hr : r < t.kids.length) (hw : Bent L many w) : Bent L many (reb t ((t.kids.map Tm.enc).set r w)) := by
  have hsp : (t.kids.map Tm.enc).set r w = (t.kids.take r).map Tm.enc ++ w :: (t.kids.drop (r + 1)).map Tm.enc := by
    rw [List.set_eq_take_append_cons_drop, if_pos (by rw [List.length_map]; exact hr), List.map_take, List.map_drop]
  have hlen : ((t.kids.map Tm.enc).set r w).length = t.kids.length := by rw [List.length_set, List.length_map]
  have h1 : ∀ u ∈ t.kids.take r, u.ok many := fun u hu => Tm.kids_ok ht (List.mem_of_mem_take hu)
  have h2 : ∀ u ∈ t.kids.drop (r + 1), u.ok many := fun u hu => Tm.kids_ok ht (List.mem_of_mem_drop hu)
  have h3 : (t.kids.take r).length + (t.kids.drop (r + 1)).length ≤ 3 := by
    have := Tm.kids_len t
    rw [List.length_take, List.length_drop]; omega
  generalize hps : (t.kids.map Tm.enc).set r w = ps at hsp hlen
  cases t with
  | call2 s a b =>
    refine .node (pre := List.take r [a, b]) (post := List.drop (r + 1) [a, b]) (b := w) ⟨⟨⟨_, rfl⟩, fun x r' e => ?_⟩, fun y e => ?_, fun y e => ?_, fun y z e => ?_⟩ ?_ ?_ (fun s' r' e => ?_) h1 h2 h3 hw
    · cases e; exact ⟨⟨_, rfl⟩, fun s' e => by cases e; exact so_call⟩
    · simp [reb] at e
    · simp [reb] at e
    · simp [reb] at e; obtain ⟨rfl, rfl⟩ := e
      exact ⟨⟨_, rfl, Nat.le_trans (Tm.NameOk.len ht.1) (by decide)⟩, _, rfl⟩
    · show (nameB s && decide (ps.length ≤ 2)) = true
      rw [hlen, Tm.NameOk.nm ht.1]; rfl
    · rw [show List.map Tm.enc (List.take r [a, b]) ++ w :: List.map Tm.enc (List.drop (r + 1) [a, b]) = ps from hsp.symm]
      simp [reb, innerW]
    · cases e; exact so_call
  | bin h a b =>
    match ps, hlen with
    | [x, y], _ =>
      refine .node (pre := List.take r [a, b]) (post := List.drop (r + 1) [a, b]) (b := w) ⟨⟨⟨_, rfl⟩, fun x r' e => ?_⟩, fun y e => ?_, fun y e => ?_, fun y z e => ?_⟩ ?_ ?_ (fun s' r' e => ?_) h1 h2 h3 hw
      · cases e; exact ⟨⟨_, rfl⟩, fun s' e => by cases e; exact Tm.so_h ht.1⟩
      · simp [reb] at e
      · simp [reb] at e
      · simp [reb] at e; obtain ⟨rfl, _⟩ := e
        rcases ht.1 with q | q | q <;> simp at q
      · rcases ht.1 with rfl | rfl | rfl <;> rfl
      · rw [show List.map Tm.enc (List.take r [a, b]) ++ w :: List.map Tm.enc (List.drop (r + 1) [a, b]) = [x, y] from hsp.symm]
        have hc : h ≠ "call" := by rcases ht.1 with rfl | rfl | rfl <;> simp
        show (if h = "call" then _ else _) = _
        rw [if_neg hc, if_pos (ht.1.elim .inl fun q => .inr (q.elim .inl fun q => .inr (.inl q)))]
      · cases e; exact Tm.so_h ht.1
  | ite a b c =>
    match ps, hlen with
    | [x, y, z], _ =>
      refine .node (pre := List.take r [a, b, c]) (post := List.drop (r + 1) [a, b, c]) (b := w) ⟨⟨⟨_, rfl⟩, fun x r' e => ?_⟩, fun y e => ?_, fun y e => ?_, fun y z e => ?_⟩ rfl ?_ (fun s' r' e => ?_) h1 h2 h3 hw
      · cases e; exact ⟨⟨_, rfl⟩, fun s' e => by cases e; exact so_if⟩
      · simp [reb] at e
      · simp [reb] at e
      · simp [reb] at e
      · rw [show List.map Tm.enc (List.take r [a, b, c]) ++ w :: List.map Tm.enc (List.drop (r + 1) [a, b, c]) = [x, y, z] from hsp.symm]
        simp [reb, innerW]
      · cases e; exact so_if
  | val i => simp [Tm.kids] at hr
  | arg i => simp [Tm.kids] at hr
  | cell i => simp [Tm.kids] at hr
  | tick => simp [Tm.kids] at hr
  | call0 i => simp [Tm.kids] at hr
def c_draw : Fn := f_law_draw
theorem draw_at {p : Nat} {m : Int} {L : LH} (hp : PoolOk p L) (hm : 0 < m) (hm2 : m < 1073741824) : Ev (f_law_draw [.ref p, .int m] L) fun w L' => ∃ r : Int, w = .int r ∧ 0 ≤ r ∧ r < m ∧ Upd p L L' := draw_ok hp hm hm2
theorem eqX_int {L : LH} {i j : Int} {Q : W → LH → Prop} : EvO (oEq (.int i) (.int j) L) Q = Q (.bl (i == j)) L := by
  simp only [oEq, oB, eqX_ii, Option.map, evo_some]
theorem Bent.ty {L L' : LH} {w : W} (h : Bent L many w) (u : ∀ {w : W} {t : String}, tyName w L = some t → tyName w L' = some t) : Bent L' many w := by
  have fk : ∀ {w : W}, FK L w → FK L' w := fun h =>
    ⟨⟨h.hk.ty.imp fun t e => u e, fun x r e => ⟨(h.hk.fst x r e).1.imp fun t q => u q, (h.hk.fst x r e).2⟩⟩, fun y e => (h.arg y e).imp fun t q => u q, h.cell, fun y z e => ⟨(h.call y z e).1, (h.call y z e).2.imp fun t q => u q⟩⟩
  induction h with
  | odd hf hb => exact .odd (fk hf) hb
  | node hf hb hi hs h1 h2 hl _ ih => exact .node (fk hf) hb hi hs h1 h2 hl ih
theorem ty_set {L : LH} {n : Nat} {xs ys : List W} (h : L[n]? = some (.lst xs)) {w : W} {t : String} (e : tyName w L = some t) : tyName w (L.set n (.lst ys)) = some t := by
  cases w with
  | ref m =>
    simp only [tyName] at e ⊢
    by_cases hm : n = m
    · subst hm
      rw [h] at e
      rw [set_at h]
      exact e
    · rw [List.getElem?_set_ne hm]; exact e
  | _ => exact e
def BtS (many : Int) (self : Fn) (d : Nat) : Prop := ∀ (t : Tm) (p : Nat) (odd : W) (L : LH), t.ok many → t.dep ≤ d → PoolOk p L → Bent L many odd → Ev (self [.ref p, t.enc, odd] L) fun w L' => Upd p L L' ∧ Bent L' many w
def c_bent (self : Fn) : Fn := f_law_bent f_law_inner f_law_draw self
theorem bent_step {self : Fn} {d : Nat} (h : BtS many self d) : BtS many (c_bent self) (d + 1) := fun t p odd L ht hd hp ho => by
  have hk3 := Tm.kids_len t
  simp only [c_bent, f_law_bent, wipeE, ev_ok, ev_bind, ev_only, ev_ofO, ev_ofOB, ev_ite, evs_ite, evo_some, evs_toS, evs_seq, ev_C, ev_var, ev_op2, ev_op1, ev_opL, ev_nil, ev_cons, ev_call, ev_bVal, ev_bTru, ev_bNot, ev_bAnd, ev_bOr, ev_bYes, ev_cIf, ev_cNot, ev_cAnd, ev_cOr, ev_chain, ev_part_none, ev_part_some, ev_sl, ev_mth, evs_skip, evs_set, evs_ret, evs_expr, evs_if, evs_par, evs_as, ev_gN, ev_gsNil, ev_gsCons, ev_gTup, ev_gIx, evs_aug, ev_defF, evs_for, ev_rng1, ev_iSeq, ev_lc, o_addI, o_subI, o_addS, o_addT, o_mulI, o_modI, o_divI, o_powI, o_cmpI, o_intI, o_intB, o_absI, o_lst, o_tup, bl_bl, List.map_cons, List.map_nil, List.cons_append, List.nil_append, List.append_nil, List.getElem?_cons_zero, List.getElem?_cons_succ, List.set_cons_zero, List.set_cons_succ, List.length_cons, List.length_nil, List.replicate, Nat.reduceAdd, Nat.reduceSub, Nat.reduceLeDiff, true_and, and_true, if_true, decide_eq_true_eq, Nat.zero_add]
  refine (law_inner_ok ht).mono fun w L1 q => ?_
  obtain ⟨np, rfl, hnp, p1, hnpf⟩ := q
  have hpl : p < L.length := by obtain ⟨a, b, e, _⟩ := hp; exact (List.getElem?_eq_some_iff.mp e).1
  have hne : np ≠ p := by omega
  have u1 : Upd p L (L1 ++ [LO.lst []]) := .of_pre hp (p1.trans pre_last)
  simp only [oEq, oB, eq_nil (pre_at pre_last hnp) at_last, Option.map, evo_some, blW]
  cases hz : (t.kids.map Tm.enc).isEmpty with
  | true => simp only [if_true]; exact ⟨u1, ho.upd hp u1⟩
  | false =>
    simp only [Bool.false_eq_true, if_false]
    refine (draw_at u1.pool (by decide) (by decide)).mono fun w L2 q => ?_
    obtain ⟨r0, rfl, _, _, u2⟩ := q
    have u02 := u1.trans u2
    simp only [eqX_ii, Option.map, evo_some, blW]
    cases hr0 : (r0 == 0) with
    | true => simp only [if_true]; exact ⟨u02, ho.upd hp u02⟩
    | false =>
      have hkl : 0 < t.kids.length := by
        cases e : t.kids with
        | nil => rw [e] at hz; cases hz
        | cons a r => simp
      have hn2 : L2[np]? = some (.lst (t.kids.map Tm.enc)) := u2.old _ _ hne (pre_at pre_last hnp)
      simp only [Bool.false_eq_true, if_false, oLen_at hn2, List.length_map, evo_some]
      refine (draw_at u2.pool (by omega) (by omega)).mono fun w L3 q => ?_
      obtain ⟨r, rfl, hr0', hrlt, u3⟩ := q
      obtain ⟨rn, rfl⟩ : ∃ rn : Nat, r = rn := ⟨r.toNat, by omega⟩
      have hrn : rn < t.kids.length := by omega
      have hn3 := u3.old _ _ hne hn2
      have hat : atI (t.kids.map Tm.enc) (rn : Int) = some t.kids[rn].enc := atI_nat (by rw [List.getElem?_map, List.getElem?_eq_getElem hrn]; rfl)
      simp only [ix_at hn3, hat]
      have hkm : t.kids[rn] ∈ t.kids := List.getElem_mem hrn
      have u03 := u02.trans u3
      refine (h t.kids[rn] p odd L3 (Tm.kids_ok ht hkm) (by have := Tm.dep_kid hkm; omega) u3.pool (ho.upd hp u03)).mono fun w L4 q => ?_
      obtain ⟨u4, hw⟩ := q
      have hn4 := u4.old _ _ hne hn3
      simp only [put_at hn4 (show rn < (t.kids.map Tm.enc).length by rw [List.length_map]; exact hrn)]
      have pool5 : PoolOk p (L4.set np (.lst ((t.kids.map Tm.enc).set rn w))) := Upd.setN (o := .lst []) u4.pool hne
      have u04 := u03.trans u4
      have hLn : L.length ≤ np := hnpf
      have u5 : Upd p L (L4.set np (.lst ((t.kids.map Tm.enc).set rn w))) := ⟨by rw [List.length_set]; exact u04.len, fun n o hn e => by
        have := (List.getElem?_eq_some_iff.mp e).1
        rw [List.getElem?_set_ne (by omega)]; exact u04.old n o hn e, pool5⟩
      have hn5 : (L4.set np (.lst ((t.kids.map Tm.enc).set rn w)))[np]? = some (.lst ((t.kids.map Tm.enc).set rn w)) := set_at hn4
      have hw5 : Bent (L4.set np (.lst ((t.kids.map Tm.enc).set rn w))) many w := hw.ty fun e => ty_set hn4 e
      have hb5 := reb_bent ht hrn hw5
      have hlen : ((t.kids.map Tm.enc).set rn w).length = t.kids.length := by rw [List.length_set, List.length_map]
      generalize L4.set np (.lst ((t.kids.map Tm.enc).set rn w)) = L5 at u5 hn5 hb5 ⊢
      generalize (t.kids.map Tm.enc).set rn w = ps at hn5 hb5 hlen ⊢
      have tu : oTuple [.ref np] L5 = some (.tup ps, L5) := by simp only [oTuple, seqL_at hn5]
      cases t with
      | call2 s a b =>
        simp only [Tm.enc, ix_tup0, ix_tup1, evo_some, eqX_ss so_call so_call, beq_self_eq_true, Option.map, blW, if_true, tu, o_tup]
        exact ⟨u5, hb5⟩
      | bin hh a b =>
        have hc : (hh == ("call" : Str)) = false := by rcases ht.1 with rfl | rfl | rfl <;> simp
        simp only [Tm.enc, ix_tup0, ix_tup1, evo_some, eqX_ss (Tm.so_h ht.1) so_call, hc, Option.map, blW, Bool.false_eq_true, if_false, tu, o_tup, o_addT]
        refine ⟨?_, u5, hb5⟩
        rw [hlen]; show 1 + _ ≤ _; simp only [Tm.kids, List.length_cons, List.length_nil]; decide
      | ite a b c =>
        have hc : (("if" : Str) == ("call" : Str)) = false := by simp
        simp only [Tm.enc, ix_tup0, ix_tup1, evo_some, eqX_ss so_if so_call, hc, Option.map, blW, Bool.false_eq_true, if_false, tu, o_tup, o_addT]
        refine ⟨?_, u5, hb5⟩
        rw [hlen]; show 1 + _ ≤ _; simp only [Tm.kids, List.length_cons, List.length_nil]; decide
      | val i => simp [Tm.kids] at hkl
      | arg i => simp [Tm.kids] at hkl
      | cell i => simp [Tm.kids] at hkl
      | tick => simp [Tm.kids] at hkl
      | call0 i => simp [Tm.kids] at hkl
theorem bent_base (self : Fn) : BtS many self 0 := fun t p o L ht hd => by have := Tm.dep_pos t; omega
end Z

/-! YD: _law_pick, _law_term. -/
namespace Z
open PySem PySem.Spec PyProof.Rows L2
variable {many : Int}
def c_pick : Fn := f_law_pick f_law_draw
theorem pick_at {p n : Nat} {L : LH} {ws : List W} (hp : PoolOk p L) (hn : L[n]? = some (.lst ws)) (hne : n ≠ p) (h0 : 0 < ws.length) (h1 : ws.length < 1073741824) : Ev (c_pick [.ref p, .ref n] L) fun w L' => w ∈ ws ∧ Upd p L L' := by
  simp only [c_pick, f_law_pick, wipeE, ev_ok, ev_bind, ev_only, ev_ofO, ev_ofOB, ev_ite, evs_ite, evo_some, evs_toS, evs_seq, ev_C, ev_var, ev_op2, ev_op1, ev_opL, ev_nil, ev_cons, ev_call, ev_bVal, ev_bTru, ev_bNot, ev_bAnd, ev_bOr, ev_bYes, ev_cIf, ev_cNot, ev_cAnd, ev_cOr, ev_chain, ev_part_none, ev_part_some, ev_sl, ev_mth, evs_skip, evs_set, evs_ret, evs_expr, evs_if, evs_par, evs_as, ev_gN, ev_gsNil, ev_gsCons, ev_gTup, ev_gIx, evs_aug, ev_defF, evs_for, ev_rng1, ev_iSeq, ev_lc, o_addI, o_subI, o_addS, o_addT, o_mulI, o_modI, o_divI, o_powI, o_cmpI, o_intI, o_intB, o_absI, o_lst, o_tup, bl_bl, List.map_cons, List.map_nil, List.cons_append, List.nil_append, List.append_nil, List.getElem?_cons_zero, List.getElem?_cons_succ, List.set_cons_zero, List.set_cons_succ, List.length_cons, List.length_nil, List.replicate, Nat.reduceAdd, Nat.reduceSub, Nat.reduceLeDiff, true_and, and_true, if_true, decide_eq_true_eq, Nat.zero_add, oLen_at hn]
  refine (draw_at hp (by omega) (by omega)).mono fun w L1 q => ?_
  obtain ⟨r, rfl, hr0, hr1, u⟩ := q
  obtain ⟨rn, rfl⟩ : ∃ rn : Nat, r = rn := ⟨r.toNat, by omega⟩
  have hrn : rn < ws.length := by omega
  have hat : atI ws (rn : Int) = some ws[rn] := atI_nat (List.getElem?_eq_getElem hrn)
  rw [ix_at (u.old _ _ hne hn), hat]
  exact ⟨List.getElem_mem hrn, u⟩
structure BOk (L : LH) (nb nc nf f0 f1 : Nat) (n0 n1 n2 n3 : Str) : Prop where
  d : L[nb]? = some (.dic [(.inr "cells", .ref nc), (.inr "functions", .ref nf)])
  c : L[nc]? = some (.lst [.tup [.str n0, .str "table"], .tup [.str n1, .str "frozen"]])
  f : L[nf]? = some (.lst [.ref f0, .ref f1])
  g0 : L[f0]? = some (.dic [(.inr "name", .str n2), (.inr "many", .int 2)])
  g1 : L[f1]? = some (.dic [(.inr "name", .str n3), (.inr "many", .int 0)])
  o0 : Tm.NameOk n0
  o1 : Tm.NameOk n1
  o2 : Tm.NameOk n2
  o3 : Tm.NameOk n3
theorem PoolOk.ne {p n : Nat} {L : LH} {o : LO} (h : PoolOk p L) (e : L[n]? = some o) (ho : ∀ a b : Int, o ≠ .lst [.int a, .int b]) : n ≠ p := by
  rintro rfl
  obtain ⟨a, b, e1, _⟩ := h
  rw [e] at e1; cases e1
  exact ho a b rfl
section
variable {L L' : LH} {p nb nc nf f0 f1 : Nat} {n0 n1 n2 n3 : Str}
theorem BOk.nec (B : BOk L nb nc nf f0 f1 n0 n1 n2 n3) (hp : PoolOk p L) : nc ≠ p := hp.ne B.c fun _ _ e => by cases e
theorem BOk.nef (B : BOk L nb nc nf f0 f1 n0 n1 n2 n3) (hp : PoolOk p L) : nf ≠ p := hp.ne B.f fun _ _ e => by cases e
theorem BOk.upd (B : BOk L nb nc nf f0 f1 n0 n1 n2 n3) (hp : PoolOk p L) (u : Upd p L L') : BOk L' nb nc nf f0 f1 n0 n1 n2 n3 :=
  ⟨u.old _ _ (hp.ne B.d fun _ _ e => by cases e) B.d, u.old _ _ (B.nec hp) B.c, u.old _ _ (B.nef hp) B.f, u.old _ _ (hp.ne B.g0 fun _ _ e => by cases e) B.g0, u.old _ _ (hp.ne B.g1 fun _ _ e => by cases e) B.g1, B.o0, B.o1, B.o2, B.o3⟩
end
def sb : Nat → Nat
  | 0 => 1
  | n + 1 => 1 + 3 * sb n
theorem sb_pos : ∀ n, 1 ≤ sb n
  | 0 => Nat.le_refl _
  | n + 1 => by unfold sb; omega
def GT (many : Int) (deep : Nat) (w : W) : Prop := ∃ t : Tm, w = t.enc ∧ t.ok many ∧ t.dep ≤ deep + 1 ∧ t.size ≤ sb deep
def TmS (many : Int) (self : Fn) (n : Nat) : Prop := ∀ (deep : Nat), deep < n → ∀ (p nb nc nf f0 f1 : Nat) (n0 n1 n2 n3 : Str) (L : LH), BOk L nb nc nf f0 f1 n0 n1 n2 n3 → PoolOk p L →
  Ev (self [.ref p, .ref nb, .int many, .int deep] L) fun w L' => Upd p L L' ∧ GT many deep w
theorem lc_rng {p j k : Nat} {e : Ex} {env : Env} {L0 : LH} {G : W → Prop} (hk : k ≤ 1000) (hp : PoolOk p L0) (he : ∀ v L, Upd p L0 L → Ev (e (env.set j (some v)) L) fun y L' => Upd p L L' ∧ G y) :
    Ev (lcLoop (srcR 0 k) (.one j) bYes e env ((srcR 0 k).len + 1) 0 L0 []) fun acc L' => acc.length = k ∧ (∀ y ∈ acc, G y) ∧ Upd p L0 L' := by
  refine lc_inv (P := fun i L acc => acc.length = i ∧ (∀ y ∈ acc, G y) ∧ Upd p L0 L) (n := k) (fun i L acc hi q => ?_) (fun L acc q => ?_) k 0 L0 [] (by omega) ⟨rfl, by simp, .refl hp⟩
  · obtain ⟨h1, h2, u⟩ := q
    refine ⟨.int (0 + i), by simp [srcR, hi], _, rfl, ?_⟩
    rw [ev_bYes]
    simp only [if_true]
    refine (he _ L u).mono fun y L' q => ?_
    refine ⟨by omega, by rw [List.length_append, h1]; rfl, fun z hz => ?_, u.trans q.1⟩
    rcases List.mem_append.mp hz with hz | hz
    · exact h2 z hz
    · rw [List.mem_singleton.mp hz]; exact q.2
  · exact ⟨by simp [srcR], q⟩
theorem ev_draw {p : Nat} {m : Int} {L : LH} (hp : PoolOk p L) (hm : 0 < m) (hm2 : m < 1073741824) {Q : W → LH → Prop} (h : ∀ r : Int, 0 ≤ r → r < m → ∀ L', Upd p L L' → Q (.int r) L') : Ev (f_law_draw [.ref p, .int m] L) Q :=
  (draw_at hp hm hm2).mono fun w L' q => by
    obtain ⟨r, rfl, h1, h2, u⟩ := q
    exact h r h1 h2 L' u
def c_term (self : Fn) : Fn := f_law_term f_law_draw c_pick self
theorem term_base (self : Fn) : TmS many self 0 := fun deep h => absurd h (Nat.not_lt_zero _)
theorem in_ints {L : LH} {n : Nat} {i : Int} {is : List Int} (h : L[n]? = some (.lst (is.map .int))) : oInD (.int i) (.ref n) L = some (.bl (is.contains i), L) := by
  rw [in_lst (neg := false) h rfl (by rw [List.all_map, List.all_eq_true]; intro _ _; rfl)]
  congr 3
  rw [List.any_map, List.contains_eq_any_beq]
  congr 1
  funext x
  show (x == i) = (i == x)
  rw [Bool.eq_iff_iff, beq_iff_eq, beq_iff_eq]; exact eq_comm
theorem ne_nil {L : LH} {n m : Nat} {ws : List W} (h : L[n]? = some (.lst ws)) (hm : L[m]? = some (.lst [])) : oNe (.ref n) (.ref m) L = some (.bl (!ws.isEmpty), L) := by
  simp only [oNe, eq_nil h hm, Option.map, oB]
theorem eq_nil2 {L : LH} {n m : Nat} {ws : List W} (h : L[n]? = some (.lst ws)) (hm : L[m]? = some (.lst [])) : oEq (.ref n) (.ref m) L = some (.bl ws.isEmpty, L) := by
  simp only [oEq, eq_nil h hm, Option.map, oB]
def tI0 : Sx := (sSet 4 (cCall f_law_draw [] (cCons (cVar 0) (cCons (cIf (bVal (cOp2 oGt (cVar 3) (cC (.int 0)))) (cC (.int 9)) (cC (.int 4))) cNil))))
def tI1 : Sx := (sIf (bOr (bVal (cOp2 oEq (cVar 4) (cC (.int 0)))) (bOr (bAnd (bVal (cOp2 oEq (cVar 4) (cC (.int 1)))) (bVal (cOp2 oEq (cVar 2) (cC (.int 0))))) (bAnd (bVal (cOp2 oInD (cVar 4) (cOpL oLst (cCons (cC (.int 2)) (cCons (cC (.int 8)) cNil))))) (bVal (cOp2 oEq (cOp2 oIx (cVar 1) (cC (.str "cells"))) (cOpL oLst cNil)))))) (sRet (cCall f_law_draw [] (cCons (cVar 0) (cCons (cC (.int 3)) cNil)))) sSkip)
def tI2 : Sx := (sIf (bVal (cOp2 oEq (cVar 4) (cC (.int 1)))) (sRet (cOpL oTup (cCons (cC (.str "arg")) (cCons (cCall f_law_draw [] (cCons (cVar 0) (cCons (cVar 2) cNil))) cNil)))) sSkip)
def tI3 : Sx := (sIf (bOr (bVal (cOp2 oEq (cVar 4) (cC (.int 2)))) (bVal (cOp2 oEq (cVar 4) (cC (.int 8))))) (sRet (cOpL oTup (cCons (cC (.str "cell")) (cCons (cOp2 oIx (cCall c_pick [] (cCons (cVar 0) (cCons (cOp2 oIx (cVar 1) (cC (.str "cells"))) cNil))) (cC (.int 0))) cNil)))) sSkip)
def tI4 : Sx := (sIf (bVal (cOp2 oEq (cVar 4) (cC (.int 3)))) (sRet (cIf (bVal (cOp2 oEq (cCall f_law_draw [] (cCons (cVar 0) (cCons (cC (.int 3)) cNil))) (cC (.int 0)))) (cOpL oTup (cCons (cC (.str "tick")) cNil)) (cCall f_law_draw [] (cCons (cVar 0) (cCons (cC (.int 3)) cNil))))) sSkip)
def tI5 (self : Fn) : Sx := (sIf (bAnd (bVal (cOp2 oEq (cVar 4) (cC (.int 4)))) (bVal (cOp2 oNe (cOp2 oIx (cVar 1) (cC (.str "functions"))) (cOpL oLst cNil)))) (sSeq (sSet 6 (cCall c_pick [] (cCons (cVar 0) (cCons (cOp2 oIx (cVar 1) (cC (.str "functions"))) cNil)))) (sRet (cOpL oTup (cCons (cC (.str "call")) (cCons (cOp2 oIx (cVar 6) (cC (.str "name"))) (cCons (cOpL oTuple (cCons (cLc [7] (iRng1 (cCons (cOp2 oIx (cVar 6) (cC (.str "many"))) cNil)) (CT.one 7) bYes (cCall self [] (cCons (cVar 0) (cCons (cVar 1) (cCons (cVar 2) (cCons (cC (.int 0)) cNil)))))) cNil)) cNil)))))) sSkip)
def tI6 (self : Fn) : Sx := (sIf (bVal (cOp2 oEq (cVar 4) (cC (.int 7)))) (sRet (cOp2 oAdd (cOpL oTup (cCons (cC (.str "if")) cNil)) (cOpL oTuple (cCons (cLc [7] (iRng1 (cCons (cC (.int 3)) cNil)) (CT.one 7) bYes (cCall self [] (cCons (cVar 0) (cCons (cVar 1) (cCons (cVar 2) (cCons (cOp2 oSub (cVar 3) (cC (.int 1))) cNil)))))) cNil)))) sSkip)
def tI7 : Sx := (sSet 5 (cCall c_pick [] (cCons (cVar 0) (cCons (cOpL oLst (cCons (cC (.str "plus")) (cCons (cC (.str "less")) (cCons (cC (.str "same")) cNil)))) cNil))))
def tI8 (self : Fn) : Sx := sRet (cOpL oTup (cCons (cVar 5) (cCons (cCall self [] (cCons (cVar 0) (cCons (cVar 1) (cCons (cVar 2) (cCons (cOp2 oSub (cVar 3) (cC (.int 1))) cNil))))) (cCons (cCall self [] (cCons (cVar 0) (cCons (cVar 1) (cCons (cVar 2) (cCons (cOp2 oSub (cVar 3) (cC (.int 1))) cNil))))) cNil))))
theorem c_term_eq (self : Fn) : c_term self = defF 8 4 (sSeq tI0 (sSeq tI1 (sSeq tI2 (sSeq tI3 (sSeq tI4 (sSeq (tI5 self) (sSeq (tI6 self) (sSeq tI7 ((tI8 self)))))))))) := rfl
section
variable {L : LH} {p nb nc nf f0 f1 : Nat} {n0 n1 n2 n3 : Str} {deep : Nat} {k : Int} {x5 x6 x7 : Option W} {N : Env → LH → Prop} {R : W → LH → Prop}
abbrev tEnv (p nb : Nat) (many : Int) (deep : Nat) (k : Int) (x5 x6 x7 : Option W) : Env := [some (.ref p), some (.ref nb), some (.int many), some (.int deep), some (.int k), x5, x6, x7]
theorem vcells : valW [((.inr "cells" : Key), W.ref nc), (.inr "functions", .ref nf)] (.inr "cells") = some (.ref nc) := by simp [val_cons]
theorem vfuns : valW [((.inr "cells" : Key), W.ref nc), (.inr "functions", .ref nf)] (.inr "functions") = some (.ref nf) := by simp [val_cons]
theorem tI1_ok (B : BOk L nb nc nf f0 f1 n0 n1 n2 n3) (hp : PoolOk p L) (hr : ∀ L' i, Upd p L L' → 0 ≤ i → i < 3 → R (.int i) L') (hn : ∀ L', Upd p L L' → k ≠ 0 → ¬ (k = 1 ∧ many = 0) → N (tEnv p nb many deep k x5 x6 x7) L') : EvS (tI1 (tEnv p nb many deep k x5 x6 x7) L) N R := by
  have key : k ≠ 0 → ¬ (k = 1 ∧ many = 0) → EvO (oInD (W.int k) (W.ref (List.length L)) (L ++ [LO.lst [W.int 2, W.int 8]])) (fun a L1 => match blW a with
      | some b => if b = true then EvO (oIx (W.ref nb) (W.str (Str.ofString "cells")) L1) fun a L1 => EvO (oEq a (W.ref (List.length L1)) (L1 ++ [LO.lst []])) fun a L1 => match blW a with
            | some b => if b = true then Ev (f_law_draw [W.ref p, W.int 3] L1) R else N (tEnv p nb many deep k x5 x6 x7) L1
            | none => False
        else N (tEnv p nb many deep k x5 x6 x7) L1
      | none => False) := fun h0 h1 => by
    have hi : (L ++ [LO.lst [W.int 2, W.int 8]])[L.length]? = some (.lst (([2, 8] : List Int).map .int)) := at_last
    rw [in_ints hi, evo_some]
    simp only [blW]
    split
    · have hb : (L ++ [LO.lst [W.int 2, W.int 8]])[nb]? = _ := pre_at pre_last B.d
      rw [ix_dic1 hb, vcells]
      simp only
      rw [eq_nil2 (pre_at pre_last (pre_at pre_last B.c)) at_last, evo_some]
      simp only [List.isEmpty, Bool.false_eq_true, if_false]
      exact hn _ (.of_pre hp (pre_last.trans pre_last)) h0 h1
    · exact hn _ (.of_pre hp pre_last) h0 h1
  simp only [tI1, tEnv, wipeE, ev_ok, ev_bind, ev_only, ev_ofO, ev_ofOB, ev_ite, evs_ite, evo_some, evs_toS, evs_seq, ev_C, ev_var, ev_op2, ev_op1, ev_opL, ev_nil, ev_cons, ev_call, ev_bVal, ev_bTru, ev_bNot, ev_bAnd, ev_bOr, ev_bYes, ev_cIf, ev_cNot, ev_cAnd, ev_cOr, ev_chain, ev_part_none, ev_part_some, ev_sl, ev_mth, evs_skip, evs_set, evs_ret, evs_expr, evs_if, evs_par, evs_as, ev_gN, ev_gsNil, ev_gsCons, ev_gTup, ev_gIx, evs_aug, ev_defF, evs_for, ev_rng1, ev_iSeq, ev_lc, o_addI, o_subI, o_addS, o_addT, o_mulI, o_modI, o_divI, o_powI, o_cmpI, o_intI, o_intB, o_absI, o_lst, o_tup, bl_bl, List.map_cons, List.map_nil, List.cons_append, List.nil_append, List.append_nil, List.getElem?_cons_zero, List.getElem?_cons_succ, List.set_cons_zero, List.set_cons_succ, List.length_cons, List.length_nil, List.replicate, Nat.reduceAdd, Nat.reduceSub, Nat.reduceLeDiff, true_and, and_true, if_true, decide_eq_true_eq, Nat.zero_add, eqX_int]
  by_cases h0 : k = 0
  · subst h0
    simp only [beq_self_eq_true, blW, if_true]
    exact ev_draw hp (by decide) (by decide) fun r h1 h2 L' u => hr L' r u h1 h2
  · have b0 : (k == 0) = false := beq_eq_false_iff_ne.mpr h0
    simp only [b0, blW, Bool.false_eq_true, if_false]
    by_cases h1 : k = 1
    · subst h1
      simp only [beq_self_eq_true, if_true]
      by_cases hm : many = 0
      · subst hm
        simp only [beq_self_eq_true, if_true]
        exact ev_draw hp (by decide) (by decide) fun r h1 h2 L' u => hr L' r u h1 h2
      · have b1 : (many == 0) = false := beq_eq_false_iff_ne.mpr hm
        simp only [b1, Bool.false_eq_true, if_false]
        exact key h0 (fun q => hm q.2)
    · have b1 : (k == 1) = false := beq_eq_false_iff_ne.mpr h1
      simp only [b1, Bool.false_eq_true, if_false]
      exact key h0 (fun q => h1 q.1)
theorem tI2_ok (hp : PoolOk p L) (hm2 : many ≤ 2) (hk : k = 1 → 0 < many) (hr : ∀ L' i, Upd p L L' → 0 ≤ i → i < many → R (.tup [.str "arg", .int i]) L') (hn : k ≠ 1 → N (tEnv p nb many deep k x5 x6 x7) L) : EvS (tI2 (tEnv p nb many deep k x5 x6 x7) L) N R := by
  simp only [tI2, tEnv, wipeE, ev_ok, ev_bind, ev_only, ev_ofO, ev_ofOB, ev_ite, evs_ite, evo_some, evs_toS, evs_seq, ev_C, ev_var, ev_op2, ev_op1, ev_opL, ev_nil, ev_cons, ev_call, ev_bVal, ev_bTru, ev_bNot, ev_bAnd, ev_bOr, ev_bYes, ev_cIf, ev_cNot, ev_cAnd, ev_cOr, ev_chain, ev_part_none, ev_part_some, ev_sl, ev_mth, evs_skip, evs_set, evs_ret, evs_expr, evs_if, evs_par, evs_as, ev_gN, ev_gsNil, ev_gsCons, ev_gTup, ev_gIx, evs_aug, ev_defF, evs_for, ev_rng1, ev_iSeq, ev_lc, o_addI, o_subI, o_addS, o_addT, o_mulI, o_modI, o_divI, o_powI, o_cmpI, o_intI, o_intB, o_absI, o_lst, o_tup, bl_bl, List.map_cons, List.map_nil, List.cons_append, List.nil_append, List.append_nil, List.getElem?_cons_zero, List.getElem?_cons_succ, List.set_cons_zero, List.set_cons_succ, List.length_cons, List.length_nil, List.replicate, Nat.reduceAdd, Nat.reduceSub, Nat.reduceLeDiff, true_and, and_true, if_true, decide_eq_true_eq, Nat.zero_add, eqX_int]
  by_cases h1 : k = 1
  · subst h1
    simp only [beq_self_eq_true, blW, if_true]
    exact ev_draw hp (hk rfl) (by omega) fun r h1 h2 L' u => hr L' r u h1 h2
  · have b1 : (k == 1) = false := beq_eq_false_iff_ne.mpr h1
    simp only [b1, blW, Bool.false_eq_true, if_false]
    exact hn h1
theorem tI3_ok (B : BOk L nb nc nf f0 f1 n0 n1 n2 n3) (hp : PoolOk p L) (hr : ∀ L' s, Upd p L L' → Tm.NameOk s → R (.tup [.str "cell", .str s]) L') (hn : k ≠ 2 → k ≠ 8 → N (tEnv p nb many deep k x5 x6 x7) L) : EvS (tI3 (tEnv p nb many deep k x5 x6 x7) L) N R := by
  have key : Ev (c_pick [.ref p, .ref nc] L) fun a L1 => EvO (oIx a (W.int 0) L1) fun a L1 => R (W.tup [W.str (Str.ofString "cell"), a]) L1 := by
    refine (pick_at hp B.c (B.nec hp) (by simp) (by simp)).mono fun w L1 q => ?_
    obtain ⟨hw, u⟩ := q
    simp only [List.mem_cons, List.mem_nil_iff, or_false] at hw
    rcases hw with rfl | rfl
    · rw [ix_tup0, evo_some]; exact hr _ _ u B.o0
    · rw [ix_tup0, evo_some]; exact hr _ _ u B.o1
  simp only [tI3, tEnv, wipeE, ev_ok, ev_bind, ev_only, ev_ofO, ev_ofOB, ev_ite, evs_ite, evo_some, evs_toS, evs_seq, ev_C, ev_var, ev_op2, ev_op1, ev_opL, ev_nil, ev_cons, ev_call, ev_bVal, ev_bTru, ev_bNot, ev_bAnd, ev_bOr, ev_bYes, ev_cIf, ev_cNot, ev_cAnd, ev_cOr, ev_chain, ev_part_none, ev_part_some, ev_sl, ev_mth, evs_skip, evs_set, evs_ret, evs_expr, evs_if, evs_par, evs_as, ev_gN, ev_gsNil, ev_gsCons, ev_gTup, ev_gIx, evs_aug, ev_defF, evs_for, ev_rng1, ev_iSeq, ev_lc, o_addI, o_subI, o_addS, o_addT, o_mulI, o_modI, o_divI, o_powI, o_cmpI, o_intI, o_intB, o_absI, o_lst, o_tup, bl_bl, List.map_cons, List.map_nil, List.cons_append, List.nil_append, List.append_nil, List.getElem?_cons_zero, List.getElem?_cons_succ, List.set_cons_zero, List.set_cons_succ, List.length_cons, List.length_nil, List.replicate, Nat.reduceAdd, Nat.reduceSub, Nat.reduceLeDiff, true_and, and_true, if_true, decide_eq_true_eq, Nat.zero_add, eqX_int, ix_dic1 B.d, vcells]
  by_cases h1 : k = 2
  · subst h1
    simp only [beq_self_eq_true, blW, if_true]
    exact key
  · have b1 : (k == 2) = false := beq_eq_false_iff_ne.mpr h1
    simp only [b1, blW, Bool.false_eq_true, if_false]
    by_cases h2 : k = 8
    · subst h2
      simp only [beq_self_eq_true, if_true]
      exact key
    · have b2 : (k == 8) = false := beq_eq_false_iff_ne.mpr h2
      simp only [b2, Bool.false_eq_true, if_false]
      exact hn h1 h2
theorem tI4_ok (hp : PoolOk p L) (hr : ∀ L' i, Upd p L L' → 0 ≤ i → i < 3 → R (.int i) L') (ht : ∀ L', Upd p L L' → R (.tup [.str "tick"]) L') (hn : k ≠ 3 → N (tEnv p nb many deep k x5 x6 x7) L) : EvS (tI4 (tEnv p nb many deep k x5 x6 x7) L) N R := by
  simp only [tI4, tEnv, wipeE, ev_ok, ev_bind, ev_only, ev_ofO, ev_ofOB, ev_ite, evs_ite, evo_some, evs_toS, evs_seq, ev_C, ev_var, ev_op2, ev_op1, ev_opL, ev_nil, ev_cons, ev_call, ev_bVal, ev_bTru, ev_bNot, ev_bAnd, ev_bOr, ev_bYes, ev_cIf, ev_cNot, ev_cAnd, ev_cOr, ev_chain, ev_part_none, ev_part_some, ev_sl, ev_mth, evs_skip, evs_set, evs_ret, evs_expr, evs_if, evs_par, evs_as, ev_gN, ev_gsNil, ev_gsCons, ev_gTup, ev_gIx, evs_aug, ev_defF, evs_for, ev_rng1, ev_iSeq, ev_lc, o_addI, o_subI, o_addS, o_addT, o_mulI, o_modI, o_divI, o_powI, o_cmpI, o_intI, o_intB, o_absI, o_lst, o_tup, bl_bl, List.map_cons, List.map_nil, List.cons_append, List.nil_append, List.append_nil, List.getElem?_cons_zero, List.getElem?_cons_succ, List.set_cons_zero, List.set_cons_succ, List.length_cons, List.length_nil, List.replicate, Nat.reduceAdd, Nat.reduceSub, Nat.reduceLeDiff, true_and, and_true, if_true, decide_eq_true_eq, Nat.zero_add, eqX_int]
  by_cases h1 : k = 3
  · subst h1
    simp only [beq_self_eq_true, blW, if_true]
    refine ev_draw hp (by decide) (by decide) fun r h1 h2 L' u => ?_
    simp only [eqX_int]
    split
    · exact ht L' u
    · exact ev_draw u.pool (by decide) (by decide) fun r h1 h2 L2 u2 => hr L2 r (u.trans u2) h1 h2
  · have b1 : (k == 3) = false := beq_eq_false_iff_ne.mpr h1
    simp only [b1, blW, Bool.false_eq_true, if_false]
    exact hn h1
def SelfOk (many : Int) (self : Fn) (p nb nc nf f0 f1 : Nat) (n0 n1 n2 n3 : Str) (m : Nat) : Prop := ∀ L, BOk L nb nc nf f0 f1 n0 n1 n2 n3 → PoolOk p L → Ev (self [.ref p, .ref nb, .int many, .int m] L) fun w L' => Upd p L L' ∧ GT many m w
theorem two {G : W → Prop} {acc : List W} (h : acc.length = 2) (hg : ∀ y ∈ acc, G y) : ∃ a b, acc = [a, b] ∧ G a ∧ G b := by
  match acc, h with
  | [a, b], _ => exact ⟨a, b, rfl, hg _ (by simp), hg _ (by simp)⟩
theorem three {G : W → Prop} {acc : List W} (h : acc.length = 3) (hg : ∀ y ∈ acc, G y) : ∃ a b c, acc = [a, b, c] ∧ G a ∧ G b ∧ G c := by
  match acc, h with
  | [a, b, c], _ => exact ⟨a, b, c, rfl, hg _ (by simp), hg _ (by simp), hg _ (by simp)⟩
theorem tI5_ok {self : Fn} {m : Nat} (B : BOk L nb nc nf f0 f1 n0 n1 n2 n3) (hp : PoolOk p L) (hs : SelfOk many self p nb nc nf f0 f1 n0 n1 n2 n3 0) (hr : ∀ L' w, Upd p L L' → GT many (m + 1) w → R w L') (hn : ∀ L', Upd p L L' → k ≠ 4 → N (tEnv p nb many (m + 1) k x5 x6 x7) L') : EvS (tI5 self (tEnv p nb many (m + 1) k x5 x6 x7) L) N R := by
  have vn : ∀ {s : Str} {i : Int}, valW [((.inr "name" : Key), W.str s), (.inr "many", .int i)] (.inr "name") = some (.str s) := by intros; simp [val_cons]
  have vm : ∀ {s : Str} {i : Int}, valW [((.inr "name" : Key), W.str s), (.inr "many", .int i)] (.inr "many") = some (.int i) := by intros; simp [val_cons]
  simp only [tI5, tEnv, wipeE, ev_ok, ev_bind, ev_only, ev_ofO, ev_ofOB, ev_ite, evs_ite, evo_some, evs_toS, evs_seq, ev_C, ev_var, ev_op2, ev_op1, ev_opL, ev_nil, ev_cons, ev_call, ev_bVal, ev_bTru, ev_bNot, ev_bAnd, ev_bOr, ev_bYes, ev_cIf, ev_cNot, ev_cAnd, ev_cOr, ev_chain, ev_part_none, ev_part_some, ev_sl, ev_mth, evs_skip, evs_set, evs_ret, evs_expr, evs_if, evs_par, evs_as, ev_gN, ev_gsNil, ev_gsCons, ev_gTup, ev_gIx, evs_aug, ev_defF, evs_for, ev_rng1, ev_iSeq, ev_lc, o_addI, o_subI, o_addS, o_addT, o_mulI, o_modI, o_divI, o_powI, o_cmpI, o_intI, o_intB, o_absI, o_lst, o_tup, bl_bl, List.map_cons, List.map_nil, List.cons_append, List.nil_append, List.append_nil, List.getElem?_cons_zero, List.getElem?_cons_succ, List.set_cons_zero, List.set_cons_succ, List.length_cons, List.length_nil, List.replicate, Nat.reduceAdd, Nat.reduceSub, Nat.reduceLeDiff, true_and, and_true, if_true, decide_eq_true_eq, Nat.zero_add, eqX_int, ix_dic1 B.d, vfuns]
  by_cases h1 : k = 4
  · subst h1
    have u1 : Upd p L (L ++ [LO.lst []]) := .of_pre hp pre_last
    have B1 := B.upd hp u1
    simp only [beq_self_eq_true, blW, if_true, ne_nil B1.f at_last, evo_some, List.isEmpty, Bool.not_false, ix_dic1 B1.d, vfuns]
    refine (pick_at u1.pool B1.f (B1.nef u1.pool) (by simp) (by simp)).mono fun w L2 q => ?_
    obtain ⟨hw, u2⟩ := q
    have u02 := u1.trans u2
    have B2 := B1.upd u1.pool u2
    have he : ∀ (x : Option W) v L', Upd p L2 L' → Ev (cCall self [] (cCons (cVar 0) (cCons (cVar 1) (cCons (cVar 2) (cCons (cC (.int 0)) cNil)))) ([some (.ref p), some (.ref nb), some (.int many), some (.int ((m + 1 : Nat) : Int)), some (.int 4), x5, x, none].set 7 (some v)) L') fun y L'' => Upd p L' L'' ∧ GT many 0 y := fun x v L' u => by
      simp only [wipeE, ev_ok, ev_bind, ev_only, ev_ofO, ev_ofOB, ev_ite, evs_ite, evo_some, evs_toS, evs_seq, ev_C, ev_var, ev_op2, ev_op1, ev_opL, ev_nil, ev_cons, ev_call, ev_bVal, ev_bTru, ev_bNot, ev_bAnd, ev_bOr, ev_bYes, ev_cIf, ev_cNot, ev_cAnd, ev_cOr, ev_chain, ev_part_none, ev_part_some, ev_sl, ev_mth, evs_skip, evs_set, evs_ret, evs_expr, evs_if, evs_par, evs_as, ev_gN, ev_gsNil, ev_gsCons, ev_gTup, ev_gIx, evs_aug, ev_defF, evs_for, ev_rng1, ev_iSeq, ev_lc, o_addI, o_subI, o_addS, o_addT, o_mulI, o_modI, o_divI, o_powI, o_cmpI, o_intI, o_intB, o_absI, o_lst, o_tup, bl_bl, List.map_cons, List.map_nil, List.cons_append, List.nil_append, List.append_nil, List.getElem?_cons_zero, List.getElem?_cons_succ, List.set_cons_zero, List.set_cons_succ, List.length_cons, List.length_nil, List.replicate, Nat.reduceAdd, Nat.reduceSub, Nat.reduceLeDiff, true_and, and_true, if_true, decide_eq_true_eq, Nat.zero_add]
      exact hs L' (B2.upd u2.pool u) u.pool
    simp only [List.mem_cons, List.mem_nil_iff, or_false] at hw
    rcases hw with rfl | rfl
    · simp only [ix_dic1 B2.g0, vn, vm, wipeE, ev_ok, ev_bind, ev_only, ev_ofO, ev_ofOB, ev_ite, evs_ite, evo_some, evs_toS, evs_seq, ev_C, ev_var, ev_op2, ev_op1, ev_opL, ev_nil, ev_cons, ev_call, ev_bVal, ev_bTru, ev_bNot, ev_bAnd, ev_bOr, ev_bYes, ev_cIf, ev_cNot, ev_cAnd, ev_cOr, ev_chain, ev_part_none, ev_part_some, ev_sl, ev_mth, evs_skip, evs_set, evs_ret, evs_expr, evs_if, evs_par, evs_as, ev_gN, ev_gsNil, ev_gsCons, ev_gTup, ev_gIx, evs_aug, ev_defF, evs_for, ev_rng1, ev_iSeq, ev_lc, o_addI, o_subI, o_addS, o_addT, o_mulI, o_modI, o_divI, o_powI, o_cmpI, o_intI, o_intB, o_absI, o_lst, o_tup, bl_bl, List.map_cons, List.map_nil, List.cons_append, List.nil_append, List.append_nil, List.getElem?_cons_zero, List.getElem?_cons_succ, List.set_cons_zero, List.set_cons_succ, List.length_cons, List.length_nil, List.replicate, Nat.reduceAdd, Nat.reduceSub, Nat.reduceLeDiff, true_and, and_true, if_true, decide_eq_true_eq, Nat.zero_add]
      refine ⟨by decide, ?_⟩
      refine (lc_rng (k := 2) (by decide) u2.pool (fun v L' u => he _ v L' u)).mono fun acc L3 q => ?_
      obtain ⟨hl, hg, u3⟩ := q
      obtain ⟨a, b, rfl, ⟨ta, rfl, oa, da, sa⟩, ⟨tb, rfl, ob, db, sbb⟩⟩ := two hl hg
      have tu : oTuple [.ref L3.length] (L3 ++ [.lst [ta.enc, tb.enc]]) = some (.tup [ta.enc, tb.enc], L3 ++ [.lst [ta.enc, tb.enc]]) := by simp only [oTuple, seqL_at at_last]
      rw [tu, evo_some]
      refine hr _ _ (u02.trans (u3.trans (.of_pre u3.pool pre_last))) ⟨.call2 n2 ta tb, rfl, ⟨B.o2, oa, ob⟩, ?_, ?_⟩
      · simp only [Tm.dep]; omega
      · have := sb_pos m
        simp only [Tm.size]; unfold sb; simp only [sb] at sa sbb; omega
    · simp only [ix_dic1 B2.g1, vn, vm, wipeE, ev_ok, ev_bind, ev_only, ev_ofO, ev_ofOB, ev_ite, evs_ite, evo_some, evs_toS, evs_seq, ev_C, ev_var, ev_op2, ev_op1, ev_opL, ev_nil, ev_cons, ev_call, ev_bVal, ev_bTru, ev_bNot, ev_bAnd, ev_bOr, ev_bYes, ev_cIf, ev_cNot, ev_cAnd, ev_cOr, ev_chain, ev_part_none, ev_part_some, ev_sl, ev_mth, evs_skip, evs_set, evs_ret, evs_expr, evs_if, evs_par, evs_as, ev_gN, ev_gsNil, ev_gsCons, ev_gTup, ev_gIx, evs_aug, ev_defF, evs_for, ev_rng1, ev_iSeq, ev_lc, o_addI, o_subI, o_addS, o_addT, o_mulI, o_modI, o_divI, o_powI, o_cmpI, o_intI, o_intB, o_absI, o_lst, o_tup, bl_bl, List.map_cons, List.map_nil, List.cons_append, List.nil_append, List.append_nil, List.getElem?_cons_zero, List.getElem?_cons_succ, List.set_cons_zero, List.set_cons_succ, List.length_cons, List.length_nil, List.replicate, Nat.reduceAdd, Nat.reduceSub, Nat.reduceLeDiff, true_and, and_true, if_true, decide_eq_true_eq, Nat.zero_add]
      refine ⟨by decide, ?_⟩
      refine (lc_rng (k := 0) (by decide) u2.pool (fun v L' u => he _ v L' u)).mono fun acc L3 q => ?_
      obtain ⟨hl, hg, u3⟩ := q
      obtain rfl := List.length_eq_zero_iff.mp hl
      have tu : oTuple [.ref L3.length] (L3 ++ [.lst []]) = some (.tup [], L3 ++ [.lst []]) := by simp only [oTuple, seqL_at at_last]
      rw [tu, evo_some]
      refine hr _ _ (u02.trans (u3.trans (.of_pre u3.pool pre_last))) ⟨.call0 n3, rfl, B.o3, ?_, ?_⟩
      · simp only [Tm.dep]; omega
      · simp only [Tm.size]; unfold sb; omega
  · have b1 : (k == 4) = false := beq_eq_false_iff_ne.mpr h1
    simp only [b1, blW, Bool.false_eq_true, if_false]
    exact hn _ (.refl hp) h1
theorem tI6_ok {self : Fn} {m : Nat} (B : BOk L nb nc nf f0 f1 n0 n1 n2 n3) (hp : PoolOk p L) (hs : SelfOk many self p nb nc nf f0 f1 n0 n1 n2 n3 m) (hr : ∀ L' w, Upd p L L' → GT many (m + 1) w → R w L') (hn : k ≠ 7 → N (tEnv p nb many (m + 1) k x5 x6 x7) L) : EvS (tI6 self (tEnv p nb many (m + 1) k x5 x6 x7) L) N R := by
  have e1 : ((m + 1 : Nat) : Int) - 1 = m := by omega
  simp only [tI6, tEnv, wipeE, ev_ok, ev_bind, ev_only, ev_ofO, ev_ofOB, ev_ite, evs_ite, evo_some, evs_toS, evs_seq, ev_C, ev_var, ev_op2, ev_op1, ev_opL, ev_nil, ev_cons, ev_call, ev_bVal, ev_bTru, ev_bNot, ev_bAnd, ev_bOr, ev_bYes, ev_cIf, ev_cNot, ev_cAnd, ev_cOr, ev_chain, ev_part_none, ev_part_some, ev_sl, ev_mth, evs_skip, evs_set, evs_ret, evs_expr, evs_if, evs_par, evs_as, ev_gN, ev_gsNil, ev_gsCons, ev_gTup, ev_gIx, evs_aug, ev_defF, evs_for, ev_rng1, ev_iSeq, ev_lc, o_addI, o_subI, o_addS, o_addT, o_mulI, o_modI, o_divI, o_powI, o_cmpI, o_intI, o_intB, o_absI, o_lst, o_tup, bl_bl, List.map_cons, List.map_nil, List.cons_append, List.nil_append, List.append_nil, List.getElem?_cons_zero, List.getElem?_cons_succ, List.set_cons_zero, List.set_cons_succ, List.length_cons, List.length_nil, List.replicate, Nat.reduceAdd, Nat.reduceSub, Nat.reduceLeDiff, true_and, and_true, if_true, decide_eq_true_eq, Nat.zero_add, eqX_int]
  by_cases h1 : k = 7
  · subst h1
    simp only [beq_self_eq_true, blW, if_true]
    have he : ∀ v L', Upd p L L' → Ev (cCall self [] (cCons (cVar 0) (cCons (cVar 1) (cCons (cVar 2) (cCons (cOp2 oSub (cVar 3) (cC (.int 1))) cNil)))) ([some (.ref p), some (.ref nb), some (.int many), some (.int ((m + 1 : Nat) : Int)), some (.int 7), x5, x6, none].set 7 (some v)) L') fun y L'' => Upd p L' L'' ∧ GT many m y := fun v L' u => by
      simp only [wipeE, ev_ok, ev_bind, ev_only, ev_ofO, ev_ofOB, ev_ite, evs_ite, evo_some, evs_toS, evs_seq, ev_C, ev_var, ev_op2, ev_op1, ev_opL, ev_nil, ev_cons, ev_call, ev_bVal, ev_bTru, ev_bNot, ev_bAnd, ev_bOr, ev_bYes, ev_cIf, ev_cNot, ev_cAnd, ev_cOr, ev_chain, ev_part_none, ev_part_some, ev_sl, ev_mth, evs_skip, evs_set, evs_ret, evs_expr, evs_if, evs_par, evs_as, ev_gN, ev_gsNil, ev_gsCons, ev_gTup, ev_gIx, evs_aug, ev_defF, evs_for, ev_rng1, ev_iSeq, ev_lc, o_addI, o_subI, o_addS, o_addT, o_mulI, o_modI, o_divI, o_powI, o_cmpI, o_intI, o_intB, o_absI, o_lst, o_tup, bl_bl, List.map_cons, List.map_nil, List.cons_append, List.nil_append, List.append_nil, List.getElem?_cons_zero, List.getElem?_cons_succ, List.set_cons_zero, List.set_cons_succ, List.length_cons, List.length_nil, List.replicate, Nat.reduceAdd, Nat.reduceSub, Nat.reduceLeDiff, true_and, and_true, if_true, decide_eq_true_eq, Nat.zero_add, e1]
      exact hs L' (B.upd hp u) u.pool
    refine ⟨by decide, ?_⟩
    refine (lc_rng (k := 3) (by decide) hp (fun v L' u => he v L' u)).mono fun acc L3 q => ?_
    obtain ⟨hl, hg, u3⟩ := q
    obtain ⟨a, b, c, rfl, ⟨ta, rfl, oa, da, sa⟩, ⟨tb, rfl, ob, db, sbb⟩, ⟨tc, rfl, oc, dc, sc⟩⟩ := three hl hg
    have tu : oTuple [.ref L3.length] (L3 ++ [.lst [ta.enc, tb.enc, tc.enc]]) = some (.tup [ta.enc, tb.enc, tc.enc], L3 ++ [.lst [ta.enc, tb.enc, tc.enc]]) := by simp only [oTuple, seqL_at at_last]
    rw [tu, evo_some, o_addT]
    refine ⟨by simp, hr _ _ (u3.trans (.of_pre u3.pool pre_last)) ⟨.ite ta tb tc, rfl, ⟨oa, ob, oc⟩, ?_, ?_⟩⟩
    · simp only [Tm.dep]; omega
    · simp only [Tm.size]; unfold sb; omega
  · have b1 : (k == 7) = false := beq_eq_false_iff_ne.mpr h1
    simp only [b1, blW, Bool.false_eq_true, if_false]
    exact hn h1
theorem tI78_ok {self : Fn} {m : Nat} (B : BOk L nb nc nf f0 f1 n0 n1 n2 n3) (hp : PoolOk p L) (hs : SelfOk many self p nb nc nf f0 f1 n0 n1 n2 n3 m) (hr : ∀ L' w, Upd p L L' → GT many (m + 1) w → R w L') : EvS (sSeq tI7 (tI8 self) (tEnv p nb many (m + 1) k x5 x6 x7) L) N R := by
  have e1 : ((m + 1 : Nat) : Int) - 1 = m := by omega
  simp only [tI7, tI8, tEnv, wipeE, ev_ok, ev_bind, ev_only, ev_ofO, ev_ofOB, ev_ite, evs_ite, evo_some, evs_toS, evs_seq, ev_C, ev_var, ev_op2, ev_op1, ev_opL, ev_nil, ev_cons, ev_call, ev_bVal, ev_bTru, ev_bNot, ev_bAnd, ev_bOr, ev_bYes, ev_cIf, ev_cNot, ev_cAnd, ev_cOr, ev_chain, ev_part_none, ev_part_some, ev_sl, ev_mth, evs_skip, evs_set, evs_ret, evs_expr, evs_if, evs_par, evs_as, ev_gN, ev_gsNil, ev_gsCons, ev_gTup, ev_gIx, evs_aug, ev_defF, evs_for, ev_rng1, ev_iSeq, ev_lc, o_addI, o_subI, o_addS, o_addT, o_mulI, o_modI, o_divI, o_powI, o_cmpI, o_intI, o_intB, o_absI, o_lst, o_tup, bl_bl, List.map_cons, List.map_nil, List.cons_append, List.nil_append, List.append_nil, List.getElem?_cons_zero, List.getElem?_cons_succ, List.set_cons_zero, List.set_cons_succ, List.length_cons, List.length_nil, List.replicate, Nat.reduceAdd, Nat.reduceSub, Nat.reduceLeDiff, true_and, and_true, if_true, decide_eq_true_eq, Nat.zero_add]
  have u1 : Upd p L (L ++ [LO.lst [W.str "plus", W.str "less", W.str "same"]]) := .of_pre hp pre_last
  have hne : L.length ≠ p := by
    obtain ⟨a, b, e, _⟩ := hp
    have := (List.getElem?_eq_some_iff.mp e).1
    omega
  refine (pick_at u1.pool at_last hne (by decide) (by decide)).mono fun w L2 q => ?_
  obtain ⟨hw, u2⟩ := q
  have u02 := u1.trans u2
  obtain ⟨hh, rfl, ho⟩ : ∃ hh : Str, w = .str hh ∧ (hh = "plus" ∨ hh = "less" ∨ hh = "same") := by
    simp only [List.mem_cons, List.mem_nil_iff, or_false] at hw
    rcases hw with rfl | rfl | rfl
    · exact ⟨_, rfl, .inl rfl⟩
    · exact ⟨_, rfl, .inr (.inl rfl)⟩
    · exact ⟨_, rfl, .inr (.inr rfl)⟩
  simp only [e1]
  refine (hs L2 (B.upd hp u02) u02.pool).mono fun w L3 q => ?_
  obtain ⟨u3, ta, rfl, oa, da, sa⟩ := q
  have u03 := u02.trans u3
  refine (hs L3 (B.upd hp u03) u03.pool).mono fun w L4 q => ?_
  obtain ⟨u4, tb, rfl, ob, db, sbb⟩ := q
  refine hr _ _ (u03.trans u4) ⟨.bin hh ta tb, rfl, ⟨ho, oa, ob⟩, ?_, ?_⟩
  · simp only [Tm.dep]; omega
  · simp only [Tm.size]; unfold sb; omega
end
theorem term_step {self : Fn} {n : Nat} (hm0 : 0 ≤ many) (hm2 : many ≤ 2) (h : TmS many self n) : TmS many (c_term self) (n + 1) := fun deep hd p nb nc nf f0 f1 n0 n1 n2 n3 L B hp => by
  have leaf : ∀ {L1 : LH} {t : Tm}, Upd p L L1 → t.ok many → t.dep = 1 → t.size = 1 → Upd p L L1 ∧ GT many deep t.enc := fun {L1 t} u h1 h2 h3 => ⟨u, t, rfl, h1, by omega, by have := sb_pos deep; omega⟩
  have rest : ∀ (L1 : LH) (k : Int), Upd p L L1 → 0 ≤ k → (deep = 0 → k < 4) →
      EvS (sSeq tI1 (sSeq tI2 (sSeq tI3 (sSeq tI4 (sSeq (tI5 self) (sSeq (tI6 self) (sSeq tI7 (tI8 self))))))) (tEnv p nb many deep k none none none) L1) (fun _ _ => False) (fun w L' => Upd p L L' ∧ GT many deep w) := fun L1 k u1 hk0 hk => by
    have B1 := B.upd hp u1
    rw [evs_seq]
    refine tI1_ok B1 u1.pool (fun L' i u h1 h2 => leaf (t := .val i) (u1.trans u) ⟨h1, by omega⟩ rfl rfl) fun L2 u2 k0 k1 => ?_
    have u2 := u1.trans u2
    have B2 := B.upd hp u2
    rw [evs_seq]
    refine tI2_ok u2.pool hm2 (fun e => by have := fun q => k1 ⟨e, q⟩; omega) (fun L' i u h1 h2 => leaf (t := .arg i) (u2.trans u) ⟨h1, h2⟩ rfl rfl) fun k2 => ?_
    rw [evs_seq]
    refine tI3_ok B2 u2.pool (fun L' s u hs => leaf (t := .cell s) (u2.trans u) hs rfl rfl) fun k3 k4 => ?_
    rw [evs_seq]
    refine tI4_ok u2.pool (fun L' i u h1 h2 => leaf (t := .val i) (u2.trans u) ⟨h1, by omega⟩ rfl rfl) (fun L' u => leaf (t := .tick) (u2.trans u) trivial rfl rfl) fun k5 => ?_
    cases deep with
    | zero => have := hk rfl; omega
    | succ m =>
      have s0 : SelfOk many self p nb nc nf f0 f1 n0 n1 n2 n3 0 := fun L' B' hp' => h 0 (by omega) p nb nc nf f0 f1 n0 n1 n2 n3 L' B' hp'
      have sm : SelfOk many self p nb nc nf f0 f1 n0 n1 n2 n3 m := fun L' B' hp' => h m (by omega) p nb nc nf f0 f1 n0 n1 n2 n3 L' B' hp'
      rw [evs_seq]
      refine tI5_ok B2 u2.pool s0 (fun L' w u g => ⟨u2.trans u, g⟩) fun L3 u3 k6 => ?_
      have u3 := u2.trans u3
      have B3 := B.upd hp u3
      rw [evs_seq]
      refine tI6_ok B3 u3.pool sm (fun L' w u g => ⟨u3.trans u, g⟩) fun k7 => ?_
      exact tI78_ok B3 u3.pool sm (fun L' w u g => ⟨u3.trans u, g⟩)
  rw [c_term_eq, ev_defF]
  refine ⟨rfl, ?_⟩
  rw [evs_seq]
  simp only [tI0, wipeE, ev_ok, ev_bind, ev_only, ev_ofO, ev_ofOB, ev_ite, evs_ite, evo_some, evs_toS, evs_seq, ev_C, ev_var, ev_op2, ev_op1, ev_opL, ev_nil, ev_cons, ev_call, ev_bVal, ev_bTru, ev_bNot, ev_bAnd, ev_bOr, ev_bYes, ev_cIf, ev_cNot, ev_cAnd, ev_cOr, ev_chain, ev_part_none, ev_part_some, ev_sl, ev_mth, evs_skip, evs_set, evs_ret, evs_expr, evs_if, evs_par, evs_as, ev_gN, ev_gsNil, ev_gsCons, ev_gTup, ev_gIx, evs_aug, ev_defF, evs_for, ev_rng1, ev_iSeq, ev_lc, o_addI, o_subI, o_addS, o_addT, o_mulI, o_modI, o_divI, o_powI, o_cmpI, o_intI, o_intB, o_absI, o_lst, o_tup, bl_bl, List.map_cons, List.map_nil, List.cons_append, List.nil_append, List.append_nil, List.getElem?_cons_zero, List.getElem?_cons_succ, List.set_cons_zero, List.set_cons_succ, List.length_cons, List.length_nil, List.replicate, Nat.reduceAdd, Nat.reduceSub, Nat.reduceLeDiff, true_and, and_true, if_true, decide_eq_true_eq, Nat.zero_add, oGt, o_cmpI]
  split
  · refine ev_draw hp (by decide) (by decide) fun r h1 h2 L' u => ?_
    have hh := (rest L' r u h1 (by omega)).mono (N' := fun _ L' => Upd p L L' ∧ GT many deep .non) (fun _ _ q => q.elim) fun _ _ q => q
    simp only [evs_seq] at hh
    exact hh
  · refine ev_draw hp (by decide) (by decide) fun r h1 h2 L' u => ?_
    have hh := (rest L' r u h1 (by omega)).mono (N' := fun _ L' => Upd p L L' ∧ GT many deep .non) (fun _ _ q => q.elim) fun _ _ q => q
    simp only [evs_seq] at hh
    exact hh
end Z

/-! YE: _law_pool, _law_names. -/
namespace Z
open PySem PySem.Spec PyProof.Rows L2
theorem lc_rngI {p j k : Nat} {e : Ex} {env : Env} {L0 : LH} {G : W → Prop} (hk : k ≤ 1000) (hp : PoolOk p L0) (he : ∀ (i : Nat) L, i < k → Upd p L0 L → Ev (e (env.set j (some (.int i))) L) fun y L' => Upd p L L' ∧ G y) :
    Ev (lcLoop (srcR 0 k) (.one j) bYes e env ((srcR 0 k).len + 1) 0 L0 []) fun acc L' => acc.length = k ∧ (∀ y ∈ acc, G y) ∧ Upd p L0 L' := by
  refine lc_inv (P := fun i L acc => acc.length = i ∧ (∀ y ∈ acc, G y) ∧ Upd p L0 L) (n := k) (fun i L acc hi q => ?_) (fun L acc q => ?_) k 0 L0 [] (by omega) ⟨rfl, by simp, .refl hp⟩
  · obtain ⟨h1, h2, u⟩ := q
    refine ⟨.int i, by simp [srcR, hi], _, rfl, ?_⟩
    rw [ev_bYes]
    simp only [if_true]
    refine (he i L hi u).mono fun y L' q => ?_
    refine ⟨by omega, by rw [List.length_append, h1]; rfl, fun z hz => ?_, u.trans q.1⟩
    rcases List.mem_append.mp hz with hz | hz
    · exact h2 z hz
    · rw [List.mem_singleton.mp hz]; exact q.2
  · exact ⟨by simp [srcR], q⟩
def endsL : List (Str × Str) := [("", ""), ("", "q"), ("ab", ""), ("abcdefg", ""), ("", "abcdefg")]
theorem ends_ok : endsL.all (fun e => letters.cps.toList.all fun c => nameB (e.1 ++ ⟨#[c]⟩ ++ e.2) && PyData.strOk (e.1 ++ ⟨#[c]⟩ ++ e.2) && decide (e.1.length + 1 ≤ 100 ∧ (e.1 ++ ⟨#[c]⟩).length + e.2.length ≤ 100)) = true := by decide +kernel
theorem letters_len : letters.cps.toList.length = 26 := by decide +kernel
theorem ix_letters {L : LH} {r : Int} (h0 : 0 ≤ r) (h1 : r < 26) : ∃ c ∈ letters.cps.toList, oIx (.str letters) (.int r) L = some (.str ⟨#[c]⟩, L) := by
  obtain ⟨rn, rfl⟩ : ∃ rn : Nat, r = rn := ⟨r.toNat, by omega⟩
  have hrn : rn < letters.cps.toList.length := by rw [letters_len]; omega
  refine ⟨letters.cps.toList[rn], List.getElem_mem hrn, ?_⟩
  have hl : letters.length ≤ 16777216 := by decide +kernel
  unfold oIx
  show oIxS _ _ _ = _
  unfold oIxS
  simp only [if_pos hl, atI_nat (List.getElem?_eq_getElem hrn), Option.map]
theorem names_ok {p : Nat} {L : LH} (hp : PoolOk p L) : Ev (f_law_names f_law_draw c_pick [.ref p, .int 4] L) fun w L' => Upd p L L' ∧ ∃ n s0 s1 s2 s3, w = .ref n ∧ L.length ≤ n ∧ L'[n]? = some (.lst [.str s0, .str s1, .str s2, .str s3]) ∧ Tm.NameOk s0 ∧ Tm.NameOk s1 ∧ Tm.NameOk s2 ∧ Tm.NameOk s3 := by
  have hlp : p < L.length := by obtain ⟨a, b, e, _⟩ := hp; exact (List.getElem?_eq_some_iff.mp e).1
  simp only [f_law_names, wipeE, ev_ok, ev_bind, ev_only, ev_ofO, ev_ofOB, ev_ite, evs_ite, evo_some, evs_toS, evs_seq, ev_C, ev_var, ev_op2, ev_op1, ev_opL, ev_nil, ev_cons, ev_call, ev_bVal, ev_bTru, ev_bNot, ev_bAnd, ev_bOr, ev_bYes, ev_cIf, ev_cNot, ev_cAnd, ev_cOr, ev_chain, ev_part_none, ev_part_some, ev_sl, ev_mth, evs_skip, evs_set, evs_ret, evs_expr, evs_if, evs_par, evs_as, ev_gN, ev_gsNil, ev_gsCons, ev_gTup, ev_gIx, evs_aug, ev_defF, evs_for, ev_rng1, ev_iSeq, ev_lc, o_addI, o_subI, o_addS, o_addT, o_mulI, o_modI, o_divI, o_powI, o_cmpI, o_intI, o_intB, o_absI, o_lst, o_tup, bl_bl, List.map_cons, List.map_nil, List.cons_append, List.nil_append, List.append_nil, List.getElem?_cons_zero, List.getElem?_cons_succ, List.set_cons_zero, List.set_cons_succ, List.length_cons, List.length_nil, List.replicate, Nat.reduceAdd, Nat.reduceSub, Nat.reduceLeDiff, true_and, and_true, if_true, decide_eq_true_eq, Nat.zero_add]
  refine ev_draw hp (by decide) (by decide) fun og og0 og1 L1 u1 => ?_
  refine ev_draw u1.pool (by decide) (by decide) fun st st0 st1 L2 u2 => ?_
  have u02 := u1.trans u2
  simp only [wipeE, ev_ok, ev_bind, ev_only, ev_ofO, ev_ofOB, ev_ite, evs_ite, evo_some, evs_toS, evs_seq, ev_C, ev_var, ev_op2, ev_op1, ev_opL, ev_nil, ev_cons, ev_call, ev_bVal, ev_bTru, ev_bNot, ev_bAnd, ev_bOr, ev_bYes, ev_cIf, ev_cNot, ev_cAnd, ev_cOr, ev_chain, ev_part_none, ev_part_some, ev_sl, ev_mth, evs_skip, evs_set, evs_ret, evs_expr, evs_if, evs_par, evs_as, ev_gN, ev_gsNil, ev_gsCons, ev_gTup, ev_gIx, evs_aug, ev_defF, evs_for, ev_rng1, ev_iSeq, ev_lc, o_addI, o_subI, o_addS, o_addT, o_mulI, o_modI, o_divI, o_powI, o_cmpI, o_intI, o_intB, o_absI, o_lst, o_tup, bl_bl, List.map_cons, List.map_nil, List.cons_append, List.nil_append, List.append_nil, List.getElem?_cons_zero, List.getElem?_cons_succ, List.set_cons_zero, List.set_cons_succ, List.length_cons, List.length_nil, List.replicate, Nat.reduceAdd, Nat.reduceSub, Nat.reduceLeDiff, true_and, and_true, if_true, decide_eq_true_eq, Nat.zero_add]
  refine ⟨.inl (by decide), ?_⟩
  generalize hE : [W.tup [W.str "", W.str ""], W.tup [W.str "", W.str "q"], W.tup [W.str "ab", W.str ""], W.tup [W.str "abcdefg", W.str ""], W.tup [W.str "", W.str "abcdefg"]] = E
  have u3 : Upd p L2 (L2 ++ [LO.lst E]) := .of_pre u2.pool pre_last
  have hle : L.length ≤ L2.length := u02.len
  refine (pick_at u3.pool at_last (by omega) (by rw [← hE]; decide) (by rw [← hE]; decide)).mono fun w L3 q => ?_
  obtain ⟨hw, u4⟩ := q
  have u24 := u02.trans (u3.trans u4)
  obtain ⟨hd, tl, rfl, hm⟩ : ∃ hd tl : Str, w = .tup [.str hd, .str tl] ∧ (hd, tl) ∈ endsL := by
    rw [← hE] at hw
    simp only [List.mem_cons, List.mem_nil_iff, or_false] at hw
    rcases hw with rfl | rfl | rfl | rfl | rfl <;> exact ⟨_, _, rfl, by simp [endsL]⟩
  simp only [wipeE, ev_ok, ev_bind, ev_only, ev_ofO, ev_ofOB, ev_ite, evs_ite, evo_some, evs_toS, evs_seq, ev_C, ev_var, ev_op2, ev_op1, ev_opL, ev_nil, ev_cons, ev_call, ev_bVal, ev_bTru, ev_bNot, ev_bAnd, ev_bOr, ev_bYes, ev_cIf, ev_cNot, ev_cAnd, ev_cOr, ev_chain, ev_part_none, ev_part_some, ev_sl, ev_mth, evs_skip, evs_set, evs_ret, evs_expr, evs_if, evs_par, evs_as, ev_gN, ev_gsNil, ev_gsCons, ev_gTup, ev_gIx, evs_aug, ev_defF, evs_for, ev_rng1, ev_iSeq, ev_lc, o_addI, o_subI, o_addS, o_addT, o_mulI, o_modI, o_divI, o_powI, o_cmpI, o_intI, o_intB, o_absI, o_lst, o_tup, bl_bl, List.map_cons, List.map_nil, List.cons_append, List.nil_append, List.append_nil, List.getElem?_cons_zero, List.getElem?_cons_succ, List.set_cons_zero, List.set_cons_succ, List.length_cons, List.length_nil, List.replicate, Nat.reduceAdd, Nat.reduceSub, Nat.reduceLeDiff, true_and, and_true, if_true, decide_eq_true_eq, Nat.zero_add]
  have hall := List.all_eq_true.mp ends_ok _ hm
  refine ⟨by decide, ?_⟩
  refine (lc_rngI (k := 4) (G := fun y => ∃ s, y = .str s ∧ Tm.NameOk s) (by decide) u24.pool (fun i L' hi u => ?_)).mono fun acc L4 q => ?_
  · have r0 := Int.emod_nonneg (og + (1 + 2 * st) * (i : Int)) (show (26 : Int) ≠ 0 by decide)
    have r1 := Int.emod_lt_of_pos (og + (1 + 2 * st) * (i : Int)) (show (0 : Int) < 26 by decide)
    obtain ⟨c, hc, hx⟩ := ix_letters (L := L') r0 r1
    have hok := List.all_eq_true.mp hall c hc
    rw [Bool.and_eq_true, Bool.and_eq_true, decide_eq_true_eq] at hok
    have hx' : oIx (.str "abcdefghijklmnopqrstuvwxyz") (.int ((og + (1 + 2 * st) * (i : Int)) % 26)) L' = some (.str ⟨#[c]⟩, L') := hx
    simp only [wipeE, ev_ok, ev_bind, ev_only, ev_ofO, ev_ofOB, ev_ite, evs_ite, evo_some, evs_toS, evs_seq, ev_C, ev_var, ev_op2, ev_op1, ev_opL, ev_nil, ev_cons, ev_call, ev_bVal, ev_bTru, ev_bNot, ev_bAnd, ev_bOr, ev_bYes, ev_cIf, ev_cNot, ev_cAnd, ev_cOr, ev_chain, ev_part_none, ev_part_some, ev_sl, ev_mth, evs_skip, evs_set, evs_ret, evs_expr, evs_if, evs_par, evs_as, ev_gN, ev_gsNil, ev_gsCons, ev_gTup, ev_gIx, evs_aug, ev_defF, evs_for, ev_rng1, ev_iSeq, ev_lc, o_addI, o_subI, o_addS, o_addT, o_mulI, o_modI, o_divI, o_powI, o_cmpI, o_intI, o_intB, o_absI, o_lst, o_tup, bl_bl, List.map_cons, List.map_nil, List.cons_append, List.nil_append, List.append_nil, List.getElem?_cons_zero, List.getElem?_cons_succ, List.set_cons_zero, List.set_cons_succ, List.length_cons, List.length_nil, List.replicate, Nat.reduceAdd, Nat.reduceSub, Nat.reduceLeDiff, true_and, and_true, if_true, decide_eq_true_eq, Nat.zero_add, hx', o_addS]
    refine ⟨.inr ⟨by omega, by omega⟩, by decide, ?_, ?_, .refl u.pool, _, rfl, ⟨hok.1.1, hok.1.2⟩⟩
    · exact Nat.le_trans hok.2.1 (by decide)
    · exact Nat.le_trans hok.2.2 (by decide)
  · obtain ⟨hl, hg, u5⟩ := q
    match acc, hl with
    | [a, b, c, d], _ =>
      obtain ⟨s0, rfl, k0⟩ := hg a (by simp)
      obtain ⟨s1, rfl, k1⟩ := hg b (by simp)
      obtain ⟨s2, rfl, k2⟩ := hg c (by simp)
      obtain ⟨s3, rfl, k3⟩ := hg d (by simp)
      have ul := (u24.trans u5).len
      exact ⟨(u24.trans u5).trans (.of_pre u5.pool pre_last), _, s0, s1, s2, s3, rfl, ul, at_last, k0, k1, k2, k3⟩
@[irreducible] def sPoolR : Sx := (sSeq (sSet 3 (cOpL oAbs (cCons (cVar 2) cNil))) (sSeq (sSet 4 (cOp2 oAdd (cOp2 oAdd (cOp2 oAdd (cOp2 oMod (cOpL oInt (cCons (cVar 3) cNil)) (cC (.int 2147483629))) (cOp2 oMul (cOp2 oMul (cC (.int 7919)) (cVar 1)) (cVar 1))) (cOp2 oMul (cC (.int 31)) (cVar 1))) (cC (.int 17)))) (sSeq (sSet 4 (cOp2 oMod (cOpL oInt (cCons (cOp2 oMul (cVar 4) (cC (.int 48271))) cNil)) (cC (.int 2147483647)))) (sRet (cOpL oLst (cCons (cOp2 oMul (cVar 3) (cOpL oInt (cCons (cOp2 oGe (cVar 3) (cOp2 oPow (cC (.int 10)) (cC (.int 18)))) cNil))) (cCons (cOp2 oMod (cOpL oInt (cCons (cOp2 oMul (cVar 4) (cVar 4)) cNil)) (cC (.int 2147483629))) cNil)))))))
theorem f_law_pool_eq : f_law_pool = defF 5 2 (sSeq (sSet 2 (cIf (bVal (cOp2 oLt (cVar 1) (cOpL oLen (cCons (cVar 0) cNil)))) (cOp2 oIx (cVar 0) (cVar 1)) (cOp2 oAdd (cOp2 oMul (cC (.int 7)) (cOpL oSum (cCons (cSl (cVar 0) none (some (cC (.int 63)))) cNil))) (cVar 1)))) sPoolR) := by
  unfold sPoolR
  rfl
-- sPoolR stays closed
theorem poolR_ok {ns : List Int} {k : Nat} {L L1 : LH} {z : Int} {N : Env → LH → Prop} (hk : k ≤ 1) (p1 : L <+: L1) : EvS (sPoolR [some (.scr ns), some (.int k), some (.int z), none, none] L1) N fun w L' => ∃ p, w = .ref p ∧ L.length ≤ p ∧ L <+: L' ∧ PoolOk p L' := by
  simp only [sPoolR, wipeE, ev_ok, ev_bind, ev_only, ev_ofO, ev_ofOB, ev_ite, evs_ite, evo_some, evs_toS, evs_seq, ev_C, ev_var, ev_op2, ev_op1, ev_opL, ev_nil, ev_cons, ev_call, ev_bVal, ev_bTru, ev_bNot, ev_bAnd, ev_bOr, ev_bYes, ev_cIf, ev_cNot, ev_cAnd, ev_cOr, ev_chain, ev_part_none, ev_part_some, ev_sl, ev_mth, evs_skip, evs_set, evs_ret, evs_expr, evs_if, evs_par, evs_as, ev_gN, ev_gsNil, ev_gsCons, ev_gTup, ev_gIx, evs_aug, ev_defF, evs_for, ev_rng1, ev_iSeq, ev_lc, o_addI, o_subI, o_addS, o_addT, o_mulI, o_modI, o_divI, o_powI, o_cmpI, o_intI, o_intB, o_absI, o_lst, o_tup, bl_bl, List.map_cons, List.map_nil, List.cons_append, List.nil_append, List.append_nil, List.getElem?_cons_zero, List.getElem?_cons_succ, List.set_cons_zero, List.set_cons_succ, List.length_cons, List.length_nil, List.replicate, Nat.reduceAdd, Nat.reduceSub, Nat.reduceLeDiff, true_and, and_true, if_true, decide_eq_true_eq, Nat.zero_add, oGe, o_cmpI]
  have hs : 0 ≤ (if z < 0 then -z else z) := by split <;> omega
  generalize (if z < 0 then -z else z) = s at hs ⊢
  have hm0 := Int.emod_nonneg ((s % 2147483629 + 7919 * (k : Int) * (k : Int) + 31 * (k : Int) + 17) * 48271) (show (2147483647 : Int) ≠ 0 by decide)
  have hm1 := Int.emod_lt_of_pos ((s % 2147483629 + 7919 * (k : Int) * (k : Int) + 31 * (k : Int) + 17) * 48271) (show (0 : Int) < 2147483647 by decide)
  generalize (s % 2147483629 + 7919 * (k : Int) * (k : Int) + 31 * (k : Int) + 17) * 48271 % 2147483647 = m at hm0 hm1 ⊢
  have hb : 0 ≤ (if (10 : Int) ^ Int.toNat 18 ≤ s then (1 : Int) else 0) ∧ (if (10 : Int) ^ Int.toNat 18 ≤ s then (1 : Int) else 0) ≤ 1 := by split <;> decide
  generalize (if (10 : Int) ^ Int.toNat 18 ≤ s then (1 : Int) else 0) = b at hb ⊢
  refine ⟨by decide, .inl (by decide), .inr ⟨by omega, by omega⟩, .inl (by decide), .inr (by decide), by decide, ⟨by decide, by decide, by decide⟩, .inr ⟨by omega, by omega⟩, .inl ⟨by omega, by omega⟩, by decide, _, rfl, p1.length_le, p1.trans pre_last, _, _, at_last, Int.mul_nonneg hs hb.1, Int.emod_nonneg _ (by decide), ?_⟩
  exact Int.lt_trans (Int.emod_lt_of_pos _ (by decide)) (by decide)
theorem scr_len {ns : List Int} {L : LH} : oLen [.scr ns] L = some (.int ns.length, L) := oLen_eq (by simp only [lenW, dicW, seqW, Option.map, List.length_map])
theorem scr_ix {ns : List Int} {k : Nat} {L : LH} (h : k < ns.length) : oIx (.scr ns) (.int k) L = some (.int ns[k], L) := by
  unfold oIx
  show oIxS _ _ _ = _
  unfold oIxS
  simp only [seqW]
  rw [atI_nat (j := k) (by rw [List.getElem?_map, List.getElem?_eq_getElem h]; rfl)]
  rfl
theorem scr_sl {ns : List Int} {L : LH} {b : Int} : ∃ ms : List Int, oSl (.scr ns) none (some b) L = some (.ref L.length, L ++ [.lst (ms.map .int)]) := by
  refine ⟨(ns.drop (HT.sIx ns.length 0 none)).take (HT.sIx ns.length ns.length (some b) - HT.sIx ns.length 0 none), ?_⟩
  simp only [oSl, seqW, cutW, List.length_map]
  rw [List.map_take, List.map_drop]
def xCell : Ex := cIf (bVal (cOp2 oLt (cVar 1) (cOpL oLen (cCons (cVar 0) cNil)))) (cOp2 oIx (cVar 0) (cVar 1)) (cOp2 oAdd (cOp2 oMul (cC (.int 7)) (cOpL oSum (cCons (cSl (cVar 0) none (some (cC (.int 63)))) cNil))) (cVar 1))
theorem f_law_pool_eq2 : f_law_pool = defF 5 2 (sSeq (sSet 2 xCell) sPoolR) := f_law_pool_eq
theorem cell_ok {ns : List Int} {k : Nat} {L : LH} {x2 x3 x4 : Option W} : Ev (xCell [some (.scr ns), some (.int k), x2, x3, x4] L) fun w L1 => ∃ z : Int, w = .int z ∧ L <+: L1 := by
  simp only [xCell, wipeE, ev_ok, ev_bind, ev_only, ev_ofO, ev_ofOB, ev_ite, evs_ite, evo_some, evs_toS, evs_seq, ev_C, ev_var, ev_op2, ev_op1, ev_opL, ev_nil, ev_cons, ev_call, ev_bVal, ev_bTru, ev_bNot, ev_bAnd, ev_bOr, ev_bYes, ev_cIf, ev_cNot, ev_cAnd, ev_cOr, ev_chain, ev_part_none, ev_part_some, ev_sl, ev_mth, evs_skip, evs_set, evs_ret, evs_expr, evs_if, evs_par, evs_as, ev_gN, ev_gsNil, ev_gsCons, ev_gTup, ev_gIx, evs_aug, ev_defF, evs_for, ev_rng1, ev_iSeq, ev_lc, o_addI, o_subI, o_addS, o_addT, o_mulI, o_modI, o_divI, o_powI, o_cmpI, o_intI, o_intB, o_absI, o_lst, o_tup, bl_bl, List.map_cons, List.map_nil, List.cons_append, List.nil_append, List.append_nil, List.getElem?_cons_zero, List.getElem?_cons_succ, List.set_cons_zero, List.set_cons_succ, List.length_cons, List.length_nil, List.replicate, Nat.reduceAdd, Nat.reduceSub, Nat.reduceLeDiff, true_and, and_true, if_true, decide_eq_true_eq, Nat.zero_add, scr_len, oLt, o_cmpI]
  split
  · rename_i h
    have hlt : k < ns.length := by omega
    rw [scr_ix hlt, evo_some]
    exact ⟨_, rfl, List.prefix_refl _⟩
  · obtain ⟨ms, e⟩ := scr_sl (ns := ns) (L := L) (b := 63)
    rw [e, evo_some, sum_at at_last, evo_some]
    simp only [wipeE, ev_ok, ev_bind, ev_only, ev_ofO, ev_ofOB, ev_ite, evs_ite, evo_some, evs_toS, evs_seq, ev_C, ev_var, ev_op2, ev_op1, ev_opL, ev_nil, ev_cons, ev_call, ev_bVal, ev_bTru, ev_bNot, ev_bAnd, ev_bOr, ev_bYes, ev_cIf, ev_cNot, ev_cAnd, ev_cOr, ev_chain, ev_part_none, ev_part_some, ev_sl, ev_mth, evs_skip, evs_set, evs_ret, evs_expr, evs_if, evs_par, evs_as, ev_gN, ev_gsNil, ev_gsCons, ev_gTup, ev_gIx, evs_aug, ev_defF, evs_for, ev_rng1, ev_iSeq, ev_lc, o_addI, o_subI, o_addS, o_addT, o_mulI, o_modI, o_divI, o_powI, o_cmpI, o_intI, o_intB, o_absI, o_lst, o_tup, bl_bl, List.map_cons, List.map_nil, List.cons_append, List.nil_append, List.append_nil, List.getElem?_cons_zero, List.getElem?_cons_succ, List.set_cons_zero, List.set_cons_succ, List.length_cons, List.length_nil, List.replicate, Nat.reduceAdd, Nat.reduceSub, Nat.reduceLeDiff, true_and, and_true, if_true, decide_eq_true_eq, Nat.zero_add]
    exact ⟨.inl (by decide), _, rfl, pre_last⟩
theorem pool_ok {ns : List Int} {k : Nat} {L : LH} (hk : k ≤ 1) : Ev (f_law_pool [.scr ns, .int k] L) fun w L' => ∃ p, w = .ref p ∧ L.length ≤ p ∧ L <+: L' ∧ PoolOk p L' := by
  rw [f_law_pool_eq2, ev_defF]
  refine ⟨rfl, ?_⟩
  rw [evs_seq, evs_set]
  refine Ev.mono cell_ok fun w L1 q => ?_
  obtain ⟨z, rfl, p1⟩ := q
  exact poolR_ok hk p1
end Z

/-! YF: the parts of law_k03. -/
namespace Z
open PySem PySem.Spec PyProof.Rows L2
variable {many : Int}
theorem nameB_A : nameB "A" = false := by decide +kernel
theorem nameB_F : nameB "F" = false := by decide +kernel
theorem so_f : PyData.strOk "f" = true := by decide +kernel
theorem so_Plus : PyData.strOk "Plus" = true := by decide +kernel
@[simp] theorem sn_Plus_arg : (Str.ofString "Plus" = Str.ofString "arg") = False := eq_false (by decide +kernel)
@[simp] theorem sn_Plus_cell : (Str.ofString "Plus" = Str.ofString "cell") = False := eq_false (by decide +kernel)
@[simp] theorem sn_Plus_call : (Str.ofString "Plus" = Str.ofString "call") = False := eq_false (by decide +kernel)
def oddsOf (many : Int) (r1 r2 : Nat) : List W := [.non, .int 3, .int (-1), .bl true, .str "1", .tup [], .tup [.str "arg", .int many], .tup [.str "arg", .bl true], .tup [.str "cell", .str "A"], .tup [.str "cell"], .tup [.str "tick", .int 1], .ref r1] ++ [.tup [.str "plus", .int 1], .tup [.str "less", .int 0, .int 1, .int 2], .tup [.str "if", .int 1, .int 1], .tup [.str "call", .str "f", .ref r2], .tup [.str "call", .str "f", .tup [.int 1, .int 1, .int 1]], .tup [.str "call", .str "F", .tup []]] ++ [.tup [.str "Plus", .int 1, .int 1], .tup [.str "same", .int 0, .non], .tup [.int 1, .int 1, .int 1], .tup [.str "call", .str "f"], .tup [.str "call", .str "f", .tup [.non]]]
/-- no tuple -/
theorem fk_flat {L : LH} {w : W} (h : ∃ t, tyName w L = some t) (hn : ∀ ws, w ≠ .tup ws) : FK L w :=
  ⟨⟨h, fun x r e => absurd e (hn _)⟩, fun y e => absurd e (hn _), fun y e => absurd e (hn _), fun y z e => absurd e (hn _)⟩
theorem fk_tup {L : LH} {s : Str} {r : List W} (so : PyData.strOk s = true) (ha : ∀ y, s = "arg" → r = [y] → ∃ t, tyName y L = some t) (hc : ∀ y, s = "cell" → r = [y] → ∃ z, y = .str z ∧ z.length ≤ 16777216)
    (hf : ∀ y z, s = "call" → r = [y, z] → (∃ z, y = .str z ∧ z.length ≤ 16777216) ∧ ∃ t, tyName z L = some t) : FK L (.tup (.str s :: r)) := by
  refine ⟨⟨⟨_, rfl⟩, fun x r' e => ?_⟩, fun y e => ?_, fun y e => ?_, fun y z e => ?_⟩
  · cases e; exact ⟨⟨_, rfl⟩, fun s' e => by cases e; exact so⟩
  · cases e; exact ha y rfl rfl
  · cases e; exact hc y rfl rfl
  · cases e; exact hf y z rfl rfl
theorem fk_call {L : LH} {y : Str} {z : W} (hy : y.length ≤ 16777216) (hz : ∃ t, tyName z L = some t) : FK L (.tup [.str "call", .str y, z]) :=
  fk_tup so_call (fun _ e => by simp at e) (fun _ e => by simp at e) (fun _ _ _ e => by cases e; exact ⟨⟨_, rfl, hy⟩, hz⟩)
theorem len_f : Str.length "f" ≤ 16777216 := by decide +kernel
theorem len_F : Str.length "F" ≤ 16777216 := by decide +kernel
theorem len_A : Str.length "A" ≤ 16777216 := by decide +kernel
theorem odd_bent {L : LH} {r1 r2 : Nat} {x1 x2 : List W} (h1 : L[r1]? = some (.lst x1)) (h2 : L[r2]? = some (.lst x2)) : ∀ w ∈ oddsOf many r1 r2, Bent L many w := by
  have t1 : tyName (.ref r1) L = some "list" := by simp only [tyName, h1]
  have t2 : tyName (.ref r2) L = some "list" := by simp only [tyName, h2]
  intro w hw
  simp only [oddsOf, List.cons_append, List.nil_append, List.mem_cons, List.mem_nil_iff, or_false] at hw
  rcases hw with rfl | rfl | rfl | rfl | rfl | rfl | rfl | rfl | rfl | rfl | rfl | rfl | rfl | rfl | rfl | rfl | rfl | rfl | rfl | rfl | rfl | rfl | rfl
  · exact .odd (fk_flat ⟨_, rfl⟩ (fun _ e => by cases e)) rfl
  · exact .odd (fk_flat ⟨_, rfl⟩ (fun _ e => by cases e)) rfl
  · exact .odd (fk_flat ⟨_, rfl⟩ (fun _ e => by cases e)) rfl
  · exact .odd (fk_flat ⟨_, rfl⟩ (fun _ e => by cases e)) rfl
  · exact .odd (fk_flat ⟨_, rfl⟩ (fun _ e => by cases e)) rfl
  · exact .odd ⟨⟨⟨_, rfl⟩, fun x r e => (by cases e)⟩, fun y e => (by cases e), fun y e => (by cases e), fun y z e => (by cases e)⟩ rfl
  · refine .odd (fk_tup so_arg (fun y _ e => by cases e; exact ⟨_, rfl⟩) (fun _ e => by simp at e) (fun _ _ e => by simp at e)) ?_
    show btw (.int many) 0 (many - 1) = false
    show (decide (0 ≤ many) && decide (many ≤ many - 1)) = false
    have : ¬ many ≤ many - 1 := by omega
    simp [this]
  · exact .odd (fk_tup so_arg (fun y _ e => by cases e; exact ⟨_, rfl⟩) (fun _ e => by simp at e) (fun _ _ e => by simp at e)) rfl
  · refine .odd (fk_tup so_cell (fun y e => by simp at e) (fun _ _ e => by cases e; exact ⟨_, rfl, len_A⟩) (fun _ _ e => by simp at e)) ?_
    exact nameB_A
  · exact .odd (fk_tup so_cell (fun y e => by simp at e) (fun _ _ e => by cases e) (fun _ _ e => by simp at e)) rfl
  · exact .odd (fk_tup so_tick (fun y e => by simp at e) (fun _ e => by simp at e) (fun _ _ e => by simp at e)) rfl
  · exact .odd (fk_flat ⟨_, t1⟩ (fun _ e => by cases e)) rfl
  · exact .odd (fk_tup so_plus (fun y e => by simp at e) (fun _ e => by simp at e) (fun _ _ e => by simp at e)) rfl
  · exact .odd (fk_tup so_less (fun y e => by simp at e) (fun _ e => by simp at e) (fun _ _ e => by simp at e)) rfl
  · exact .odd (fk_tup so_if (fun y e => by simp at e) (fun _ e => by simp at e) (fun _ _ e => by simp at e)) rfl
  · exact .odd (fk_call len_f ⟨_, t2⟩) rfl
  · refine .odd (fk_call len_f ⟨_, rfl⟩) ?_
    show (nameB "f" && decide (3 ≤ 2)) = false
    simp
  · refine .odd (fk_call len_F ⟨_, rfl⟩) ?_
    show (nameB "F" && decide (0 ≤ 2)) = false
    rw [nameB_F]; rfl
  · exact .odd (fk_tup so_Plus (fun y e => by simp at e) (fun _ e => by simp at e) (fun _ _ e => by simp at e)) rfl
  · refine .node (pre := [.val 0]) (post := []) (b := .non) (fk_tup so_same (fun y e => by simp at e) (fun _ e => by simp at e) (fun _ _ e => by simp at e)) rfl ?_ (fun s r e => by cases e; exact so_same) (fun t ht => by simp at ht; subst ht; exact ⟨by decide, by decide⟩) (by simp) (by decide) (.odd (fk_flat ⟨_, rfl⟩ (fun _ e => by cases e)) rfl)
    simp [innerW, Tm.enc]
  · exact .odd ⟨⟨⟨_, rfl⟩, fun x r e => (by cases e; exact ⟨⟨_, rfl⟩, fun s e => (by cases e)⟩)⟩, fun y e => (by cases e), fun y e => (by cases e), fun y z e => (by cases e)⟩ rfl
  · exact .odd (fk_tup so_call (fun y e => by simp at e) (fun _ e => by simp at e) (fun _ _ _ e => by cases e)) rfl
  · refine .node (pre := []) (post := []) (b := .non) (fk_call len_f ⟨_, rfl⟩) ?_ ?_ (fun s r e => by cases e; exact so_call) (by simp) (by simp) (by decide) (.odd (fk_flat ⟨_, rfl⟩ (fun _ e => by cases e)) rfl)
    · show (nameB "f" && decide (1 ≤ 2)) = true
      decide +kernel
    · simp [innerW]
/-! lists compared that are the same -/
theorem eqvAll_strs : ∀ ss : List Str, PyData.eqvAll (ss.map .str) (ss.map .str) = true
  | [] => rfl
  | s :: r => by simp [PyData.eqvAll, PyData.eqv, eqvAll_strs r]
theorem pd_strs : ∀ ss : List Str, PDats (ss.map .str) = some (ss.map .str)
  | [] => rfl
  | s :: r => by simp only [List.map_cons, PDats, PDat, pd_strs r]
theorem wd_strs : ∀ ss : List Str, wdeps (ss.map .str) = 0
  | [] => rfl
  | s :: r => by simp only [List.map_cons, wdeps, wdep, wd_strs r]; rfl
theorem dd_strs : ∀ ss : List Str, PyData.depthAll (ss.map .str) = 0
  | [] => rfl
  | s :: r => by simp only [List.map_cons, PyData.depthAll, PyData.depth, dd_strs r]; rfl
theorem lay_strs : ∀ {ss : List Str}, (∀ s ∈ ss, PyData.strOk s = true) → PyData.canLayAll0 (ss.map .str) = true
  | [], _ => rfl
  | s :: r, h => by
    simp only [List.map_cons, PyData.canLayAll0, PyData.canLay0, h s List.mem_cons_self, Bool.true_and]
    exact lay_strs fun x hx => h x (List.mem_cons_of_mem _ hx)
theorem ne_same {L : LH} {n m : Nat} {ws : List W} {ds : List PyData} (h : L[n]? = some (.lst ws)) (hm : L[m]? = some (.lst ws)) (hd : PDats ws = some ds) (hw : wdeps ws ≤ 15) (hl : PyData.canLayAll0 ds = true) (hdd : PyData.depthAll ds ≤ 60) (he : PyData.eqvAll ds ds = true) : oNe (.ref n) (.ref m) L = some (.bl false, L) := by
  have e1 : ∀ {k : Nat}, L[k]? = some (.lst ws) → toD L 40 (.ref k) = some (.list ds) := fun {k} hk => by
    unfold toD
    rw [seqL_at hk]
    simp only
    rw [toDs_of 39 ws ds hd (by omega)]; rfl
  have sh : SeqAt.shaped (.list ds) = true := by
    unfold SeqAt.shaped
    rw [Bool.and_eq_true]
    exact ⟨hl, decide_eq_true (by simp only [PyData.depth]; omega)⟩
  have hq : eqX L (.ref n) (.ref m) = some true := by
    unfold eqX lenDiff
    simp only [seqL_at h, seqL_at hm, bne_self_eq_false, Bool.false_eq_true, if_false]
    unfold eqD
    rw [e1 h, e1 hm]
    simp only [sh, and_self, if_true, PyData.eqv, he]
  simp only [oNe, hq, Option.map, oB, Bool.not_true]
theorem ne_strs {L : LH} {n m : Nat} {ss : List Str} (h : L[n]? = some (.lst (ss.map .str))) (hm : L[m]? = some (.lst (ss.map .str))) (ho : ∀ s ∈ ss, PyData.strOk s = true) : oNe (.ref n) (.ref m) L = some (.bl false, L) :=
  ne_same h hm (pd_strs ss) (by rw [wd_strs]; decide) (lay_strs ho) (by rw [dd_strs]; decide) (eqvAll_strs ss)
theorem ne_ints {L : LH} {n m : Nat} {a b : Int} (h : L[n]? = some (.lst [.int a, .int b])) (hm : L[m]? = some (.lst [.int a, .int b])) : oNe (.ref n) (.ref m) L = some (.bl false, L) :=
  ne_same (ds := [.int a, .int b]) h hm rfl (by simp [wdeps, wdep]) rfl (by simp [PyData.depthAll, PyData.depth]) (by simp [PyData.eqvAll, PyData.eqv])
theorem ne_bl {L : LH} {b : Bool} : oNe (.bl b) (.bl b) L = some (.bl false, L) := by
  have : eqX L (.bl b) (.bl b) = some true := by
    have e : eqX L (.bl b) (.bl b) = eqD L (.bl b) (.bl b) := rfl
    rw [e]; unfold eqD toD
    cases b <;> rfl
  simp only [oNe, this, Option.map, oB, Bool.not_true]
theorem cnt_ok {kd : Str} {t : Tm} (ht : t.ok many) : ∀ s ∈ srtS (t.cnt kd), PyData.strOk s = true := fun s hs => by
  have h1 := (srtS_perm _).mem_iff.mp hs
  rw [cnt_mem t, List.mem_filterMap] at h1
  obtain ⟨u, hu, he⟩ := h1
  have ho := Tm.pre_ok ht u hu
  cases u <;> simp [Tm.nm] at he
  · obtain ⟨_, rfl⟩ := he; exact Tm.NameOk.so ho
  · obtain ⟨_, rfl⟩ := he; exact Tm.NameOk.so ho
  · obtain ⟨_, rfl⟩ := he; exact Tm.NameOk.so ho.1
end Z

/-! TA: texts as words with blanks between. -/
namespace Z
open PySem PySem.Spec PyProof.Rows L2
def blank : Str := ⟨#[32]⟩
theorem blank_eq : (" " : Str) = blank := by decide +kernel
def jn (ws : List Str) : Str := Txt.join blank ws
theorem jn_eq (ws : List Str) : jn ws = Str.join blank ws := StrLaws.glued_eq_join blank ws
def JL : List (List Nat) → List Nat
  | [] => []
  | [x] => x
  | x :: y :: r => x ++ 32 :: JL (y :: r)
theorem cps_append (a b : Str) : (a ++ b).cps.toList = a.cps.toList ++ b.cps.toList := by
  show (a.cps ++ b.cps).toList = _
  simp
theorem str_inj {a b : Str} (h : a.cps.toList = b.cps.toList) : a = b := Str.ext' (Array.toList_inj.mp h)
theorem jn_JL : ∀ ws : List Str, (jn ws).cps.toList = JL (ws.map fun x => x.cps.toList)
  | [] => by rw [jn_eq]; rfl
  | [x] => by rw [jn_eq]; rfl
  | x :: y :: r => by
    have ih := jn_JL (y :: r)
    rw [jn_eq] at ih ⊢
    show (x ++ blank ++ Str.join blank (y :: r)).cps.toList = _
    rw [cps_append, cps_append, ih]
    simp only [List.map_cons, JL]
    rw [List.append_assoc]
    rfl
theorem cut_inj : ∀ {x x' t t' : List Nat}, 32 ∉ x → 32 ∉ x' → x ++ 32 :: t = x' ++ 32 :: t' → x = x' ∧ t = t'
  | [], [], t, t', _, _, e => by simpa using e
  | [], a :: x', t, t', _, h, e => by
    simp at e h; exact absurd e.1 h.1
  | a :: x, [], t, t', h, _, e => by
    simp at e h; exact absurd e.1.symm h.1
  | a :: x, b :: x', t, t', h, h', e => by
    simp only [List.cons_append, List.cons.injEq] at e
    obtain ⟨rfl, e⟩ := e
    have := cut_inj (fun m => h (List.mem_cons_of_mem _ m)) (fun m => h' (List.mem_cons_of_mem _ m)) e
    exact ⟨by rw [this.1], this.2⟩
theorem JL_inj : ∀ {ws ws' : List (List Nat)}, ws ≠ [] → ws' ≠ [] → (∀ x ∈ ws, 32 ∉ x) → (∀ x ∈ ws', 32 ∉ x) → JL ws = JL ws' → ws = ws'
  | [], _, h, _, _, _, _ => absurd rfl h
  | _, [], _, h, _, _, _ => absurd rfl h
  | [x], [y], _, _, _, _, e => by simp only [JL] at e; rw [e]
  | [x], y :: z :: r, _, _, h, _, e => by
    simp only [JL] at e
    exact absurd (by rw [e]; simp) (h x (by simp))
  | x :: z :: r, [y], _, _, _, h, e => by
    simp only [JL] at e
    exact absurd (by rw [← e]; simp) (h y (by simp))
  | x :: y :: r, x' :: y' :: r', _, _, h, h', e => by
    simp only [JL] at e
    obtain ⟨e1, e2⟩ := cut_inj (h x (by simp)) (h' x' (by simp)) e
    have := JL_inj (by simp) (by simp) (fun z hz => h z (List.mem_cons_of_mem _ hz)) (fun z hz => h' z (List.mem_cons_of_mem _ hz)) e2
    rw [e1, this]
/-- the words of a text -/
def wds (x : Str) : List Str := Txt.split x blank
theorem jn_wds (x : Str) : jn (wds x) = x := by rw [jn_eq]; exact StrLaws.join_split x blank
theorem wds_free (x : Str) : ∀ p ∈ wds x, 32 ∉ p.cps.toList := StrLaws.split_free x 32
theorem wds_ne (x : Str) : wds x ≠ [] := by
  intro e
  unfold wds Txt.split at e
  split at e
  · cases e
  · split at e
    · cases e
    · rw [StrLaws.partsBetween_eq] at e
      obtain ⟨p, r, h⟩ := StrLaws.partsFrom_ne x blank.length 0 (Builtin.Str.occurrences x blank 0 x.length (x.length + 1))
      rw [h] at e; cases e
theorem map_inj {ws ws' : List Str} (h : ws.map (fun x => x.cps.toList) = ws'.map fun x => x.cps.toList) : ws = ws' := by
  induction ws generalizing ws' with
  | nil => cases ws' with
    | nil => rfl
    | cons _ _ => cases h
  | cons x r ih => cases ws' with
    | nil => cases h
    | cons y r' =>
      simp only [List.map_cons, List.cons.injEq] at h
      rw [str_inj h.1, ih h.2]
theorem wds_jn {ws : List Str} (hne : ws ≠ []) (h : ∀ x ∈ ws, 32 ∉ x.cps.toList) : wds (jn ws) = ws := by
  apply map_inj
  refine JL_inj (by simpa using wds_ne _) (by simpa using hne) ?_ ?_ ?_
  · intro x hx
    obtain ⟨y, hy, rfl⟩ := List.mem_map.mp hx
    exact wds_free _ y hy
  · intro x hx
    obtain ⟨y, hy, rfl⟩ := List.mem_map.mp hx
    exact h y hy
  · rw [← jn_JL, ← jn_JL, jn_wds]
/-- how much a row of words takes -/
def wsz (ws : List Str) : Nat := (ws.map fun x => x.length + 1).sum
theorem wsz_nil : wsz [] = 0 := rfl
theorem wsz_cons (x : Str) (ws : List Str) : wsz (x :: ws) = x.length + 1 + wsz ws := by simp [wsz]
theorem wsz_append (a b : List Str) : wsz (a ++ b) = wsz a + wsz b := by simp [wsz]
theorem wsz_eq (ws : List Str) : (ws.map (·.length)).sum + ws.length * blank.length = wsz ws := by
  induction ws with
  | nil => rfl
  | cons x r ih =>
    rw [wsz_cons, ← ih]
    simp only [List.map_cons, List.sum_cons, List.length_cons, Nat.add_mul]
    have : blank.length = 1 := rfl
    omega
theorem len_append (a b : Str) : (a ++ b).length = a.length + b.length := by
  show (a.cps ++ b.cps).size = _
  rw [Array.size_append]; rfl
theorem jn_len : ∀ ws : List Str, (jn ws).length ≤ wsz ws
  | [] => by rw [jn_eq]; exact Nat.zero_le _
  | [x] => by
    rw [jn_eq, wsz_cons]
    show x.length ≤ _
    omega
  | x :: y :: r => by
    have ih := jn_len (y :: r)
    rw [jn_eq] at ih ⊢
    rw [wsz_cons]
    show (x ++ blank ++ Str.join blank (y :: r)).length ≤ _
    rw [len_append, len_append]
    have : blank.length = 1 := rfl
    omega
theorem wsz_wds_le (x : Str) : (wds x).length ≤ x.length + 1 := by
  have key : ∀ ws : List Str, ws ≠ [] → ws.length ≤ (jn ws).length + 1 := by
    intro ws
    induction ws with
    | nil => intro h; exact absurd rfl h
    | cons y r ih =>
      intro _
      cases r with
      | nil => simp
      | cons z r =>
        have := ih (by simp)
        rw [jn_eq] at this ⊢
        show _ ≤ (y ++ blank ++ Str.join blank (z :: r)).length + 1
        rw [len_append, len_append]
        have : blank.length = 1 := rfl
        simp only [List.length_cons] at *
        omega
  have := key (wds x) (wds_ne x)
  rwa [jn_wds] at this
/-- parts that are rows of words themselves -/
theorem jn_cons {x : Str} {ws : List Str} (h : ws ≠ []) : jn (x :: ws) = x ++ blank ++ jn ws := by
  rw [jn_eq, jn_eq]
  cases ws with
  | nil => exact absurd rfl h
  | cons y r => rfl
theorem app_assoc (a b c : Str) : a ++ b ++ c = a ++ (b ++ c) := str_inj (by simp only [cps_append, List.append_assoc])
theorem jn_app : ∀ {us ws : List Str}, us ≠ [] → ws ≠ [] → jn (us ++ ws) = jn us ++ blank ++ jn ws
  | [], _, h, _ => absurd rfl h
  | [x], ws, _, h => by
    show jn (x :: ws) = _
    rw [jn_cons h]
    have : jn [x] = x := by rw [jn_eq]; rfl
    rw [this]
  | x :: y :: r, ws, _, h => by
    have ih := jn_app (us := y :: r) (List.cons_ne_nil _ _) h
    have e1 : jn (x :: (y :: r ++ ws)) = x ++ blank ++ jn (y :: r ++ ws) := jn_cons (List.cons_ne_nil _ _)
    have e2 : jn (x :: y :: r) = x ++ blank ++ jn (y :: r) := jn_cons (List.cons_ne_nil _ _)
    show jn (x :: (y :: r ++ ws)) = _
    rw [e1, ih, e2]
    simp only [app_assoc]
theorem jn_single (x : Str) : jn [x] = x := by rw [jn_eq]; rfl
theorem jn_flat : ∀ {x : Str} {uss : List (List Str)}, (∀ us ∈ uss, us ≠ []) → jn (x :: uss.map jn) = jn (x :: uss.flatten)
  | x, [], _ => rfl
  | x, [us], h => by
    have hu := h us (List.mem_cons_self ..)
    show jn [x, jn us] = jn (x :: (us ++ []))
    rw [List.append_nil, jn_cons hu, jn_cons (List.cons_ne_nil _ _), jn_single]
  | x, us :: vs :: r, h => by
    have hu := h us (List.mem_cons_self ..)
    have hv : (vs :: r).flatten ≠ [] := by
      have := h vs (by simp)
      simp [this]
    have ih := jn_flat (x := jn us) (uss := vs :: r) fun z hz => h z (List.mem_cons_of_mem _ hz)
    have e1 : jn (x :: (us :: vs :: r).map jn) = x ++ blank ++ jn (jn us :: (vs :: r).map jn) := jn_cons (List.cons_ne_nil _ _)
    have e2 : jn (x :: (us :: vs :: r).flatten) = x ++ blank ++ jn (us ++ (vs :: r).flatten) := by
      rw [List.flatten_cons]; exact jn_cons (by simp [hu])
    rw [e1, e2, ih, jn_cons hv, jn_app hu hv]
theorem jn_flat2 {x y z : Str} {uss : List (List Str)} (h : ∀ us ∈ uss, us ≠ []) : jn (x :: y :: z :: uss.map jn) = jn (x :: y :: z :: uss.flatten) := by
  have a : ∀ l : List Str, jn (x :: y :: z :: l) = x ++ blank ++ (y ++ blank ++ jn (z :: l)) := fun l => by
    rw [jn_cons (List.cons_ne_nil _ _), jn_cons (List.cons_ne_nil _ _)]
  rw [a, a, jn_flat h]
end Z

/-! printed by canon.py: meanings with their callees as parameters -/
namespace Z
open PySem PySem.Spec PyProof.Rows L2
def f_write_term (g_write_term : Fn) : Fn := defF 2 1 (sSeq (sIf (bNot (bTru (cOpL oIsi (cCons (cVar 0) (cCons (cC (.ty "tuple")) cNil))))) (sRet (cOpL oStr (cCons (cVar 0) cNil))) sSkip) (sSeq (sIf (bVal (cOp2 oEq (cOp2 oIx (cVar 0) (cC (.int 0))) (cC (.str "call")))) (sRet (cMth isStr oJoin (cC (.str " ")) (cCons (cOpL oLst (cCons (cC (.str "call")) (cCons (cOp2 oIx (cVar 0) (cC (.int 1))) (cCons (cOpL oStr (cCons (cOpL oLen (cCons (cOp2 oIx (cVar 0) (cC (.int 2))) cNil)) cNil)) (cStar (cLc [1] (iSeq (cOp2 oIx (cVar 0) (cC (.int 2)))) (CT.one 1) bYes (cCall g_write_term [] (cCons (cVar 1) cNil))) cNil))))) cNil))) sSkip) (sSeq (sIf (bOr (bVal (cOp2 oInD (cOp2 oIx (cVar 0) (cC (.int 0))) (cC (.tup [(.str "plus"), (.str "less"), (.str "same")])))) (bVal (cOp2 oEq (cOp2 oIx (cVar 0) (cC (.int 0))) (cC (.str "if"))))) (sRet (cMth isStr oJoin (cC (.str " ")) (cCons (cOpL oLst (cCons (cOp2 oIx (cVar 0) (cC (.int 0))) (cStar (cLc [1] (iSeq (cSl (cVar 0) (some (cC (.int 1))) none)) (CT.one 1) bYes (cCall g_write_term [] (cCons (cVar 1) cNil))) cNil))) cNil))) sSkip) (sRet (cMth isStr oJoin (cC (.str " ")) (cCons (cLc [1] (iSeq (cVar 0)) (CT.one 1) bYes (cOpL oStr (cCons (cVar 1) cNil))) cNil))))))
-- write_term: 9
def f_Words___init__ : Fn := defF 2 2 (sSeq (sFldP [0] "left" (cVar 0) (cOpL oList (cCons (cOp1 oRev (cVar 1)) cNil))) (sFldP [0] "is_bad" (cVar 0) (cC (.bl false))))
-- Words___init__: 
def f_Words_pull : Fn := defF 1 1 (sSeq (sIf (bVal (cOp2 oEq (cOp1 (oFld [0] "left") (cVar 0)) (cOpL oLst cNil))) (sSeq (sFldP [0] "is_bad" (cVar 0) (cC (.bl true))) (sRet (cC (.str "")))) sSkip) (sRet (cMth isLst oPop (cOp1 (oFld [0] "left") (cVar 0)) cNil)))
-- Words_pull: 
def f_Words_pull_figure (g_Words_pull : Fn) : Fn := defF 4 3 (sSeq (sSet 3 (cMeth [(0, (g_Words_pull, []))] "pull" (cVar 0) cNil)) (sSeq (sIf (bOr (bVal (cOp2 oNe (cOpL oLen (cCons (cVar 3) cNil)) (cC (.int 1)))) (bOr (bVal (cOp2 oNotInD (cVar 3) (cC (.str "0123456789")))) (bNot (bVal (cChain oLe oLe (cVar 1) (cOpL oInt (cCons (cVar 3) cNil)) (cVar 2)))))) (sSeq (sFldP [0] "is_bad" (cVar 0) (cC (.bl true))) (sRet (cVar 1))) sSkip) (sRet (cOpL oInt (cCons (cVar 3) cNil)))))
-- Words_pull_figure: 11
def f_Words_pull_name (g_Words_pull g_is_name : Fn) : Fn := defF 2 1 (sSeq (sSet 1 (cMeth [(0, (g_Words_pull, []))] "pull" (cVar 0) cNil)) (sSeq (sIf (bNot (bTru (cCall g_is_name [] (cCons (cVar 1) cNil)))) (sFldP [0] "is_bad" (cVar 0) (cC (.bl true))) sSkip) (sRet (cVar 1))))
-- Words_pull_name: 11 4
def f_Words_is_done : Fn := defF 1 1 (sRet (cAnd (cNot (cOp1 (oFld [0] "is_bad") (cVar 0))) (cOp2 oEq (cOp1 (oFld [0] "left") (cVar 0)) (cOpL oLst cNil))))
-- Words_is_done: 
def f_pulled_term (g_Words_pull g_pulled_term g_Words_pull_name g_Words_pull_figure : Fn) : Fn := defF 6 2 (sSeq (sSet 2 (cMeth [(0, (g_Words_pull, []))] "pull" (cVar 0) cNil)) (sSeq (sIf (bOr (bVal (cOp2 oEq (cVar 1) (cC (.int 0)))) (bTru (cOp1 (oFld [0] "is_bad") (cVar 0)))) (sSeq (sFldP [0] "is_bad" (cVar 0) (cC (.bl true))) (sRet (cC (.int 0)))) sSkip) (sSeq (sIf (bOr (bVal (cOp2 oInD (cVar 2) (cC (.tup [(.str "plus"), (.str "less"), (.str "same")])))) (bVal (cOp2 oEq (cVar 2) (cC (.str "if"))))) (sRet (cOpL oTup (cCons (cVar 2) (cStar (cLc [5] (iRng1 (cCons (cIf (bVal (cOp2 oEq (cVar 2) (cC (.str "if")))) (cC (.int 3)) (cC (.int 2))) cNil)) (CT.one 5) bYes (cCall g_pulled_term [] (cCons (cVar 0) (cCons (cOp2 oSub (cVar 1) (cC (.int 1))) cNil)))) cNil)))) sSkip) (sSeq (sIf (bVal (cOp2 oEq (cVar 2) (cC (.str "call")))) (sSeq (sPar 3 4 (cCons (cMeth [(0, (g_Words_pull_name, []))] "pull_name" (cVar 0) cNil) (cCons (cMeth [(0, (g_Words_pull_figure, []))] "pull_figure" (cVar 0) (cCons (cC (.int 0)) (cCons (cC (.int 2)) cNil))) cNil))) (sRet (cOpL oTup (cCons (cC (.str "call")) (cCons (cVar 3) (cCons (cOpL oTuple (cCons (cLc [5] (iRng1 (cCons (cVar 4) cNil)) (CT.one 5) bYes (cCall g_pulled_term [] (cCons (cVar 0) (cCons (cOp2 oSub (cVar 1) (cC (.int 1))) cNil)))) cNil)) cNil)))))) sSkip) (sSeq (sIf (bVal (cOp2 oEq (cVar 2) (cC (.str "arg")))) (sRet (cOpL oTup (cCons (cC (.str "arg")) (cCons (cMeth [(0, (g_Words_pull_figure, []))] "pull_figure" (cVar 0) (cCons (cC (.int 0)) (cCons (cC (.int 1)) cNil))) cNil)))) sSkip) (sSeq (sIf (bVal (cOp2 oEq (cVar 2) (cC (.str "cell")))) (sRet (cOpL oTup (cCons (cC (.str "cell")) (cCons (cMeth [(0, (g_Words_pull_name, []))] "pull_name" (cVar 0) cNil) cNil)))) sSkip) (sSeq (sIf (bVal (cOp2 oEq (cVar 2) (cC (.str "tick")))) (sRet (cOpL oTup (cCons (cC (.str "tick")) cNil))) sSkip) (sSeq (sIf (bOr (bVal (cOp2 oNe (cOpL oLen (cCons (cVar 2) cNil)) (cC (.int 1)))) (bVal (cOp2 oNotInD (cVar 2) (cC (.str "012"))))) (sSeq (sFldP [0] "is_bad" (cVar 0) (cC (.bl true))) (sRet (cC (.int 0)))) sSkip) (sRet (cOpL oInt (cCons (cVar 2) cNil)))))))))))
-- pulled_term: 11 16 14 13
def f_term_in (g_Words___init__ g_pulled_term g_Words_is_done g_is_term : Fn) : Fn := defF 4 2 (sSeq (sSet 2 (cMake 0 g_Words___init__ [] (cCons (cVar 0) cNil))) (sSeq (sSet 3 (cCall g_pulled_term [] (cCons (cVar 2) (cCons (cC (.int 8)) cNil)))) (sRet (cIf (bAnd (bTru (cMeth [(0, (g_Words_is_done, []))] "is_done" (cVar 2) cNil)) (bTru (cCall g_is_term [] (cCons (cVar 3) (cCons (cVar 1) cNil))))) (cVar 3) (cC .non)))))
-- term_in: 10 16 15 8
def f_read_term (g_term_in : Fn) : Fn := defF 3 2 (sSeq (sSet 2 (cIf (bTru (cOpL oIsi (cCons (cVar 0) (cCons (cC (.ty "str")) cNil)))) (cCall g_term_in [] (cCons (cMth isStr oSplit (cVar 0) (cCons (cC (.str " ")) cNil)) (cCons (cVar 1) cNil))) (cC .non))) (sSeq (sIf (bVal (cOp2 oIs (cVar 2) (cC .non))) (sRaise 2 "index" (cC (.int 0))) sSkip) (sRet (cVar 2))))
-- read_term: 17
def f_law_term_text (g_law_term_text : Fn) : Fn := defF 2 1 (sSeq (sIf (bNot (bTru (cOpL oIsi (cCons (cVar 0) (cCons (cC (.ty "tuple")) cNil))))) (sRet (cOpL oStr (cCons (cVar 0) cNil))) sSkip) (sSeq (sIf (bVal (cOp2 oInD (cOp2 oIx (cVar 0) (cC (.int 0))) (cOpL oLst (cCons (cC (.str "arg")) (cCons (cC (.str "cell")) cNil))))) (sRet (cOp2 oAdd (cOp2 oAdd (cOp2 oIx (cVar 0) (cC (.int 0))) (cC (.str " "))) (cOpL oStr (cCons (cOp2 oIx (cVar 0) (cC (.int 1))) cNil)))) sSkip) (sSeq (sIf (bVal (cOp2 oEq (cOp2 oIx (cVar 0) (cC (.int 0))) (cC (.str "call")))) (sRet (cMth isStr oJoin (cC (.str " ")) (cCons (cOp2 oAdd (cOpL oLst (cCons (cC (.str "call")) (cCons (cOp2 oIx (cVar 0) (cC (.int 1))) (cCons (cOpL oStr (cCons (cOpL oLen (cCons (cOp2 oIx (cVar 0) (cC (.int 2))) cNil)) cNil)) cNil)))) (cLc [1] (iSeq (cOp2 oIx (cVar 0) (cC (.int 2)))) (CT.one 1) bYes (cCall g_law_term_text [] (cCons (cVar 1) cNil)))) cNil))) sSkip) (sRet (cMth isStr oJoin (cC (.str " ")) (cCons (cOp2 oAdd (cOpL oLst (cCons (cOp2 oIx (cVar 0) (cC (.int 0))) cNil)) (cLc [1] (iSeq (cSl (cVar 0) (some (cC (.int 1))) none)) (CT.one 1) bYes (cCall g_law_term_text [] (cCons (cVar 1) cNil)))) cNil))))))
-- law_term_text: 24
def f_law_read (g_read_term : Fn) : Fn := defF 3 2 (sTry (some 2) [(2, true)] (sRet (cCall g_read_term [] (cCons (cVar 0) (cCons (cVar 1) cNil)))) (fun x => sRet (cOpL oLst (cCons (cC (.str "bad")) (cCons (cXf [2] "index" x) cNil)))))
-- law_read: 18
def f_wall : Fn := defF 1 1 (sWhile fuelW (bTru (cC (.bl true))) sSkip)
def f_Words_pull_one (g_wall : Fn) : Fn := defF 2 2 (sExpr (cCall g_wall [] (cCons (cC (.int 0)) cNil)))
def f_law79 (g_law_pool g_law_names g_law_draw g_law_term g_law_term_text g_write_term g_law_read : Fn) : Fn := defF 16 1 (sSeq (sFor (iRng1 (cCons (cOpL oMax (cCons (cC (.int 1)) (cCons (cOpL oMin (cCons (cOpL oLen (cCons (cVar 0) cNil)) (cCons (cC (.int 2)) cNil))) cNil))) cNil)) (gN 1) (sSeq (sSet 2 (cCall g_law_pool [] (cCons (cVar 0) (cCons (cVar 1) cNil)))) (sSeq (sAs (cOpL oTup (cCons (cCall g_law_names [] (cCons (cVar 2) (cCons (cC (.int 4)) cNil))) (cCons (cCall g_law_draw [] (cCons (cVar 2) (cCons (cC (.int 3)) cNil))) cNil))) (gTupW 2 (gsCons (gN 6) (gsCons (gN 7) gsNil)))) (sSeq (sSet 3 (cDict [(cC (.str "cells"), cOpL oLst (cCons (cOpL oTup (cCons (cOp2 oIx (cVar 6) (cC (.int 0))) (cCons (cC (.str "table")) cNil))) (cCons (cOpL oTup (cCons (cOp2 oIx (cVar 6) (cC (.int 1))) (cCons (cC (.str "frozen")) cNil))) cNil))), (cC (.str "functions"), cOpL oLst (cCons (cDict [(cC (.str "name"), cOp2 oIx (cVar 6) (cC (.int 2))), (cC (.str "many"), cC (.int 2))]) (cCons (cDict [(cC (.str "name"), cOp2 oIx (cVar 6) (cC (.int 3))), (cC (.str "many"), cC (.int 0))]) cNil)))])) (sSeq (sFor (iRng1 (cCons (cC (.int 12)) cNil)) (gN 4) (sSeq (sSet 8 (cCall g_law_term [] (cCons (cVar 2) (cCons (cVar 3) (cCons (cVar 7) (cCons (cCall g_law_draw [] (cCons (cVar 2) (cCons (cC (.int 4)) cNil))) cNil)))))) (sSeq (sSet 9 (cCall g_law_term_text [] (cCons (cVar 8) cNil))) (sIf (bVal (cOp2 oLe (cOpL oLen (cCons (cMth isStr oSplit (cVar 9) (cCons (cC (.str " ")) cNil)) cNil)) (cC (.int 30)))) (sSeq (sIf (bOr (bVal (cOp2 oNe (cCall g_write_term [] (cCons (cVar 8) cNil)) (cVar 9))) (bVal (cOp2 oNe (cCall g_law_read [] (cCons (cVar 9) (cCons (cVar 7) cNil))) (cVar 8)))) (sRet (cC (.bl false))) sSkip) (sSeq (sSet 10 (cMth isStr oSplit (cVar 9) (cCons (cC (.str " ")) cNil))) (sSeq (sSet 11 (cCall g_law_draw [] (cCons (cVar 2) (cCons (cOpL oLen (cCons (cVar 10) cNil)) cNil)))) (sSeq (sSet 12 (cOpL oLst (cCons (cOp2 oAdd (cVar 10) (cOpL oLst (cCons (cC (.str "0")) cNil))) (cCons (cOp2 oAdd (cVar 10) (cOpL oLst (cCons (cC (.str "arg")) cNil))) (cCons (cOp2 oAdd (cOp2 oAdd (cSl (cVar 10) none (some (cVar 11))) (cOpL oLst (cCons (cC (.str "")) cNil))) (cSl (cVar 10) (some (cVar 11)) none)) (cCons (cSl (cVar 10) none (some (cOp1 oNeg (cC (.int 1))))) (cCons (cOp2 oAdd (cVar 10) (cOpL oLst (cCons (cC (.str "")) cNil))) (cCons (cOp2 oAdd (cOpL oLst (cCons (cC (.str "")) cNil)) (cVar 10)) cNil)))))))) (sSeq (sFor (iSeq (cOp2 oAdd (cVar 12) (cOpL oLst (cCons (cOp2 oAdd (cOp2 oAdd (cSl (cVar 10) none (some (cVar 11))) (cOpL oLst (cCons (cC (.str "Plus")) cNil))) (cSl (cVar 10) (some (cOp2 oAdd (cVar 11) (cC (.int 1)))) none)) (cCons (cOp2 oAdd (cOp2 oAdd (cSl (cVar 10) none (some (cVar 11))) (cOpL oLst (cCons (cC (.str "01")) cNil))) (cSl (cVar 10) (some (cOp2 oAdd (cVar 11) (cC (.int 1)))) none)) (cCons (cOp2 oAdd (cOp2 oAdd (cSl (cVar 10) none (some (cVar 11))) (cOpL oLst (cCons (cC (.str "-1")) cNil))) (cSl (cVar 10) (some (cOp2 oAdd (cVar 11) (cC (.int 1)))) none)) cNil)))))) (gN 13) (sSeq (sSet 14 (cCall g_law_read [] (cCons (cMth isStr oJoin (cC (.str " ")) (cCons (cVar 13) cNil)) (cCons (cVar 7) cNil)))) (sIf (bAnd (bVal (cOp2 oNe (cVar 14) (cOpL oLst (cCons (cC (.str "bad")) (cCons (cC (.int 0)) cNil))))) (bOr (bTru (cOpL oIsi (cCons (cVar 14) (cCons (cC (.ty "list")) cNil)))) (bVal (cOp2 oNe (cCall g_law_term_text [] (cCons (cVar 14) cNil)) (cMth isStr oJoin (cC (.str " ")) (cCons (cVar 13) cNil)))))) (sRet (cC (.bl false))) sSkip))) (sIf (bOr (bVal (cOp2 oNe (cCall g_law_read [] (cCons (cMth isStr oJoin (cC (.str " ")) (cCons (cOp2 oAdd (cVar 10) (cOpL oLst (cCons (cC (.str "0")) cNil))) cNil)) (cCons (cVar 7) cNil))) (cOpL oLst (cCons (cC (.str "bad")) (cCons (cC (.int 0)) cNil))))) (bVal (cOp2 oNe (cCall g_law_read [] (cCons (cOp2 oAdd (cVar 9) (cC (.str " "))) (cCons (cVar 7) cNil))) (cOpL oLst (cCons (cC (.str "bad")) (cCons (cC (.int 0)) cNil)))))) (sRet (cC (.bl false))) sSkip)))))) sSkip)))) (sSeq (sSet 5 (cOpL oLst (cCons (cC .non) (cCons (cC (.int 5)) (cCons (cC (.str "")) (cCons (cC (.str " ")) (cCons (cC (.str "3")) (cCons (cC (.str "arg")) (cCons (cOp2 oAdd (cC (.str "arg ")) (cOpL oStr (cCons (cVar 7) cNil))) (cCons (cC (.str "arg x")) (cCons (cC (.str "cell")) (cCons (cC (.str "cell A")) (cCons (cC (.str "plus 1")) (cCons (cC (.str "less 1 2 3")) (cCons (cC (.str "if 1 2")) (cCons (cC (.str "call f")) cNil)))))))))))))))) (sSeq (sSet 5 (cOp2 oAdd (cVar 5) (cOpL oLst (cCons (cC (.str "call f 3 1 1 1")) (cCons (cC (.str "call f 1")) (cCons (cC (.str "call f 01 1")) (cCons (cC (.str "call F 0")) (cCons (cC (.str "Tick")) (cCons (cC (.str "tick 1")) (cCons (cC (.str "same 1  2")) (cCons (cOpL oLst (cCons (cC (.str "tick")) cNil)) (cCons (cC (.str "arg -1")) (cCons (cC (.str "arg 00")) cNil))))))))))))) (sIf (bVal (cOp2 oNe (cLc [15] (iSeq (cVar 5)) (CT.one 15) (bVal (cOp2 oNe (cCall g_law_read [] (cCons (cVar 15) (cCons (cVar 7) cNil))) (cOpL oLst (cCons (cC (.str "bad")) (cCons (cC (.int 0)) cNil))))) (cVar 15)) (cOpL oLst cNil))) (sRet (cC (.bl false))) sSkip)))))))) (sRet (cC (.bl true))))
end Z

/-! TB: values that words write; the texts of terms. -/
namespace Z
open PySem PySem.Spec PyProof.Rows L2
/-- a figure -/
def dg : Nat → Str
  | 0 => "0" | 1 => "1" | _ => "2"
inductive PrR (P : W → List Str → Prop) : List W → List (List Str) → Prop
  | nil : PrR P [] []
  | cons {k : W} {us : List Str} {ks : List W} {uss : List (List Str)} : P k us → PrR P ks uss → PrR P (k :: ks) (us :: uss)
def opOk (h : Str) (n : Nat) : Prop := ((h = "plus" ∨ h = "less" ∨ h = "same") ∧ n = 2) ∨ (h = "if" ∧ n = 3)
/-- the value w is what the words us write, its parts by P -/
inductive Pr1 (P : W → List Str → Prop) : W → List Str → Prop
  | val (i : Nat) (h : i ≤ 2) : Pr1 P (.int i) [dg i]
  | arg (i : Nat) (h : i ≤ 1) : Pr1 P (.tup [.str "arg", .int i]) ["arg", dg i]
  | cell (s : Str) (h : Tm.NameOk s) : Pr1 P (.tup [.str "cell", .str s]) ["cell", s]
  | tick : Pr1 P (.tup [.str "tick"]) ["tick"]
  | call (s : Str) (ks : List W) (uss : List (List Str)) (h : Tm.NameOk s) (hk : ks.length ≤ 2) (r : PrR P ks uss) : Pr1 P (.tup [.str "call", .str s, .tup ks]) ("call" :: s :: dg ks.length :: uss.flatten)
  | op (h : Str) (ks : List W) (uss : List (List Str)) (ho : opOk h ks.length) (r : PrR P ks uss) : Pr1 P (.tup (.str h :: ks)) (h :: uss.flatten)
def Pr : Nat → W → List Str → Prop
  | 0 => fun _ _ => False
  | d + 1 => Pr1 (Pr d)
section
variable {P : W → List Str → Prop}
theorem PrR.len : ∀ {ks : List W} {uss : List (List Str)}, PrR P ks uss → ks.length = uss.length
  | _, _, .nil => rfl
  | _, _, .cons _ r => by rw [List.length_cons, List.length_cons, r.len]
theorem PrR.get : ∀ {ks : List W} {uss : List (List Str)} {i : Nat} {k : W}, PrR P ks uss → ks[i]? = some k → ∃ us, uss[i]? = some us ∧ P k us
  | _, _, _, _, .nil, e => by simp at e
  | _, _, 0, _, .cons a r, e => by simp at e; subst e; exact ⟨_, rfl, a⟩
  | _, _, i + 1, k, .cons a r, e => by
    obtain ⟨us, h1, h2⟩ := r.get (i := i) (k := k) (by simpa using e)
    exact ⟨us, by simpa using h1, h2⟩
theorem PrR.mem : ∀ {ks : List W} {uss : List (List Str)} {k : W}, PrR P ks uss → k ∈ ks → ∃ us, P k us
  | _, _, _, .nil, h => by simp at h
  | _, _, _, .cons a r, h => by
    rcases List.mem_cons.mp h with rfl | h
    · exact ⟨_, a⟩
    · exact r.mem h
end
theorem opOk_so {h : Str} {n : Nat} (o : opOk h n) : PyData.strOk h = true := by
  rcases o with ⟨e, _⟩ | ⟨rfl, _⟩
  · exact Tm.so_h e
  · exact so_if
theorem opOk_le {h : Str} {n : Nat} (o : opOk h n) : n ≤ 3 := by
  rcases o with ⟨_, rfl⟩ | ⟨_, rfl⟩ <;> decide
/-- what words are like -/
structure WOk (x : Str) : Prop where
  nb : 32 ∉ x.cps.toList
  len : x.length ≤ 8
theorem wok_of {x : Str} (h : ((x.cps.toList.all fun c => c != 32) && decide (x.length ≤ 8)) = true) : WOk x := by
  rw [Bool.and_eq_true, decide_eq_true_eq] at h
  refine ⟨fun m => ?_, h.2⟩
  have := List.all_eq_true.mp h.1 32 m
  simp at this
theorem wok_dg : ∀ n, WOk (dg n)
  | 0 => wok_of (by decide +kernel)
  | 1 => wok_of (by decide +kernel)
  | _ + 2 => wok_of (by show ((("2" : Str).cps.toList.all fun c => c != 32) && decide (("2" : Str).length ≤ 8)) = true; decide +kernel)
theorem wok_name {s : Str} (h : Tm.NameOk s) : WOk s := by
  refine ⟨fun m => ?_, h.len⟩
  have := h.nm
  unfold nameB at this
  rw [Bool.and_eq_true] at this
  have h2 := List.all_eq_true.mp this.2 32 m
  rw [show strIn ⟨#[32]⟩ letters = false from by decide +kernel] at h2
  cases h2
theorem wok_op {h : Str} {n : Nat} (o : opOk h n) : WOk h := by
  rcases o with ⟨rfl | rfl | rfl, _⟩ | ⟨rfl, _⟩ <;> exact wok_of (by decide +kernel)
def BB : Nat → Nat
  | 0 => 0
  | d + 1 => 27 + 3 * BB d
theorem BB_mono {a b : Nat} (h : a ≤ b) : BB a ≤ BB b := by
  induction h with
  | refl => exact Nat.le_refl _
  | step _ ih => rename_i m _; exact Nat.le_trans ih (by show BB m ≤ 27 + 3 * BB m; omega)
theorem BB8 {d : Nat} (h : d ≤ 8) : BB d ≤ 88560 := Nat.le_trans (BB_mono h) (by decide)
structure UOk (d : Nat) (us : List Str) : Prop where
  ne : us ≠ []
  ok : ∀ x ∈ us, WOk x
  sz : wsz us ≤ BB d
theorem uok_flat {d : Nat} : ∀ {ks : List W} {uss : List (List Str)}, (∀ k us, Pr d k us → UOk d us) → PrR (Pr d) ks uss → (∀ us ∈ uss, us ≠ []) ∧ (∀ x ∈ uss.flatten, WOk x) ∧ wsz uss.flatten ≤ ks.length * BB d
  | _, _, _, .nil => ⟨by simp, by simp, by simp [wsz]⟩
  | _, _, ih, .cons (us := us) (uss := uss) a r => by
    obtain ⟨h1, h2, h3⟩ := uok_flat ih r
    have := ih _ _ a
    refine ⟨fun v hv => ?_, fun x hx => ?_, ?_⟩
    · rcases List.mem_cons.mp hv with rfl | hv
      · exact this.ne
      · exact h1 v hv
    · rw [List.flatten_cons] at hx
      rcases List.mem_append.mp hx with hx | hx
      · exact this.ok x hx
      · exact h2 x hx
    · rw [List.flatten_cons, wsz_append, List.length_cons, Nat.add_mul]
      have := this.sz
      omega
theorem wsz_ok {us : List Str} (h : ∀ x ∈ us, WOk x) : wsz us ≤ 9 * us.length := by
  induction us with
  | nil => exact Nat.le_refl _
  | cons x r ih =>
    rw [wsz_cons, List.length_cons]
    have := (h x (by simp)).len
    have := ih fun y hy => h y (List.mem_cons_of_mem _ hy)
    omega
theorem Pr.uok : ∀ {d : Nat} {w : W} {us : List Str}, Pr d w us → UOk d us
  | 0, _, _, h => h.elim
  | d + 1, w, us, h => by
    have two : ∀ {a b : Str}, WOk a → WOk b → UOk (d + 1) [a, b] := fun {a b} ha hb => by
      refine ⟨by simp, fun x hx => ?_, ?_⟩
      · simp only [List.mem_cons, List.mem_nil_iff, or_false] at hx
        rcases hx with rfl | rfl
        · exact ha
        · exact hb
      · have := ha.len; have := hb.len
        rw [wsz_cons, wsz_cons, wsz_nil]; unfold BB; omega
    have one : ∀ {a : Str}, WOk a → UOk (d + 1) [a] := fun {a} ha => by
      refine ⟨by simp, fun x hx => ?_, ?_⟩
      · simp only [List.mem_cons, List.mem_nil_iff, or_false] at hx
        rw [hx]; exact ha
      · have := ha.len
        rw [wsz_cons, wsz_nil]; unfold BB; omega
    cases h with
    | val i h => exact one (wok_dg i)
    | arg i h => exact two (wok_of (by decide +kernel)) (wok_dg i)
    | cell s h => exact two (wok_of (by decide +kernel)) (wok_name h)
    | tick => exact one (wok_of (by decide +kernel))
    | call s ks uss h hk r =>
      obtain ⟨h1, h2, h3⟩ := uok_flat (fun k us => Pr.uok) r
      have w1 : WOk "call" := wok_of (by decide +kernel)
      refine ⟨by simp, fun x hx => ?_, ?_⟩
      · simp only [List.mem_cons] at hx
        rcases hx with rfl | rfl | rfl | hx
        · exact w1
        · exact wok_name h
        · exact wok_dg _
        · exact h2 x hx
      · have := w1.len; have := (wok_name h).len; have := (wok_dg ks.length).len
        have : ks.length * BB d ≤ 2 * BB d := Nat.mul_le_mul_right _ hk
        rw [wsz_cons, wsz_cons, wsz_cons]; unfold BB; omega
    | op h ks uss ho r =>
      obtain ⟨h1, h2, h3⟩ := uok_flat (fun k us => Pr.uok) r
      refine ⟨by simp, fun x hx => ?_, ?_⟩
      · rcases List.mem_cons.mp hx with rfl | hx
        · exact wok_op ho
        · exact h2 x hx
      · have := (wok_op ho).len
        have : ks.length * BB d ≤ 3 * BB d := Nat.mul_le_mul_right _ (opOk_le ho)
        rw [wsz_cons]; unfold BB; omega
/-! ### rules -/
theorem ev_star {f : Ex} {g : ExL} {env : Env} {L : LH} {Q : List W → LH → Prop} : Ev (cStar f g env L) Q = Ev (f env L) fun a L1 => match seqW a L1 with | some ws => Ev (g env L1) fun as L2 => Q (ws ++ as) L2 | none => False := by
  unfold cStar
  simp only [ev_bind]
  congr; funext a L1
  cases seqW a L1 with
  | none => rfl
  | some ws => simp only [ev_bind, ev_ok]
theorem join_at {L : LH} {n : Nat} {ys : List Str} {Q : W → LH → Prop} (h : L[n]? = some (.lst (ys.map .str))) (hz : wsz ys ≤ 16777216) : EvO (oJoin (.str " ") [.ref n] L) Q = Q (.str (jn ys)) L := by
  have e : seqW (.ref n) L = some (ys.map .str) := seqL_at h
  simp only [oJoin, e, strsW_map]
  rw [blank_eq, wsz_eq, if_pos hz]
  rfl
theorem addL_at {L : LH} {n m : Nat} {xs ys : List W} {Q : W → LH → Prop} (h : L[n]? = some (.lst xs)) (hm : L[m]? = some (.lst ys)) (hz : xs.length + ys.length ≤ 16777216) : EvO (oAdd (.ref n) (.ref m) L) Q = Q (.ref L.length) (L ++ [.lst (xs ++ ys)]) := by
  simp only [oAdd, h, hm, if_pos hz, evo_some]
theorem str_dg {i : Nat} {L : LH} (h : i ≤ 2) : oStr [.int i] L = some (.str (dg i), L) := by
  match i, h with
  | 0, _ => simp only [oStr]; rw [if_pos (by decide)]; congr 3
  | 1, _ => simp only [oStr]; rw [if_pos (by decide)]; congr 3
  | 2, _ => simp only [oStr]; rw [if_pos (by decide)]; congr 3
theorem in_strs {L : LH} {n : Nat} {a : Str} {ws : List Str} (h : L[n]? = some (.lst (ws.map .str))) : oInD (.str a) (.ref n) L = some (.bl (ws.any fun y => y == a), L) := by
  rw [in_lst (neg := false) h rfl (by rw [List.all_map, List.all_eq_true]; intro _ _; rfl)]
  congr 3
  rw [List.any_map]
  rfl
/-- a comprehension whose parts are told one by one -/
theorem lc_each {S : Src} {j : Nat} {e : Ex} {env : Env} {L1 : LH} {ws vs : List W} (hS : SrcIs S L1 ws) (hl : ws.length ≤ 16777216) (hv : ws.length = vs.length)
    (he : ∀ (i : Nat) (w : W), ws[i]? = some w → ∀ L, L1 <+: L → Ev (e (env.set j (some w)) L) fun y L' => vs[i]? = some y ∧ L <+: L') :
    Ev (lcLoop S (.one j) bYes e env (S.len + 1) 0 L1 []) fun acc L' => acc = vs ∧ L1 <+: L' := by
  refine lc_inv (P := fun i L acc => acc = vs.take i ∧ L1 <+: L) (n := ws.length) (fun i L acc hi p => ?_) (fun L acc p => ?_) S.len 0 L1 [] (by rw [hS.1]; omega) ⟨by simp, List.prefix_refl _⟩
  · obtain ⟨rfl, pr⟩ := p
    have e1 : ws[i]? = some ws[i] := List.getElem?_eq_getElem hi
    refine ⟨ws[i], by rw [hS.2 L pr i, e1], env.set j (some ws[i]), rfl, ?_⟩
    rw [ev_bYes]
    simp only [if_true]
    refine (he i _ e1 L pr).mono fun y L' h => ?_
    obtain ⟨hy, pr'⟩ := h
    refine ⟨?_, ?_, pr.trans pr'⟩
    · rw [List.length_take]; omega
    · rw [List.take_succ, hy]; rfl
  · obtain ⟨rfl, pr⟩ := p
    refine ⟨?_, ?_, pr⟩
    · rw [hS.2 L pr, List.getElem?_eq_none (Nat.le_refl _)]
    · rw [hv, List.take_length]
def TxS (self : Fn) (d : Nat) : Prop := ∀ (w : W) (us : List Str) (L : LH), Pr d w us → Ev (self [w] L) fun v L' => v = .str (jn us) ∧ L <+: L'
theorem tx_parts {self : Fn} {d : Nat} (h : TxS self d) {S : Src} {env : Env} {L1 : LH} {ks : List W} {uss : List (List Str)} (hS : SrcIs S L1 ks) (r : PrR (Pr d) ks uss) (hk : ks.length ≤ 3) (h1 : env.length = 2) :
    Ev (lcLoop S (.one 1) bYes (cCall self [] (cCons (cVar 1) cNil)) env (S.len + 1) 0 L1 []) fun acc L' => acc = (uss.map jn).map .str ∧ L1 <+: L' := by
  refine lc_each hS (by omega) (by rw [List.length_map, List.length_map]; exact r.len) fun i w e L pr => ?_
  obtain ⟨us, e1, p⟩ := r.get e
  have g1 : (env.set 1 (some w))[1]? = some (some w) := List.getElem?_set_self (by omega)
  simp only [wipeE, ev_ok, ev_bind, ev_only, ev_ofO, ev_ofOB, ev_ite, evs_ite, evo_some, evs_toS, evs_seq, ev_C, ev_var, ev_op2, ev_op1, ev_opL, ev_nil, ev_cons, ev_call, ev_bVal, ev_bTru, ev_bNot, ev_bAnd, ev_bOr, ev_bYes, ev_cIf, ev_cNot, ev_cAnd, ev_cOr, ev_chain, ev_part_none, ev_part_some, ev_sl, ev_mth, evs_skip, evs_set, evs_ret, evs_expr, evs_if, evs_par, evs_as, ev_gN, ev_gsNil, ev_gsCons, ev_gTup, ev_gIx, evs_aug, ev_defF, evs_for, ev_rng1, ev_iSeq, ev_lc, o_addI, o_subI, o_addS, o_addT, o_mulI, o_modI, o_divI, o_powI, o_cmpI, o_intI, o_intB, o_absI, o_lst, o_tup, bl_bl, List.map_cons, List.map_nil, List.cons_append, List.nil_append, List.append_nil, List.getElem?_cons_zero, List.getElem?_cons_succ, List.set_cons_zero, List.set_cons_succ, List.length_cons, List.length_nil, List.replicate, Nat.reduceAdd, Nat.reduceSub, Nat.reduceLeDiff, true_and, and_true, if_true, decide_eq_true_eq, Nat.zero_add, g1]
  refine (h w us L p).mono fun v L' q => ?_
  obtain ⟨rfl, pr'⟩ := q
  exact ⟨by rw [List.getElem?_map, List.getElem?_map, e1]; rfl, pr'⟩
theorem ty_tup {ws : List W} {L : LH} : tyName (.tup ws) L = some "tuple" := rfl
theorem ty_int {i : Int} {L : LH} : tyName (.int i) L = some "int" := rfl
theorem k_tt : kitB "tuple" "tuple" = some true := rfl
theorem k_it : kitB "int" "tuple" = some false := rfl
theorem jn_two {a b : Str} : jn [a, b] = a ++ blank ++ b := by rw [jn_eq]; rfl
theorem jn_one {a : Str} : jn [a] = a := by rw [jn_eq]; rfl
theorem opOk_ne {h : Str} {n : Nat} (o : opOk h n) : h ≠ "arg" ∧ h ≠ "cell" ∧ h ≠ "call" ∧ h ≠ "tick" := by
  rcases o with ⟨rfl | rfl | rfl, _⟩ | ⟨rfl, _⟩ <;> decide +kernel
theorem flat_sz {d : Nat} {ks : List W} {uss : List (List Str)} (hd : d ≤ 8) (r : PrR (Pr d) ks uss) (hk : ks.length ≤ 3) : wsz (uss.map jn) ≤ 300000 ∧ ∀ us ∈ uss, us ≠ [] := by
  obtain ⟨h1, h2, h3⟩ := uok_flat (fun k us => Pr.uok) r
  refine ⟨?_, h1⟩
  have hb := BB8 hd
  have key : ∀ (l : List (List Str)), wsz (l.map jn) ≤ wsz l.flatten + l.length := by
    intro l
    induction l with
    | nil => exact Nat.le_refl _
    | cons us r ih =>
      rw [List.map_cons, wsz_cons, List.flatten_cons, wsz_append, List.length_cons]
      have := jn_len us
      omega
  have := key uss
  have : ks.length * BB d ≤ 3 * BB d := Nat.mul_le_mul_right _ hk
  have := r.len
  omega
theorem in_ac {a : Str} {L : LH} : oInD (W.str a) (W.ref L.length) (L ++ [LO.lst [W.str "arg", W.str "cell"]]) = some (.bl (("arg" : Str) == a || (("cell" : Str) == a || false)), L ++ [LO.lst [W.str "arg", W.str "cell"]]) :=
  in_strs (ws := ["arg", "cell"]) at_last
theorem eq_ss {a b : Str} {L : LH} (ha : PyData.strOk a = true) (hb : PyData.strOk b = true) : oEq (.str a) (.str b) L = some (.bl (a == b), L) := by
  simp only [oEq, eqX_ss ha hb, oB, Option.map]
theorem bt {a : Str} : (a == a) = true := beq_self_eq_true a
theorem bf {a b : Str} (h : a ≠ b) : (a == b) = false := beq_eq_false_iff_ne.mpr h
theorem b_ca : (("cell" : Str) == ("arg" : Str)) = false := by decide +kernel
theorem b_ac : (("arg" : Str) == ("cell" : Str)) = false := by decide +kernel
theorem b_at : (("arg" : Str) == ("tick" : Str)) = false := by decide +kernel
theorem b_ct : (("cell" : Str) == ("tick" : Str)) = false := by decide +kernel
theorem b_tc : (("tick" : Str) == ("call" : Str)) = false := by decide +kernel
theorem b_al : (("arg" : Str) == ("call" : Str)) = false := by decide +kernel
theorem b_cl : (("cell" : Str) == ("call" : Str)) = false := by decide +kernel
theorem isStr_s {x : Str} {L : LH} : isStr (.str x) L = true := rfl
theorem sl_tail {x : W} {r : List W} {L : LH} : oSl (.tup (x :: r)) (some 1) none L = some (.tup r, L) := by
  simp only [oSl, cutW_tail]
theorem src_tup' {ws : List W} {L : LH} : srcOf (.tup ws) L = some ⟨ws.length, fun _ i => some ws[i]?⟩ := rfl
theorem len_tup {ws : List W} {L : LH} : oLen [.tup ws] L = some (.int ws.length, L) := oLen_eq rfl
theorem tx_step {self : Fn} {d : Nat} (hd : d ≤ 8) (h : TxS self d) : TxS (f_law_term_text self) (d + 1) := fun w us L p => by
  cases p with
  | val i hi =>
    simp only [f_law_term_text, wipeE, ev_ok, ev_bind, ev_only, ev_ofO, ev_ofOB, ev_ite, evs_ite, evo_some, evs_toS, evs_seq, ev_C, ev_var, ev_op2, ev_op1, ev_opL, ev_nil, ev_cons, ev_call, ev_bVal, ev_bTru, ev_bNot, ev_bAnd, ev_bOr, ev_bYes, ev_cIf, ev_cNot, ev_cAnd, ev_cOr, ev_chain, ev_part_none, ev_part_some, ev_sl, ev_mth, evs_skip, evs_set, evs_ret, evs_expr, evs_if, evs_par, evs_as, ev_gN, ev_gsNil, ev_gsCons, ev_gTup, ev_gIx, evs_aug, ev_defF, evs_for, ev_rng1, ev_iSeq, ev_lc, o_addI, o_subI, o_addS, o_addT, o_mulI, o_modI, o_divI, o_powI, o_cmpI, o_intI, o_intB, o_absI, o_lst, o_tup, bl_bl, List.map_cons, List.map_nil, List.cons_append, List.nil_append, List.append_nil, List.getElem?_cons_zero, List.getElem?_cons_succ, List.set_cons_zero, List.set_cons_succ, List.length_cons, List.length_nil, List.replicate, Nat.reduceAdd, Nat.reduceSub, Nat.reduceLeDiff, true_and, and_true, if_true, decide_eq_true_eq, Nat.zero_add, isi_of ty_int, k_it, truW, Bool.not_false, str_dg hi]
    exact ⟨by rw [jn_one], List.prefix_refl _⟩
  | arg i hi =>
    simp only [f_law_term_text, wipeE, ev_ok, ev_bind, ev_only, ev_ofO, ev_ofOB, ev_ite, evs_ite, evo_some, evs_toS, evs_seq, ev_C, ev_var, ev_op2, ev_op1, ev_opL, ev_nil, ev_cons, ev_call, ev_bVal, ev_bTru, ev_bNot, ev_bAnd, ev_bOr, ev_bYes, ev_cIf, ev_cNot, ev_cAnd, ev_cOr, ev_chain, ev_part_none, ev_part_some, ev_sl, ev_mth, evs_skip, evs_set, evs_ret, evs_expr, evs_if, evs_par, evs_as, ev_gN, ev_gsNil, ev_gsCons, ev_gTup, ev_gIx, evs_aug, ev_defF, evs_for, ev_rng1, ev_iSeq, ev_lc, o_addI, o_subI, o_addS, o_addT, o_mulI, o_modI, o_divI, o_powI, o_cmpI, o_intI, o_intB, o_absI, o_lst, o_tup, bl_bl, List.map_cons, List.map_nil, List.cons_append, List.nil_append, List.append_nil, List.getElem?_cons_zero, List.getElem?_cons_succ, List.set_cons_zero, List.set_cons_succ, List.length_cons, List.length_nil, List.replicate, Nat.reduceAdd, Nat.reduceSub, Nat.reduceLeDiff, true_and, and_true, if_true, decide_eq_true_eq, Nat.zero_add, isi_of ty_tup, k_tt, truW, List.isEmpty, Bool.not_true, Bool.not_false, Bool.false_eq_true, if_false, ix_tup0, in_ac, bt, Bool.true_or, ix_tup1, str_dg (Nat.le_trans hi (by decide : 1 ≤ 2))]
    refine ⟨by decide +kernel, ?_, ?_, pre_last⟩
    · have := (wok_dg i).len
      rw [len_append]
      have : ("arg" : Str).length = 3 := by decide +kernel
      have : (" " : Str).length = 1 := by decide +kernel
      omega
    · rw [jn_two, blank_eq]
  | cell s hs =>
    have ho : ∀ L, oStr [.str s] L = some (.str s, L) := fun _ => rfl
    simp only [f_law_term_text, wipeE, ev_ok, ev_bind, ev_only, ev_ofO, ev_ofOB, ev_ite, evs_ite, evo_some, evs_toS, evs_seq, ev_C, ev_var, ev_op2, ev_op1, ev_opL, ev_nil, ev_cons, ev_call, ev_bVal, ev_bTru, ev_bNot, ev_bAnd, ev_bOr, ev_bYes, ev_cIf, ev_cNot, ev_cAnd, ev_cOr, ev_chain, ev_part_none, ev_part_some, ev_sl, ev_mth, evs_skip, evs_set, evs_ret, evs_expr, evs_if, evs_par, evs_as, ev_gN, ev_gsNil, ev_gsCons, ev_gTup, ev_gIx, evs_aug, ev_defF, evs_for, ev_rng1, ev_iSeq, ev_lc, o_addI, o_subI, o_addS, o_addT, o_mulI, o_modI, o_divI, o_powI, o_cmpI, o_intI, o_intB, o_absI, o_lst, o_tup, bl_bl, List.map_cons, List.map_nil, List.cons_append, List.nil_append, List.append_nil, List.getElem?_cons_zero, List.getElem?_cons_succ, List.set_cons_zero, List.set_cons_succ, List.length_cons, List.length_nil, List.replicate, Nat.reduceAdd, Nat.reduceSub, Nat.reduceLeDiff, true_and, and_true, if_true, decide_eq_true_eq, Nat.zero_add, isi_of ty_tup, k_tt, truW, List.isEmpty, Bool.not_true, Bool.not_false, Bool.false_eq_true, if_false, ix_tup0, in_ac, bt, Bool.true_or, Bool.or_true, ix_tup1, ho]
    refine ⟨by decide +kernel, ?_, ?_, pre_last⟩
    · have := hs.len
      rw [len_append]
      have : ("cell" : Str).length = 4 := by decide +kernel
      have : (" " : Str).length = 1 := by decide +kernel
      omega
    · rw [jn_two, blank_eq]
  | tick =>
    simp only [f_law_term_text, wipeE, ev_ok, ev_bind, ev_only, ev_ofO, ev_ofOB, ev_ite, evs_ite, evo_some, evs_toS, evs_seq, ev_C, ev_var, ev_op2, ev_op1, ev_opL, ev_nil, ev_cons, ev_call, ev_bVal, ev_bTru, ev_bNot, ev_bAnd, ev_bOr, ev_bYes, ev_cIf, ev_cNot, ev_cAnd, ev_cOr, ev_chain, ev_part_none, ev_part_some, ev_sl, ev_mth, evs_skip, evs_set, evs_ret, evs_expr, evs_if, evs_par, evs_as, ev_gN, ev_gsNil, ev_gsCons, ev_gTup, ev_gIx, evs_aug, ev_defF, evs_for, ev_rng1, ev_iSeq, ev_lc, o_addI, o_subI, o_addS, o_addT, o_mulI, o_modI, o_divI, o_powI, o_cmpI, o_intI, o_intB, o_absI, o_lst, o_tup, bl_bl, List.map_cons, List.map_nil, List.cons_append, List.nil_append, List.append_nil, List.getElem?_cons_zero, List.getElem?_cons_succ, List.set_cons_zero, List.set_cons_succ, List.length_cons, List.length_nil, List.replicate, Nat.reduceAdd, Nat.reduceSub, Nat.reduceLeDiff, true_and, and_true, if_true, decide_eq_true_eq, Nat.zero_add, isi_of ty_tup, k_tt, truW, List.isEmpty, Bool.not_true, Bool.not_false, Bool.false_eq_true, if_false, ix_tup0, in_ac, b_at, b_ct, Bool.or_false, eq_ss so_tick so_call, b_tc, isStr_s, sl_tail, src_tup']
    refine (tx_parts (uss := []) h (srcIs_tup (ws := [])) .nil (by decide) rfl).mono fun acc L' q => ?_
    obtain ⟨rfl, pr⟩ := q
    have e1 : ∀ o, (L' ++ [o])[(L ++ [LO.lst [W.str "arg", W.str "cell"]]).length]? = some (LO.lst [W.str "tick"]) := fun o => pre_at (pr.trans pre_last) at_last
    rw [addL_at (e1 _) at_last (by decide)]
    have e2 : [W.str "tick"] ++ (([] : List (List Str)).map jn).map .str = (["tick"] : List Str).map .str := rfl
    rw [e2, join_at at_last (by decide +kernel)]
    exact ⟨rfl, (((pre_last.trans pre_last).trans pr).trans pre_last).trans pre_last⟩
  | call s ks uss hs hk r =>
    have ho : ∀ L, oStr [.str s] L = some (.str s, L) := fun _ => rfl
    simp only [f_law_term_text, wipeE, ev_ok, ev_bind, ev_only, ev_ofO, ev_ofOB, ev_ite, evs_ite, evo_some, evs_toS, evs_seq, ev_C, ev_var, ev_op2, ev_op1, ev_opL, ev_nil, ev_cons, ev_call, ev_bVal, ev_bTru, ev_bNot, ev_bAnd, ev_bOr, ev_bYes, ev_cIf, ev_cNot, ev_cAnd, ev_cOr, ev_chain, ev_part_none, ev_part_some, ev_sl, ev_mth, evs_skip, evs_set, evs_ret, evs_expr, evs_if, evs_par, evs_as, ev_gN, ev_gsNil, ev_gsCons, ev_gTup, ev_gIx, evs_aug, ev_defF, evs_for, ev_rng1, ev_iSeq, ev_lc, o_addI, o_subI, o_addS, o_addT, o_mulI, o_modI, o_divI, o_powI, o_cmpI, o_intI, o_intB, o_absI, o_lst, o_tup, bl_bl, List.map_cons, List.map_nil, List.cons_append, List.nil_append, List.append_nil, List.getElem?_cons_zero, List.getElem?_cons_succ, List.set_cons_zero, List.set_cons_succ, List.length_cons, List.length_nil, List.replicate, Nat.reduceAdd, Nat.reduceSub, Nat.reduceLeDiff, true_and, and_true, if_true, decide_eq_true_eq, Nat.zero_add, isi_of ty_tup, k_tt, truW, List.isEmpty, Bool.not_true, Bool.not_false, Bool.false_eq_true, if_false, ix_tup0, in_ac, b_al, b_cl, Bool.or_false, eq_ss so_call so_call, bt, isStr_s, ix_tup1, ix_tup2, len_tup, str_dg hk, src_tup']
    refine (tx_parts h (srcIs_tup (ws := ks)) r (by omega) rfl).mono fun acc L' q => ?_
    obtain ⟨rfl, pr⟩ := q
    obtain ⟨hz, hne⟩ := flat_sz hd r (by omega)
    have hl := r.len
    have e1 : ∀ o, (L' ++ [o])[(L ++ [LO.lst [W.str "arg", W.str "cell"]]).length]? = some (LO.lst [W.str "call", W.str s, W.str (dg ks.length)]) := fun o => pre_at (pr.trans pre_last) at_last
    rw [addL_at (e1 _) at_last (by simp; omega)]
    have e2 : [W.str "call", W.str s, W.str (dg ks.length)] ++ (uss.map jn).map .str = (("call" : Str) :: s :: dg ks.length :: uss.map jn).map .str := rfl
    have w1 : WOk "call" := wok_of (by decide +kernel)
    have := w1.len; have := hs.len; have := (wok_dg ks.length).len
    rw [e2, join_at at_last (by rw [wsz_cons, wsz_cons, wsz_cons]; omega), jn_flat2 hne]
    exact ⟨rfl, (((pre_last.trans pre_last).trans pr).trans pre_last).trans pre_last⟩
  | op hh ks uss ho r =>
    obtain ⟨n1, n2, n3, n4⟩ := opOk_ne ho
    have hk := opOk_le ho
    simp only [f_law_term_text, wipeE, ev_ok, ev_bind, ev_only, ev_ofO, ev_ofOB, ev_ite, evs_ite, evo_some, evs_toS, evs_seq, ev_C, ev_var, ev_op2, ev_op1, ev_opL, ev_nil, ev_cons, ev_call, ev_bVal, ev_bTru, ev_bNot, ev_bAnd, ev_bOr, ev_bYes, ev_cIf, ev_cNot, ev_cAnd, ev_cOr, ev_chain, ev_part_none, ev_part_some, ev_sl, ev_mth, evs_skip, evs_set, evs_ret, evs_expr, evs_if, evs_par, evs_as, ev_gN, ev_gsNil, ev_gsCons, ev_gTup, ev_gIx, evs_aug, ev_defF, evs_for, ev_rng1, ev_iSeq, ev_lc, o_addI, o_subI, o_addS, o_addT, o_mulI, o_modI, o_divI, o_powI, o_cmpI, o_intI, o_intB, o_absI, o_lst, o_tup, bl_bl, List.map_cons, List.map_nil, List.cons_append, List.nil_append, List.append_nil, List.getElem?_cons_zero, List.getElem?_cons_succ, List.set_cons_zero, List.set_cons_succ, List.length_cons, List.length_nil, List.replicate, Nat.reduceAdd, Nat.reduceSub, Nat.reduceLeDiff, true_and, and_true, if_true, decide_eq_true_eq, Nat.zero_add, isi_of ty_tup, k_tt, truW, List.isEmpty, Bool.not_true, Bool.not_false, Bool.false_eq_true, if_false, ix_tup0, in_ac, bf n1.symm, bf n2.symm, Bool.or_false, eq_ss (opOk_so ho) so_call, bf n3, isStr_s, sl_tail, src_tup']
    refine (tx_parts h (srcIs_tup (ws := ks)) r hk rfl).mono fun acc L' q => ?_
    obtain ⟨rfl, pr⟩ := q
    obtain ⟨hz, hne⟩ := flat_sz hd r hk
    have hl := r.len
    have e1 : ∀ o, (L' ++ [o])[(L ++ [LO.lst [W.str "arg", W.str "cell"]]).length]? = some (LO.lst [W.str hh]) := fun o => pre_at (pr.trans pre_last) at_last
    rw [addL_at (e1 _) at_last (by simp; omega)]
    have e2 : [W.str hh] ++ (uss.map jn).map .str = (hh :: uss.map jn).map .str := rfl
    have := (wok_op ho).len
    rw [e2, join_at at_last (by rw [wsz_cons]; omega), jn_flat hne]
    exact ⟨rfl, (((pre_last.trans pre_last).trans pr).trans pre_last).trans pre_last⟩
theorem tx_base (self : Fn) : TxS self 0 := fun w us L p => p.elim
end Z

/-! TC: write_term. -/
namespace Z
open PySem PySem.Spec PyProof.Rows L2
def isPair (s : Str) : Bool := decide (s = "plus" ∨ s = "less" ∨ s = "same")
theorem in_pairs {s : Str} {L : LH} : oInD (.str s) (.tup [.str "plus", .str "less", .str "same"]) L = some (.bl (isPair s), L) := by
  show some (W.bl ((("plus" : Str) == s) || ((("less" : Str) == s) || ((("same" : Str) == s) || false))), L) = _
  have c : ∀ a : Str, (a == s) = decide (s = a) := fun a => by rw [Bool.eq_iff_iff, beq_iff_eq, decide_eq_true_eq]; exact eq_comm
  unfold isPair
  rw [c, c, c, Bool.or_false, Bool.decide_or, Bool.decide_or]
theorem ip_arg : isPair "arg" = false := by decide +kernel
theorem ip_cell : isPair "cell" = false := by decide +kernel
theorem ip_tick : isPair "tick" = false := by decide +kernel
theorem ip_if : isPair "if" = false := by decide +kernel
theorem b_ai : (("arg" : Str) == ("if" : Str)) = false := by decide +kernel
theorem b_ci : (("cell" : Str) == ("if" : Str)) = false := by decide +kernel
theorem b_ti : (("tick" : Str) == ("if" : Str)) = false := by decide +kernel
theorem opOk_pair {h : Str} {n : Nat} (o : opOk h n) : isPair h = true ∨ (isPair h = false ∧ h = "if") := by
  rcases o with ⟨e, _⟩ | ⟨rfl, _⟩
  · exact .inl (by unfold isPair; exact decide_eq_true e)
  · exact .inr ⟨ip_if, rfl⟩
def WtS (self : Fn) (d : Nat) : Prop := TxS self d
/-- each part as a text -/
theorem lc_strs {env : Env} {L1 : LH} {ks : List W} {us : List Str} {S : Src} (hS : SrcIs S L1 ks) (hl : ks.length ≤ 100) (h1 : env.length = 2) (hv : ks.length = us.length) (h : ∀ (i : Nat) (w : W), ks[i]? = some w → ∃ u, us[i]? = some u ∧ ∀ L, oStr [w] L = some (.str u, L)) :
    Ev (lcLoop S (.one 1) bYes (cOpL oStr (cCons (cVar 1) cNil)) env (S.len + 1) 0 L1 []) fun acc L' => acc = us.map .str ∧ L1 <+: L' := by
  refine lc_each hS (by omega) (by rw [List.length_map]; exact hv) fun i w e L pr => ?_
  obtain ⟨u, e1, e2⟩ := h i w e
  have g1 : (env.set 1 (some w))[1]? = some (some w) := List.getElem?_set_self (by omega)
  simp only [wipeE, ev_ok, ev_bind, ev_only, ev_ofO, ev_ofOB, ev_ite, evs_ite, evo_some, evs_toS, evs_seq, ev_C, ev_var, ev_op2, ev_op1, ev_opL, ev_nil, ev_cons, ev_call, ev_bVal, ev_bTru, ev_bNot, ev_bAnd, ev_bOr, ev_bYes, ev_cIf, ev_cNot, ev_cAnd, ev_cOr, ev_chain, ev_part_none, ev_part_some, ev_sl, ev_mth, evs_skip, evs_set, evs_ret, evs_expr, evs_if, evs_par, evs_as, ev_gN, ev_gsNil, ev_gsCons, ev_gTup, ev_gIx, evs_aug, ev_defF, evs_for, ev_rng1, ev_iSeq, ev_lc, o_addI, o_subI, o_addS, o_addT, o_mulI, o_modI, o_divI, o_powI, o_cmpI, o_intI, o_intB, o_absI, o_lst, o_tup, bl_bl, List.map_cons, List.map_nil, List.cons_append, List.nil_append, List.append_nil, List.getElem?_cons_zero, List.getElem?_cons_succ, List.set_cons_zero, List.set_cons_succ, List.length_cons, List.length_nil, List.replicate, Nat.reduceAdd, Nat.reduceSub, Nat.reduceLeDiff, true_and, and_true, if_true, decide_eq_true_eq, Nat.zero_add, g1, e2]
  exact ⟨by rw [List.getElem?_map, e1]; rfl, List.prefix_refl _⟩
theorem ostr_s {x : Str} {L : LH} : oStr [.str x] L = some (.str x, L) := rfl
theorem wt_step {self : Fn} {d : Nat} (hd : d ≤ 8) (h : TxS self d) : TxS (f_write_term self) (d + 1) := fun w us L p => by
  cases p with
  | val i hi =>
    simp only [f_write_term, wipeE, ev_ok, ev_bind, ev_only, ev_ofO, ev_ofOB, ev_ite, evs_ite, evo_some, evs_toS, evs_seq, ev_C, ev_var, ev_op2, ev_op1, ev_opL, ev_nil, ev_cons, ev_call, ev_bVal, ev_bTru, ev_bNot, ev_bAnd, ev_bOr, ev_bYes, ev_cIf, ev_cNot, ev_cAnd, ev_cOr, ev_chain, ev_part_none, ev_part_some, ev_sl, ev_mth, evs_skip, evs_set, evs_ret, evs_expr, evs_if, evs_par, evs_as, ev_gN, ev_gsNil, ev_gsCons, ev_gTup, ev_gIx, evs_aug, ev_defF, evs_for, ev_rng1, ev_iSeq, ev_lc, o_addI, o_subI, o_addS, o_addT, o_mulI, o_modI, o_divI, o_powI, o_cmpI, o_intI, o_intB, o_absI, o_lst, o_tup, bl_bl, List.map_cons, List.map_nil, List.cons_append, List.nil_append, List.append_nil, List.getElem?_cons_zero, List.getElem?_cons_succ, List.set_cons_zero, List.set_cons_succ, List.length_cons, List.length_nil, List.replicate, Nat.reduceAdd, Nat.reduceSub, Nat.reduceLeDiff, true_and, and_true, if_true, decide_eq_true_eq, Nat.zero_add, isi_of ty_int, k_it, truW, Bool.not_false, str_dg hi]
    exact ⟨by rw [jn_one], List.prefix_refl _⟩
  | arg i hi =>
    simp only [f_write_term, wipeE, ev_ok, ev_bind, ev_only, ev_ofO, ev_ofOB, ev_ite, evs_ite, evo_some, evs_toS, evs_seq, ev_C, ev_var, ev_op2, ev_op1, ev_opL, ev_nil, ev_cons, ev_call, ev_bVal, ev_bTru, ev_bNot, ev_bAnd, ev_bOr, ev_bYes, ev_cIf, ev_cNot, ev_cAnd, ev_cOr, ev_chain, ev_part_none, ev_part_some, ev_sl, ev_mth, evs_skip, evs_set, evs_ret, evs_expr, evs_if, evs_par, evs_as, ev_gN, ev_gsNil, ev_gsCons, ev_gTup, ev_gIx, evs_aug, ev_defF, evs_for, ev_rng1, ev_iSeq, ev_lc, o_addI, o_subI, o_addS, o_addT, o_mulI, o_modI, o_divI, o_powI, o_cmpI, o_intI, o_intB, o_absI, o_lst, o_tup, bl_bl, List.map_cons, List.map_nil, List.cons_append, List.nil_append, List.append_nil, List.getElem?_cons_zero, List.getElem?_cons_succ, List.set_cons_zero, List.set_cons_succ, List.length_cons, List.length_nil, List.replicate, Nat.reduceAdd, Nat.reduceSub, Nat.reduceLeDiff, true_and, and_true, if_true, decide_eq_true_eq, Nat.zero_add, isi_of ty_tup, k_tt, truW, List.isEmpty, Bool.not_true, Bool.not_false, Bool.false_eq_true, if_false, ix_tup0, eq_ss so_arg so_call, b_al, in_pairs, ip_arg, eq_ss so_arg so_if, b_ai, isStr_s, src_tup']
    refine (lc_strs (us := ["arg", dg i]) (srcIs_tup (ws := [W.str "arg", W.int i])) (by simp) rfl rfl fun j w e => ?_).mono fun acc L' q => ?_
    · match j, e with
      | 0, e => cases e; exact ⟨_, rfl, fun _ => ostr_s⟩
      | 1, e => cases e; exact ⟨_, rfl, fun _ => str_dg (Nat.le_trans hi (by decide))⟩
      | _ + 2, e => simp at e
    · obtain ⟨rfl, pr⟩ := q
      have := (wok_dg i).len
      rw [join_at at_last (by rw [wsz_cons, wsz_cons, wsz_nil]; have : ("arg" : Str).length = 3 := by decide +kernel
                              omega)]
      exact ⟨rfl, pr.trans pre_last⟩
  | cell s hs =>
    simp only [f_write_term, wipeE, ev_ok, ev_bind, ev_only, ev_ofO, ev_ofOB, ev_ite, evs_ite, evo_some, evs_toS, evs_seq, ev_C, ev_var, ev_op2, ev_op1, ev_opL, ev_nil, ev_cons, ev_call, ev_bVal, ev_bTru, ev_bNot, ev_bAnd, ev_bOr, ev_bYes, ev_cIf, ev_cNot, ev_cAnd, ev_cOr, ev_chain, ev_part_none, ev_part_some, ev_sl, ev_mth, evs_skip, evs_set, evs_ret, evs_expr, evs_if, evs_par, evs_as, ev_gN, ev_gsNil, ev_gsCons, ev_gTup, ev_gIx, evs_aug, ev_defF, evs_for, ev_rng1, ev_iSeq, ev_lc, o_addI, o_subI, o_addS, o_addT, o_mulI, o_modI, o_divI, o_powI, o_cmpI, o_intI, o_intB, o_absI, o_lst, o_tup, bl_bl, List.map_cons, List.map_nil, List.cons_append, List.nil_append, List.append_nil, List.getElem?_cons_zero, List.getElem?_cons_succ, List.set_cons_zero, List.set_cons_succ, List.length_cons, List.length_nil, List.replicate, Nat.reduceAdd, Nat.reduceSub, Nat.reduceLeDiff, true_and, and_true, if_true, decide_eq_true_eq, Nat.zero_add, isi_of ty_tup, k_tt, truW, List.isEmpty, Bool.not_true, Bool.not_false, Bool.false_eq_true, if_false, ix_tup0, eq_ss so_cell so_call, b_cl, in_pairs, ip_cell, eq_ss so_cell so_if, b_ci, isStr_s, src_tup']
    refine (lc_strs (us := ["cell", s]) (srcIs_tup (ws := [W.str "cell", W.str s])) (by simp) rfl rfl fun j w e => ?_).mono fun acc L' q => ?_
    · match j, e with
      | 0, e => cases e; exact ⟨_, rfl, fun _ => ostr_s⟩
      | 1, e => cases e; exact ⟨_, rfl, fun _ => ostr_s⟩
      | _ + 2, e => simp at e
    · obtain ⟨rfl, pr⟩ := q
      have := hs.len
      rw [join_at at_last (by rw [wsz_cons, wsz_cons, wsz_nil]; have : ("cell" : Str).length = 4 := by decide +kernel
                              omega)]
      exact ⟨rfl, pr.trans pre_last⟩
  | tick =>
    simp only [f_write_term, wipeE, ev_ok, ev_bind, ev_only, ev_ofO, ev_ofOB, ev_ite, evs_ite, evo_some, evs_toS, evs_seq, ev_C, ev_var, ev_op2, ev_op1, ev_opL, ev_nil, ev_cons, ev_call, ev_bVal, ev_bTru, ev_bNot, ev_bAnd, ev_bOr, ev_bYes, ev_cIf, ev_cNot, ev_cAnd, ev_cOr, ev_chain, ev_part_none, ev_part_some, ev_sl, ev_mth, evs_skip, evs_set, evs_ret, evs_expr, evs_if, evs_par, evs_as, ev_gN, ev_gsNil, ev_gsCons, ev_gTup, ev_gIx, evs_aug, ev_defF, evs_for, ev_rng1, ev_iSeq, ev_lc, o_addI, o_subI, o_addS, o_addT, o_mulI, o_modI, o_divI, o_powI, o_cmpI, o_intI, o_intB, o_absI, o_lst, o_tup, bl_bl, List.map_cons, List.map_nil, List.cons_append, List.nil_append, List.append_nil, List.getElem?_cons_zero, List.getElem?_cons_succ, List.set_cons_zero, List.set_cons_succ, List.length_cons, List.length_nil, List.replicate, Nat.reduceAdd, Nat.reduceSub, Nat.reduceLeDiff, true_and, and_true, if_true, decide_eq_true_eq, Nat.zero_add, isi_of ty_tup, k_tt, truW, List.isEmpty, Bool.not_true, Bool.not_false, Bool.false_eq_true, if_false, ix_tup0, eq_ss so_tick so_call, b_tc, in_pairs, ip_tick, eq_ss so_tick so_if, b_ti, isStr_s, src_tup']
    refine (lc_strs (us := ["tick"]) (srcIs_tup (ws := [W.str "tick"])) (by decide) rfl rfl fun j w e => ?_).mono fun acc L' q => ?_
    · match j, e with
      | 0, e => cases e; exact ⟨_, rfl, fun _ => ostr_s⟩
      | _ + 1, e => simp at e
    · obtain ⟨rfl, pr⟩ := q
      rw [join_at at_last (by decide +kernel)]
      exact ⟨rfl, pr.trans pre_last⟩
  | call s ks uss hs hk r =>
    simp only [f_write_term, wipeE, ev_ok, ev_bind, ev_only, ev_ofO, ev_ofOB, ev_ite, evs_ite, evo_some, evs_toS, evs_seq, ev_C, ev_var, ev_op2, ev_op1, ev_opL, ev_nil, ev_cons, ev_call, ev_bVal, ev_bTru, ev_bNot, ev_bAnd, ev_bOr, ev_bYes, ev_cIf, ev_cNot, ev_cAnd, ev_cOr, ev_chain, ev_part_none, ev_part_some, ev_sl, ev_mth, evs_skip, evs_set, evs_ret, evs_expr, evs_if, evs_par, evs_as, ev_gN, ev_gsNil, ev_gsCons, ev_gTup, ev_gIx, evs_aug, ev_defF, evs_for, ev_rng1, ev_iSeq, ev_lc, o_addI, o_subI, o_addS, o_addT, o_mulI, o_modI, o_divI, o_powI, o_cmpI, o_intI, o_intB, o_absI, o_lst, o_tup, bl_bl, List.map_cons, List.map_nil, List.cons_append, List.nil_append, List.append_nil, List.getElem?_cons_zero, List.getElem?_cons_succ, List.set_cons_zero, List.set_cons_succ, List.length_cons, List.length_nil, List.replicate, Nat.reduceAdd, Nat.reduceSub, Nat.reduceLeDiff, true_and, and_true, if_true, decide_eq_true_eq, Nat.zero_add, isi_of ty_tup, k_tt, truW, List.isEmpty, Bool.not_true, Bool.not_false, Bool.false_eq_true, if_false, ix_tup0, eq_ss so_call so_call, bt, isStr_s, ix_tup1, ix_tup2, len_tup, str_dg hk, src_tup', ev_star]
    refine (tx_parts h (srcIs_tup (ws := ks)) r (by omega) rfl).mono fun acc L' q => ?_
    obtain ⟨rfl, pr⟩ := q
    obtain ⟨hz, hne⟩ := flat_sz hd r (by omega)
    have hl := r.len
    have w1 : WOk "call" := wok_of (by decide +kernel)
    have := w1.len; have := hs.len; have := (wok_dg ks.length).len
    simp only [seq_at at_last, wipeE, ev_ok, ev_bind, ev_only, ev_ofO, ev_ofOB, ev_ite, evs_ite, evo_some, evs_toS, evs_seq, ev_C, ev_var, ev_op2, ev_op1, ev_opL, ev_nil, ev_cons, ev_call, ev_bVal, ev_bTru, ev_bNot, ev_bAnd, ev_bOr, ev_bYes, ev_cIf, ev_cNot, ev_cAnd, ev_cOr, ev_chain, ev_part_none, ev_part_some, ev_sl, ev_mth, evs_skip, evs_set, evs_ret, evs_expr, evs_if, evs_par, evs_as, ev_gN, ev_gsNil, ev_gsCons, ev_gTup, ev_gIx, evs_aug, ev_defF, evs_for, ev_rng1, ev_iSeq, ev_lc, o_addI, o_subI, o_addS, o_addT, o_mulI, o_modI, o_divI, o_powI, o_cmpI, o_intI, o_intB, o_absI, o_lst, o_tup, bl_bl, List.map_cons, List.map_nil, List.cons_append, List.nil_append, List.append_nil, List.getElem?_cons_zero, List.getElem?_cons_succ, List.set_cons_zero, List.set_cons_succ, List.length_cons, List.length_nil, List.replicate, Nat.reduceAdd, Nat.reduceSub, Nat.reduceLeDiff, true_and, and_true, if_true, decide_eq_true_eq, Nat.zero_add]
    have e2 : [W.str "call", W.str s, W.str (dg ks.length)] ++ (uss.map jn).map .str = (("call" : Str) :: s :: dg ks.length :: uss.map jn).map .str := rfl
    refine ⟨by simp; omega, ?_⟩
    have := join_at (L := (L' ++ [LO.lst ((uss.map jn).map .str)]) ++ [LO.lst ((("call" : Str) :: s :: dg ks.length :: uss.map jn).map .str)]) (ys := ("call" : Str) :: s :: dg ks.length :: uss.map jn) (Q := fun v L'' => v = .str (jn ("call" :: s :: dg ks.length :: uss.flatten)) ∧ L <+: L'') at_last (by rw [wsz_cons, wsz_cons, wsz_cons]; omega)
    refine this.mpr ⟨by rw [jn_flat2 hne], (pr.trans pre_last).trans pre_last⟩
  | op hh ks uss ho r =>
    obtain ⟨n1, n2, n3, n4⟩ := opOk_ne ho
    have hk := opOk_le ho
    obtain ⟨hz, hne⟩ := flat_sz hd r hk
    have hl := r.len
    have hw := (wok_op ho).len
    have fin : ∀ (L1 : LH), L <+: L1 → Ev (lcLoop ⟨ks.length, fun _ i => some ks[i]?⟩ (.one 1) bYes (cCall self [] (cCons (cVar 1) cNil)) [some (W.tup (W.str hh :: ks)), none] (ks.length + 1) 0 L1 []) fun acc L2 =>
        match seqW (W.ref L2.length) (L2 ++ [LO.lst acc]) with
        | some ws => (ws.length + 1 ≤ 16777216) ∧ EvO (oJoin (W.str " ") [W.ref (L2 ++ [LO.lst acc]).length] (L2 ++ [LO.lst acc] ++ [LO.lst (W.str hh :: ws)])) fun v L'' => v = .str (jn (hh :: uss.flatten)) ∧ L <+: L''
        | none => False := fun L1 p1 => by
      refine (tx_parts h (srcIs_tup (ws := ks)) r hk rfl).mono fun acc L' q => ?_
      obtain ⟨rfl, pr⟩ := q
      simp only [seq_at at_last]
      refine ⟨by simp; omega, ?_⟩
      have := join_at (L := (L' ++ [LO.lst ((uss.map jn).map .str)]) ++ [LO.lst ((hh :: uss.map jn).map .str)]) (ys := hh :: uss.map jn) (Q := fun v L'' => v = .str (jn (hh :: uss.flatten)) ∧ L <+: L'') at_last (by rw [wsz_cons]; omega)
      exact this.mpr ⟨by rw [jn_flat hne], ((p1.trans pr).trans pre_last).trans pre_last⟩
    simp only [f_write_term, wipeE, ev_ok, ev_bind, ev_only, ev_ofO, ev_ofOB, ev_ite, evs_ite, evo_some, evs_toS, evs_seq, ev_C, ev_var, ev_op2, ev_op1, ev_opL, ev_nil, ev_cons, ev_call, ev_bVal, ev_bTru, ev_bNot, ev_bAnd, ev_bOr, ev_bYes, ev_cIf, ev_cNot, ev_cAnd, ev_cOr, ev_chain, ev_part_none, ev_part_some, ev_sl, ev_mth, evs_skip, evs_set, evs_ret, evs_expr, evs_if, evs_par, evs_as, ev_gN, ev_gsNil, ev_gsCons, ev_gTup, ev_gIx, evs_aug, ev_defF, evs_for, ev_rng1, ev_iSeq, ev_lc, o_addI, o_subI, o_addS, o_addT, o_mulI, o_modI, o_divI, o_powI, o_cmpI, o_intI, o_intB, o_absI, o_lst, o_tup, bl_bl, List.map_cons, List.map_nil, List.cons_append, List.nil_append, List.append_nil, List.getElem?_cons_zero, List.getElem?_cons_succ, List.set_cons_zero, List.set_cons_succ, List.length_cons, List.length_nil, List.replicate, Nat.reduceAdd, Nat.reduceSub, Nat.reduceLeDiff, true_and, and_true, if_true, decide_eq_true_eq, Nat.zero_add, isi_of ty_tup, k_tt, truW, List.isEmpty, Bool.not_true, Bool.not_false, Bool.false_eq_true, if_false, ix_tup0, eq_ss (opOk_so ho) so_call, bf n3, in_pairs, isStr_s, sl_tail, src_tup', ev_star]
    rcases opOk_pair ho with e | ⟨e, e2⟩
    · simp only [e, if_true]
      refine (fin L (List.prefix_refl _)).mono fun acc L' q => ?_
      simp only [seq_at at_last] at q ⊢
      exact ⟨by omega, q.2⟩
    · subst e2
      simp only [ip_if, Bool.false_eq_true, if_false, ix_tup0, wipeE, ev_ok, ev_bind, ev_only, ev_ofO, ev_ofOB, ev_ite, evs_ite, evo_some, evs_toS, evs_seq, ev_C, ev_var, ev_op2, ev_op1, ev_opL, ev_nil, ev_cons, ev_call, ev_bVal, ev_bTru, ev_bNot, ev_bAnd, ev_bOr, ev_bYes, ev_cIf, ev_cNot, ev_cAnd, ev_cOr, ev_chain, ev_part_none, ev_part_some, ev_sl, ev_mth, evs_skip, evs_set, evs_ret, evs_expr, evs_if, evs_par, evs_as, ev_gN, ev_gsNil, ev_gsCons, ev_gTup, ev_gIx, evs_aug, ev_defF, evs_for, ev_rng1, ev_iSeq, ev_lc, o_addI, o_subI, o_addS, o_addT, o_mulI, o_modI, o_divI, o_powI, o_cmpI, o_intI, o_intB, o_absI, o_lst, o_tup, bl_bl, List.map_cons, List.map_nil, List.cons_append, List.nil_append, List.append_nil, List.getElem?_cons_zero, List.getElem?_cons_succ, List.set_cons_zero, List.set_cons_succ, List.length_cons, List.length_nil, List.replicate, Nat.reduceAdd, Nat.reduceSub, Nat.reduceLeDiff, true_and, and_true, if_true, decide_eq_true_eq, Nat.zero_add, eq_ss so_if so_if, bt]
      refine (fin L (List.prefix_refl _)).mono fun acc L' q => ?_
      simp only [seq_at at_last] at q ⊢
      exact ⟨by omega, q.2⟩
end Z

/-! TD: the object Words. -/
namespace Z
open PySem PySem.Spec PyProof.Rows L2
/-! ### rules of fields and methods -/
section
variable {env : Env} {L : LH} {Q : W → LH → Prop} {N : Env → LH → Prop} {R : W → LH → Prop}
theorem insW_at {n c : Nat} {fs : List (Str × W)} (h : L[n]? = some (.ins c fs)) : insW (.ref n) L = some (n, c, fs) := by
  simp only [insW, h]
theorem evs_fldP {cs : List Nat} {f : Str} {o v : Ex} : EvS (sFldP cs f o v env L) N R = Ev (v env L) fun w L1 => Ev (o env L1) fun a L2 => match oPutF cs f a w L2 with | some L3 => N env L3 | none => False := by
  unfold sFldP
  simp only [evs_toS]
  congr; funext w L1; congr; funext a L2
  cases oPutF cs f a w L2 <;> rfl
theorem ev_meth {tbl : List (Nat × (Fn × List W))} {m : Str} {fo : Ex} {fs : ExL} : Ev (cMeth tbl m fo fs env L) Q = Ev (fo env L) fun a L1 => match insW a L1 with
    | some (_, c, fl) => (match tbl.lookup c with
      | some (g, dws) => (fl.lookup m).isNone = true ∧ Ev (fs env L1) fun as Lb => Ev (g (a :: (as ++ dws)) Lb) Q
      | none => False)
    | none => False := by
  unfold cMeth
  simp only [ev_bind]
  congr; funext a L1
  cases insW a L1 with
  | none => rfl
  | some z =>
    obtain ⟨n, c, fl⟩ := z
    simp only
    cases tbl.lookup c with
    | none => rfl
    | some gd =>
      obtain ⟨g, dws⟩ := gd
      simp only
      split
      · rename_i h; simp only [h, true_and, ev_bind]
      · rename_i h; simp [h, Ev]
end
/-! ### the state of Words -/
def wfl (m : Nat) (b : Bool) : List (Str × W) := [("left", .ref m), ("is_bad", .bl b)]
structure WSt (L : LH) (n m : Nat) (ws : List Str) (bad : Bool) : Prop where
  o : L[n]? = some (.ins 0 (wfl m bad))
  l : L[m]? = some (.lst ((ws.map W.str).reverse))
theorem WSt.ne {L : LH} {n m : Nat} {ws : List Str} {bad : Bool} (s : WSt L n m ws bad) : n ≠ m := by
  rintro rfl
  have := s.o.symm.trans s.l
  cases this
/-- but for both objects all stands -/
structure But2 (n m : Nat) (L L' : LH) : Prop where
  len : L.length ≤ L'.length
  old : ∀ i o, i ≠ n → i ≠ m → L[i]? = some o → L'[i]? = some o
theorem But2.refl {n m : Nat} {L : LH} : But2 n m L L := ⟨Nat.le_refl _, fun _ _ _ _ h => h⟩
theorem But2.trans {n m : Nat} {L L1 L2 : LH} (a : But2 n m L L1) (b : But2 n m L1 L2) : But2 n m L L2 := ⟨Nat.le_trans a.len b.len, fun i o h1 h2 e => b.old i o h1 h2 (a.old i o h1 h2 e)⟩
theorem But2.pre {n m : Nat} {L L1 : LH} (p : L <+: L1) : But2 n m L L1 := ⟨p.length_le, fun i o _ _ e => pre_at p e⟩
theorem WSt.mono {L L1 : LH} {n m : Nat} {ws : List Str} {bad : Bool} (s : WSt L n m ws bad) (p : L <+: L1) : WSt L1 n m ws bad := ⟨pre_at p s.o, pre_at p s.l⟩
theorem fl_left {m : Nat} {b : Bool} : (wfl m b).lookup ("left" : Str) = some (.ref m) := by
  unfold wfl
  rw [List.lookup_cons, show (("left" : Str) == ("left" : Str)) = true from by decide +kernel]
theorem fl_bad {m : Nat} {b : Bool} : (wfl m b).lookup ("is_bad" : Str) = some (.bl b) := by
  unfold wfl
  rw [List.lookup_cons, show (("is_bad" : Str) == ("left" : Str)) = false from by decide +kernel]
  simp only
  rw [List.lookup_cons, show (("is_bad" : Str) == ("is_bad" : Str)) = true from by decide +kernel]
theorem fl_no {m : Nat} {b : Bool} {x : Str} (h1 : (x == ("left" : Str)) = false) (h2 : (x == ("is_bad" : Str)) = false) : ((wfl m b).lookup x).isNone = true := by
  unfold wfl
  rw [List.lookup_cons, h1]
  simp only
  rw [List.lookup_cons, h2]
  rfl
section
variable {env : Env} {L : LH} {Q : W → LH → Prop} {n m : Nat} {ws : List Str} {bad : Bool}
theorem left_at (s : WSt L n m ws bad) : EvO (oFld [0] "left" (.ref n) L) Q = Q (.ref m) L := by
  simp only [oFld, insW_at s.o, fl_left]
  rfl
theorem bad_at (s : WSt L n m ws bad) : EvO (oFld [0] "is_bad" (.ref n) L) Q = Q (.bl bad) L := by
  simp only [oFld, insW_at s.o, fl_bad]
  rfl
/-- is_bad := True -/
theorem setbad_at (s : WSt L n m ws bad) : ∃ L', oPutF [0] "is_bad" (.ref n) (.bl true) L = some L' ∧ WSt L' n m ws true ∧ But2 n m L L' := by
  have hn : n < L.length := (List.getElem?_eq_some_iff.mp s.o).1
  refine ⟨L.set n (.ins 0 (wfl m true)), ?_, ⟨List.getElem?_set_self hn, by rw [List.getElem?_set_ne s.ne]; exact s.l⟩, ⟨by rw [List.length_set]; exact Nat.le_refl _, fun i o h1 _ e => by rw [List.getElem?_set_ne h1.symm]; exact e⟩⟩
  have e : putFW "is_bad" (.bl true) (wfl m bad) = wfl m true := by
    unfold wfl
    unfold putFW
    rw [if_neg (by decide +kernel)]
    unfold putFW
    rw [if_pos rfl]
  simp only [oPutF, insW_at s.o, e]
  rfl
theorem set_bad (s : WSt L n m ws bad) {P : LH → Prop} (h : ∀ L', WSt L' n m ws true → But2 n m L L' → P L') : (match oPutF [0] "is_bad" (.ref n) (.bl true) L with | some L3 => P L3 | none => False) := by
  obtain ⟨L', e, s', b⟩ := setbad_at s
  rw [e]
  exact h L' s' b
theorem pull_ok (s : WSt L n m ws bad) : Ev (f_Words_pull [.ref n] L) fun v L' => v = .str (ws.headD "") ∧ WSt L' n m ws.tail (bad || ws.isEmpty) ∧ But2 n m L L' := by
  have s1 : WSt (L ++ [LO.lst []]) n m ws bad := s.mono pre_last
  simp only [f_Words_pull, wipeE, ev_ok, ev_bind, ev_only, ev_ofO, ev_ofOB, ev_ite, evs_ite, evo_some, evs_toS, evs_seq, ev_C, ev_var, ev_op2, ev_op1, ev_opL, ev_nil, ev_cons, ev_call, ev_bVal, ev_bTru, ev_bNot, ev_bAnd, ev_bOr, ev_bYes, ev_cIf, ev_cNot, ev_cAnd, ev_cOr, ev_chain, ev_part_none, ev_part_some, ev_sl, ev_mth, evs_skip, evs_set, evs_ret, evs_expr, evs_if, evs_par, evs_as, ev_gN, ev_gsNil, ev_gsCons, ev_gTup, ev_gIx, evs_aug, ev_defF, evs_for, ev_rng1, ev_iSeq, ev_lc, o_addI, o_subI, o_addS, o_addT, o_mulI, o_modI, o_divI, o_powI, o_cmpI, o_intI, o_intB, o_absI, o_lst, o_tup, bl_bl, List.map_cons, List.map_nil, List.cons_append, List.nil_append, List.append_nil, List.getElem?_cons_zero, List.getElem?_cons_succ, List.set_cons_zero, List.set_cons_succ, List.length_cons, List.length_nil, List.replicate, Nat.reduceAdd, Nat.reduceSub, Nat.reduceLeDiff, true_and, and_true, if_true, decide_eq_true_eq, Nat.zero_add, evs_fldP, left_at s]
  rw [eq_nil2 s1.l at_last, evo_some]
  simp only [blW]
  cases ws with
  | nil =>
    simp only [List.map_nil, List.reverse_nil, List.isEmpty, if_true]
    refine set_bad s1 fun L' s' b => ?_
    refine ⟨rfl, ?_, (But2.pre pre_last).trans b⟩
    rw [Bool.or_true]; exact s'
  | cons x r =>
    have e1 : (((x :: r).map W.str).reverse).isEmpty = false := by simp
    simp only [e1, Bool.false_eq_true, if_false, left_at s1]
    have hm : m < (L ++ [LO.lst []]).length := (List.getElem?_eq_some_iff.mp s1.l).1
    have hl := s1.l
    rw [List.map_cons, List.reverse_cons] at hl
    have hi : isLst (.ref m) (L ++ [LO.lst []]) = true := by simp only [isLst, hl]
    refine ⟨hi, ?_⟩
    simp only [oPop, hl]
    rw [show ((r.map W.str).reverse ++ [W.str x])[((r.map W.str).reverse ++ [W.str x]).length - 1]? = some (W.str x) from by simp]
    simp only [evo_some]
    refine ⟨rfl, ⟨?_, ?_⟩, ⟨by rw [List.length_set, List.length_append]; omega, fun i o h1 h2 e => by rw [List.getElem?_set_ne h2.symm]; exact pre_at pre_last e⟩⟩
    · rw [List.getElem?_set_ne s1.ne.symm]
      simp only [List.isEmpty, Bool.or_false]
      exact s1.o
    · rw [List.getElem?_set_self hm, List.dropLast_concat]; rfl
/-- words that can be compared -/
structure XOk (x : Str) : Prop where
  so : PyData.strOk x = true
  len : x.length ≤ 640
def fg (k : Nat) : Str := ⟨#[48 + k]⟩
theorem fg_int : (List.range 10).all (fun k => decide (PySem.intText? (fg k) = some (k : Int))) = true := by decide +kernel
theorem intText_fg {k : Nat} (h : k < 10) : PySem.intText? (fg k) = some (k : Int) := by
  have := List.all_eq_true.mp fg_int k (List.mem_range.mpr h)
  simpa using this
theorem int_fg {k : Nat} {L : LH} (h : k < 10) : oInt [.str (fg k)] L = some (.int k, L) := by
  simp only [oInt, intText_fg h]
  rw [if_pos (show (fg k).length ≤ 640 from by show 1 ≤ 640; decide)]
theorem dg_fg {k : Nat} (h : k ≤ 2) : dg k = fg k := by
  match k, h with
  | 0, _ => decide +kernel
  | 1, _ => decide +kernel
  | 2, _ => decide +kernel
theorem one_char {x : Str} (h : x.length = 1) : ∃ c, x = ⟨#[c]⟩ := by
  obtain ⟨⟨l⟩⟩ := x
  match l, h with
  | [c], _ => exact ⟨c, rfl⟩
theorem strIn_one (c : Nat) (j : Str) : strIn ⟨#[c]⟩ j = decide (c ∈ j.cps.toList) := StrLaws.found_one j c
theorem figs : ("0123456789" : Str).cps.toList = (List.range 10).map (48 + ·) := by decide +kernel
theorem vals3 : ("012" : Str).cps.toList = (List.range 3).map (48 + ·) := by decide +kernel
theorem fig_of {x : Str} (h : x.length = 1) (hi : strIn x "0123456789" = true) : ∃ k, k < 10 ∧ x = fg k := by
  obtain ⟨c, rfl⟩ := one_char h
  rw [strIn_one, figs, decide_eq_true_eq] at hi
  obtain ⟨k, hk, rfl⟩ := List.mem_map.mp hi
  exact ⟨k, List.mem_range.mp hk, rfl⟩
theorem fig_in {k : Nat} (h : k < 10) : strIn (fg k) "0123456789" = true := by
  show strIn ⟨#[48 + k]⟩ _ = true
  rw [strIn_one, figs, decide_eq_true_eq]
  exact List.mem_map.mpr ⟨k, List.mem_range.mpr h, rfl⟩
theorem val_of {x : Str} (h : x.length = 1) (hi : strIn x "012" = true) : ∃ k, k ≤ 2 ∧ x = fg k := by
  obtain ⟨c, rfl⟩ := one_char h
  rw [strIn_one, vals3, decide_eq_true_eq] at hi
  obtain ⟨k, hk, rfl⟩ := List.mem_map.mp hi
  exact ⟨k, by have := List.mem_range.mp hk; omega, rfl⟩
theorem val_in {k : Nat} (h : k ≤ 2) : strIn (fg k) "012" = true := by
  show strIn ⟨#[48 + k]⟩ _ = true
  rw [strIn_one, vals3, decide_eq_true_eq]
  exact List.mem_map.mpr ⟨k, List.mem_range.mpr (by omega), rfl⟩
theorem fg_inj {j k : Nat} (h : fg j = fg k) : j = k := by
  have := congrArg (fun x : Str => x.cps[0]?) h
  simp only [fg] at this
  simpa using this
theorem len_str {x : Str} {L : LH} (h : x.length ≤ 640) : oLen [.str x] L = some (.int x.length, L) := oLen_eq (by simp only [lenW]; rw [if_pos (by omega)])
theorem notIn_str {x j : Str} {L : LH} : oNotInD (.str x) (.str j) L = some (.bl (!strIn x j), L) := rfl
theorem ne_int {L : LH} {i j : Int} {Q : W → LH → Prop} : EvO (oNe (.int i) (.int j) L) Q = Q (.bl (!(i == j))) L := by
  simp only [oNe, eqX_ii, oB, Option.map]
  rfl
theorem headD_ok (h : ∀ x ∈ ws, XOk x) : XOk (ws.headD "") := by
  cases ws with
  | nil => exact ⟨by decide +kernel, by decide +kernel⟩
  | cons x r => exact h x List.mem_cons_self
/-- what pulling a figure leads to -/
def FigR (hi : Nat) (ws : List Str) (bad : Bool) (k : Nat) (b' : Bool) : Prop :=
  (b' = false ∧ bad = false ∧ ∃ r, ws = dg k :: r) ∨ (b' = true ∧ (bad = true ∨ ∀ k r, k ≤ hi → ws ≠ dg k :: r))
theorem pull_figure_ok {hi : Nat} (h2 : hi ≤ 2) (s : WSt L n m ws bad) (hw : ∀ x ∈ ws, XOk x) :
    Ev (f_Words_pull_figure f_Words_pull [.ref n, .int 0, .int hi] L) fun v L' => ∃ (k : Nat) (b' : Bool), v = .int k ∧ k ≤ hi ∧ WSt L' n m ws.tail b' ∧ But2 n m L L' ∧ FigR hi ws bad k b' := by
  have x1 := headD_ok hw
  have l1 := fl_no (m := m) (b := bad) (x := "pull") (by decide +kernel) (by decide +kernel)
  simp only [f_Words_pull_figure, wipeE, ev_ok, ev_bind, ev_only, ev_ofO, ev_ofOB, ev_ite, evs_ite, evo_some, evs_toS, evs_seq, ev_C, ev_var, ev_op2, ev_op1, ev_opL, ev_nil, ev_cons, ev_call, ev_bVal, ev_bTru, ev_bNot, ev_bAnd, ev_bOr, ev_bYes, ev_cIf, ev_cNot, ev_cAnd, ev_cOr, ev_chain, ev_part_none, ev_part_some, ev_sl, ev_mth, evs_skip, evs_set, evs_ret, evs_expr, evs_if, evs_par, evs_as, ev_gN, ev_gsNil, ev_gsCons, ev_gTup, ev_gIx, evs_aug, ev_defF, evs_for, ev_rng1, ev_iSeq, ev_lc, o_addI, o_subI, o_addS, o_addT, o_mulI, o_modI, o_divI, o_powI, o_cmpI, o_intI, o_intB, o_absI, o_lst, o_tup, bl_bl, List.map_cons, List.map_nil, List.cons_append, List.nil_append, List.append_nil, List.getElem?_cons_zero, List.getElem?_cons_succ, List.set_cons_zero, List.set_cons_succ, List.length_cons, List.length_nil, List.replicate, Nat.reduceAdd, Nat.reduceSub, Nat.reduceLeDiff, true_and, and_true, if_true, decide_eq_true_eq, Nat.zero_add, evs_fldP, ev_meth, insW_at s.o, List.lookup_cons, beq_self_eq_true, l1]
  refine (pull_ok s).mono fun v L1 q => ?_
  obtain ⟨rfl, s1, b1⟩ := q
  generalize hx : ws.headD "" = x at x1 ⊢
  simp only [wipeE, ev_ok, ev_bind, ev_only, ev_ofO, ev_ofOB, ev_ite, evs_ite, evo_some, evs_toS, evs_seq, ev_C, ev_var, ev_op2, ev_op1, ev_opL, ev_nil, ev_cons, ev_call, ev_bVal, ev_bTru, ev_bNot, ev_bAnd, ev_bOr, ev_bYes, ev_cIf, ev_cNot, ev_cAnd, ev_cOr, ev_chain, ev_part_none, ev_part_some, ev_sl, ev_mth, evs_skip, evs_set, evs_ret, evs_expr, evs_if, evs_par, evs_as, ev_gN, ev_gsNil, ev_gsCons, ev_gTup, ev_gIx, evs_aug, ev_defF, evs_for, ev_rng1, ev_iSeq, ev_lc, o_addI, o_subI, o_addS, o_addT, o_mulI, o_modI, o_divI, o_powI, o_cmpI, o_intI, o_intB, o_absI, o_lst, o_tup, bl_bl, List.map_cons, List.map_nil, List.cons_append, List.nil_append, List.append_nil, List.getElem?_cons_zero, List.getElem?_cons_succ, List.set_cons_zero, List.set_cons_succ, List.length_cons, List.length_nil, List.replicate, Nat.reduceAdd, Nat.reduceSub, Nat.reduceLeDiff, true_and, and_true, if_true, decide_eq_true_eq, Nat.zero_add, len_str x1.len, ne_int, notIn_str]
  -- the figure is right
  by_cases hk : ∃ k, k ≤ hi ∧ x = fg k
  · obtain ⟨k, hk, rfl⟩ := hk
    have e1 : ((((fg k).length : Nat) : Int) == 1) = true := rfl
    have le0 : decide ((0 : Int) ≤ (k : Int)) = true := decide_eq_true (by omega)
    have leh : decide ((k : Int) ≤ (hi : Int)) = true := decide_eq_true (by omega)
    simp only [e1, blW, Bool.not_true, Bool.false_eq_true, if_false, fig_in (show k < 10 by omega), int_fg (show k < 10 by omega), wipeE, ev_ok, ev_bind, ev_only, ev_ofO, ev_ofOB, ev_ite, evs_ite, evo_some, evs_toS, evs_seq, ev_C, ev_var, ev_op2, ev_op1, ev_opL, ev_nil, ev_cons, ev_call, ev_bVal, ev_bTru, ev_bNot, ev_bAnd, ev_bOr, ev_bYes, ev_cIf, ev_cNot, ev_cAnd, ev_cOr, ev_chain, ev_part_none, ev_part_some, ev_sl, ev_mth, evs_skip, evs_set, evs_ret, evs_expr, evs_if, evs_par, evs_as, ev_gN, ev_gsNil, ev_gsCons, ev_gTup, ev_gIx, evs_aug, ev_defF, evs_for, ev_rng1, ev_iSeq, ev_lc, o_addI, o_subI, o_addS, o_addT, o_mulI, o_modI, o_divI, o_powI, o_cmpI, o_intI, o_intB, o_absI, o_lst, o_tup, bl_bl, List.map_cons, List.map_nil, List.cons_append, List.nil_append, List.append_nil, List.getElem?_cons_zero, List.getElem?_cons_succ, List.set_cons_zero, List.set_cons_succ, List.length_cons, List.length_nil, List.replicate, Nat.reduceAdd, Nat.reduceSub, Nat.reduceLeDiff, true_and, and_true, if_true, decide_eq_true_eq, Nat.zero_add, oLe, le0, leh]
    refine ⟨k, _, rfl, hk, s1, b1, ?_⟩
    cases ws with
    | nil => exact absurd (congrArg Str.length hx) (by show ¬ (0 = 1); decide)
    | cons y r =>
      have hy : y = fg k := hx
      subst hy
      cases bad with
      | false => exact .inl ⟨rfl, rfl, r, by rw [dg_fg (by omega)]⟩
      | true => exact .inr ⟨rfl, .inl rfl⟩
  · have fin : ∀ {L2 : LH}, But2 n m L1 L2 → WSt L2 n m ws.tail true → ∃ (k : Nat) (b' : Bool), W.int 0 = .int k ∧ k ≤ hi ∧ WSt L2 n m ws.tail b' ∧ But2 n m L L2 ∧ FigR hi ws bad k b' := fun {L2} b2 s2 => by
      refine ⟨0, true, rfl, Nat.zero_le _, s2, b1.trans b2, .inr ⟨rfl, .inr fun k r hk' e => hk ⟨k, hk', ?_⟩⟩⟩
      rw [← hx, e, ← dg_fg (by omega)]; rfl
    by_cases hl : x.length = 1
    · have e1 : (((x.length : Nat) : Int) == 1) = true := by rw [hl]; rfl
      simp only [e1, blW, Bool.not_true, Bool.false_eq_true, if_false]
      cases hi2 : strIn x "0123456789" with
      | false =>
        simp only [Bool.not_false, if_true]
        exact set_bad s1 fun L2 s2 b2 => fin b2 s2
      | true =>
        obtain ⟨k, h10, rfl⟩ := fig_of hl hi2
        simp only [Bool.not_true, Bool.false_eq_true, if_false, int_fg h10, wipeE, ev_ok, ev_bind, ev_only, ev_ofO, ev_ofOB, ev_ite, evs_ite, evo_some, evs_toS, evs_seq, ev_C, ev_var, ev_op2, ev_op1, ev_opL, ev_nil, ev_cons, ev_call, ev_bVal, ev_bTru, ev_bNot, ev_bAnd, ev_bOr, ev_bYes, ev_cIf, ev_cNot, ev_cAnd, ev_cOr, ev_chain, ev_part_none, ev_part_some, ev_sl, ev_mth, evs_skip, evs_set, evs_ret, evs_expr, evs_if, evs_par, evs_as, ev_gN, ev_gsNil, ev_gsCons, ev_gTup, ev_gIx, evs_aug, ev_defF, evs_for, ev_rng1, ev_iSeq, ev_lc, o_addI, o_subI, o_addS, o_addT, o_mulI, o_modI, o_divI, o_powI, o_cmpI, o_intI, o_intB, o_absI, o_lst, o_tup, bl_bl, List.map_cons, List.map_nil, List.cons_append, List.nil_append, List.append_nil, List.getElem?_cons_zero, List.getElem?_cons_succ, List.set_cons_zero, List.set_cons_succ, List.length_cons, List.length_nil, List.replicate, Nat.reduceAdd, Nat.reduceSub, Nat.reduceLeDiff, true_and, and_true, if_true, decide_eq_true_eq, Nat.zero_add, oLe]
        have le0 : decide ((0 : Int) ≤ (k : Int)) = true := decide_eq_true (by omega)
        have leh : decide ((k : Int) ≤ (hi : Int)) = false := decide_eq_false (fun q => hk ⟨k, by omega, rfl⟩)
        simp only [le0, leh, if_true, Bool.not_false]
        exact set_bad s1 fun L2 s2 b2 => fin b2 s2
    · have e1 : (((x.length : Nat) : Int) == 1) = false := by rw [beq_eq_false_iff_ne]; omega
      simp only [e1, blW, Bool.not_false, if_true]
      exact set_bad s1 fun L2 s2 b2 => fin b2 s2
def NmR (ws : List Str) (bad : Bool) (x : Str) (b' : Bool) : Prop :=
  (b' = false ∧ bad = false ∧ nameB x = true ∧ ∃ r, ws = x :: r) ∨ (b' = true ∧ (bad = true ∨ ∀ y r, nameB y = true → ws ≠ y :: r))
theorem pull_name_ok (s : WSt L n m ws bad) (hw : ∀ x ∈ ws, XOk x) :
    Ev (f_Words_pull_name f_Words_pull f_is_name [.ref n] L) fun v L' => ∃ (x : Str) (b' : Bool), v = .str x ∧ XOk x ∧ WSt L' n m ws.tail b' ∧ But2 n m L L' ∧ NmR ws bad x b' := by
  have x1 := headD_ok hw
  have l1 := fl_no (m := m) (b := bad) (x := "pull") (by decide +kernel) (by decide +kernel)
  simp only [f_Words_pull_name, wipeE, ev_ok, ev_bind, ev_only, ev_ofO, ev_ofOB, ev_ite, evs_ite, evo_some, evs_toS, evs_seq, ev_C, ev_var, ev_op2, ev_op1, ev_opL, ev_nil, ev_cons, ev_call, ev_bVal, ev_bTru, ev_bNot, ev_bAnd, ev_bOr, ev_bYes, ev_cIf, ev_cNot, ev_cAnd, ev_cOr, ev_chain, ev_part_none, ev_part_some, ev_sl, ev_mth, evs_skip, evs_set, evs_ret, evs_expr, evs_if, evs_par, evs_as, ev_gN, ev_gsNil, ev_gsCons, ev_gTup, ev_gIx, evs_aug, ev_defF, evs_for, ev_rng1, ev_iSeq, ev_lc, o_addI, o_subI, o_addS, o_addT, o_mulI, o_modI, o_divI, o_powI, o_cmpI, o_intI, o_intB, o_absI, o_lst, o_tup, bl_bl, List.map_cons, List.map_nil, List.cons_append, List.nil_append, List.append_nil, List.getElem?_cons_zero, List.getElem?_cons_succ, List.set_cons_zero, List.set_cons_succ, List.length_cons, List.length_nil, List.replicate, Nat.reduceAdd, Nat.reduceSub, Nat.reduceLeDiff, true_and, and_true, if_true, decide_eq_true_eq, Nat.zero_add, evs_fldP, ev_meth, insW_at s.o, List.lookup_cons, beq_self_eq_true, l1]
  refine (pull_ok s).mono fun v L1 q => ?_
  obtain ⟨rfl, s1, b1⟩ := q
  refine (is_name_ok (by have := x1.len; omega)).mono fun v L2 q => ?_
  obtain ⟨rfl, p2⟩ := q
  have s2 := s1.mono p2
  have b2 := b1.trans (.pre p2)
  simp only [truW]
  cases hn : nameB (ws.headD "") with
  | true =>
    simp only [Bool.not_true, Bool.false_eq_true, if_false]
    refine ⟨_, _, rfl, x1, s2, b2, ?_⟩
    cases ws with
    | nil => exact absurd hn (by decide +kernel)
    | cons y r =>
      cases bad with
      | false => exact .inl ⟨rfl, rfl, hn, r, rfl⟩
      | true => exact .inr ⟨rfl, .inl rfl⟩
  | false =>
    simp only [Bool.not_false, if_true]
    refine set_bad s2 fun L3 s3 b3 => ⟨_, true, rfl, x1, s3, b2.trans b3, .inr ⟨rfl, .inr fun y r hy e => ?_⟩⟩
    rw [e] at hn
    rw [show (y :: r).headD "" = y from rfl, hy] at hn
    cases hn
end
end Z

/-! TE: pulled_term. -/
namespace Z
open PySem PySem.Spec PyProof.Rows L2
/-! ### what the first word tells -/
theorem dg_len (k : Nat) : (dg k).length = 1 := by
  match k with
  | 0 => decide +kernel
  | 1 => decide +kernel
  | _ + 2 => show ("2" : Str).length = 1; decide +kernel
theorem dg_inj {j k : Nat} (hj : j ≤ 2) (hk : k ≤ 2) (h : dg j = dg k) : j = k := by
  rw [dg_fg hj, dg_fg hk] at h
  exact fg_inj h
theorem op_len {h : Str} {n : Nat} (o : opOk h n) : h.length ≠ 1 := by
  rcases o with ⟨rfl | rfl | rfl, _⟩ | ⟨rfl, _⟩ <;> decide +kernel
def opH (x : Str) : Prop := x = "plus" ∨ x = "less" ∨ x = "same" ∨ x = "if"
theorem opOk_H {h : Str} {n : Nat} (o : opOk h n) : opH h := by
  rcases o with ⟨e, _⟩ | ⟨rfl, _⟩
  · exact e.elim .inl fun q => .inr (q.elim .inl fun q => .inr (.inl q))
  · exact .inr (.inr (.inr rfl))
theorem opH_no {x : Str} (h : opH x) : x ≠ "arg" ∧ x ≠ "cell" ∧ x ≠ "call" ∧ x ≠ "tick" ∧ x.length ≠ 1 := by
  rcases h with rfl | rfl | rfl | rfl <;> decide +kernel
section
variable {P : W → List Str → Prop} {w : W} {x : Str} {us : List Str}
theorem inv_op (h : Pr1 P w (x :: us)) (hx : opH x) : ∃ ks uss, w = .tup (.str x :: ks) ∧ us = uss.flatten ∧ opOk x ks.length ∧ PrR P ks uss := by
  obtain ⟨n1, n2, n3, n4, n5⟩ := opH_no hx
  generalize e : x :: us = l at h
  cases h with
  | val i h => cases e; exact absurd (dg_len i) n5
  | arg i h => cases e; exact absurd rfl n1
  | cell s h => cases e; exact absurd rfl n2
  | tick => cases e; exact absurd rfl n4
  | call s ks uss h hk r => cases e; exact absurd rfl n3
  | op hh ks uss ho r => cases e; exact ⟨ks, uss, rfl, rfl, ho, r⟩
theorem inv_call (h : Pr1 P w (x :: us)) (hx : x = "call") : ∃ s ks uss, w = .tup [.str "call", .str s, .tup ks] ∧ us = s :: dg ks.length :: uss.flatten ∧ Tm.NameOk s ∧ ks.length ≤ 2 ∧ PrR P ks uss := by
  subst hx
  generalize e : ("call" : Str) :: us = l at h
  cases h with
  | val i h => exact absurd (dg_len i) (by rw [← (List.cons.inj e).1]; decide +kernel)
  | arg i h => exact absurd (List.cons.inj e).1 (by decide +kernel)
  | cell s h => exact absurd (List.cons.inj e).1 (by decide +kernel)
  | tick => exact absurd (List.cons.inj e).1 (by decide +kernel)
  | call s ks uss h hk r => exact ⟨s, ks, uss, rfl, (List.cons.inj e).2, h, hk, r⟩
  | op hh ks uss ho r => exact absurd ((List.cons.inj e).1).symm (opOk_ne ho).2.2.1
theorem inv_arg (h : Pr1 P w (x :: us)) (hx : x = "arg") : ∃ i : Nat, i ≤ 1 ∧ w = .tup [.str "arg", .int i] ∧ us = [dg i] := by
  subst hx
  generalize e : ("arg" : Str) :: us = l at h
  cases h with
  | val i h => exact absurd (dg_len i) (by rw [← (List.cons.inj e).1]; decide +kernel)
  | arg i h => exact ⟨i, h, rfl, (List.cons.inj e).2⟩
  | cell s h => exact absurd (List.cons.inj e).1 (by decide +kernel)
  | tick => exact absurd (List.cons.inj e).1 (by decide +kernel)
  | call s ks uss h hk r => exact absurd (List.cons.inj e).1 (by decide +kernel)
  | op hh ks uss ho r => exact absurd ((List.cons.inj e).1).symm (opOk_ne ho).1
theorem inv_cell (h : Pr1 P w (x :: us)) (hx : x = "cell") : ∃ s : Str, Tm.NameOk s ∧ w = .tup [.str "cell", .str s] ∧ us = [s] := by
  subst hx
  generalize e : ("cell" : Str) :: us = l at h
  cases h with
  | val i h => exact absurd (dg_len i) (by rw [← (List.cons.inj e).1]; decide +kernel)
  | arg i h => exact absurd (List.cons.inj e).1 (by decide +kernel)
  | cell s h => exact ⟨s, h, rfl, (List.cons.inj e).2⟩
  | tick => exact absurd (List.cons.inj e).1 (by decide +kernel)
  | call s ks uss h hk r => exact absurd (List.cons.inj e).1 (by decide +kernel)
  | op hh ks uss ho r => exact absurd ((List.cons.inj e).1).symm (opOk_ne ho).2.1
theorem inv_tick (h : Pr1 P w (x :: us)) (hx : x = "tick") : w = .tup [.str "tick"] ∧ us = [] := by
  subst hx
  generalize e : ("tick" : Str) :: us = l at h
  cases h with
  | val i h => exact absurd (dg_len i) (by rw [← (List.cons.inj e).1]; decide +kernel)
  | arg i h => exact absurd (List.cons.inj e).1 (by decide +kernel)
  | cell s h => exact absurd (List.cons.inj e).1 (by decide +kernel)
  | tick => exact ⟨rfl, (List.cons.inj e).2⟩
  | call s ks uss h hk r => exact absurd (List.cons.inj e).1 (by decide +kernel)
  | op hh ks uss ho r => exact absurd ((List.cons.inj e).1).symm (opOk_ne ho).2.2.2
theorem inv_val (h : Pr1 P w (x :: us)) (h1 : ¬ opH x) (h2 : x ≠ "call") (h3 : x ≠ "arg") (h4 : x ≠ "cell") (h5 : x ≠ "tick") : ∃ i : Nat, i ≤ 2 ∧ w = .int i ∧ x = dg i ∧ us = [] := by
  generalize e : x :: us = l at h
  cases h with
  | val i h => exact ⟨i, h, rfl, (List.cons.inj e).1, (List.cons.inj e).2⟩
  | arg i h => exact absurd (List.cons.inj e).1 h3
  | cell s h => exact absurd (List.cons.inj e).1 h4
  | tick => exact absurd (List.cons.inj e).1 h5
  | call s ks uss h hk r => exact absurd (List.cons.inj e).1 h2
  | op hh ks uss ho r => exact absurd (by rw [(List.cons.inj e).1]; exact opOk_H ho) h1
theorem PrR.snoc {k : W} {us : List Str} (h : P k us) : ∀ {ks : List W} {uss : List (List Str)}, PrR P ks uss → PrR P (ks ++ [k]) (uss ++ [us])
  | _, _, .nil => .cons h .nil
  | _, _, .cons a r => .cons a (r.snoc h)
theorem PrR.unsnoc : ∀ {i : Nat} {l : List W} {uss : List (List Str)}, PrR P l uss → l.length = i + 1 → ∃ ks k uss' us, l = ks ++ [k] ∧ uss = uss' ++ [us] ∧ PrR P ks uss' ∧ P k us
  | 0, _, _, .cons (k := k) (us := us) a r, h => by
    cases r with
    | nil => exact ⟨[], k, [], us, rfl, rfl, .nil, a⟩
    | cons _ _ => simp at h
  | i + 1, _, _, .cons (k := k) (us := us) a r, h => by
    obtain ⟨ks, k', uss', us', rfl, rfl, r', p⟩ := r.unsnoc (i := i) (by simpa using h)
    exact ⟨k :: ks, k', us :: uss', us', rfl, rfl, .cons a r', p⟩
  | _, _, _, .nil, h => by simp at h
end
/-! ### the promise -/
def PtR (d : Nat) (n m : Nat) (ws : List Str) (bad : Bool) (L : LH) (v : W) (L' : LH) : Prop := ∃ (ws' : List Str) (b' : Bool), WSt L' n m ws' b' ∧ But2 n m L L' ∧ (∃ u0, ws = u0 ++ ws') ∧
  (b' = false → bad = false ∧ ∃ used, ws = used ++ ws' ∧ Pr d v used) ∧ (bad = false → ∀ w used rest, Pr d w used → ws = used ++ rest → b' = false ∧ v = w ∧ ws' = rest)
def PtS (self : Fn) (d : Nat) : Prop := ∀ (L : LH) (n m : Nat) (ws : List Str) (bad : Bool), WSt L n m ws bad → (∀ x ∈ ws, XOk x) → Ev (self [.ref n, .int d] L) fun v L' => PtR d n m ws bad L v L'
theorem xs_suf {ws u0 ws' : List Str} (h : ∀ x ∈ ws, XOk x) (e : ws = u0 ++ ws') : ∀ x ∈ ws', XOk x := fun x hx => h x (by rw [e]; exact List.mem_append_right _ hx)
theorem xs_tail {ws : List Str} (h : ∀ x ∈ ws, XOk x) : ∀ x ∈ ws.tail, XOk x := fun x hx => h x (List.mem_of_mem_tail hx)
def xPart (self : Fn) : Ex := cCall self [] (cCons (cVar 0) (cCons (cOp2 oSub (cVar 1) (cC (.int 1))) cNil))
/-- the parts -/
theorem parts_ok {self : Fn} {d k : Nat} (hself : PtS self d) (hk : k ≤ 3) {env : Env} {L : LH} {n m : Nat} {ws : List Str} {bad : Bool} (s : WSt L n m ws bad) (hw : ∀ x ∈ ws, XOk x) (he0 : env[0]? = some (some (.ref n))) (he1 : env[1]? = some (some (.int ((d + 1 : Nat) : Int)))) :
    Ev (lcLoop (srcR 0 k) (.one 5) bYes (xPart self) env ((srcR 0 k).len + 1) 0 L []) fun acc L' => acc.length = k ∧ ∃ (ws' : List Str) (b' : Bool), WSt L' n m ws' b' ∧ But2 n m L L' ∧ (∃ u0, ws = u0 ++ ws') ∧
      (b' = false → bad = false ∧ ∃ uss, ws = uss.flatten ++ ws' ∧ PrR (Pr d) acc uss) ∧ (bad = false → ∀ ks uss rest, PrR (Pr d) ks uss → ks.length = k → ws = uss.flatten ++ rest → b' = false ∧ acc = ks ∧ ws' = rest) := by
  refine lc_inv (P := fun i L' acc => acc.length = i ∧ ∃ (ws' : List Str) (b' : Bool), WSt L' n m ws' b' ∧ But2 n m L L' ∧ (∃ u0, ws = u0 ++ ws') ∧
      (b' = false → bad = false ∧ ∃ uss, ws = uss.flatten ++ ws' ∧ PrR (Pr d) acc uss) ∧ (bad = false → ∀ ks uss rest, PrR (Pr d) ks uss → ks.length = i → ws = uss.flatten ++ rest → b' = false ∧ acc = ks ∧ ws' = rest)) (n := k) (fun i L1 acc hi p => ?_) (fun L1 acc p => ?_) k 0 L [] (by omega)
    ⟨rfl, ws, bad, s, .refl, ⟨[], rfl⟩, fun hb => ⟨hb, [], rfl, .nil⟩, fun hb ks uss rest r hl e => ?_⟩
  · obtain ⟨hlen, ws', b', s1, b1, ⟨u0, eu⟩, hS, hC⟩ := p
    refine ⟨.int (0 + i), by simp [srcR, hi], _, rfl, ?_⟩
    rw [ev_bYes]
    simp only [if_true]
    have g0 : (env.set 5 (some (.int (0 + (i : Int)))))[0]? = some (some (.ref n)) := by rw [List.getElem?_set_ne (by decide)]; exact he0
    have g1 : (env.set 5 (some (.int (0 + (i : Int)))))[1]? = some (some (.int ((d + 1 : Nat) : Int))) := by rw [List.getElem?_set_ne (by decide)]; exact he1
    have e1 : ((d + 1 : Nat) : Int) - 1 = d := by omega
    simp only [xPart, wipeE, ev_ok, ev_bind, ev_only, ev_ofO, ev_ofOB, ev_ite, evs_ite, evo_some, evs_toS, evs_seq, ev_C, ev_var, ev_op2, ev_op1, ev_opL, ev_nil, ev_cons, ev_call, ev_bVal, ev_bTru, ev_bNot, ev_bAnd, ev_bOr, ev_bYes, ev_cIf, ev_cNot, ev_cAnd, ev_cOr, ev_chain, ev_part_none, ev_part_some, ev_sl, ev_mth, evs_skip, evs_set, evs_ret, evs_expr, evs_if, evs_par, evs_as, ev_gN, ev_gsNil, ev_gsCons, ev_gTup, ev_gIx, evs_aug, ev_defF, evs_for, ev_rng1, ev_iSeq, ev_lc, o_addI, o_subI, o_addS, o_addT, o_mulI, o_modI, o_divI, o_powI, o_cmpI, o_intI, o_intB, o_absI, o_lst, o_tup, bl_bl, List.map_cons, List.map_nil, List.cons_append, List.nil_append, List.append_nil, List.getElem?_cons_zero, List.getElem?_cons_succ, List.set_cons_zero, List.set_cons_succ, List.length_cons, List.length_nil, List.replicate, Nat.reduceAdd, Nat.reduceSub, Nat.reduceLeDiff, true_and, and_true, if_true, decide_eq_true_eq, Nat.zero_add, g0, g1, e1]
    refine (hself L1 n m ws' b' s1 (xs_suf hw eu)).mono fun v L2 q => ?_
    obtain ⟨ws2, b2, s2, bb2, ⟨u1, eu1⟩, hS2, hC2⟩ := q
    refine ⟨by omega, by rw [List.length_append, hlen]; rfl, ws2, b2, s2, b1.trans bb2, ⟨u0 ++ u1, by rw [List.append_assoc, ← eu1, ← eu]⟩, fun hb => ?_, fun hb ks uss rest r hl e => ?_⟩
    · obtain ⟨h1, used, e2, p2⟩ := hS2 hb
      obtain ⟨h2, uss, e3, p3⟩ := hS h1
      exact ⟨h2, uss ++ [used], by rw [e3, e2, List.flatten_append]; simp, p3.snoc p2⟩
    · obtain ⟨ks', k', uss', us', rfl, rfl, r', p'⟩ := r.unsnoc hl
      have hl' : ks'.length = i := by simpa using hl
      rw [List.flatten_append] at e
      simp only [List.flatten_cons, List.flatten_nil, List.append_nil, List.append_assoc] at e
      obtain ⟨hb', ea, ew⟩ := hC hb ks' uss' (us' ++ rest) r' hl' e
      obtain ⟨hb2, ev, ew2⟩ := hC2 hb' k' us' rest p' ew
      exact ⟨hb2, by rw [ea, ev], ew2⟩
  · exact ⟨by simp [srcR], p⟩
  · cases r with
    | nil => exact ⟨hb, rfl, by simpa using e⟩
    | cons _ _ => simp at hl
def qH1 : Sx := sSet 2 (cMeth [(0, (f_Words_pull, []))] "pull" (cVar 0) cNil)
def qH2 : Sx := sIf (bOr (bVal (cOp2 oEq (cVar 1) (cC (.int 0)))) (bTru (cOp1 (oFld [0] "is_bad") (cVar 0)))) (sSeq (sFldP [0] "is_bad" (cVar 0) (cC (.bl true))) (sRet (cC (.int 0)))) sSkip
def q3 (self : Fn) : Sx := (sIf (bOr (bVal (cOp2 oInD (cVar 2) (cC (.tup [(.str "plus"), (.str "less"), (.str "same")])))) (bVal (cOp2 oEq (cVar 2) (cC (.str "if"))))) (sRet (cOpL oTup (cCons (cVar 2) (cStar (cLc [5] (iRng1 (cCons (cIf (bVal (cOp2 oEq (cVar 2) (cC (.str "if")))) (cC (.int 3)) (cC (.int 2))) cNil)) (CT.one 5) bYes (xPart self)) cNil)))) sSkip)
def q4 (self : Fn) : Sx := (sIf (bVal (cOp2 oEq (cVar 2) (cC (.str "call")))) (sSeq (sPar 3 4 (cCons (cMeth [(0, (f_Words_pull_name f_Words_pull f_is_name, []))] "pull_name" (cVar 0) cNil) (cCons (cMeth [(0, (f_Words_pull_figure f_Words_pull, []))] "pull_figure" (cVar 0) (cCons (cC (.int 0)) (cCons (cC (.int 2)) cNil))) cNil))) (sRet (cOpL oTup (cCons (cC (.str "call")) (cCons (cVar 3) (cCons (cOpL oTuple (cCons (cLc [5] (iRng1 (cCons (cVar 4) cNil)) (CT.one 5) bYes (xPart self)) cNil)) cNil)))))) sSkip)
def q5 : Sx := (sIf (bVal (cOp2 oEq (cVar 2) (cC (.str "arg")))) (sRet (cOpL oTup (cCons (cC (.str "arg")) (cCons (cMeth [(0, (f_Words_pull_figure f_Words_pull, []))] "pull_figure" (cVar 0) (cCons (cC (.int 0)) (cCons (cC (.int 1)) cNil))) cNil)))) sSkip)
def q6 : Sx := (sIf (bVal (cOp2 oEq (cVar 2) (cC (.str "cell")))) (sRet (cOpL oTup (cCons (cC (.str "cell")) (cCons (cMeth [(0, (f_Words_pull_name f_Words_pull f_is_name, []))] "pull_name" (cVar 0) cNil) cNil)))) sSkip)
def q7 : Sx := (sIf (bVal (cOp2 oEq (cVar 2) (cC (.str "tick")))) (sRet (cOpL oTup (cCons (cC (.str "tick")) cNil))) sSkip)
def q8 : Sx := (sIf (bOr (bVal (cOp2 oNe (cOpL oLen (cCons (cVar 2) cNil)) (cC (.int 1)))) (bVal (cOp2 oNotInD (cVar 2) (cC (.str "012"))))) (sSeq (sFldP [0] "is_bad" (cVar 0) (cC (.bl true))) (sRet (cC (.int 0)))) sSkip)
def q9 : Sx := sRet (cOpL oInt (cCons (cVar 2) cNil))
def c_pulled (self : Fn) : Fn := f_pulled_term f_Words_pull self (f_Words_pull_name f_Words_pull f_is_name) (f_Words_pull_figure f_Words_pull)
theorem c_pulled_eq (self : Fn) : c_pulled self = defF 6 2 (sSeq qH1 (sSeq qH2 (sSeq (q3 self) (sSeq (q4 self) (sSeq q5 (sSeq q6 (sSeq q7 (sSeq q8 q9)))))))) := rfl
section
variable {L : LH} {n m d : Nat} {x : Str} {r : List Str} {N : Env → LH → Prop} {self : Fn}
abbrev qEnv (n d : Nat) (x : Str) : Env := [some (.ref n), some (.int ((d + 1 : Nat) : Int)), some (.str x), none, none, none]
/-- the first word was pulled -/
def QR (d n m : Nat) (x : Str) (r : List Str) (L : LH) (v : W) (L' : LH) : Prop := PtR (d + 1) n m (x :: r) false L v L'
theorem q7_ok (s : WSt L n m r false) (hx : XOk x) (h : x ≠ "tick" → N (qEnv n d x) L) : EvS (q7 (qEnv n d x) L) N (QR d n m x r L) := by
  simp only [q7, qEnv, wipeE, ev_ok, ev_bind, ev_only, ev_ofO, ev_ofOB, ev_ite, evs_ite, evo_some, evs_toS, evs_seq, ev_C, ev_var, ev_op2, ev_op1, ev_opL, ev_nil, ev_cons, ev_call, ev_bVal, ev_bTru, ev_bNot, ev_bAnd, ev_bOr, ev_bYes, ev_cIf, ev_cNot, ev_cAnd, ev_cOr, ev_chain, ev_part_none, ev_part_some, ev_sl, ev_mth, evs_skip, evs_set, evs_ret, evs_expr, evs_if, evs_par, evs_as, ev_gN, ev_gsNil, ev_gsCons, ev_gTup, ev_gIx, evs_aug, ev_defF, evs_for, ev_rng1, ev_iSeq, ev_lc, o_addI, o_subI, o_addS, o_addT, o_mulI, o_modI, o_divI, o_powI, o_cmpI, o_intI, o_intB, o_absI, o_lst, o_tup, bl_bl, List.map_cons, List.map_nil, List.cons_append, List.nil_append, List.append_nil, List.getElem?_cons_zero, List.getElem?_cons_succ, List.set_cons_zero, List.set_cons_succ, List.length_cons, List.length_nil, List.replicate, Nat.reduceAdd, Nat.reduceSub, Nat.reduceLeDiff, true_and, and_true, if_true, decide_eq_true_eq, Nat.zero_add, eq_ss hx.so so_tick]
  by_cases e : x = "tick"
  · subst e
    simp only [bt, blW, if_true]
    exact ⟨r, false, s, .refl, ⟨["tick"], rfl⟩, fun _ => ⟨rfl, ["tick"], rfl, .tick⟩, fun _ w used rest p e => by
      cases used with
      | nil => exact absurd rfl (Pr.uok (d := d + 1) p).ne
      | cons y us =>
        cases e
        obtain ⟨rfl, rfl⟩ := inv_tick p rfl
        exact ⟨rfl, rfl, rfl⟩⟩
  · simp only [bf e, blW, Bool.false_eq_true, if_false]
    exact h e
theorem q6_ok (s : WSt L n m r false) (hx : XOk x) (hr : ∀ x ∈ r, XOk x) (h : x ≠ "cell" → N (qEnv n d x) L) : EvS (q6 (qEnv n d x) L) N (QR d n m x r L) := by
  have l1 := fl_no (m := m) (b := false) (x := "pull_name") (by decide +kernel) (by decide +kernel)
  simp only [q6, qEnv, wipeE, ev_ok, ev_bind, ev_only, ev_ofO, ev_ofOB, ev_ite, evs_ite, evo_some, evs_toS, evs_seq, ev_C, ev_var, ev_op2, ev_op1, ev_opL, ev_nil, ev_cons, ev_call, ev_bVal, ev_bTru, ev_bNot, ev_bAnd, ev_bOr, ev_bYes, ev_cIf, ev_cNot, ev_cAnd, ev_cOr, ev_chain, ev_part_none, ev_part_some, ev_sl, ev_mth, evs_skip, evs_set, evs_ret, evs_expr, evs_if, evs_par, evs_as, ev_gN, ev_gsNil, ev_gsCons, ev_gTup, ev_gIx, evs_aug, ev_defF, evs_for, ev_rng1, ev_iSeq, ev_lc, o_addI, o_subI, o_addS, o_addT, o_mulI, o_modI, o_divI, o_powI, o_cmpI, o_intI, o_intB, o_absI, o_lst, o_tup, bl_bl, List.map_cons, List.map_nil, List.cons_append, List.nil_append, List.append_nil, List.getElem?_cons_zero, List.getElem?_cons_succ, List.set_cons_zero, List.set_cons_succ, List.length_cons, List.length_nil, List.replicate, Nat.reduceAdd, Nat.reduceSub, Nat.reduceLeDiff, true_and, and_true, if_true, decide_eq_true_eq, Nat.zero_add, eq_ss hx.so so_cell, ev_meth, insW_at s.o, List.lookup_cons, beq_self_eq_true, l1]
  by_cases e : x = "cell"
  · subst e
    simp only [bt, blW, if_true]
    refine (pull_name_ok s hr).mono fun v L1 q => ?_
    obtain ⟨y, b', rfl, xy, s1, b1, hN⟩ := q
    refine ⟨r.tail, b', s1, b1, ?_, fun hb => ?_, fun _ w used rest p e => ?_⟩
    · cases r with
      | nil => exact ⟨["cell"], rfl⟩
      | cons z r => exact ⟨["cell", z], rfl⟩
    · rcases hN with ⟨_, _, hn, r', rfl⟩ | ⟨hb', _⟩
      · exact ⟨rfl, ["cell", y], rfl, .cell y ⟨hn, xy.so⟩⟩
      · rw [hb] at hb'; cases hb'
    · cases used with
      | nil => exact absurd rfl (Pr.uok (d := d + 1) p).ne
      | cons z us =>
        obtain ⟨e0, e3⟩ := List.cons.inj e
        subst e0
        obtain ⟨t, ht, rfl, rfl⟩ := inv_cell p rfl
        have e3 : r = t :: rest := e3
        rcases hN with ⟨h1, _, hn, r', e'⟩ | ⟨hb', h2⟩
        · rw [e'] at e3
          obtain ⟨e4, e5⟩ := List.cons.inj e3
          subst e4 e5
          exact ⟨h1, rfl, by rw [e']; rfl⟩
        · rcases h2 with h2 | h2
          · cases h2
          · exact absurd e3 (h2 t rest ht.nm)
  · simp only [bf e, blW, Bool.false_eq_true, if_false]
    exact h e
theorem q5_ok (s : WSt L n m r false) (hx : XOk x) (hr : ∀ x ∈ r, XOk x) (h : x ≠ "arg" → N (qEnv n d x) L) : EvS (q5 (qEnv n d x) L) N (QR d n m x r L) := by
  have l1 := fl_no (m := m) (b := false) (x := "pull_figure") (by decide +kernel) (by decide +kernel)
  simp only [q5, qEnv, wipeE, ev_ok, ev_bind, ev_only, ev_ofO, ev_ofOB, ev_ite, evs_ite, evo_some, evs_toS, evs_seq, ev_C, ev_var, ev_op2, ev_op1, ev_opL, ev_nil, ev_cons, ev_call, ev_bVal, ev_bTru, ev_bNot, ev_bAnd, ev_bOr, ev_bYes, ev_cIf, ev_cNot, ev_cAnd, ev_cOr, ev_chain, ev_part_none, ev_part_some, ev_sl, ev_mth, evs_skip, evs_set, evs_ret, evs_expr, evs_if, evs_par, evs_as, ev_gN, ev_gsNil, ev_gsCons, ev_gTup, ev_gIx, evs_aug, ev_defF, evs_for, ev_rng1, ev_iSeq, ev_lc, o_addI, o_subI, o_addS, o_addT, o_mulI, o_modI, o_divI, o_powI, o_cmpI, o_intI, o_intB, o_absI, o_lst, o_tup, bl_bl, List.map_cons, List.map_nil, List.cons_append, List.nil_append, List.append_nil, List.getElem?_cons_zero, List.getElem?_cons_succ, List.set_cons_zero, List.set_cons_succ, List.length_cons, List.length_nil, List.replicate, Nat.reduceAdd, Nat.reduceSub, Nat.reduceLeDiff, true_and, and_true, if_true, decide_eq_true_eq, Nat.zero_add, eq_ss hx.so so_arg, ev_meth, insW_at s.o, List.lookup_cons, beq_self_eq_true, l1]
  by_cases e : x = "arg"
  · subst e
    simp only [bt, blW, if_true]
    refine (pull_figure_ok (hi := 1) (by decide) s hr).mono fun v L1 q => ?_
    obtain ⟨k, b', rfl, hk, s1, b1, hN⟩ := q
    refine ⟨r.tail, b', s1, b1, ?_, fun hb => ?_, fun _ w used rest p e => ?_⟩
    · cases r with
      | nil => exact ⟨["arg"], rfl⟩
      | cons z r => exact ⟨["arg", z], rfl⟩
    · rcases hN with ⟨_, _, r', rfl⟩ | ⟨hb', _⟩
      · exact ⟨rfl, ["arg", dg k], rfl, .arg k hk⟩
      · rw [hb] at hb'; cases hb'
    · cases used with
      | nil => exact absurd rfl (Pr.uok (d := d + 1) p).ne
      | cons z us =>
        obtain ⟨e0, e3⟩ := List.cons.inj e
        subst e0
        obtain ⟨i, hi, rfl, rfl⟩ := inv_arg p rfl
        have e3 : r = dg i :: rest := e3
        rcases hN with ⟨h1, _, r', e'⟩ | ⟨hb', h2⟩
        · rw [e'] at e3
          obtain ⟨e4, e5⟩ := List.cons.inj e3
          have := dg_inj (by omega) (by omega) e4
          subst this e5
          exact ⟨h1, rfl, by rw [e']; rfl⟩
        · rcases h2 with h2 | h2
          · cases h2
          · exact absurd e3 (h2 i rest hi)
  · simp only [bf e, blW, Bool.false_eq_true, if_false]
    exact h e
theorem q89_ok (s : WSt L n m r false) (hx : XOk x) (h1 : ¬ opH x) (h2 : x ≠ "call") (h3 : x ≠ "arg") (h4 : x ≠ "cell") (h5 : x ≠ "tick") : EvS (sSeq q8 q9 (qEnv n d x) L) N (QR d n m x r L) := by
  have fin : ∀ {L2 : LH}, (¬ ∃ k, k ≤ 2 ∧ x = fg k) → But2 n m L L2 → WSt L2 n m r true → QR d n m x r L (.int 0) L2 := fun {L2} hk b2 s2 =>
    ⟨r, true, s2, b2, ⟨[x], rfl⟩, (fun q => by cases q), fun _ w used rest p e => by
      cases used with
      | nil => exact absurd rfl (Pr.uok (d := d + 1) p).ne
      | cons y us =>
        obtain ⟨e0, _⟩ := List.cons.inj e
        subst e0
        obtain ⟨i, hi, rfl, rfl, rfl⟩ := inv_val p h1 h2 h3 h4 h5
        exact absurd ⟨i, hi, dg_fg hi⟩ hk⟩
  simp only [q8, q9, qEnv, wipeE, ev_ok, ev_bind, ev_only, ev_ofO, ev_ofOB, ev_ite, evs_ite, evo_some, evs_toS, evs_seq, ev_C, ev_var, ev_op2, ev_op1, ev_opL, ev_nil, ev_cons, ev_call, ev_bVal, ev_bTru, ev_bNot, ev_bAnd, ev_bOr, ev_bYes, ev_cIf, ev_cNot, ev_cAnd, ev_cOr, ev_chain, ev_part_none, ev_part_some, ev_sl, ev_mth, evs_skip, evs_set, evs_ret, evs_expr, evs_if, evs_par, evs_as, ev_gN, ev_gsNil, ev_gsCons, ev_gTup, ev_gIx, evs_aug, ev_defF, evs_for, ev_rng1, ev_iSeq, ev_lc, o_addI, o_subI, o_addS, o_addT, o_mulI, o_modI, o_divI, o_powI, o_cmpI, o_intI, o_intB, o_absI, o_lst, o_tup, bl_bl, List.map_cons, List.map_nil, List.cons_append, List.nil_append, List.append_nil, List.getElem?_cons_zero, List.getElem?_cons_succ, List.set_cons_zero, List.set_cons_succ, List.length_cons, List.length_nil, List.replicate, Nat.reduceAdd, Nat.reduceSub, Nat.reduceLeDiff, true_and, and_true, if_true, decide_eq_true_eq, Nat.zero_add, len_str hx.len, ne_int, notIn_str, evs_fldP]
  by_cases hl : x.length = 1
  · have e1 : (((x.length : Nat) : Int) == 1) = true := by rw [hl]; rfl
    simp only [e1, blW, Bool.not_true, Bool.false_eq_true, if_false]
    cases hi2 : strIn x "012" with
    | false =>
      simp only [Bool.not_false, if_true]
      refine set_bad s fun L2 s2 b2 => fin ?_ b2 s2
      rintro ⟨k, hk, rfl⟩
      rw [val_in hk] at hi2; cases hi2
    | true =>
      obtain ⟨k, hk, rfl⟩ := val_of hl hi2
      simp only [Bool.not_true, Bool.false_eq_true, if_false, int_fg (show k < 10 by omega), evo_some]
      refine ⟨r, false, s, .refl, ⟨[fg k], rfl⟩, fun _ => ⟨rfl, [fg k], rfl, ?_⟩, fun _ w used rest p e => ?_⟩
      · rw [← dg_fg hk]; exact .val k hk
      · cases used with
        | nil => exact absurd rfl (Pr.uok (d := d + 1) p).ne
        | cons y us =>
          obtain ⟨e0, e3⟩ := List.cons.inj e
          subst e0
          obtain ⟨i, hi, rfl, e2, rfl⟩ := inv_val p h1 h2 h3 h4 h5
          rw [dg_fg hi] at e2
          rw [fg_inj e2]
          exact ⟨rfl, rfl, e3⟩
  · have e1 : (((x.length : Nat) : Int) == 1) = false := by rw [beq_eq_false_iff_ne]; omega
    simp only [e1, blW, Bool.not_false, if_true]
    refine set_bad s fun L2 s2 b2 => fin ?_ b2 s2
    rintro ⟨k, hk, rfl⟩
    exact hl rfl
theorem opH_pair {x : Str} : opH x ↔ (isPair x = true ∨ x = "if") := by
  unfold opH isPair
  rw [decide_eq_true_eq]
  constructor
  · rintro (h | h | h | h)
    · exact .inl (.inl h)
    · exact .inl (.inr (.inl h))
    · exact .inl (.inr (.inr h))
    · exact .inr h
  · rintro ((h | h | h) | h)
    · exact .inl h
    · exact .inr (.inl h)
    · exact .inr (.inr (.inl h))
    · exact .inr (.inr (.inr h))
theorem q3_end (hself : PtS self d) {k : Nat} (hk : k ≤ 3) (ho : ∀ j, opOk x j ↔ j = k) (s : WSt L n m r false) (hr : ∀ x ∈ r, XOk x) {Q : W → LH → Prop} (hQ : ∀ v L', QR d n m x r L v L' → Q v L') :
    Ev (lcLoop (srcR 0 k) (.one 5) bYes (xPart self) (qEnv n d x) ((srcR 0 k).len + 1) 0 L []) fun acc L2 => match seqW (W.ref L2.length) (L2 ++ [LO.lst acc]) with
      | some ws => ws.length ≤ 16777215 ∧ Q (.tup (.str x :: ws)) (L2 ++ [LO.lst acc])
      | none => False := by
  refine (parts_ok hself hk s hr rfl rfl).mono fun acc L2 q => ?_
  obtain ⟨hlen, ws', b', s2, b2, ⟨u0, eu⟩, hS, hC⟩ := q
  simp only [seq_at at_last]
  refine ⟨by omega, hQ _ _ ⟨ws', b', s2.mono pre_last, b2.trans (.pre pre_last), ⟨x :: u0, by rw [eu]; rfl⟩, fun hb => ?_, fun _ w used rest p e => ?_⟩⟩
  · obtain ⟨_, uss, e, pr⟩ := hS hb
    exact ⟨rfl, x :: uss.flatten, by rw [e]; rfl, .op x acc uss ((ho _).mpr hlen) pr⟩
  · cases used with
    | nil => exact absurd rfl (Pr.uok (d := d + 1) p).ne
    | cons y us =>
      obtain ⟨e0, e3⟩ := List.cons.inj e
      subst e0
      obtain ⟨ks, uss, rfl, rfl, ok, pr⟩ := inv_op p (opOk_H ((ho k).mpr rfl))
      obtain ⟨hb, ea, er⟩ := hC rfl ks uss rest pr ((ho _).mp ok) e3
      exact ⟨hb, by rw [ea], er⟩
theorem q3_ok (hself : PtS self d) (s : WSt L n m r false) (hx : XOk x) (hr : ∀ x ∈ r, XOk x) (h : ¬ opH x → N (qEnv n d x) L) : EvS (q3 self (qEnv n d x) L) N (QR d n m x r L) := by
  have hif : ∀ j, opOk "if" j ↔ j = 3 := fun j => by
    constructor
    · rintro (⟨e | e | e, _⟩ | ⟨_, e⟩)
      · exact absurd e (by decide +kernel)
      · exact absurd e (by decide +kernel)
      · exact absurd e (by decide +kernel)
      · exact e
    · intro e; exact .inr ⟨rfl, e⟩
  simp only [q3, qEnv, wipeE, ev_ok, ev_bind, ev_only, ev_ofO, ev_ofOB, ev_ite, evs_ite, evo_some, evs_toS, evs_seq, ev_C, ev_var, ev_op2, ev_op1, ev_opL, ev_nil, ev_cons, ev_call, ev_bVal, ev_bTru, ev_bNot, ev_bAnd, ev_bOr, ev_bYes, ev_cIf, ev_cNot, ev_cAnd, ev_cOr, ev_chain, ev_part_none, ev_part_some, ev_sl, ev_mth, evs_skip, evs_set, evs_ret, evs_expr, evs_if, evs_par, evs_as, ev_gN, ev_gsNil, ev_gsCons, ev_gTup, ev_gIx, evs_aug, ev_defF, evs_for, ev_rng1, ev_iSeq, ev_lc, o_addI, o_subI, o_addS, o_addT, o_mulI, o_modI, o_divI, o_powI, o_cmpI, o_intI, o_intB, o_absI, o_lst, o_tup, bl_bl, List.map_cons, List.map_nil, List.cons_append, List.nil_append, List.append_nil, List.getElem?_cons_zero, List.getElem?_cons_succ, List.set_cons_zero, List.set_cons_succ, List.length_cons, List.length_nil, List.replicate, Nat.reduceAdd, Nat.reduceSub, Nat.reduceLeDiff, true_and, and_true, if_true, decide_eq_true_eq, Nat.zero_add, in_pairs, eq_ss hx.so so_if, ev_star]
  cases hp : isPair x with
  | true =>
    have hpr : x = "plus" ∨ x = "less" ∨ x = "same" := of_decide_eq_true hp
    have hni : x ≠ "if" := by rcases hpr with rfl | rfl | rfl <;> decide +kernel
    have ho : ∀ j, opOk x j ↔ j = 2 := fun j => by
      constructor
      · rintro (⟨_, e⟩ | ⟨e, _⟩)
        · exact e
        · exact absurd e hni
      · intro e; exact .inl ⟨hpr, e⟩
    simp only [blW, if_true, bf hni, Bool.false_eq_true, if_false]
    refine ⟨by decide, ?_⟩
    exact q3_end hself (k := 2) (by decide) ho s hr (Q := QR d n m x r L) (fun _ _ q => q)
  | false =>
    simp only [blW, Bool.false_eq_true, if_false]
    by_cases e : x = "if"
    · subst e
      simp only [bt, blW, if_true]
      refine ⟨by decide, ?_⟩
      exact q3_end hself (k := 3) (by decide) hif s hr (Q := QR d n m "if" r L) (fun _ _ q => q)
    · simp only [bf e, blW, Bool.false_eq_true, if_false]
      exact h (fun q => by
        rcases opH_pair.mp q with q | q
        · rw [hp] at q; cases q
        · exact e q)
theorem q4_ok (hself : PtS self d) (s : WSt L n m r false) (hx : XOk x) (hr : ∀ x ∈ r, XOk x) (h : x ≠ "call" → N (qEnv n d x) L) : EvS (q4 self (qEnv n d x) L) N (QR d n m x r L) := by
  have l1 := fl_no (m := m) (b := false) (x := "pull_name") (by decide +kernel) (by decide +kernel)
  simp only [q4, qEnv, wipeE, ev_ok, ev_bind, ev_only, ev_ofO, ev_ofOB, ev_ite, evs_ite, evo_some, evs_toS, evs_seq, ev_C, ev_var, ev_op2, ev_op1, ev_opL, ev_nil, ev_cons, ev_call, ev_bVal, ev_bTru, ev_bNot, ev_bAnd, ev_bOr, ev_bYes, ev_cIf, ev_cNot, ev_cAnd, ev_cOr, ev_chain, ev_part_none, ev_part_some, ev_sl, ev_mth, evs_skip, evs_set, evs_ret, evs_expr, evs_if, evs_par, evs_as, ev_gN, ev_gsNil, ev_gsCons, ev_gTup, ev_gIx, evs_aug, ev_defF, evs_for, ev_rng1, ev_iSeq, ev_lc, o_addI, o_subI, o_addS, o_addT, o_mulI, o_modI, o_divI, o_powI, o_cmpI, o_intI, o_intB, o_absI, o_lst, o_tup, bl_bl, List.map_cons, List.map_nil, List.cons_append, List.nil_append, List.append_nil, List.getElem?_cons_zero, List.getElem?_cons_succ, List.set_cons_zero, List.set_cons_succ, List.length_cons, List.length_nil, List.replicate, Nat.reduceAdd, Nat.reduceSub, Nat.reduceLeDiff, true_and, and_true, if_true, decide_eq_true_eq, Nat.zero_add, eq_ss hx.so so_call, ev_meth, insW_at s.o, List.lookup_cons, beq_self_eq_true, l1]
  by_cases e : x = "call"
  · subst e
    simp only [bt, blW, if_true]
    refine (pull_name_ok s hr).mono fun v L1 q => ?_
    obtain ⟨y, b1', rfl, xy, s1, b1, hN⟩ := q
    have l2 := fl_no (m := m) (b := b1') (x := "pull_figure") (by decide +kernel) (by decide +kernel)
    simp only [insW_at s1.o, beq_self_eq_true, l2, true_and]
    refine (pull_figure_ok (hi := 2) (by decide) s1 (xs_tail hr)).mono fun v L2 q => ?_
    obtain ⟨k, b2', rfl, hk, s2, b2, hF⟩ := q
    simp only [wipeE, ev_ok, ev_bind, ev_only, ev_ofO, ev_ofOB, ev_ite, evs_ite, evo_some, evs_toS, evs_seq, ev_C, ev_var, ev_op2, ev_op1, ev_opL, ev_nil, ev_cons, ev_call, ev_bVal, ev_bTru, ev_bNot, ev_bAnd, ev_bOr, ev_bYes, ev_cIf, ev_cNot, ev_cAnd, ev_cOr, ev_chain, ev_part_none, ev_part_some, ev_sl, ev_mth, evs_skip, evs_set, evs_ret, evs_expr, evs_if, evs_par, evs_as, ev_gN, ev_gsNil, ev_gsCons, ev_gTup, ev_gIx, evs_aug, ev_defF, evs_for, ev_rng1, ev_iSeq, ev_lc, o_addI, o_subI, o_addS, o_addT, o_mulI, o_modI, o_divI, o_powI, o_cmpI, o_intI, o_intB, o_absI, o_lst, o_tup, bl_bl, List.map_cons, List.map_nil, List.cons_append, List.nil_append, List.append_nil, List.getElem?_cons_zero, List.getElem?_cons_succ, List.set_cons_zero, List.set_cons_succ, List.length_cons, List.length_nil, List.replicate, Nat.reduceAdd, Nat.reduceSub, Nat.reduceLeDiff, true_and, and_true, if_true, decide_eq_true_eq, Nat.zero_add]
    refine ⟨by omega, ?_⟩
    rw [show Int.toNat (k : Int) = k from Int.toNat_natCast k]
    refine (parts_ok hself (k := k) (by omega) s2 (xs_tail (xs_tail hr)) rfl rfl).mono fun acc L3 q => ?_
    obtain ⟨hlen, ws', b3', s3, b3, ⟨u0, eu⟩, hS, hC⟩ := q
    have et : oTuple [W.ref L3.length] (L3 ++ [LO.lst acc]) = some (.tup acc, L3 ++ [LO.lst acc]) := by
      simp only [oTuple, seqL_at at_last]
      try rfl
    simp only [et, evo_some]
    have hu : ∃ u0, ("call" : Str) :: r = u0 ++ ws' := by
      obtain ⟨t, ht⟩ : ∃ t, r = t ++ r.tail.tail := by
        cases r with
        | nil => exact ⟨[], rfl⟩
        | cons a r => cases r with
          | nil => exact ⟨[a], rfl⟩
          | cons b r => exact ⟨[a, b], rfl⟩
      exact ⟨"call" :: (t ++ u0), by rw [List.cons_append, List.append_assoc, ← eu, ← ht]⟩
    refine ⟨ws', b3', s3.mono pre_last, ((b1.trans b2).trans b3).trans (.pre pre_last), hu, fun hb => ?_, fun _ w used rest p e => ?_⟩
    · obtain ⟨h2, uss, e, pr⟩ := hS hb
      rcases hF with ⟨_, h1, r2, e2⟩ | ⟨h2', _⟩
      · rcases hN with ⟨_, _, hn, r1, e1⟩ | ⟨h1', _⟩
        · refine ⟨rfl, "call" :: y :: dg acc.length :: uss.flatten, ?_, .call y acc uss ⟨hn, xy.so⟩ (by omega) pr⟩
          rw [e1] at e2 e
          rw [e1]
          have e2 : r1 = dg k :: r2 := e2
          rw [e2] at e ⊢
          have e : r2 = uss.flatten ++ ws' := e
          rw [e, hlen]; rfl
        · rw [h1] at h1'; cases h1'
      · rw [h2] at h2'; cases h2'
    · cases used with
      | nil => exact absurd rfl (Pr.uok (d := d + 1) p).ne
      | cons z us =>
        obtain ⟨e0, e3⟩ := List.cons.inj e
        subst e0
        obtain ⟨t, ks, uss, rfl, rfl, ht, hks, pr⟩ := inv_call p rfl
        have e3 : r = t :: dg ks.length :: (uss.flatten ++ rest) := e3
        rcases hN with ⟨h1, _, hn, r1, e1⟩ | ⟨h1', h1⟩
        · rw [e1] at e3
          obtain ⟨e4, e5⟩ := List.cons.inj e3
          subst e4
          rcases hF with ⟨h2, _, r2, e2⟩ | ⟨h2', h2⟩
          · rw [e1] at e2
            have e2 : r1 = dg k :: r2 := e2
            rw [e2] at e5
            obtain ⟨e6, e7⟩ := List.cons.inj e5
            have ek := dg_inj hk hks e6
            have e8 : r.tail.tail = uss.flatten ++ rest := by rw [e1, e2, e7]; rfl
            obtain ⟨hb, ea, er⟩ := hC h2 ks uss rest pr ek.symm e8
            exact ⟨hb, by rw [ea], er⟩
          · rcases h2 with h2 | h2
            · rw [h1] at h2; cases h2
            · refine absurd ?_ (h2 ks.length (uss.flatten ++ rest) hks)
              rw [e1]; exact e5
        · rcases h1 with h1 | h1
          · cases h1
          · exact absurd e3 (h1 t _ ht.nm)
  · simp only [bf e, blW, Bool.false_eq_true, if_false]
    exact h e
end
theorem pt_step {self : Fn} {d : Nat} (hself : PtS self d) : PtS (c_pulled self) (d + 1) := fun L n m ws bad s hw => by
  have l1 := fl_no (m := m) (b := bad) (x := "pull") (by decide +kernel) (by decide +kernel)
  have e0 : (((d + 1 : Nat) : Int) == 0) = false := by rw [beq_eq_false_iff_ne]; omega
  rw [c_pulled_eq, ev_defF]
  refine ⟨rfl, ?_⟩
  rw [evs_seq]
  simp only [qH1, wipeE, ev_ok, ev_bind, ev_only, ev_ofO, ev_ofOB, ev_ite, evs_ite, evo_some, evs_toS, evs_seq, ev_C, ev_var, ev_op2, ev_op1, ev_opL, ev_nil, ev_cons, ev_call, ev_bVal, ev_bTru, ev_bNot, ev_bAnd, ev_bOr, ev_bYes, ev_cIf, ev_cNot, ev_cAnd, ev_cOr, ev_chain, ev_part_none, ev_part_some, ev_sl, ev_mth, evs_skip, evs_set, evs_ret, evs_expr, evs_if, evs_par, evs_as, ev_gN, ev_gsNil, ev_gsCons, ev_gTup, ev_gIx, evs_aug, ev_defF, evs_for, ev_rng1, ev_iSeq, ev_lc, o_addI, o_subI, o_addS, o_addT, o_mulI, o_modI, o_divI, o_powI, o_cmpI, o_intI, o_intB, o_absI, o_lst, o_tup, bl_bl, List.map_cons, List.map_nil, List.cons_append, List.nil_append, List.append_nil, List.getElem?_cons_zero, List.getElem?_cons_succ, List.set_cons_zero, List.set_cons_succ, List.length_cons, List.length_nil, List.replicate, Nat.reduceAdd, Nat.reduceSub, Nat.reduceLeDiff, true_and, and_true, if_true, decide_eq_true_eq, Nat.zero_add, ev_meth, insW_at s.o, List.lookup_cons, beq_self_eq_true, l1]
  refine (pull_ok s).mono fun v L1 q => ?_
  obtain ⟨rfl, s1, b1⟩ := q
  simp only [qH2, wipeE, ev_ok, ev_bind, ev_only, ev_ofO, ev_ofOB, ev_ite, evs_ite, evo_some, evs_toS, evs_seq, ev_C, ev_var, ev_op2, ev_op1, ev_opL, ev_nil, ev_cons, ev_call, ev_bVal, ev_bTru, ev_bNot, ev_bAnd, ev_bOr, ev_bYes, ev_cIf, ev_cNot, ev_cAnd, ev_cOr, ev_chain, ev_part_none, ev_part_some, ev_sl, ev_mth, evs_skip, evs_set, evs_ret, evs_expr, evs_if, evs_par, evs_as, ev_gN, ev_gsNil, ev_gsCons, ev_gTup, ev_gIx, evs_aug, ev_defF, evs_for, ev_rng1, ev_iSeq, ev_lc, o_addI, o_subI, o_addS, o_addT, o_mulI, o_modI, o_divI, o_powI, o_cmpI, o_intI, o_intB, o_absI, o_lst, o_tup, bl_bl, List.map_cons, List.map_nil, List.cons_append, List.nil_append, List.append_nil, List.getElem?_cons_zero, List.getElem?_cons_succ, List.set_cons_zero, List.set_cons_succ, List.length_cons, List.length_nil, List.replicate, Nat.reduceAdd, Nat.reduceSub, Nat.reduceLeDiff, true_and, and_true, if_true, decide_eq_true_eq, Nat.zero_add, eqX_int, e0, blW, Bool.false_eq_true, if_false, bad_at s1, truW, evs_fldP]
  cases hb : (bad || ws.isEmpty) with
  | true =>
    rw [hb] at s1
    simp only [if_true]
    refine set_bad s1 fun L2 s2 b2 => ⟨ws.tail, true, s2, b1.trans b2, ?_, (fun q => by cases q), fun h w used rest p e => ?_⟩
    · cases ws with
      | nil => exact ⟨[], rfl⟩
      | cons y r => exact ⟨[y], rfl⟩
    · rw [h, Bool.false_or] at hb
      have : ws = [] := by cases ws with
        | nil => rfl
        | cons y r => cases hb
      rw [this] at e
      have := (Pr.uok (d := d + 1) p).ne
      cases used with
      | nil => exact absurd rfl this
      | cons _ _ => cases e
  | false =>
    rw [hb] at s1
    obtain ⟨rfl, hne⟩ : bad = false ∧ ws ≠ [] := by
      rw [Bool.or_eq_false_iff] at hb
      exact ⟨hb.1, fun e => by rw [e] at hb; cases hb.2⟩
    cases ws with
    | nil => exact absurd rfl hne
    | cons x r =>
      simp only [Bool.false_eq_true, if_false]
      have hx := hw x (by simp)
      have hr : ∀ y ∈ r, XOk y := fun y hy => hw y (List.mem_cons_of_mem _ hy)
      have hR : ∀ v L', QR d n m x r L1 v L' → PtR (d + 1) n m (x :: r) false L v L' := fun v L' ⟨ws', b', s', b2, hu, hS, hC⟩ => ⟨ws', b', s', b1.trans b2, hu, hS, hC⟩
      have main : EvS (sSeq (q3 self) (sSeq (q4 self) (sSeq q5 (sSeq q6 (sSeq q7 (sSeq q8 q9))))) (qEnv n d x) L1) (fun _ L' => PtR (d + 1) n m (x :: r) false L .non L') (QR d n m x r L1) := by
        rw [evs_seq]
        refine q3_ok hself s1 hx hr fun h1 => ?_
        rw [evs_seq]
        refine q4_ok hself s1 hx hr fun h2 => ?_
        rw [evs_seq]
        refine q5_ok s1 hx hr fun h3 => ?_
        rw [evs_seq]
        refine q6_ok s1 hx hr fun h4 => ?_
        rw [evs_seq]
        refine q7_ok s1 hx fun h5 => ?_
        exact q89_ok s1 hx h1 h2 h3 h4 h5
      have := main.mono (fun _ _ q => q) hR
      simp only [evs_seq] at this
      exact this
theorem pt_base (self : Fn) : PtS (c_pulled self) 0 := fun L n m ws bad s hw => by
  have l1 := fl_no (m := m) (b := bad) (x := "pull") (by decide +kernel) (by decide +kernel)
  rw [c_pulled_eq, ev_defF]
  refine ⟨rfl, ?_⟩
  rw [evs_seq]
  simp only [qH1, wipeE, ev_ok, ev_bind, ev_only, ev_ofO, ev_ofOB, ev_ite, evs_ite, evo_some, evs_toS, evs_seq, ev_C, ev_var, ev_op2, ev_op1, ev_opL, ev_nil, ev_cons, ev_call, ev_bVal, ev_bTru, ev_bNot, ev_bAnd, ev_bOr, ev_bYes, ev_cIf, ev_cNot, ev_cAnd, ev_cOr, ev_chain, ev_part_none, ev_part_some, ev_sl, ev_mth, evs_skip, evs_set, evs_ret, evs_expr, evs_if, evs_par, evs_as, ev_gN, ev_gsNil, ev_gsCons, ev_gTup, ev_gIx, evs_aug, ev_defF, evs_for, ev_rng1, ev_iSeq, ev_lc, o_addI, o_subI, o_addS, o_addT, o_mulI, o_modI, o_divI, o_powI, o_cmpI, o_intI, o_intB, o_absI, o_lst, o_tup, bl_bl, List.map_cons, List.map_nil, List.cons_append, List.nil_append, List.append_nil, List.getElem?_cons_zero, List.getElem?_cons_succ, List.set_cons_zero, List.set_cons_succ, List.length_cons, List.length_nil, List.replicate, Nat.reduceAdd, Nat.reduceSub, Nat.reduceLeDiff, true_and, and_true, if_true, decide_eq_true_eq, Nat.zero_add, ev_meth, insW_at s.o, List.lookup_cons, beq_self_eq_true, l1]
  refine (pull_ok s).mono fun v L1 q => ?_
  obtain ⟨rfl, s1, b1⟩ := q
  simp only [qH2, wipeE, ev_ok, ev_bind, ev_only, ev_ofO, ev_ofOB, ev_ite, evs_ite, evo_some, evs_toS, evs_seq, ev_C, ev_var, ev_op2, ev_op1, ev_opL, ev_nil, ev_cons, ev_call, ev_bVal, ev_bTru, ev_bNot, ev_bAnd, ev_bOr, ev_bYes, ev_cIf, ev_cNot, ev_cAnd, ev_cOr, ev_chain, ev_part_none, ev_part_some, ev_sl, ev_mth, evs_skip, evs_set, evs_ret, evs_expr, evs_if, evs_par, evs_as, ev_gN, ev_gsNil, ev_gsCons, ev_gTup, ev_gIx, evs_aug, ev_defF, evs_for, ev_rng1, ev_iSeq, ev_lc, o_addI, o_subI, o_addS, o_addT, o_mulI, o_modI, o_divI, o_powI, o_cmpI, o_intI, o_intB, o_absI, o_lst, o_tup, bl_bl, List.map_cons, List.map_nil, List.cons_append, List.nil_append, List.append_nil, List.getElem?_cons_zero, List.getElem?_cons_succ, List.set_cons_zero, List.set_cons_succ, List.length_cons, List.length_nil, List.replicate, Nat.reduceAdd, Nat.reduceSub, Nat.reduceLeDiff, true_and, and_true, if_true, decide_eq_true_eq, Nat.zero_add, eqX_int, blW, evs_fldP]
  rw [if_pos (by decide)]
  refine set_bad s1 fun L2 s2 b2 => ⟨ws.tail, true, s2, b1.trans b2, ?_, (fun q => by cases q), fun h w used rest p e => p.elim⟩
  cases ws with
  | nil => exact ⟨[], rfl⟩
  | cons y r => exact ⟨[y], rfl⟩
end Z

/-! TF: is_term of what was pulled, term_in, read_term, _law_read. -/
namespace Z
open PySem PySem.Spec PyProof.Rows L2
/-- what some words write -/
def Sd (w : W) : Prop := ∃ d us, Pr d w us
theorem sd_head {w : W} (h : Sd w) (s : Str) (r : List W) (e : w = .tup (.str s :: r)) : PyData.strOk s = true := by
  obtain ⟨d, us, p⟩ := h
  cases d with
  | zero => exact p.elim
  | succ d =>
    cases p with
    | val i h => cases e
    | arg i h => cases e; exact so_arg
    | cell s h => cases e; exact so_cell
    | tick => cases e; exact so_tick
    | call s ks uss h hk r => cases e; exact so_call
    | op hh ks uss ho r => cases e; exact opOk_so ho
theorem sd_ty {w : W} (h : Sd w) : ∃ t, ∀ L, tyName w L = some t := by
  obtain ⟨d, us, p⟩ := h
  cases d with
  | zero => exact p.elim
  | succ d => cases p <;> exact ⟨_, fun _ => rfl⟩
theorem sd_inner {w : W} (h : Sd w) : ∃ ks, innerW w = some ks ∧ (∀ k ∈ ks, Sd k) ∧ ks.length ≤ 3 := by
  obtain ⟨d, us, p⟩ := h
  cases d with
  | zero => exact p.elim
  | succ d =>
    cases p with
    | val i h => exact ⟨[], rfl, by simp, by decide⟩
    | arg i h => exact ⟨[], rfl, by simp, by decide⟩
    | cell s h => exact ⟨[], rfl, by simp, by decide⟩
    | tick => exact ⟨[], rfl, by simp, by decide⟩
    | call s ks uss h hk r => exact ⟨ks, rfl, fun k hk => let ⟨us, p⟩ := r.mem hk; ⟨d, us, p⟩, by omega⟩
    | op hh ks uss ho r =>
      refine ⟨ks, ?_, fun k hk => let ⟨us, p⟩ := r.mem hk; ⟨d, us, p⟩, opOk_le ho⟩
      show (if hh = "call" then _ else _) = _
      have := opOk_H ho
      rw [if_neg (opOk_ne ho).2.2.1, if_pos (by
        rcases this with h | h | h | h
        · exact .inl h
        · exact .inr (.inl h)
        · exact .inr (.inr (.inl h))
        · exact .inr (.inr (.inr h)))]
theorem sd_fk {w : W} {L : LH} (h : Sd w) : FK L w := by
  obtain ⟨t, ht⟩ := sd_ty h
  have hh := sd_head h
  obtain ⟨d, us, p⟩ := h
  cases d with
  | zero => exact p.elim
  | succ d =>
    refine ⟨⟨⟨t, ht L⟩, fun x r e => ⟨?_, fun s es => hh s r (by rw [e, es])⟩⟩, fun y e => ?_, fun y e => ?_, fun y z e => ?_⟩
    · cases p <;> cases e <;> exact ⟨_, rfl⟩
    · cases p with
      | val i h => cases e
      | arg i h => cases e; exact ⟨_, rfl⟩
      | cell s h => simp at e
      | tick => simp at e
      | call s ks uss h hk r => simp at e
      | op hh ks uss ho r => simp at e; exact absurd e.1 (opOk_ne ho).1
    · cases p with
      | val i h => cases e
      | arg i h => simp at e
      | cell s h => cases e; exact ⟨_, rfl, Nat.le_trans h.len (by decide)⟩
      | tick => simp at e
      | call s ks uss h hk r => simp at e
      | op hh ks uss ho r => simp at e; exact absurd e.1 (opOk_ne ho).2.1
    · cases p with
      | val i h => cases e
      | arg i h => simp at e
      | cell s h => simp at e
      | tick => simp at e
      | call s ks uss h hk r => cases e; exact ⟨⟨_, rfl, Nat.le_trans h.len (by decide)⟩, _, rfl⟩
      | op hh ks uss ho r => simp at e; exact absurd e.1 (opOk_ne ho).2.2.1
theorem flat_sd : ∀ {ws : List W}, (∀ w ∈ ws, Sd w) → (∀ k ∈ ws.flatMap (fun w => (innerW w).getD []), Sd k) ∧ (ws.flatMap (fun w => (innerW w).getD [])).length ≤ 3 * ws.length
  | [], _ => ⟨by simp, by simp⟩
  | w :: r, h => by
    obtain ⟨h1, h2⟩ := flat_sd fun v hv => h v (List.mem_cons_of_mem _ hv)
    obtain ⟨ks, e, h3, h4⟩ := sd_inner (h w List.mem_cons_self)
    rw [List.flatMap_cons, e]
    refine ⟨fun k hk => ?_, ?_⟩
    · rcases List.mem_append.mp hk with hk | hk
      · exact h3 k hk
      · exact h1 k hk
    · rw [List.length_append, List.length_cons]
      have : ((some ks).getD []).length = ks.length := rfl
      omega
theorem is_term_any {w : W} {many : Int} {L0 : LH} (hw : Sd w) : Ev (c_is_term [w, .int many] L0) fun v L' => (∃ b, v = .bl b) ∧ L0 <+: L' := by
  simp only [c_is_term_eq, wipeE, ev_ok, ev_bind, ev_only, ev_ofO, ev_ofOB, ev_ite, evs_ite, evo_some, evs_toS, evs_seq, ev_C, ev_var, ev_op2, ev_op1, ev_opL, ev_nil, ev_cons, ev_call, ev_bVal, ev_bTru, ev_bNot, ev_bAnd, ev_bOr, ev_bYes, ev_cIf, ev_cNot, ev_cAnd, ev_cOr, ev_chain, ev_part_none, ev_part_some, ev_sl, ev_mth, evs_skip, evs_set, evs_ret, evs_expr, evs_if, evs_par, evs_as, ev_gN, ev_gsNil, ev_gsCons, ev_gTup, ev_gIx, evs_aug, ev_defF, evs_for, ev_rng1, ev_iSeq, ev_lc, o_addI, o_subI, o_addS, o_addT, o_mulI, o_modI, o_divI, o_powI, o_cmpI, o_intI, o_intB, o_absI, o_lst, o_tup, bl_bl, List.map_cons, List.map_nil, List.cons_append, List.nil_append, List.append_nil, List.getElem?_cons_zero, List.getElem?_cons_succ, List.set_cons_zero, List.set_cons_succ, List.length_cons, List.length_nil, List.replicate, Nat.reduceAdd, Nat.reduceSub, Nat.reduceLeDiff, true_and, and_true, if_true, decide_eq_true_eq, Nat.zero_add]
  refine ⟨by decide, ?_⟩
  refine for_inv (fun i env L => L0 <+: L ∧ ∃ n ws p x2 x5 x6, env = [some w, some (.int many), x2, some (.ref n), some (.int p), x5, x6] ∧ L[n]? = some (.lst ws) ∧ (∀ t ∈ ws, Sd t) ∧ ws.length ≤ 100 ∧ 0 ≤ p)
    (n := 8) (fun i env L hi hp => ?_) (fun env L hp => ?_) 8 0 _ _ rfl ⟨pre_last, L0.length, [w], 0, _, _, _, rfl, at_last, by simpa using hw, by simp, by decide⟩
  · obtain ⟨pr, n, ws, p, x2, x5, x6, rfl, hL, hok, hlen, hp0⟩ := hp
    refine ⟨.int (0 + i), by simp [srcR, hi], ?_⟩
    simp only [wipeE, ev_ok, ev_bind, ev_only, ev_ofO, ev_ofOB, ev_ite, evs_ite, evo_some, evs_toS, evs_seq, ev_C, ev_var, ev_op2, ev_op1, ev_opL, ev_nil, ev_cons, ev_call, ev_bVal, ev_bTru, ev_bNot, ev_bAnd, ev_bOr, ev_bYes, ev_cIf, ev_cNot, ev_cAnd, ev_cOr, ev_chain, ev_part_none, ev_part_some, ev_sl, ev_mth, evs_skip, evs_set, evs_ret, evs_expr, evs_if, evs_par, evs_as, ev_gN, ev_gsNil, ev_gsCons, ev_gTup, ev_gIx, evs_aug, ev_defF, evs_for, ev_rng1, ev_iSeq, ev_lc, o_addI, o_subI, o_addS, o_addT, o_mulI, o_modI, o_divI, o_powI, o_cmpI, o_intI, o_intB, o_absI, o_lst, o_tup, bl_bl, List.map_cons, List.map_nil, List.cons_append, List.nil_append, List.append_nil, List.getElem?_cons_zero, List.getElem?_cons_succ, List.set_cons_zero, List.set_cons_succ, List.length_cons, List.length_nil, List.replicate, Nat.reduceAdd, Nat.reduceSub, Nat.reduceLeDiff, true_and, and_true, if_true, decide_eq_true_eq, Nat.zero_add, oAug, oLen_at hL, oGt, o_cmpI]
    by_cases h30 : p + (ws.length : Int) > 30
    · simp only [h30, decide_true, if_true]; exact ⟨⟨_, rfl⟩, pr⟩
    simp only [h30, decide_false, Bool.false_eq_true, if_false]
    refine (all_forms hL (by omega) rfl rfl rfl fun v hv => sd_fk (hok v hv)).mono fun v L1 q => ?_
    obtain ⟨rfl, p1⟩ := q
    simp only [truW]
    cases ha : ws.all (formB many) with
    | false => simp only [Bool.not_false, if_true]; exact ⟨⟨_, rfl⟩, pr.trans p1⟩
    | true =>
      simp only [Bool.not_true, Bool.false_eq_true, if_false]
      have hin : ∀ v ∈ ws, innerW v = some (((innerW v).getD [])) ∧ ∀ s r, v = .tup (.str s :: r) → PyData.strOk s = true := fun v hv => by
        obtain ⟨ks, e, _⟩ := sd_inner (hok v hv)
        exact ⟨by rw [e]; rfl, sd_head (hok v hv)⟩
      obtain ⟨hf1, hf2⟩ := flat_sd hok
      refine (next_layer (fun w => (innerW w).getD []) (pre_at p1 hL) (by omega) rfl rfl hin).mono fun v L2 q => ?_
      obtain ⟨m, rfl, hm, p2⟩ := q
      have pA : L0 <+: L2 ++ [LO.lst []] := pr.trans (p1.trans (p2.trans pre_last))
      simp only [oEq, oB, eq_nil (pre_at pre_last hm) at_last, Option.map, evo_some, blW]
      split
      · exact ⟨⟨_, rfl⟩, pA⟩
      · exact ⟨pA, m, _, p + ws.length, _, _, _, rfl, pre_at pre_last hm, hf1, by omega, by omega⟩
  · obtain ⟨pr, n, ws, p, x2, x5, x6, rfl, hL, hok, hlen, hp0⟩ := hp
    exact ⟨rfl, ⟨_, rfl⟩, pr⟩
/-! ### making Words -/
theorem ev_make {c : Nat} {g : Fn} {dws : List W} {fs : ExL} {env : Env} {L : LH} {Q : W → LH → Prop} : Ev (cMake c g dws fs env L) Q = Ev (fs env L) fun as L1 => Ev (g (.ref L1.length :: (as ++ dws)) (L1 ++ [.ins c []])) fun r Lb => match r with
    | .non => Q (.ref L1.length) Lb
    | _ => False := by
  unfold cMake
  simp only [ev_bind]
  congr; funext as L1; congr; funext r Lb
  cases r <;> rfl
theorem init_ok {L : LH} {q : Nat} {ws : List Str} (h : L[q]? = some (.lst (ws.map .str))) : Ev (f_Words___init__ [.ref L.length, .ref q] (L ++ [.ins 0 []])) fun v L' => v = .non ∧ ∃ m, WSt L' L.length m ws false ∧ L <+: L' ∧ L.length ≤ m := by
  have e0 : (L ++ [LO.ins 0 []])[q]? = some (.lst (ws.map .str)) := pre_at pre_last h
  have er : oRev (.ref q) (L ++ [LO.ins 0 []]) = some (.ref (L ++ [LO.ins 0 []]).length, (L ++ [LO.ins 0 []]) ++ [LO.lst (ws.map W.str).reverse]) := by
    simp only [oRev, seqL_at e0]
  generalize hL1 : (L ++ [LO.ins 0 []]) ++ [LO.lst (ws.map W.str).reverse] = L1 at er
  have eo : (L ++ [LO.ins 0 []])[L.length]? = some (.ins 0 []) := at_last
  have e1 : L1[(L ++ [LO.ins 0 []]).length]? = some (LO.lst (ws.map W.str).reverse) := by rw [← hL1]; exact at_last
  have el : oList [.ref (L ++ [LO.ins 0 []]).length] L1 = some (.ref L1.length, L1 ++ [LO.lst (ws.map W.str).reverse]) := by
    simp only [oList, seq_at e1]
  have eo2 : (L1 ++ [LO.lst (ws.map W.str).reverse])[L.length]? = some (.ins 0 []) := by rw [← hL1]; exact pre_at pre_last (pre_at pre_last eo)
  have lt2 : L.length < (L1 ++ [LO.lst (ws.map W.str).reverse]).length := (List.getElem?_eq_some_iff.mp eo2).1
  simp only [f_Words___init__, wipeE, ev_ok, ev_bind, ev_only, ev_ofO, ev_ofOB, ev_ite, evs_ite, evo_some, evs_toS, evs_seq, ev_C, ev_var, ev_op2, ev_op1, ev_opL, ev_nil, ev_cons, ev_call, ev_bVal, ev_bTru, ev_bNot, ev_bAnd, ev_bOr, ev_bYes, ev_cIf, ev_cNot, ev_cAnd, ev_cOr, ev_chain, ev_part_none, ev_part_some, ev_sl, ev_mth, evs_skip, evs_set, evs_ret, evs_expr, evs_if, evs_par, evs_as, ev_gN, ev_gsNil, ev_gsCons, ev_gTup, ev_gIx, evs_aug, ev_defF, evs_for, ev_rng1, ev_iSeq, ev_lc, o_addI, o_subI, o_addS, o_addT, o_mulI, o_modI, o_divI, o_powI, o_cmpI, o_intI, o_intB, o_absI, o_lst, o_tup, bl_bl, List.map_cons, List.map_nil, List.cons_append, List.nil_append, List.append_nil, List.getElem?_cons_zero, List.getElem?_cons_succ, List.set_cons_zero, List.set_cons_succ, List.length_cons, List.length_nil, List.replicate, Nat.reduceAdd, Nat.reduceSub, Nat.reduceLeDiff, true_and, and_true, if_true, decide_eq_true_eq, Nat.zero_add, evs_fldP, er, el]
  have p1 : oPutF [0] "left" (.ref L.length) (.ref L1.length) (L1 ++ [LO.lst (ws.map W.str).reverse]) = some ((L1 ++ [LO.lst (ws.map W.str).reverse]).set L.length (.ins 0 [("left", .ref L1.length)])) := by
    simp only [oPutF, insW_at eo2]
    rfl
  rw [p1]
  simp only [wipeE, ev_ok, ev_bind, ev_only, ev_ofO, ev_ofOB, ev_ite, evs_ite, evo_some, evs_toS, evs_seq, ev_C, ev_var, ev_op2, ev_op1, ev_opL, ev_nil, ev_cons, ev_call, ev_bVal, ev_bTru, ev_bNot, ev_bAnd, ev_bOr, ev_bYes, ev_cIf, ev_cNot, ev_cAnd, ev_cOr, ev_chain, ev_part_none, ev_part_some, ev_sl, ev_mth, evs_skip, evs_set, evs_ret, evs_expr, evs_if, evs_par, evs_as, ev_gN, ev_gsNil, ev_gsCons, ev_gTup, ev_gIx, evs_aug, ev_defF, evs_for, ev_rng1, ev_iSeq, ev_lc, o_addI, o_subI, o_addS, o_addT, o_mulI, o_modI, o_divI, o_powI, o_cmpI, o_intI, o_intB, o_absI, o_lst, o_tup, bl_bl, List.map_cons, List.map_nil, List.cons_append, List.nil_append, List.append_nil, List.getElem?_cons_zero, List.getElem?_cons_succ, List.set_cons_zero, List.set_cons_succ, List.length_cons, List.length_nil, List.replicate, Nat.reduceAdd, Nat.reduceSub, Nat.reduceLeDiff, true_and, and_true, if_true, decide_eq_true_eq, Nat.zero_add]
  have eo3 : ((L1 ++ [LO.lst (ws.map W.str).reverse]).set L.length (.ins 0 [("left", .ref L1.length)]))[L.length]? = some (.ins 0 [("left", .ref L1.length)]) := List.getElem?_set_self lt2
  have e4 : putFW "is_bad" (.bl false) [("left", .ref L1.length)] = wfl L1.length false := by
    unfold putFW
    rw [if_neg (by decide +kernel)]
    rfl
  have p2 : oPutF [0] "is_bad" (.ref L.length) (.bl false) ((L1 ++ [LO.lst (ws.map W.str).reverse]).set L.length (.ins 0 [("left", .ref L1.length)])) = some (((L1 ++ [LO.lst (ws.map W.str).reverse]).set L.length (.ins 0 [("left", .ref L1.length)])).set L.length (.ins 0 (wfl L1.length false))) := by
    simp only [oPutF, insW_at eo3, e4]
    rfl
  rw [p2]
  have ll : L.length < L1.length := by rw [← hL1]; simp only [List.length_append, List.length_cons, List.length_nil]; omega
  refine ⟨L1.length, ⟨List.getElem?_set_self (by rw [List.length_set]; exact lt2), ?_⟩, ?_, by omega⟩
  · rw [List.getElem?_set_ne (by omega), List.getElem?_set_ne (by omega)]; exact at_last
  · have pp : L <+: L1 ++ [LO.lst (ws.map W.str).reverse] := by
      rw [← hL1]
      exact ((pre_last.trans pre_last).trans pre_last)
    exact pre_set (pre_set pp (Nat.le_refl _)) (Nat.le_refl _)
theorem done_ok {L : LH} {n m : Nat} {ws : List Str} {bad : Bool} (s : WSt L n m ws bad) : Ev (f_Words_is_done [.ref n] L) fun v L' => v = .bl (!bad && ws.isEmpty) ∧ L <+: L' := by
  simp only [f_Words_is_done, wipeE, ev_ok, ev_bind, ev_only, ev_ofO, ev_ofOB, ev_ite, evs_ite, evo_some, evs_toS, evs_seq, ev_C, ev_var, ev_op2, ev_op1, ev_opL, ev_nil, ev_cons, ev_call, ev_bVal, ev_bTru, ev_bNot, ev_bAnd, ev_bOr, ev_bYes, ev_cIf, ev_cNot, ev_cAnd, ev_cOr, ev_chain, ev_part_none, ev_part_some, ev_sl, ev_mth, evs_skip, evs_set, evs_ret, evs_expr, evs_if, evs_par, evs_as, ev_gN, ev_gsNil, ev_gsCons, ev_gTup, ev_gIx, evs_aug, ev_defF, evs_for, ev_rng1, ev_iSeq, ev_lc, o_addI, o_subI, o_addS, o_addT, o_mulI, o_modI, o_divI, o_powI, o_cmpI, o_intI, o_intB, o_absI, o_lst, o_tup, bl_bl, List.map_cons, List.map_nil, List.cons_append, List.nil_append, List.append_nil, List.getElem?_cons_zero, List.getElem?_cons_succ, List.set_cons_zero, List.set_cons_succ, List.length_cons, List.length_nil, List.replicate, Nat.reduceAdd, Nat.reduceSub, Nat.reduceLeDiff, true_and, and_true, if_true, decide_eq_true_eq, Nat.zero_add, bad_at s, truW, left_at s]
  cases bad with
  | true => simp only [Bool.not_true, Bool.false_eq_true, if_false, Bool.false_and]; exact ⟨by first | rfl | trivial, List.prefix_refl _⟩
  | false =>
    simp only [Bool.not_false, if_true, Bool.true_and]
    rw [eq_nil2 (pre_at pre_last s.l) at_last, evo_some]
    refine ⟨?_, pre_last⟩
    cases ws <;> simp
theorem pre_of {L L' : LH} (h : ∀ (i : Nat) (o : LO), L[i]? = some o → L'[i]? = some o) : L <+: L' := by
  rw [List.prefix_iff_getElem?]
  intro i hi
  exact h i _ (List.getElem?_eq_getElem hi)
def c_term_in (pulled : Fn) : Fn := f_term_in f_Words___init__ pulled f_Words_is_done c_is_term
/-- what term_in tells -/
def TI (many : Int) (us : List Str) (v : W) : Prop := (v = .non ∨ Pr 8 v us) ∧ (∀ t : Tm, t.ok many → t.size ≤ 30 → t.dep ≤ 8 → Pr 8 t.enc us → v = t.enc) ∧ (∀ w, Pr 8 w us → formB many w = false → v = .non)
theorem term_in_ok {pulled : Fn} (hp : PtS pulled 8) {L : LH} {q : Nat} {us : List Str} {many : Int} (h : L[q]? = some (.lst (us.map .str))) (hw : ∀ x ∈ us, XOk x) :
    Ev (c_term_in pulled [.ref q, .int many] L) fun v L' => L <+: L' ∧ TI many us v := by
  simp only [c_term_in, f_term_in, wipeE, ev_ok, ev_bind, ev_only, ev_ofO, ev_ofOB, ev_ite, evs_ite, evo_some, evs_toS, evs_seq, ev_C, ev_var, ev_op2, ev_op1, ev_opL, ev_nil, ev_cons, ev_call, ev_bVal, ev_bTru, ev_bNot, ev_bAnd, ev_bOr, ev_bYes, ev_cIf, ev_cNot, ev_cAnd, ev_cOr, ev_chain, ev_part_none, ev_part_some, ev_sl, ev_mth, evs_skip, evs_set, evs_ret, evs_expr, evs_if, evs_par, evs_as, ev_gN, ev_gsNil, ev_gsCons, ev_gTup, ev_gIx, evs_aug, ev_defF, evs_for, ev_rng1, ev_iSeq, ev_lc, o_addI, o_subI, o_addS, o_addT, o_mulI, o_modI, o_divI, o_powI, o_cmpI, o_intI, o_intB, o_absI, o_lst, o_tup, bl_bl, List.map_cons, List.map_nil, List.cons_append, List.nil_append, List.append_nil, List.getElem?_cons_zero, List.getElem?_cons_succ, List.set_cons_zero, List.set_cons_succ, List.length_cons, List.length_nil, List.replicate, Nat.reduceAdd, Nat.reduceSub, Nat.reduceLeDiff, true_and, and_true, if_true, decide_eq_true_eq, Nat.zero_add, ev_make]
  refine (init_ok h).mono fun v L1 g => ?_
  obtain ⟨rfl, m, s1, p1, hm⟩ := g
  simp only [wipeE, ev_ok, ev_bind, ev_only, ev_ofO, ev_ofOB, ev_ite, evs_ite, evo_some, evs_toS, evs_seq, ev_C, ev_var, ev_op2, ev_op1, ev_opL, ev_nil, ev_cons, ev_call, ev_bVal, ev_bTru, ev_bNot, ev_bAnd, ev_bOr, ev_bYes, ev_cIf, ev_cNot, ev_cAnd, ev_cOr, ev_chain, ev_part_none, ev_part_some, ev_sl, ev_mth, evs_skip, evs_set, evs_ret, evs_expr, evs_if, evs_par, evs_as, ev_gN, ev_gsNil, ev_gsCons, ev_gTup, ev_gIx, evs_aug, ev_defF, evs_for, ev_rng1, ev_iSeq, ev_lc, o_addI, o_subI, o_addS, o_addT, o_mulI, o_modI, o_divI, o_powI, o_cmpI, o_intI, o_intB, o_absI, o_lst, o_tup, bl_bl, List.map_cons, List.map_nil, List.cons_append, List.nil_append, List.append_nil, List.getElem?_cons_zero, List.getElem?_cons_succ, List.set_cons_zero, List.set_cons_succ, List.length_cons, List.length_nil, List.replicate, Nat.reduceAdd, Nat.reduceSub, Nat.reduceLeDiff, true_and, and_true, if_true, decide_eq_true_eq, Nat.zero_add]
  refine (hp L1 L.length m us false s1 hw).mono fun v L2 g => ?_
  obtain ⟨ws', b', s2, b2, hu, hS, hC⟩ := g
  have p2 : L <+: L2 := pre_of fun i o e => by
    have hi := (List.getElem?_eq_some_iff.mp e).1
    exact b2.old i o (by omega) (by omega) (pre_at p1 e)
  have l1 := fl_no (m := m) (b := b') (x := "is_done") (by decide +kernel) (by decide +kernel)
  simp only [ev_meth, wipeE, ev_ok, ev_bind, ev_only, ev_ofO, ev_ofOB, ev_ite, evs_ite, evo_some, evs_toS, evs_seq, ev_C, ev_var, ev_op2, ev_op1, ev_opL, ev_nil, ev_cons, ev_call, ev_bVal, ev_bTru, ev_bNot, ev_bAnd, ev_bOr, ev_bYes, ev_cIf, ev_cNot, ev_cAnd, ev_cOr, ev_chain, ev_part_none, ev_part_some, ev_sl, ev_mth, evs_skip, evs_set, evs_ret, evs_expr, evs_if, evs_par, evs_as, ev_gN, ev_gsNil, ev_gsCons, ev_gTup, ev_gIx, evs_aug, ev_defF, evs_for, ev_rng1, ev_iSeq, ev_lc, o_addI, o_subI, o_addS, o_addT, o_mulI, o_modI, o_divI, o_powI, o_cmpI, o_intI, o_intB, o_absI, o_lst, o_tup, bl_bl, List.map_cons, List.map_nil, List.cons_append, List.nil_append, List.append_nil, List.getElem?_cons_zero, List.getElem?_cons_succ, List.set_cons_zero, List.set_cons_succ, List.length_cons, List.length_nil, List.replicate, Nat.reduceAdd, Nat.reduceSub, Nat.reduceLeDiff, true_and, and_true, if_true, decide_eq_true_eq, Nat.zero_add, insW_at s2.o, List.lookup_cons, beq_self_eq_true, l1]
  refine (done_ok s2).mono fun w L3 g => ?_
  obtain ⟨rfl, p3⟩ := g
  simp only [truW]
  cases hd : (!b' && ws'.isEmpty) with
  | false =>
    simp only [Bool.false_eq_true, if_false]
    refine ⟨p2.trans p3, .inl rfl, fun t h1 h2 h3 pt => ?_, fun w pw hf => rfl⟩
    obtain ⟨hb, _, he⟩ := hC rfl t.enc us [] pt (by rw [List.append_nil])
    rw [hb, he] at hd; cases hd
  | true =>
    simp only [if_true]
    rw [Bool.and_eq_true] at hd
    have hb : b' = false := by cases b' with
      | false => rfl
      | true => cases hd.1
    have he : ws' = [] := List.isEmpty_iff.mp hd.2
    obtain ⟨_, used, e1, pr⟩ := hS hb
    rw [he, List.append_nil] at e1
    subst e1
    have key : ∀ {Q : W → LH → Prop}, (∀ b L', L3 <+: L' → (∀ t : Tm, t.ok many → t.size ≤ 30 → t.dep ≤ 8 → v = t.enc → b = true) → (formB many v = false → b = false) → Q (.bl b) L') → Ev (c_is_term [v, .int many] L3) Q := fun {Q} hq => by
      by_cases ht : ∃ t : Tm, t.ok many ∧ t.size ≤ 30 ∧ t.dep ≤ 8 ∧ v = t.enc
      · obtain ⟨t, h1, h2, h3, rfl⟩ := ht
        refine (is_term_ok h1 h2 h3).mono fun w L' g => ?_
        obtain ⟨rfl, pp⟩ := g
        exact hq true L' pp (fun _ _ _ _ _ => rfl) fun hf => by rw [Tm.form_t h1] at hf; cases hf
      · by_cases hf : formB many v = false
        · refine (is_term_bent (.odd (sd_fk ⟨8, _, pr⟩) hf)).mono fun w L' g => ?_
          obtain ⟨rfl, pp⟩ := g
          exact hq false L' pp (fun t h1 h2 h3 e => absurd ⟨t, h1, h2, h3, e⟩ ht) fun _ => rfl
        · refine (is_term_any ⟨8, _, pr⟩).mono fun w L' g => ?_
          obtain ⟨⟨b, rfl⟩, pp⟩ := g
          exact hq b L' pp (fun t h1 h2 h3 e => absurd ⟨t, h1, h2, h3, e⟩ ht) fun q => absurd q hf
    refine key fun b L' pp ht hf => ?_
    simp only
    cases b with
    | true =>
      simp only [if_true]
      refine ⟨(p2.trans p3).trans pp, .inr pr, fun t h1 h2 h3 pt => ?_, fun w pw hfw => ?_⟩
      · exact (hC rfl t.enc us [] pt (by rw [List.append_nil])).2.1
      · have := (hC rfl w us [] pw (by rw [List.append_nil])).2.1
        rw [← this] at hfw
        cases hf hfw
    | false =>
      simp only [Bool.false_eq_true, if_false]
      refine ⟨(p2.trans p3).trans pp, .inl rfl, fun t h1 h2 h3 pt => ?_, fun w pw hfw => rfl⟩
      have := (hC rfl t.enc us [] pt (by rw [List.append_nil])).2.1
      cases ht t h1 h2 h3 this
/-! ### reading -/
def c_read (ti : Fn) : Fn := f_read_term ti
def c_law_read (ti : Fn) : Fn := f_law_read (c_read ti)
def TiS (ti : Fn) : Prop := ∀ (L : LH) (q : Nat) (us : List Str) (many : Int), L[q]? = some (.lst (us.map .str)) → (∀ x ∈ us, XOk x) → Ev (ti [.ref q, .int many] L) fun v L' => L <+: L' ∧ TI many us v
def xRead (ti : Fn) : Ex := cIf (bTru (cOpL oIsi (cCons (cVar 0) (cCons (cC (.ty "str")) cNil)))) (cCall ti [] (cCons (cMth isStr oSplit (cVar 0) (cCons (cC (.str " ")) cNil)) (cCons (cVar 1) cNil))) (cC .non)
theorem f_read_eq (ti : Fn) : f_read_term ti = defF 3 2 (sSeq (sSet 2 (xRead ti)) (sSeq (sIf (bVal (cOp2 oIs (cVar 2) (cC .non))) (sRaise 2 "index" (cC (.int 0))) sSkip) (sRet (cVar 2)))) := rfl
/-- the answer ["bad", 0] -/
def Bad (v : W) (L : LH) : Prop := ∃ n, v = .ref n ∧ L[n]? = some (.lst [.str "bad", .int 0])
theorem law_read_none {ti : Fn} {w : W} {many : Int} {L L1 : LH} (e : xRead ti [some w, some (.int many), none] L = .ok .non L1) (p : L <+: L1) : Ev (c_law_read ti [w, .int many] L) fun v L' => L <+: L' ∧ Bad v L' := by
  have e1 : f_read_term ti [w, .int many] L = .exc ⟨2, [("index", .int 0)]⟩ L1 := by
    rw [f_read_eq]
    simp only [defF, List.length_cons, List.length_nil, if_true, List.map_cons, List.map_nil, Nat.reduceSub, List.replicate, List.cons_append, List.nil_append, sSeq, sSet, e, Res.toS]
    rfl
  have e2 : c_law_read ti [w, .int many] L = .ok (.ref L1.length) (L1 ++ [.lst [.str "bad", .int 0]]) := by
    simp only [c_law_read, c_read, f_law_read, defF, List.length_cons, List.length_nil, if_true, List.map_cons, List.map_nil, Nat.reduceSub, List.replicate, List.cons_append, List.nil_append, sTry, sRet, cCall, cCons, cVar, cNil, List.getElem?_cons_zero, List.getElem?_cons_succ, Res.bind, e1, Res.toS, List.append_nil]
    rfl
  rw [e2]
  exact ⟨p.trans pre_last, _, rfl, at_last⟩
theorem law_read_some {ti : Fn} {w v : W} {many : Int} {L L1 : LH} (e : xRead ti [some w, some (.int many), none] L = .ok v L1) (hv : oIs v .non L1 = some (.bl false, L1)) (p : L <+: L1) : Ev (c_law_read ti [w, .int many] L) fun u L' => L <+: L' ∧ u = v := by
  have e1 : f_read_term ti [w, .int many] L = .ok v L1 := by
    rw [f_read_eq]
    simp only [defF, List.length_cons, List.length_nil, if_true, List.map_cons, List.map_nil, Nat.reduceSub, List.replicate, List.cons_append, List.nil_append, sSeq, sSet, e, Res.toS, sIf, bVal, cOp2, cVar, cC, List.set_cons_succ, List.set_cons_zero, List.getElem?_cons_zero, List.getElem?_cons_succ, Res.bind, hv, ofO, ofOB, blW, sSkip, sRet, Bool.false_eq_true, if_false]
  have e2 : c_law_read ti [w, .int many] L = .ok v L1 := by
    simp only [c_law_read, c_read, f_law_read, defF, List.length_cons, List.length_nil, if_true, List.map_cons, List.map_nil, Nat.reduceSub, List.replicate, List.cons_append, List.nil_append, sTry, sRet, cCall, cCons, cVar, cNil, List.getElem?_cons_zero, List.getElem?_cons_succ, Res.bind, e1, Res.toS, List.append_nil]
  rw [e2]
  exact ⟨p, rfl⟩
/-- no text -/
theorem law_read_odd {ti : Fn} {w : W} {many : Int} {L : LH} {t : String} (ht : tyName w L = some t) (hk : kitB t "str" = some false) : Ev (c_law_read ti [w, .int many] L) fun v L' => L <+: L' ∧ Bad v L' := by
  refine law_read_none (L1 := L) ?_ (List.prefix_refl _)
  simp only [xRead, cIf, bTru, cOpL, cCons, cVar, cC, cNil, List.getElem?_cons_zero, Res.bind, oIsi, ht, hk, Option.map, ofO, truW, ofOB, Bool.false_eq_true, if_false]
theorem is_non {v : W} {L : LH} {us : List Str} {d : Nat} (p : Pr d v us) : oIs v .non L = some (.bl false, L) := by
  cases d with
  | zero => exact p.elim
  | succ d => cases p <;> rfl
theorem law_read_ok {ti : Fn} (hti : TiS ti) {x : Str} {many : Int} {L : LH} (hx : x.length ≤ 16777214) (hw : ∀ y ∈ wds x, XOk y) : Ev (c_law_read ti [.str x, .int many] L) fun v L' => L <+: L' ∧ ((Bad v L' ∧ TI many (wds x) .non) ∨ (Pr 8 v (wds x) ∧ TI many (wds x) v)) := by
  have hs : oSplit (.str x) [.str " "] L = some (.ref L.length, L ++ [.lst ((wds x).map .str)]) := by
    simp only [oSplit]
    rw [blank_eq, if_pos ⟨rfl, by omega⟩]
    rfl
  have ty : tyName (.str x) L = some "str" := rfl
  have e : kitB "str" "str" = some true := rfl
  obtain ⟨v, L1, e1, p1, ti1⟩ := (hti (L ++ [.lst ((wds x).map .str)]) L.length (wds x) many at_last hw).ex
  have ee : xRead ti [some (.str x), some (.int many), none] L = .ok v L1 := by
    simp only [xRead, cIf, bTru, cOpL, cCons, cVar, cC, cNil, List.getElem?_cons_zero, List.getElem?_cons_succ, Res.bind, oIsi, ty, e, Option.map, ofO, truW, ofOB, if_true, cCall, cMth, isStr_s, hs, List.append_nil, e1]
  have pp := pre_last.trans p1
  rcases ti1.1 with rfl | h8
  · exact (law_read_none ee pp).mono fun u L' g => ⟨g.1, .inl ⟨g.2, ti1⟩⟩
  · exact (law_read_some ee (is_non h8) pp).mono fun u L' g => ⟨g.1, .inr ⟨by rw [g.2]; exact h8, by rw [g.2]; exact ti1⟩⟩
end Z

/-! TG: words of terms, what can't be words of a term, comparisons. -/
namespace Z
open PySem PySem.Spec PyProof.Rows L2
namespace Tm
def wd : Tm → List Str
  | .val i => [dg i.toNat]
  | .arg i => ["arg", dg i.toNat]
  | .cell s => ["cell", s]
  | .tick => ["tick"]
  | .call0 s => ["call", s, dg 0]
  | .call2 s a b => "call" :: s :: dg 2 :: (a.wd ++ b.wd)
  | .bin h a b => h :: (a.wd ++ b.wd)
  | .ite a b c => "if" :: (a.wd ++ (b.wd ++ c.wd))
theorem wd_size : ∀ t : Tm, t.size ≤ t.wd.length
  | .val i => Nat.le_refl 1
  | .arg i => by simp [size, wd]
  | .cell s => by simp [size, wd]
  | .tick => Nat.le_refl 1
  | .call0 s => by simp [size, wd]
  | .call2 s a b => by
    have := wd_size a; have := wd_size b
    simp only [size, wd, List.length_cons, List.length_append]; omega
  | .bin h a b => by
    have := wd_size a; have := wd_size b
    simp only [size, wd, List.length_cons, List.length_append]; omega
  | .ite a b c => by
    have := wd_size a; have := wd_size b; have := wd_size c
    simp only [size, wd, List.length_cons, List.length_append]; omega
theorem pr {many : Int} (hm : many ≤ 2) : ∀ (d : Nat) (t : Tm), t.ok many → t.dep ≤ d → Pr d t.enc t.wd
  | 0, t, _, h => by have := dep_pos t; omega
  | d + 1, .val i, h, _ => by
    have h1 := h.1; have h2 := h.2
    obtain ⟨n, rfl⟩ : ∃ n : Nat, i = n := ⟨i.toNat, by omega⟩
    exact .val n (by omega)
  | d + 1, .arg i, h, _ => by
    have h1 := h.1; have h2 := h.2
    obtain ⟨n, rfl⟩ : ∃ n : Nat, i = n := ⟨i.toNat, by omega⟩
    exact .arg n (by omega)
  | d + 1, .cell s, h, _ => .cell s h
  | d + 1, .tick, _, _ => .tick
  | d + 1, .call0 s, h, _ => .call s [] [] h (by decide) .nil
  | d + 1, .call2 s a b, h, hd => by
    simp only [dep] at hd
    have := PrR.cons (pr hm d a h.2.1 (by omega)) (PrR.cons (pr hm d b h.2.2 (by omega)) .nil)
    have e : (Tm.call2 s a b).wd = ("call" : Str) :: s :: dg [a.enc, b.enc].length :: [a.wd, b.wd].flatten := by simp [wd]
    rw [e]
    exact .call s _ _ h.1 (Nat.le_refl 2) this
  | d + 1, .bin hh a b, h, hd => by
    simp only [dep] at hd
    have := PrR.cons (pr hm d a h.2.1 (by omega)) (PrR.cons (pr hm d b h.2.2 (by omega)) .nil)
    have e : (Tm.bin hh a b).wd = hh :: [a.wd, b.wd].flatten := by simp [wd]
    rw [e]
    exact .op hh _ _ (.inl ⟨h.1, rfl⟩) this
  | d + 1, .ite a b c, h, hd => by
    simp only [dep] at hd
    have := PrR.cons (pr hm d a h.1 (by omega)) (PrR.cons (pr hm d b h.2.1 (by omega)) (PrR.cons (pr hm d c h.2.2 (by omega)) .nil))
    have e : (Tm.ite a b c).wd = ("if" : Str) :: [a.wd, b.wd, c.wd].flatten := by simp [wd]
    rw [e]
    exact .op "if" _ _ (.inr ⟨rfl, rfl⟩) this
end Tm
/-- a word that does no harm -/
structure Wd (x : Str) : Prop where
  nb : 32 ∉ x.cps.toList
  len : x.length ≤ 8
  so : PyData.strOk x = true
theorem Wd.x {x : Str} (h : Wd x) : XOk x := ⟨h.so, by have := h.len; omega⟩
theorem wd_of {x : Str} (h : ((x.cps.toList.all fun c => c != 32) && decide (x.length ≤ 8) && PyData.strOk x) = true) : Wd x := by
  rw [Bool.and_eq_true] at h
  have := wok_of h.1
  exact ⟨this.nb, this.len, h.2⟩
theorem dg_so (k : Nat) : PyData.strOk (dg k) = true := by
  match k with
  | 0 => decide +kernel
  | 1 => decide +kernel
  | _ + 2 => show PyData.strOk "2" = true; decide +kernel
theorem flat_wd {P : W → List Str → Prop} : ∀ {ks : List W} {uss : List (List Str)}, PrR P ks uss → (∀ k us, P k us → ∀ x ∈ us, Wd x) → ∀ x ∈ uss.flatten, Wd x
  | _, _, .nil, _ => by simp
  | _, _, .cons a r, ih => fun x hx => by
    rw [List.flatten_cons] at hx
    rcases List.mem_append.mp hx with hx | hx
    · exact ih _ _ a x hx
    · exact flat_wd r ih x hx
theorem Pr.wd : ∀ {d : Nat} {w : W} {us : List Str}, Pr d w us → ∀ x ∈ us, Wd x
  | 0, _, _, h => h.elim
  | d + 1, w, us, h => by
    have nm : ∀ {s : Str}, Tm.NameOk s → Wd s := fun {s} hs => ⟨(wok_name hs).nb, (wok_name hs).len, hs.so⟩
    have fg' : ∀ k, Wd (dg k) := fun k => ⟨(wok_dg k).nb, (wok_dg k).len, dg_so k⟩
    cases h with
    | val i h => intro x hx; rw [List.mem_singleton.mp hx]; exact fg' i
    | arg i h =>
      intro x hx
      simp only [List.mem_cons, List.mem_nil_iff, or_false] at hx
      rcases hx with rfl | rfl
      · exact wd_of (by decide +kernel)
      · exact fg' i
    | cell s h =>
      intro x hx
      simp only [List.mem_cons, List.mem_nil_iff, or_false] at hx
      rcases hx with rfl | rfl
      · exact wd_of (by decide +kernel)
      · exact nm h
    | tick => intro x hx; rw [List.mem_singleton.mp hx]; exact wd_of (by decide +kernel)
    | call s ks uss h hk r =>
      intro x hx
      simp only [List.mem_cons] at hx
      rcases hx with rfl | rfl | rfl | hx
      · exact wd_of (by decide +kernel)
      · exact nm h
      · exact fg' _
      · exact flat_wd r (fun k us => Pr.wd) x hx
    | op hh ks uss ho r =>
      intro x hx
      rcases List.mem_cons.mp hx with rfl | hx
      · exact ⟨(wok_op ho).nb, (wok_op ho).len, opOk_so ho⟩
      · exact flat_wd r (fun k us => Pr.wd) x hx
theorem so_append {a b : Str} (ha : PyData.strOk a = true) (hb : PyData.strOk b = true) : PyData.strOk (a ++ b) = true := by
  have e : (a ++ b).cps = a.cps ++ b.cps := rfl
  unfold PyData.strOk at *
  rw [e, Array.all_append, ha, hb]; rfl
theorem so_jn : ∀ {ws : List Str}, (∀ x ∈ ws, Wd x) → PyData.strOk (jn ws) = true
  | [], _ => by decide +kernel
  | [x], h => by rw [jn_single]; exact (h x (by simp)).so
  | x :: y :: r, h => by
    rw [jn_cons (List.cons_ne_nil _ _)]
    exact so_append (so_append (h x (by simp)).so (by decide +kernel)) (so_jn fun z hz => h z (List.mem_cons_of_mem _ hz))
/-! ### one term, and what is left -/
def chks (c : List Str → Option (List Str)) : Nat → List Str → Option (List Str)
  | 0, l => some l
  | n + 1, l => (c l).bind (chks c n)
def chk : Nat → List Str → Option (List Str)
  | 0, _ => none
  | _ + 1, [] => none
  | d + 1, x :: r =>
    if x = "plus" ∨ x = "less" ∨ x = "same" then chks (chk d) 2 r
    else if x = "if" then chks (chk d) 3 r
    else if x = "call" then (match r with
      | s :: f :: r2 => if nameB s = true then (if f = "0" then some r2 else if f = "1" then chks (chk d) 1 r2 else if f = "2" then chks (chk d) 2 r2 else none) else none
      | _ => none)
    else if x = "arg" then (match r with
      | f :: r2 => if f = "0" ∨ f = "1" then some r2 else none
      | _ => none)
    else if x = "cell" then (match r with
      | s :: r2 => if nameB s = true then some r2 else none
      | _ => none)
    else if x = "tick" then some r
    else if x = "0" ∨ x = "1" ∨ x = "2" then some r else none
theorem chks_ok {c : List Str → Option (List Str)} {P : W → List Str → Prop} (h : ∀ w us rest, P w us → c (us ++ rest) = some rest) : ∀ {ks : List W} {uss : List (List Str)} (rest : List Str), PrR P ks uss → chks c ks.length (uss.flatten ++ rest) = some rest
  | _, _, _, .nil => rfl
  | _, _, rest, .cons (us := us) (uss := uss) a r => by
    rw [List.length_cons, List.flatten_cons, List.append_assoc]
    show (c (us ++ (uss.flatten ++ rest))).bind _ = _
    rw [h _ us _ a]
    exact chks_ok h rest r
theorem chk_ok' : ∀ {d : Nat} {w : W} {us : List Str} (rest : List Str), Pr d w us → chk d (us ++ rest) = some rest
  | 0, _, _, _, h => h.elim
  | d + 1, w, us, rest, h => by
    have ih : ∀ w us rest, Pr d w us → chk d (us ++ rest) = some rest := fun w us rest => chk_ok' rest
    cases h with
    | val i h =>
      match i, h with
      | 0, _ => show chk (d + 1) ("0" :: rest) = _; unfold chk; repeat (first | rw [if_neg (by decide +kernel)] | rw [if_pos (by decide +kernel)])
      | 1, _ => show chk (d + 1) ("1" :: rest) = _; unfold chk; repeat (first | rw [if_neg (by decide +kernel)] | rw [if_pos (by decide +kernel)])
      | 2, _ => show chk (d + 1) ("2" :: rest) = _; unfold chk; repeat (first | rw [if_neg (by decide +kernel)] | rw [if_pos (by decide +kernel)])
    | arg i h =>
      show chk (d + 1) ("arg" :: dg i :: rest) = _
      unfold chk
      rw [if_neg (by decide +kernel), if_neg (by decide +kernel), if_neg (by decide +kernel), if_pos rfl]
      simp only
      match i, h with
      | 0, _ => rw [if_pos (.inl rfl)]
      | 1, _ => rw [if_pos (.inr rfl)]
    | cell s h =>
      show chk (d + 1) ("cell" :: s :: rest) = _
      unfold chk
      rw [if_neg (by decide +kernel), if_neg (by decide +kernel), if_neg (by decide +kernel), if_neg (by decide +kernel), if_pos rfl]
      simp only [h.nm, if_true]
    | tick =>
      show chk (d + 1) ("tick" :: rest) = _
      unfold chk
      rw [if_neg (by decide +kernel), if_neg (by decide +kernel), if_neg (by decide +kernel), if_neg (by decide +kernel), if_neg (by decide +kernel), if_pos rfl]
    | call s ks uss h hk r =>
      show chk (d + 1) ("call" :: s :: dg ks.length :: (uss.flatten ++ rest)) = _
      unfold chk
      rw [if_neg (by decide +kernel), if_neg (by decide +kernel), if_pos rfl]
      simp only [h.nm, if_true]
      have hc := chks_ok ih rest r
      match hl : ks.length, hk with
      | 0, _ =>
        rw [hl] at hc
        rw [if_pos (by decide +kernel)]; exact hc
      | 1, _ =>
        rw [hl] at hc
        rw [if_neg (by decide +kernel), if_pos (by decide +kernel)]; exact hc
      | 2, _ =>
        rw [hl] at hc
        rw [if_neg (by decide +kernel), if_neg (by decide +kernel), if_pos (by decide +kernel)]; exact hc
    | op hh ks uss ho r =>
      show chk (d + 1) (hh :: (uss.flatten ++ rest)) = _
      unfold chk
      have hc := chks_ok ih rest r
      rcases ho with ⟨e, hl⟩ | ⟨rfl, hl⟩
      · rw [if_pos e]; rw [hl] at hc; exact hc
      · rw [if_neg (by decide +kernel), if_pos rfl]; rw [hl] at hc; exact hc
/-- nothing writes these -/
theorem no_pr {d : Nat} {us : List Str} (h : chk d us ≠ some []) : ∀ w, ¬ Pr d w us := fun w p => h (by have := chk_ok' [] p; rwa [List.append_nil] at this)
theorem no_more {d : Nat} {w : W} {us rest : List Str} (p : Pr d w us) (h : rest ≠ []) : ∀ w', ¬ Pr d w' (us ++ rest) := fun w' p' => by
  have h1 := chk_ok' rest p
  have h2 := chk_ok' [] p'
  rw [List.append_nil, h1] at h2
  exact h (Option.some.inj h2)
/-! ### compared -/
structure PDt (d : Nat) (w : W) (x : PyData) : Prop where
  to : PDat w = some x
  dep : wdep w ≤ 2 * d
  lay : x.canLay0 = true
  low : x.depth ≤ 2 * d
theorem pdt_list {d : Nat} : ∀ {ks : List W} {uss : List (List Str)}, PrR (Pr d) ks uss → (∀ k us, Pr d k us → ∃ x, PDt d k x) → ∃ xs, PDats ks = some xs ∧ wdeps ks ≤ 2 * d ∧ PyData.canLayAll0 xs = true ∧ PyData.depthAll xs ≤ 2 * d
  | _, _, .nil, _ => ⟨[], rfl, by simp [wdeps], rfl, by simp [PyData.depthAll]⟩
  | _, _, .cons a r, ih => by
    obtain ⟨x, hx⟩ := ih _ _ a
    obtain ⟨xs, h1, h2, h3, h4⟩ := pdt_list r ih
    refine ⟨x :: xs, by simp only [PDats, hx.to, h1], ?_, ?_, ?_⟩
    · have := hx.dep; simp only [wdeps]; omega
    · simp only [PyData.canLayAll0, hx.lay, h3]; rfl
    · have := hx.low; simp only [PyData.depthAll]; omega
theorem Pr.pdt : ∀ {d : Nat} {w : W} {us : List Str}, Pr d w us → ∃ x, PDt d w x
  | 0, _, _, h => h.elim
  | d + 1, w, us, h => by
    cases h with
    | val i h => exact ⟨.int i, rfl, by simp [wdep], rfl, by simp [PyData.depth]⟩
    | arg i h => exact ⟨.tuple [.str "arg", .int i], rfl, by simp [wdep, wdeps]; omega, by simp [PyData.canLay0, PyData.canLayAll0, so_arg], by simp [PyData.depth, PyData.depthAll]; omega⟩
    | cell s h => exact ⟨.tuple [.str "cell", .str s], rfl, by simp [wdep, wdeps]; omega, by simp [PyData.canLay0, PyData.canLayAll0, so_cell, h.so], by simp [PyData.depth, PyData.depthAll]; omega⟩
    | tick => exact ⟨.tuple [.str "tick"], rfl, by simp [wdep, wdeps]; omega, by simp [PyData.canLay0, PyData.canLayAll0, so_tick], by simp [PyData.depth, PyData.depthAll]; omega⟩
    | call s ks uss h hk r =>
      obtain ⟨xs, h1, h2, h3, h4⟩ := pdt_list r fun k us => Pr.pdt
      refine ⟨.tuple [.str "call", .str s, .tuple xs], by simp only [PDat, PDats, h1, Option.map], ?_, ?_, ?_⟩
      · simp only [wdep, wdeps]; omega
      · simp [PyData.canLay0, PyData.canLayAll0, so_call, h.so, h3]
      · simp only [PyData.depth, PyData.depthAll]; omega
    | op hh ks uss ho r =>
      obtain ⟨xs, h1, h2, h3, h4⟩ := pdt_list r fun k us => Pr.pdt
      refine ⟨.tuple (.str hh :: xs), by simp only [PDat, PDats, h1, Option.map], ?_, ?_, ?_⟩
      · simp only [wdep, wdeps]; omega
      · simp [PyData.canLay0, PyData.canLayAll0, opOk_so ho, h3]
      · simp only [PyData.depth, PyData.depthAll]; omega
theorem Pr.dat {d : Nat} {w : W} {us : List Str} (p : Pr d w us) (hd : d ≤ 8) : ∃ x, Dat w x := by
  obtain ⟨x, h⟩ := p.pdt
  exact ⟨x, h.to, by have := h.dep; omega, h.lay, by have := h.low; omega⟩
theorem ne_self {d : Nat} {w : W} {us : List Str} {L : LH} (p : Pr d w us) (hd : d ≤ 8) : oNe w w L = some (.bl false, L) := by
  obtain ⟨x, h⟩ := p.dat hd
  simp only [oNe, eqX_dat h h, SeqAt.eqv_refl x h.lay, Option.map, oB, Bool.not_true]
theorem ne_str {x : Str} {L : LH} (h : PyData.strOk x = true) : oNe (.str x) (.str x) L = some (.bl false, L) := by
  simp only [oNe, eqX_ss h h, beq_self_eq_true, Option.map, oB, Bool.not_true]
def badL : List W := [.str "bad", .int 0]
theorem bad_pd : PDats badL = some [.str "bad", .int 0] := rfl
theorem so_bad : PyData.strOk "bad" = true := by decide +kernel
/-- a term is no list -/
theorem ne_bad {d : Nat} {w : W} {us : List Str} {L : LH} {n : Nat} (p : Pr d w us) (hd : d ≤ 8) (h : L[n]? = some (.lst badL)) : oNe w (.ref n) L = some (.bl true, L) := by
  obtain ⟨x, hx⟩ := p.dat hd
  have h1 : toD L 40 w = some x := toD_of 40 w x hx.to (by have := hx.dep; omega)
  have h2 : toD L 40 (.ref n) = some (.list [.str "bad", .int 0]) := by
    unfold toD
    rw [seqL_at h]
    simp only
    rw [toDs_of 39 _ _ bad_pd (by decide)]; rfl
  have s1 : SeqAt.shaped x = true := by unfold SeqAt.shaped; rw [hx.lay, decide_eq_true hx.low]; rfl
  have s2 : SeqAt.shaped (.list [.str "bad", .int 0]) = true := by
    unfold SeqAt.shaped
    simp [PyData.canLay0, PyData.canLayAll0, so_bad, PyData.depth, PyData.depthAll]
  have hl : lenDiff L w (.ref n) = false := by
    cases d with
    | zero => exact p.elim
    | succ d => cases p <;> rfl
  have hq : PyData.eqv x (.list [.str "bad", .int 0]) = false := by
    have hto := hx.to
    cases d with
    | zero => exact p.elim
    | succ d =>
      cases p with
      | val i h => cases hto; rfl
      | arg i h => cases hto; rfl
      | cell s h => cases hto; rfl
      | tick => cases hto; rfl
      | call s ks uss h hk r =>
        simp only [PDat] at hto
        obtain ⟨xs, _, rfl⟩ := Option.map_eq_some_iff.mp hto
        rfl
      | op hh ks uss ho r =>
        simp only [PDat] at hto
        obtain ⟨xs, _, rfl⟩ := Option.map_eq_some_iff.mp hto
        rfl
  have : eqX L w (.ref n) = some false := by
    unfold eqX eqD
    rw [hl]
    simp only [Bool.false_eq_true, if_false, h1, h2, s1, s2, and_self, if_true, hq]
  simp only [oNe, this, Option.map, oB, Bool.not_false]
theorem ne_bads {L : LH} {n m : Nat} (h : L[n]? = some (.lst badL)) (hm : L[m]? = some (.lst badL)) : oNe (.ref n) (.ref m) L = some (.bl false, L) :=
  ne_same h hm bad_pd (by decide) (by simp [PyData.canLayAll0, PyData.canLay0, so_bad]) (by simp [PyData.depthAll, PyData.depth]) (by simp [PyData.eqvAll, PyData.eqv])
end Z

/-! TH: law_k79, block by block. -/
namespace Z
open PySem PySem.Spec PyProof.Rows L2
structure LG where
  T : Fn
  X : Fn
  R : Fn
  W : Fn
def hPool (F : LG) : Sx := sSet 2 (cCall f_law_pool [] (cCons (cVar 0) (cCons (cVar 1) cNil)))
def hPar (F : LG) : Sx := sAs (cOpL oTup (cCons (cCall (f_law_names f_law_draw c_pick) [] (cCons (cVar 2) (cCons (cC (.int 4)) cNil))) (cCons (cCall f_law_draw [] (cCons (cVar 2) (cCons (cC (.int 3)) cNil))) cNil))) (gTupW 2 (gsCons (gN 6) (gsCons (gN 7) gsNil)))
def hDict (F : LG) : Sx := sSet 3 (cDict [(cC (.str "cells"), cOpL oLst (cCons (cOpL oTup (cCons (cOp2 oIx (cVar 6) (cC (.int 0))) (cCons (cC (.str "table")) cNil))) (cCons (cOpL oTup (cCons (cOp2 oIx (cVar 6) (cC (.int 1))) (cCons (cC (.str "frozen")) cNil))) cNil))), (cC (.str "functions"), cOpL oLst (cCons (cDict [(cC (.str "name"), cOp2 oIx (cVar 6) (cC (.int 2))), (cC (.str "many"), cC (.int 2))]) (cCons (cDict [(cC (.str "name"), cOp2 oIx (cVar 6) (cC (.int 3))), (cC (.str "many"), cC (.int 0))]) cNil)))])
def hC1 (F : LG) : Sx := sIf (bOr (bVal (cOp2 oNe (cCall F.W [] (cCons (cVar 8) cNil)) (cVar 9))) (bVal (cOp2 oNe (cCall F.R [] (cCons (cVar 9) (cCons (cVar 7) cNil))) (cVar 8)))) (sRet (cC (.bl false))) sSkip
def hWds (F : LG) : Sx := sSet 10 (cMth isStr oSplit (cVar 9) (cCons (cC (.str " ")) cNil))
def hAt (F : LG) : Sx := sSet 11 (cCall f_law_draw [] (cCons (cVar 2) (cCons (cOpL oLen (cCons (cVar 10) cNil)) cNil)))
def hBent (F : LG) : Sx := sSet 12 (cOpL oLst (cCons (cOp2 oAdd (cVar 10) (cOpL oLst (cCons (cC (.str "0")) cNil))) (cCons (cOp2 oAdd (cVar 10) (cOpL oLst (cCons (cC (.str "arg")) cNil))) (cCons (cOp2 oAdd (cOp2 oAdd (cSl (cVar 10) none (some (cVar 11))) (cOpL oLst (cCons (cC (.str "")) cNil))) (cSl (cVar 10) (some (cVar 11)) none)) (cCons (cSl (cVar 10) none (some (cOp1 oNeg (cC (.int 1))))) (cCons (cOp2 oAdd (cVar 10) (cOpL oLst (cCons (cC (.str "")) cNil))) (cCons (cOp2 oAdd (cOpL oLst (cCons (cC (.str "")) cNil)) (cVar 10)) cNil)))))))
def hBentT (F : LG) : Sx := sSet 14 (cCall F.R [] (cCons (cMth isStr oJoin (cC (.str " ")) (cCons (cVar 13) cNil)) (cCons (cVar 7) cNil)))
def hBentC (F : LG) : Sx := sIf (bAnd (bVal (cOp2 oNe (cVar 14) (cOpL oLst (cCons (cC (.str "bad")) (cCons (cC (.int 0)) cNil))))) (bOr (bTru (cOpL oIsi (cCons (cVar 14) (cCons (cC (.ty "list")) cNil)))) (bVal (cOp2 oNe (cCall F.X [] (cCons (cVar 14) cNil)) (cMth isStr oJoin (cC (.str " ")) (cCons (cVar 13) cNil)))))) (sRet (cC (.bl false))) sSkip
def hBentB (F : LG) : Sx := sSeq (hBentT F) (hBentC F)
def hBents (F : LG) : Sx := sFor (iSeq (cOp2 oAdd (cVar 12) (cOpL oLst (cCons (cOp2 oAdd (cOp2 oAdd (cSl (cVar 10) none (some (cVar 11))) (cOpL oLst (cCons (cC (.str "Plus")) cNil))) (cSl (cVar 10) (some (cOp2 oAdd (cVar 11) (cC (.int 1)))) none)) (cCons (cOp2 oAdd (cOp2 oAdd (cSl (cVar 10) none (some (cVar 11))) (cOpL oLst (cCons (cC (.str "01")) cNil))) (cSl (cVar 10) (some (cOp2 oAdd (cVar 11) (cC (.int 1)))) none)) (cCons (cOp2 oAdd (cOp2 oAdd (cSl (cVar 10) none (some (cVar 11))) (cOpL oLst (cCons (cC (.str "-1")) cNil))) (cSl (cVar 10) (some (cOp2 oAdd (cVar 11) (cC (.int 1)))) none)) cNil)))))) (gN 13) (hBentB F)
def hEnd (F : LG) : Sx := sIf (bOr (bVal (cOp2 oNe (cCall F.R [] (cCons (cMth isStr oJoin (cC (.str " ")) (cCons (cOp2 oAdd (cVar 10) (cOpL oLst (cCons (cC (.str "0")) cNil))) cNil)) (cCons (cVar 7) cNil))) (cOpL oLst (cCons (cC (.str "bad")) (cCons (cC (.int 0)) cNil))))) (bVal (cOp2 oNe (cCall F.R [] (cCons (cOp2 oAdd (cVar 9) (cC (.str " "))) (cCons (cVar 7) cNil))) (cOpL oLst (cCons (cC (.str "bad")) (cCons (cC (.int 0)) cNil)))))) (sRet (cC (.bl false))) sSkip
def hChk (F : LG) : Sx := sSeq (hC1 F) (sSeq (hWds F) (sSeq (hAt F) (sSeq (hBent F) (sSeq (hBents F) (hEnd F)))))
def hTerm (F : LG) : Sx := sSet 8 (cCall F.T [] (cCons (cVar 2) (cCons (cVar 3) (cCons (cVar 7) (cCons (cCall f_law_draw [] (cCons (cVar 2) (cCons (cC (.int 4)) cNil))) cNil)))))
def hText (F : LG) : Sx := sSet 9 (cCall F.X [] (cCons (cVar 8) cNil))
def hTB (F : LG) : Sx := sSeq (hTerm F) (sSeq (hText F) (sIf (bVal (cOp2 oLe (cOpL oLen (cCons (cMth isStr oSplit (cVar 9) (cCons (cC (.str " ")) cNil)) cNil)) (cC (.int 30)))) (hChk F) sSkip))
def hTurns (F : LG) : Sx := sFor (iRng1 (cCons (cC (.int 12)) cNil)) (gN 4) (hTB F)
def hO1 (F : LG) : Sx := sSet 5 (cOpL oLst (cCons (cC .non) (cCons (cC (.int 5)) (cCons (cC (.str "")) (cCons (cC (.str " ")) (cCons (cC (.str "3")) (cCons (cC (.str "arg")) (cCons (cOp2 oAdd (cC (.str "arg ")) (cOpL oStr (cCons (cVar 7) cNil))) (cCons (cC (.str "arg x")) (cCons (cC (.str "cell")) (cCons (cC (.str "cell A")) (cCons (cC (.str "plus 1")) (cCons (cC (.str "less 1 2 3")) (cCons (cC (.str "if 1 2")) (cCons (cC (.str "call f")) cNil)))))))))))))))
def hO2 (F : LG) : Sx := sSet 5 (cOp2 oAdd (cVar 5) (cOpL oLst (cCons (cC (.str "call f 3 1 1 1")) (cCons (cC (.str "call f 1")) (cCons (cC (.str "call f 01 1")) (cCons (cC (.str "call F 0")) (cCons (cC (.str "Tick")) (cCons (cC (.str "tick 1")) (cCons (cC (.str "same 1  2")) (cCons (cOpL oLst (cCons (cC (.str "tick")) cNil)) (cCons (cC (.str "arg -1")) (cCons (cC (.str "arg 00")) cNil))))))))))))
def hOdd (F : LG) : Sx := sIf (bVal (cOp2 oNe (cLc [15] (iSeq (cVar 5)) (CT.one 15) (bVal (cOp2 oNe (cCall F.R [] (cCons (cVar 15) (cCons (cVar 7) cNil))) (cOpL oLst (cCons (cC (.str "bad")) (cCons (cC (.int 0)) cNil))))) (cVar 15)) (cOpL oLst cNil))) (sRet (cC (.bl false))) sSkip
def hBody (F : LG) : Sx := sSeq (hPool F) (sSeq (hPar F) (sSeq (hDict F) (sSeq (hTurns F) (sSeq (hO1 F) (sSeq (hO2 F) (hOdd F))))))
def hLaw (F : LG) : Sx := sSeq (sFor (iRng1 (cCons (cOpL oMax (cCons (cC (.int 1)) (cCons (cOpL oMin (cCons (cOpL oLen (cCons (cVar 0) cNil)) (cCons (cC (.int 2)) cNil))) cNil))) cNil)) (gN 1) (hBody F)) (sRet (cC (.bl true)))
def lawG (F : LG) : Fn := defF 16 1 (sSeq (sFor (iRng1 (cCons (cOpL oMax (cCons (cC (.int 1)) (cCons (cOpL oMin (cCons (cOpL oLen (cCons (cVar 0) cNil)) (cCons (cC (.int 2)) cNil))) cNil))) cNil)) (gN 1) (sSeq (sSet 2 (cCall f_law_pool [] (cCons (cVar 0) (cCons (cVar 1) cNil)))) (sSeq (sAs (cOpL oTup (cCons (cCall (f_law_names f_law_draw c_pick) [] (cCons (cVar 2) (cCons (cC (.int 4)) cNil))) (cCons (cCall f_law_draw [] (cCons (cVar 2) (cCons (cC (.int 3)) cNil))) cNil))) (gTupW 2 (gsCons (gN 6) (gsCons (gN 7) gsNil)))) (sSeq (sSet 3 (cDict [(cC (.str "cells"), cOpL oLst (cCons (cOpL oTup (cCons (cOp2 oIx (cVar 6) (cC (.int 0))) (cCons (cC (.str "table")) cNil))) (cCons (cOpL oTup (cCons (cOp2 oIx (cVar 6) (cC (.int 1))) (cCons (cC (.str "frozen")) cNil))) cNil))), (cC (.str "functions"), cOpL oLst (cCons (cDict [(cC (.str "name"), cOp2 oIx (cVar 6) (cC (.int 2))), (cC (.str "many"), cC (.int 2))]) (cCons (cDict [(cC (.str "name"), cOp2 oIx (cVar 6) (cC (.int 3))), (cC (.str "many"), cC (.int 0))]) cNil)))])) (sSeq (sFor (iRng1 (cCons (cC (.int 12)) cNil)) (gN 4) (sSeq (sSet 8 (cCall F.T [] (cCons (cVar 2) (cCons (cVar 3) (cCons (cVar 7) (cCons (cCall f_law_draw [] (cCons (cVar 2) (cCons (cC (.int 4)) cNil))) cNil)))))) (sSeq (sSet 9 (cCall F.X [] (cCons (cVar 8) cNil))) (sIf (bVal (cOp2 oLe (cOpL oLen (cCons (cMth isStr oSplit (cVar 9) (cCons (cC (.str " ")) cNil)) cNil)) (cC (.int 30)))) (sSeq (sIf (bOr (bVal (cOp2 oNe (cCall F.W [] (cCons (cVar 8) cNil)) (cVar 9))) (bVal (cOp2 oNe (cCall F.R [] (cCons (cVar 9) (cCons (cVar 7) cNil))) (cVar 8)))) (sRet (cC (.bl false))) sSkip) (sSeq (sSet 10 (cMth isStr oSplit (cVar 9) (cCons (cC (.str " ")) cNil))) (sSeq (sSet 11 (cCall f_law_draw [] (cCons (cVar 2) (cCons (cOpL oLen (cCons (cVar 10) cNil)) cNil)))) (sSeq (sSet 12 (cOpL oLst (cCons (cOp2 oAdd (cVar 10) (cOpL oLst (cCons (cC (.str "0")) cNil))) (cCons (cOp2 oAdd (cVar 10) (cOpL oLst (cCons (cC (.str "arg")) cNil))) (cCons (cOp2 oAdd (cOp2 oAdd (cSl (cVar 10) none (some (cVar 11))) (cOpL oLst (cCons (cC (.str "")) cNil))) (cSl (cVar 10) (some (cVar 11)) none)) (cCons (cSl (cVar 10) none (some (cOp1 oNeg (cC (.int 1))))) (cCons (cOp2 oAdd (cVar 10) (cOpL oLst (cCons (cC (.str "")) cNil))) (cCons (cOp2 oAdd (cOpL oLst (cCons (cC (.str "")) cNil)) (cVar 10)) cNil)))))))) (sSeq (sFor (iSeq (cOp2 oAdd (cVar 12) (cOpL oLst (cCons (cOp2 oAdd (cOp2 oAdd (cSl (cVar 10) none (some (cVar 11))) (cOpL oLst (cCons (cC (.str "Plus")) cNil))) (cSl (cVar 10) (some (cOp2 oAdd (cVar 11) (cC (.int 1)))) none)) (cCons (cOp2 oAdd (cOp2 oAdd (cSl (cVar 10) none (some (cVar 11))) (cOpL oLst (cCons (cC (.str "01")) cNil))) (cSl (cVar 10) (some (cOp2 oAdd (cVar 11) (cC (.int 1)))) none)) (cCons (cOp2 oAdd (cOp2 oAdd (cSl (cVar 10) none (some (cVar 11))) (cOpL oLst (cCons (cC (.str "-1")) cNil))) (cSl (cVar 10) (some (cOp2 oAdd (cVar 11) (cC (.int 1)))) none)) cNil)))))) (gN 13) (sSeq (sSet 14 (cCall F.R [] (cCons (cMth isStr oJoin (cC (.str " ")) (cCons (cVar 13) cNil)) (cCons (cVar 7) cNil)))) (sIf (bAnd (bVal (cOp2 oNe (cVar 14) (cOpL oLst (cCons (cC (.str "bad")) (cCons (cC (.int 0)) cNil))))) (bOr (bTru (cOpL oIsi (cCons (cVar 14) (cCons (cC (.ty "list")) cNil)))) (bVal (cOp2 oNe (cCall F.X [] (cCons (cVar 14) cNil)) (cMth isStr oJoin (cC (.str " ")) (cCons (cVar 13) cNil)))))) (sRet (cC (.bl false))) sSkip))) (sIf (bOr (bVal (cOp2 oNe (cCall F.R [] (cCons (cMth isStr oJoin (cC (.str " ")) (cCons (cOp2 oAdd (cVar 10) (cOpL oLst (cCons (cC (.str "0")) cNil))) cNil)) (cCons (cVar 7) cNil))) (cOpL oLst (cCons (cC (.str "bad")) (cCons (cC (.int 0)) cNil))))) (bVal (cOp2 oNe (cCall F.R [] (cCons (cOp2 oAdd (cVar 9) (cC (.str " "))) (cCons (cVar 7) cNil))) (cOpL oLst (cCons (cC (.str "bad")) (cCons (cC (.int 0)) cNil)))))) (sRet (cC (.bl false))) sSkip)))))) sSkip)))) (sSeq (sSet 5 (cOpL oLst (cCons (cC .non) (cCons (cC (.int 5)) (cCons (cC (.str "")) (cCons (cC (.str " ")) (cCons (cC (.str "3")) (cCons (cC (.str "arg")) (cCons (cOp2 oAdd (cC (.str "arg ")) (cOpL oStr (cCons (cVar 7) cNil))) (cCons (cC (.str "arg x")) (cCons (cC (.str "cell")) (cCons (cC (.str "cell A")) (cCons (cC (.str "plus 1")) (cCons (cC (.str "less 1 2 3")) (cCons (cC (.str "if 1 2")) (cCons (cC (.str "call f")) cNil)))))))))))))))) (sSeq (sSet 5 (cOp2 oAdd (cVar 5) (cOpL oLst (cCons (cC (.str "call f 3 1 1 1")) (cCons (cC (.str "call f 1")) (cCons (cC (.str "call f 01 1")) (cCons (cC (.str "call F 0")) (cCons (cC (.str "Tick")) (cCons (cC (.str "tick 1")) (cCons (cC (.str "same 1  2")) (cCons (cOpL oLst (cCons (cC (.str "tick")) cNil)) (cCons (cC (.str "arg -1")) (cCons (cC (.str "arg 00")) cNil))))))))))))) (sIf (bVal (cOp2 oNe (cLc [15] (iSeq (cVar 5)) (CT.one 15) (bVal (cOp2 oNe (cCall F.R [] (cCons (cVar 15) (cCons (cVar 7) cNil))) (cOpL oLst (cCons (cC (.str "bad")) (cCons (cC (.int 0)) cNil))))) (cVar 15)) (cOpL oLst cNil))) (sRet (cC (.bl false))) sSkip)))))))) (sRet (cC (.bl true))))
theorem lawG_eq (F : LG) : lawG F = defF 16 1 (hLaw F) := rfl
def ReadR (many : Int) (x : Str) (L : LH) (v : W) (L' : LH) : Prop := L <+: L' ∧ ((Bad v L' ∧ TI many (wds x) .non) ∨ (Pr 8 v (wds x) ∧ TI many (wds x) v))
structure LGok (F : LG) : Prop where
  T : ∀ many : Int, 0 ≤ many → many ≤ 2 → TmS many F.T 4
  X : TxS F.X 8
  Wt : TxS F.W 8
  R : ∀ (x : Str) (many : Int) (L : LH), x.length ≤ 16777214 → (∀ y ∈ wds x, XOk y) → Ev (F.R [.str x, .int many] L) (ReadR many x L)
  RO : ∀ (w : W) (many : Int) (L : LH) (t : String), tyName w L = some t → kitB t "str" = some false → Ev (F.R [w, .int many] L) fun v L' => L <+: L' ∧ Bad v L'
abbrev hE (e0 e1 : Option W) (p nb : Nat) (e4 e5 e6 : Option W) (many : Int) (e8 e9 e10 e11 e12 e13 e14 e15 : Option W) : Env := [e0, e1, some (.ref p), some (.ref nb), e4, e5, e6, some (.int many), e8, e9, e10, e11, e12, e13, e14, e15]
theorem pr_ty {d : Nat} {w : W} {us : List Str} (p : Pr d w us) : ∃ ty, (∀ L, tyName w L = some ty) ∧ kitB ty "list" = some false := by
  cases d with
  | zero => exact p.elim
  | succ d => cases p <;> exact ⟨_, fun _ => rfl, rfl⟩
/-! ### rows of good words -/
def GL (L : LH) (k : Nat) (r : Nat) : Prop := ∃ ws : List Str, L[r]? = some (.lst (ws.map .str)) ∧ (∀ x ∈ ws, Wd x) ∧ ws.length ≤ k
theorem GL.mono {L L' : LH} {k r : Nat} (h : GL L k r) (p : L <+: L') : GL L' k r := let ⟨ws, a, b, c⟩ := h; ⟨ws, pre_at p a, b, c⟩
theorem GL.le {L : LH} {k k' r : Nat} (h : GL L k r) (p : k ≤ k') : GL L k' r := let ⟨ws, a, b, c⟩ := h; ⟨ws, a, b, Nat.le_trans c p⟩
def WL (f : Ex) (env : Env) (L0 : LH) (k : Nat) : Prop := ∀ L, L0 <+: L → Ev (f env L) fun v L' => ∃ r, v = .ref r ∧ GL L' k r ∧ L <+: L'
def WLs (fs : ExL) (env : Env) (L0 : LH) (k n : Nat) : Prop := ∀ L, L0 <+: L → Ev (fs env L) fun vs L' => ∃ rs : List Nat, vs = rs.map .ref ∧ rs.length = n ∧ (∀ r ∈ rs, GL L' k r) ∧ L <+: L'
section
variable {env : Env} {L0 : LH} {k k' n : Nat}
theorem wl_var {i r : Nat} (e : env[i]? = some (some (.ref r))) (h : GL L0 k r) : WL (cVar i) env L0 k := fun L p => by
  rw [ev_var, e]
  exact ⟨r, rfl, h.mono p, List.prefix_refl _⟩
theorem wl_one {x : Str} (h : Wd x) : WL (cOpL oLst (cCons (cC (.str x)) cNil)) env L0 1 := fun L p => by
  simp only [wipeE, ev_ok, ev_bind, ev_only, ev_ofO, ev_ofOB, ev_ite, evs_ite, evo_some, evs_toS, evs_seq, ev_C, ev_var, ev_op2, ev_op1, ev_opL, ev_nil, ev_cons, ev_call, ev_bVal, ev_bTru, ev_bNot, ev_bAnd, ev_bOr, ev_bYes, ev_cIf, ev_cNot, ev_cAnd, ev_cOr, ev_chain, ev_part_none, ev_part_some, ev_sl, ev_mth, evs_skip, evs_set, evs_ret, evs_expr, evs_if, evs_par, evs_as, ev_gN, ev_gsNil, ev_gsCons, ev_gTup, ev_gIx, evs_aug, ev_defF, evs_for, ev_rng1, ev_iSeq, ev_lc, o_addI, o_subI, o_addS, o_addT, o_mulI, o_modI, o_divI, o_powI, o_cmpI, o_intI, o_intB, o_absI, o_lst, o_tup, bl_bl, List.map_cons, List.map_nil, List.cons_append, List.nil_append, List.append_nil, List.getElem?_cons_zero, List.getElem?_cons_succ, List.set_cons_zero, List.set_cons_succ, List.length_cons, List.length_nil, List.replicate, Nat.reduceAdd, Nat.reduceSub, Nat.reduceLeDiff, true_and, and_true, if_true, decide_eq_true_eq, Nat.zero_add]
  exact ⟨_, rfl, ⟨[x], at_last, by simpa using h, Nat.le_refl _⟩, pre_last⟩
theorem wl_add {f g : Ex} (hf : WL f env L0 k) (hg : WL g env L0 k') (hz : k + k' ≤ 16777216) : WL (cOp2 oAdd f g) env L0 (k + k') := fun L p => by
  rw [ev_op2]
  refine (hf L p).mono fun v L1 q => ?_
  obtain ⟨r, rfl, g1, p1⟩ := q
  refine (hg L1 (p.trans p1)).mono fun v L2 q => ?_
  obtain ⟨s, rfl, ⟨vs, b1, b2, b3⟩, p2⟩ := q
  obtain ⟨ws, a1, a2, a3⟩ := g1.mono p2
  rw [addL_at a1 b1 (by simp; omega)]
  refine ⟨_, rfl, ⟨ws ++ vs, ?_, fun x hx => ?_, by rw [List.length_append]; omega⟩, (p1.trans p2).trans pre_last⟩
  · rw [List.map_append]; exact at_last
  · rcases List.mem_append.mp hx with hx | hx
    · exact a2 x hx
    · exact b2 x hx
theorem cut_strs (ws : List Str) (lo hi : Option Int) : ∃ vs : List Str, cutW (ws.map .str) lo hi = vs.map .str ∧ (∀ x ∈ vs, x ∈ ws) ∧ vs.length ≤ ws.length := by
  unfold cutW
  rw [← List.map_drop, ← List.map_take]
  refine ⟨_, rfl, fun x hx => List.mem_of_mem_drop (List.mem_of_mem_take hx), ?_⟩
  rw [List.length_take, List.length_drop]
  omega
def PtE (o : Option Ex) (env : Env) : Prop := ∀ L, ∃ x, cPart o env L = .ok x L
theorem pte_none : PtE none env := fun L => ⟨none, rfl⟩
theorem wl_sl {f : Ex} {lo hi : Option Ex} (hf : WL f env L0 k) (hl : PtE lo env) (hh : PtE hi env) : WL (cSl f lo hi) env L0 k := fun L p => by
  rw [ev_sl]
  refine (hf L p).mono fun v L1 q => ?_
  obtain ⟨r, rfl, ⟨ws, a1, a2, a3⟩, p1⟩ := q
  obtain ⟨x, ex⟩ := hl L1
  obtain ⟨y, ey⟩ := hh L1
  rw [ex, ev_ok, ey, ev_ok]
  obtain ⟨vs, e, v1, v2⟩ := cut_strs ws x y
  have : oSl (.ref r) x y L1 = some (.ref L1.length, L1 ++ [.lst (vs.map .str)]) := by
    simp only [oSl, seq_at a1, e]
  rw [this, evo_some]
  exact ⟨_, rfl, ⟨vs, at_last, fun z hz => a2 z (v1 z hz), Nat.le_trans v2 a3⟩, p1.trans pre_last⟩
theorem wls_nil : WLs cNil env L0 k 0 := fun L p => ⟨[], rfl, rfl, by simp, List.prefix_refl _⟩
theorem wls_cons {f : Ex} {g : ExL} (hf : WL f env L0 k') (hk : k' ≤ k) (hg : WLs g env L0 k n) : WLs (cCons f g) env L0 k (n + 1) := fun L p => by
  rw [ev_cons]
  refine (hf L p).mono fun v L1 q => ?_
  obtain ⟨r, rfl, g1, p1⟩ := q
  refine (hg L1 (p.trans p1)).mono fun vs L2 q => ?_
  obtain ⟨rs, rfl, hl, h2, p2⟩ := q
  refine ⟨r :: rs, rfl, by rw [List.length_cons, hl], fun s hs => ?_, p1.trans p2⟩
  rcases List.mem_cons.mp hs with rfl | hs
  · exact (g1.mono p2).le hk
  · exact h2 s hs
end
theorem wds_good {ws : List Str} (h : ∀ x ∈ ws, Wd x) : ∀ y ∈ wds (jn ws), Wd y := by
  by_cases hne : ws = []
  · subst hne
    have : wds (jn []) = [("" : Str)] := by decide +kernel
    rw [this]
    intro y hy
    rw [List.mem_singleton.mp hy]
    exact wd_of (by decide +kernel)
  · rw [wds_jn hne fun x hx => (h x hx).nb]; exact h
theorem wsz_wd {us : List Str} (h : ∀ x ∈ us, Wd x) : wsz us ≤ 9 * us.length := wsz_ok fun x hx => ⟨(h x hx).nb, (h x hx).len⟩
section
variable {F : LG} {many : Int} {L : LH} {p nb : Nat} {e0 e1 e4 e5 e6 e8 e9 e10 e11 e12 e13 e14 e15 : Option W} {t : Tm} {N : Env → LH → Prop} {R : W → LH → Prop}
theorem t_wds (hm : many ≤ 2) (ht : t.ok many) (hd : t.dep ≤ 8) : Pr 8 t.enc t.wd ∧ wds (jn t.wd) = t.wd ∧ (∀ x ∈ t.wd, Wd x) ∧ wsz t.wd ≤ 88560 ∧ (jn t.wd).length ≤ 88560 ∧ t.wd ≠ [] := by
  have pp := Tm.pr hm 8 t ht hd
  have u := pp.uok
  have hw := pp.wd
  have h8 : wsz t.wd ≤ 88560 := Nat.le_trans u.sz (by decide)
  exact ⟨pp, wds_jn u.ne fun x hx => (hw x hx).nb, hw, h8, Nat.le_trans (jn_len _) h8, u.ne⟩
theorem read_orig (FK : LGok F) (hm : many ≤ 2) (ht : t.ok many) (hs : t.size ≤ 30) (hd : t.dep ≤ 8) : Ev (F.R [.str (jn t.wd), .int many] L) fun v L' => L <+: L' ∧ v = t.enc := by
  obtain ⟨pp, ew, hw, h1, h2, h3⟩ := t_wds hm ht hd
  refine (FK.R _ many L (by omega) (by rw [ew]; exact fun y hy => (hw y hy).x)).mono fun v L' q => ?_
  obtain ⟨pr, ⟨hb, ti⟩ | ⟨hp, ti⟩⟩ := q
  · have := ti.2.1 t ht hs hd (by rw [ew]; exact pp)
    cases t <;> cases this
  · exact ⟨pr, ti.2.1 t ht hs hd (by rw [ew]; exact pp)⟩
/-- a text that no term has -/
theorem read_bad (FK : LGok F) {x : Str} (hx : x.length ≤ 16777214) (hw : ∀ y ∈ wds x, XOk y) (hn : ∀ v, Pr 8 v (wds x) → formB many v = false) : Ev (F.R [.str x, .int many] L) fun v L' => L <+: L' ∧ Bad v L' := by
  refine (FK.R x many L hx hw).mono fun v L' q => ?_
  obtain ⟨pr, ⟨hb, ti⟩ | ⟨hp, ti⟩⟩ := q
  · exact ⟨pr, hb⟩
  · have := ti.2.2 v hp (hn v hp)
    subst this
    exact absurd hp (by intro h; cases h)
theorem hC1_ok (FK : LGok F) (hm : many ≤ 2) (ht : t.ok many) (hs : t.size ≤ 30) (hd : t.dep ≤ 8) (k : ∀ L', L <+: L' → N (hE e0 e1 p nb e4 e5 e6 many (some t.enc) (some (.str (jn t.wd))) e10 e11 e12 e13 e14 e15) L') :
    EvS (hC1 F (hE e0 e1 p nb e4 e5 e6 many (some t.enc) (some (.str (jn t.wd))) e10 e11 e12 e13 e14 e15) L) N R := by
  obtain ⟨pp, ew, hw, h1, h2, h3⟩ := t_wds hm ht hd
  simp only [hC1, hE, wipeE, ev_ok, ev_bind, ev_only, ev_ofO, ev_ofOB, ev_ite, evs_ite, evo_some, evs_toS, evs_seq, ev_C, ev_var, ev_op2, ev_op1, ev_opL, ev_nil, ev_cons, ev_call, ev_bVal, ev_bTru, ev_bNot, ev_bAnd, ev_bOr, ev_bYes, ev_cIf, ev_cNot, ev_cAnd, ev_cOr, ev_chain, ev_part_none, ev_part_some, ev_sl, ev_mth, evs_skip, evs_set, evs_ret, evs_expr, evs_if, evs_par, evs_as, ev_gN, ev_gsNil, ev_gsCons, ev_gTup, ev_gIx, evs_aug, ev_defF, evs_for, ev_rng1, ev_iSeq, ev_lc, o_addI, o_subI, o_addS, o_addT, o_mulI, o_modI, o_divI, o_powI, o_cmpI, o_intI, o_intB, o_absI, o_lst, o_tup, bl_bl, List.map_cons, List.map_nil, List.cons_append, List.nil_append, List.append_nil, List.getElem?_cons_zero, List.getElem?_cons_succ, List.set_cons_zero, List.set_cons_succ, List.length_cons, List.length_nil, List.replicate, Nat.reduceAdd, Nat.reduceSub, Nat.reduceLeDiff, true_and, and_true, if_true, decide_eq_true_eq, Nat.zero_add]
  refine (FK.Wt _ _ L pp).mono fun v L1 q => ?_
  obtain ⟨rfl, p1⟩ := q
  simp only [ne_str (so_jn hw), wipeE, ev_ok, ev_bind, ev_only, ev_ofO, ev_ofOB, ev_ite, evs_ite, evo_some, evs_toS, evs_seq, ev_C, ev_var, ev_op2, ev_op1, ev_opL, ev_nil, ev_cons, ev_call, ev_bVal, ev_bTru, ev_bNot, ev_bAnd, ev_bOr, ev_bYes, ev_cIf, ev_cNot, ev_cAnd, ev_cOr, ev_chain, ev_part_none, ev_part_some, ev_sl, ev_mth, evs_skip, evs_set, evs_ret, evs_expr, evs_if, evs_par, evs_as, ev_gN, ev_gsNil, ev_gsCons, ev_gTup, ev_gIx, evs_aug, ev_defF, evs_for, ev_rng1, ev_iSeq, ev_lc, o_addI, o_subI, o_addS, o_addT, o_mulI, o_modI, o_divI, o_powI, o_cmpI, o_intI, o_intB, o_absI, o_lst, o_tup, bl_bl, List.map_cons, List.map_nil, List.cons_append, List.nil_append, List.append_nil, List.getElem?_cons_zero, List.getElem?_cons_succ, List.set_cons_zero, List.set_cons_succ, List.length_cons, List.length_nil, List.replicate, Nat.reduceAdd, Nat.reduceSub, Nat.reduceLeDiff, true_and, and_true, if_true, decide_eq_true_eq, Nat.zero_add, blW, Bool.false_eq_true, if_false]
  refine (read_orig FK hm ht hs hd).mono fun v L2 q => ?_
  obtain ⟨p2, rfl⟩ := q
  simp only [ne_self pp (Nat.le_refl 8), wipeE, ev_ok, ev_bind, ev_only, ev_ofO, ev_ofOB, ev_ite, evs_ite, evo_some, evs_toS, evs_seq, ev_C, ev_var, ev_op2, ev_op1, ev_opL, ev_nil, ev_cons, ev_call, ev_bVal, ev_bTru, ev_bNot, ev_bAnd, ev_bOr, ev_bYes, ev_cIf, ev_cNot, ev_cAnd, ev_cOr, ev_chain, ev_part_none, ev_part_some, ev_sl, ev_mth, evs_skip, evs_set, evs_ret, evs_expr, evs_if, evs_par, evs_as, ev_gN, ev_gsNil, ev_gsCons, ev_gTup, ev_gIx, evs_aug, ev_defF, evs_for, ev_rng1, ev_iSeq, ev_lc, o_addI, o_subI, o_addS, o_addT, o_mulI, o_modI, o_divI, o_powI, o_cmpI, o_intI, o_intB, o_absI, o_lst, o_tup, bl_bl, List.map_cons, List.map_nil, List.cons_append, List.nil_append, List.append_nil, List.getElem?_cons_zero, List.getElem?_cons_succ, List.set_cons_zero, List.set_cons_succ, List.length_cons, List.length_nil, List.replicate, Nat.reduceAdd, Nat.reduceSub, Nat.reduceLeDiff, true_and, and_true, if_true, decide_eq_true_eq, Nat.zero_add, blW, Bool.false_eq_true, if_false]
  exact k L2 (p1.trans p2)
theorem split_at (x : Str) (h : x.length ≤ 16777214) : oSplit (.str x) [.str " "] L = some (.ref L.length, L ++ [.lst ((wds x).map .str)]) := by
  simp only [oSplit]
  rw [blank_eq, if_pos ⟨rfl, by omega⟩]
  rfl
theorem hWds_ok (hm : many ≤ 2) (ht : t.ok many) (hd : t.dep ≤ 8) (k : ∀ L' n, L <+: L' → L'[n]? = some (.lst (t.wd.map .str)) → N (hE e0 e1 p nb e4 e5 e6 many e8 (some (.str (jn t.wd))) (some (.ref n)) e11 e12 e13 e14 e15) L') :
    EvS (hWds F (hE e0 e1 p nb e4 e5 e6 many e8 (some (.str (jn t.wd))) e10 e11 e12 e13 e14 e15) L) N R := by
  obtain ⟨pp, ew, hw, h1, h2, h3⟩ := t_wds hm ht hd
  simp only [hWds, hE, wipeE, ev_ok, ev_bind, ev_only, ev_ofO, ev_ofOB, ev_ite, evs_ite, evo_some, evs_toS, evs_seq, ev_C, ev_var, ev_op2, ev_op1, ev_opL, ev_nil, ev_cons, ev_call, ev_bVal, ev_bTru, ev_bNot, ev_bAnd, ev_bOr, ev_bYes, ev_cIf, ev_cNot, ev_cAnd, ev_cOr, ev_chain, ev_part_none, ev_part_some, ev_sl, ev_mth, evs_skip, evs_set, evs_ret, evs_expr, evs_if, evs_par, evs_as, ev_gN, ev_gsNil, ev_gsCons, ev_gTup, ev_gIx, evs_aug, ev_defF, evs_for, ev_rng1, ev_iSeq, ev_lc, o_addI, o_subI, o_addS, o_addT, o_mulI, o_modI, o_divI, o_powI, o_cmpI, o_intI, o_intB, o_absI, o_lst, o_tup, bl_bl, List.map_cons, List.map_nil, List.cons_append, List.nil_append, List.append_nil, List.getElem?_cons_zero, List.getElem?_cons_succ, List.set_cons_zero, List.set_cons_succ, List.length_cons, List.length_nil, List.replicate, Nat.reduceAdd, Nat.reduceSub, Nat.reduceLeDiff, true_and, and_true, if_true, decide_eq_true_eq, Nat.zero_add, isStr_s, split_at (L := L) (jn t.wd) (by omega), ew]
  exact k _ _ pre_last at_last
theorem hAt_ok {n : Nat} {ws : List Str} (hp : PoolOk p L) (hn : L[n]? = some (.lst (ws.map .str))) (h0 : 0 < ws.length) (h1 : ws.length ≤ 1000) (k : ∀ L' a, Upd p L L' → N (hE e0 e1 p nb e4 e5 e6 many e8 e9 (some (.ref n)) (some (.int a)) e12 e13 e14 e15) L') :
    EvS (hAt F (hE e0 e1 p nb e4 e5 e6 many e8 e9 (some (.ref n)) e11 e12 e13 e14 e15) L) N R := by
  simp only [hAt, hE, wipeE, ev_ok, ev_bind, ev_only, ev_ofO, ev_ofOB, ev_ite, evs_ite, evo_some, evs_toS, evs_seq, ev_C, ev_var, ev_op2, ev_op1, ev_opL, ev_nil, ev_cons, ev_call, ev_bVal, ev_bTru, ev_bNot, ev_bAnd, ev_bOr, ev_bYes, ev_cIf, ev_cNot, ev_cAnd, ev_cOr, ev_chain, ev_part_none, ev_part_some, ev_sl, ev_mth, evs_skip, evs_set, evs_ret, evs_expr, evs_if, evs_par, evs_as, ev_gN, ev_gsNil, ev_gsCons, ev_gTup, ev_gIx, evs_aug, ev_defF, evs_for, ev_rng1, ev_iSeq, ev_lc, o_addI, o_subI, o_addS, o_addT, o_mulI, o_modI, o_divI, o_powI, o_cmpI, o_intI, o_intB, o_absI, o_lst, o_tup, bl_bl, List.map_cons, List.map_nil, List.cons_append, List.nil_append, List.append_nil, List.getElem?_cons_zero, List.getElem?_cons_succ, List.set_cons_zero, List.set_cons_succ, List.length_cons, List.length_nil, List.replicate, Nat.reduceAdd, Nat.reduceSub, Nat.reduceLeDiff, true_and, and_true, if_true, decide_eq_true_eq, Nat.zero_add, oLen_at hn, List.length_map]
  exact ev_draw hp (by omega) (by omega) fun r _ _ L' u => k L' r u
theorem pte_var {i : Nat} {a : Int} {env : Env} (h : env[i]? = some (some (.int a))) : PtE (some (cVar i)) env := fun L => ⟨some a, by simp only [cPart, cVar, h, Res.bind]⟩
theorem pte_add {i : Nat} {a b : Int} {env : Env} (h : env[i]? = some (some (.int a))) : PtE (some (cOp2 oAdd (cVar i) (cC (.int b)))) env := fun L => ⟨some (a + b), by simp only [cPart, cOp2, cVar, h, cC, Res.bind, oAdd, ofO]⟩
theorem pte_neg {b : Int} {env : Env} : PtE (some (cOp1 oNeg (cC (.int b)))) env := fun L => ⟨some (-b), by simp only [cPart, cOp1, cC, Res.bind, oNeg, ofO]⟩
theorem wd_e : Wd "" := wd_of (by decide +kernel)
theorem hBent_ok {n : Nat} {a : Int} (hn : GL L 30 n) (k : ∀ (L' : LH) (q : Nat) (rs : List Nat), L <+: L' → L'[q]? = some (.lst (rs.map .ref)) → rs.length = 6 → (∀ r ∈ rs, GL L' 61 r) → N (hE e0 e1 p nb e4 e5 e6 many e8 e9 (some (.ref n)) (some (.int a)) (some (.ref q)) e13 e14 e15) L') :
    EvS (hBent F (hE e0 e1 p nb e4 e5 e6 many e8 e9 (some (.ref n)) (some (.int a)) e12 e13 e14 e15) L) N R := by
  unfold hBent
  rw [evs_set, ev_opL]
  generalize hE' : hE e0 e1 p nb e4 e5 e6 many e8 e9 (some (.ref n)) (some (.int a)) e12 e13 e14 e15 = env
  have g10 : env[10]? = some (some (.ref n)) := by rw [← hE']; rfl
  have g11 : env[11]? = some (some (.int a)) := by rw [← hE']; rfl
  have W10 : WL (cVar 10) env L 30 := wl_var g10 hn
  have all := wls_cons (k := 61) (wl_add W10 (wl_one (x := "0") (wd_of (by decide +kernel))) (by decide)) (by decide) (wls_cons (wl_add W10 (wl_one (x := "arg") (wd_of (by decide +kernel))) (by decide)) (by decide)
    (wls_cons (wl_add (wl_add (wl_sl W10 pte_none (pte_var g11)) (wl_one wd_e) (by decide)) (wl_sl W10 (pte_var g11) pte_none) (by decide)) (by decide)
    (wls_cons (wl_sl W10 pte_none (pte_neg (b := 1))) (by decide) (wls_cons (wl_add W10 (wl_one wd_e) (by decide)) (by decide) (wls_cons (wl_add (wl_one wd_e) W10 (by decide)) (by decide) wls_nil)))))
  refine (all L (List.prefix_refl _)).mono fun vs L' q => ?_
  obtain ⟨rs, rfl, hl, h2, p2⟩ := q
  rw [o_lst]
  refine ⟨by rw [List.length_map]; omega, ?_⟩
  rw [← hE']
  exact k _ _ rs (p2.trans pre_last) at_last hl fun r hr => (h2 r hr).mono pre_last
theorem hBentB_ok (FK : LGok F) {r : Nat} (hr : GL L 61 r) (k : ∀ L' x, L <+: L' → N (hE e0 e1 p nb e4 e5 e6 many e8 e9 e10 e11 e12 (some (.ref r)) x e15) L') :
    EvS (hBentB F (hE e0 e1 p nb e4 e5 e6 many e8 e9 e10 e11 e12 (some (.ref r)) e14 e15) L) N R := by
  obtain ⟨ws, hws, hgood, hlen⟩ := hr
  have hz := wsz_wd hgood
  have hz2 := jn_len ws
  have hx := wds_good hgood
  simp only [hBentB, hBentT, hBentC, hE, wipeE, ev_ok, ev_bind, ev_only, ev_ofO, ev_ofOB, ev_ite, evs_ite, evo_some, evs_toS, evs_seq, ev_C, ev_var, ev_op2, ev_op1, ev_opL, ev_nil, ev_cons, ev_call, ev_bVal, ev_bTru, ev_bNot, ev_bAnd, ev_bOr, ev_bYes, ev_cIf, ev_cNot, ev_cAnd, ev_cOr, ev_chain, ev_part_none, ev_part_some, ev_sl, ev_mth, evs_skip, evs_set, evs_ret, evs_expr, evs_if, evs_par, evs_as, ev_gN, ev_gsNil, ev_gsCons, ev_gTup, ev_gIx, evs_aug, ev_defF, evs_for, ev_rng1, ev_iSeq, ev_lc, o_addI, o_subI, o_addS, o_addT, o_mulI, o_modI, o_divI, o_powI, o_cmpI, o_intI, o_intB, o_absI, o_lst, o_tup, bl_bl, List.map_cons, List.map_nil, List.cons_append, List.nil_append, List.append_nil, List.getElem?_cons_zero, List.getElem?_cons_succ, List.set_cons_zero, List.set_cons_succ, List.length_cons, List.length_nil, List.replicate, Nat.reduceAdd, Nat.reduceSub, Nat.reduceLeDiff, true_and, and_true, if_true, decide_eq_true_eq, Nat.zero_add, isStr_s]
  rw [join_at hws (by omega)]
  refine (FK.R (jn ws) many L (by omega) fun y hy => (hx y hy).x).mono fun v L1 q => ?_
  obtain ⟨p1, ⟨⟨n, rfl, hb⟩, ti⟩ | ⟨hp, ti⟩⟩ := q
  · have := ne_bads (pre_at pre_last hb) (at_last (L := L1) (o := LO.lst badL))
    simp only [badL] at this
    rw [this]
    simp only [wipeE, ev_ok, ev_bind, ev_only, ev_ofO, ev_ofOB, ev_ite, evs_ite, evo_some, evs_toS, evs_seq, ev_C, ev_var, ev_op2, ev_op1, ev_opL, ev_nil, ev_cons, ev_call, ev_bVal, ev_bTru, ev_bNot, ev_bAnd, ev_bOr, ev_bYes, ev_cIf, ev_cNot, ev_cAnd, ev_cOr, ev_chain, ev_part_none, ev_part_some, ev_sl, ev_mth, evs_skip, evs_set, evs_ret, evs_expr, evs_if, evs_par, evs_as, ev_gN, ev_gsNil, ev_gsCons, ev_gTup, ev_gIx, evs_aug, ev_defF, evs_for, ev_rng1, ev_iSeq, ev_lc, o_addI, o_subI, o_addS, o_addT, o_mulI, o_modI, o_divI, o_powI, o_cmpI, o_intI, o_intB, o_absI, o_lst, o_tup, bl_bl, List.map_cons, List.map_nil, List.cons_append, List.nil_append, List.append_nil, List.getElem?_cons_zero, List.getElem?_cons_succ, List.set_cons_zero, List.set_cons_succ, List.length_cons, List.length_nil, List.replicate, Nat.reduceAdd, Nat.reduceSub, Nat.reduceLeDiff, true_and, and_true, if_true, decide_eq_true_eq, Nat.zero_add, blW, Bool.false_eq_true, if_false]
    exact k _ _ (p1.trans pre_last)
  · have hne := ne_bad (L := L1 ++ [LO.lst badL]) hp (Nat.le_refl 8) at_last
    simp only [badL] at hne
    rw [hne]
    obtain ⟨ty, hty, hk⟩ := pr_ty hp
    simp only [wipeE, ev_ok, ev_bind, ev_only, ev_ofO, ev_ofOB, ev_ite, evs_ite, evo_some, evs_toS, evs_seq, ev_C, ev_var, ev_op2, ev_op1, ev_opL, ev_nil, ev_cons, ev_call, ev_bVal, ev_bTru, ev_bNot, ev_bAnd, ev_bOr, ev_bYes, ev_cIf, ev_cNot, ev_cAnd, ev_cOr, ev_chain, ev_part_none, ev_part_some, ev_sl, ev_mth, evs_skip, evs_set, evs_ret, evs_expr, evs_if, evs_par, evs_as, ev_gN, ev_gsNil, ev_gsCons, ev_gTup, ev_gIx, evs_aug, ev_defF, evs_for, ev_rng1, ev_iSeq, ev_lc, o_addI, o_subI, o_addS, o_addT, o_mulI, o_modI, o_divI, o_powI, o_cmpI, o_intI, o_intB, o_absI, o_lst, o_tup, bl_bl, List.map_cons, List.map_nil, List.cons_append, List.nil_append, List.append_nil, List.getElem?_cons_zero, List.getElem?_cons_succ, List.set_cons_zero, List.set_cons_succ, List.length_cons, List.length_nil, List.replicate, Nat.reduceAdd, Nat.reduceSub, Nat.reduceLeDiff, true_and, and_true, if_true, decide_eq_true_eq, Nat.zero_add, blW, if_true, isi_of (hty _), hk, truW, Bool.false_eq_true, if_false]
    refine (FK.X v _ _ hp).mono fun u L2 q => ?_
    obtain ⟨rfl, p2⟩ := q
    have pr := (p1.trans pre_last).trans p2
    rw [join_at (pre_at pr hws) (by omega), jn_wds]
    rw [ne_str (so_jn hgood)]
    simp only [wipeE, ev_ok, ev_bind, ev_only, ev_ofO, ev_ofOB, ev_ite, evs_ite, evo_some, evs_toS, evs_seq, ev_C, ev_var, ev_op2, ev_op1, ev_opL, ev_nil, ev_cons, ev_call, ev_bVal, ev_bTru, ev_bNot, ev_bAnd, ev_bOr, ev_bYes, ev_cIf, ev_cNot, ev_cAnd, ev_cOr, ev_chain, ev_part_none, ev_part_some, ev_sl, ev_mth, evs_skip, evs_set, evs_ret, evs_expr, evs_if, evs_par, evs_as, ev_gN, ev_gsNil, ev_gsCons, ev_gTup, ev_gIx, evs_aug, ev_defF, evs_for, ev_rng1, ev_iSeq, ev_lc, o_addI, o_subI, o_addS, o_addT, o_mulI, o_modI, o_divI, o_powI, o_cmpI, o_intI, o_intB, o_absI, o_lst, o_tup, bl_bl, List.map_cons, List.map_nil, List.cons_append, List.nil_append, List.append_nil, List.getElem?_cons_zero, List.getElem?_cons_succ, List.set_cons_zero, List.set_cons_succ, List.length_cons, List.length_nil, List.replicate, Nat.reduceAdd, Nat.reduceSub, Nat.reduceLeDiff, true_and, and_true, if_true, decide_eq_true_eq, Nat.zero_add, blW, Bool.false_eq_true, if_false]
    exact k _ _ pr
end
end Z

/-! TI: law_k79, whole. -/
namespace Z
open PySem PySem.Spec PyProof.Rows L2
section
variable {F : LG} {many : Int} {L : LH} {p nb nc nf f0 f1 : Nat} {n0 n1 n2 n3 : Str} {e0 e1 e4 e5 e6 e8 e9 e10 e11 e12 e13 e14 e15 : Option W} {t : Tm} {N : Env → LH → Prop} {R : W → LH → Prop}
theorem hBents_ok (FK : LGok F) {n q : Nat} {a : Int} {rs : List Nat} (hn : GL L 30 n) (hq : L[q]? = some (.lst (rs.map .ref))) (hrs : rs.length = 6) (hg : ∀ r ∈ rs, GL L 61 r)
    (k : ∀ L' x13 x14, L <+: L' → N (hE e0 e1 p nb e4 e5 e6 many e8 e9 (some (.ref n)) (some (.int a)) (some (.ref q)) x13 x14 e15) L') :
    EvS (hBents F (hE e0 e1 p nb e4 e5 e6 many e8 e9 (some (.ref n)) (some (.int a)) (some (.ref q)) e13 e14 e15) L) N R := by
  unfold hBents
  rw [evs_for, ev_iSeq, ev_op2]
  generalize hE' : hE e0 e1 p nb e4 e5 e6 many e8 e9 (some (.ref n)) (some (.int a)) (some (.ref q)) e13 e14 e15 = env
  have g10 : env[10]? = some (some (.ref n)) := by rw [← hE']; rfl
  have g11 : env[11]? = some (some (.int a)) := by rw [← hE']; rfl
  have g12 : env[12]? = some (some (.ref q)) := by rw [← hE']; rfl
  have W10 : WL (cVar 10) env L 30 := wl_var g10 hn
  have one : ∀ {x : Str}, Wd x → WL (cOp2 oAdd (cOp2 oAdd (cSl (cVar 10) none (some (cVar 11))) (cOpL oLst (cCons (cC (.str x)) cNil))) (cSl (cVar 10) (some (cOp2 oAdd (cVar 11) (cC (.int 1)))) none)) env L 61 := fun {x} hx =>
    wl_add (wl_add (wl_sl W10 pte_none (pte_var g11)) (wl_one hx) (by decide)) (wl_sl W10 (pte_add (b := 1) g11) pte_none) (by decide)
  have all := wls_cons (k := 61) (one (x := "Plus") (wd_of (by decide +kernel))) (by decide) (wls_cons (one (x := "01") (wd_of (by decide +kernel))) (by decide) (wls_cons (one (x := "-1") (wd_of (by decide +kernel))) (by decide) wls_nil))
  rw [ev_var, g12]
  simp only
  rw [ev_opL]
  refine (all L (List.prefix_refl _)).mono fun vs L1 q1 => ?_
  obtain ⟨rs2, rfl, hl2, h2, p1⟩ := q1
  rw [o_lst]
  refine ⟨by rw [List.length_map]; omega, ?_⟩
  have hq1 : (L1 ++ [LO.lst (rs2.map .ref)])[q]? = some (.lst (rs.map .ref)) := pre_at (p1.trans pre_last) hq
  rw [addL_at hq1 at_last (by simp; omega), ← List.map_append]
  obtain ⟨S, eS, hS⟩ := srcOf_at (L := L1 ++ [LO.lst (rs2.map .ref)] ++ [LO.lst ((rs ++ rs2).map .ref)]) (n := (L1 ++ [LO.lst (rs2.map W.ref)]).length) at_last
  rw [eS]
  simp only
  have pB : L <+: L1 ++ [LO.lst (rs2.map .ref)] ++ [LO.lst ((rs ++ rs2).map .ref)] := (p1.trans pre_last).trans pre_last
  have hall : ∀ r ∈ rs ++ rs2, GL (L1 ++ [LO.lst (rs2.map .ref)] ++ [LO.lst ((rs ++ rs2).map .ref)]) 61 r := fun r hr => by
    rcases List.mem_append.mp hr with hr | hr
    · exact (hg r hr).mono pB
    · exact (h2 r hr).mono (pre_last.trans pre_last)
  refine for_inv (fun i env L' => L1 ++ [LO.lst (rs2.map .ref)] ++ [LO.lst ((rs ++ rs2).map .ref)] <+: L' ∧ ∃ x13 x14, env = hE e0 e1 p nb e4 e5 e6 many e8 e9 (some (.ref n)) (some (.int a)) (some (.ref q)) x13 x14 e15) (n := (rs ++ rs2).length) (fun i env L' hi hp => ?_) (fun env L' hp => ?_) S.len 0 _ _ (by rw [hS.1, List.length_map]; omega) ⟨List.prefix_refl _, _, _, hE'.symm⟩
  · obtain ⟨pr, x13, x14, rfl⟩ := hp
    refine ⟨.ref (rs ++ rs2)[i], by rw [hS.2 L' pr, List.getElem?_map, List.getElem?_eq_getElem hi]; rfl, ?_⟩
    rw [ev_gN]
    simp only [hE, List.set_cons_succ, List.set_cons_zero]
    exact hBentB_ok FK ((hall _ (List.getElem_mem hi)).mono pr) fun L2 x p2 => ⟨pr.trans p2, _, _, rfl⟩
  · obtain ⟨pr, x13, x14, rfl⟩ := hp
    refine ⟨by rw [hS.2 L' pr, List.getElem?_eq_none (by rw [List.length_map]; exact Nat.le_refl _)], k L' _ _ (pB.trans pr)⟩
theorem not_bad {Q : W → LH → Prop} {v : W} {L1 : LH} (h : Bad v L1) : EvO (oNe v (.ref L1.length) (L1 ++ [LO.lst [.str "bad", .int 0]])) Q = Q (.bl false) (L1 ++ [LO.lst [.str "bad", .int 0]]) := by
  obtain ⟨n, rfl, hb⟩ := h
  have := ne_bads (pre_at pre_last hb) (at_last (L := L1) (o := LO.lst badL))
  simp only [badL] at this
  rw [this, evo_some]
theorem hEnd_ok (FK : LGok F) (hm : many ≤ 2) (ht : t.ok many) (hd : t.dep ≤ 8) {n : Nat} (hn : L[n]? = some (.lst (t.wd.map .str))) (k : ∀ L', L <+: L' → N (hE e0 e1 p nb e4 e5 e6 many e8 (some (.str (jn t.wd))) (some (.ref n)) e11 e12 e13 e14 e15) L') :
    EvS (hEnd F (hE e0 e1 p nb e4 e5 e6 many e8 (some (.str (jn t.wd))) (some (.ref n)) e11 e12 e13 e14 e15) L) N R := by
  obtain ⟨pp, ew, hw, h1, h2, h3⟩ := t_wds hm ht hd
  have more : ∀ {x : Str}, Wd x → (∀ y ∈ t.wd ++ [x], Wd y) ∧ wds (jn (t.wd ++ [x])) = t.wd ++ [x] ∧ wsz (t.wd ++ [x]) ≤ 90000 ∧ (jn (t.wd ++ [x])).length ≤ 90000 := fun {x} hx => by
    have a : ∀ y ∈ t.wd ++ [x], Wd y := fun y hy => by
      rcases List.mem_append.mp hy with hy | hy
      · exact hw y hy
      · rw [List.mem_singleton.mp hy]; exact hx
    have b : wsz (t.wd ++ [x]) ≤ 90000 := by
      have := hx.len
      rw [wsz_append, wsz_cons, wsz_nil]; omega
    exact ⟨a, wds_jn (by simp) fun y hy => (a y hy).nb, b, Nat.le_trans (jn_len _) b⟩
  obtain ⟨g1, g2, g3, g4⟩ := more (x := "0") (wd_of (by decide +kernel))
  obtain ⟨c1, c2, c3, c4⟩ := more (x := "") wd_e
  have hadd : EvO (oAdd (.ref n) (.ref L.length) (L ++ [LO.lst [W.str "0"]])) = fun Q => Q (.ref (L ++ [LO.lst [W.str "0"]]).length) (L ++ [LO.lst [W.str "0"]] ++ [.lst ((t.wd ++ [("0" : Str)]).map .str)]) := by
    funext Q
    have hlen : t.wd.length ≤ 88560 := by
      have : ∀ l : List Str, l.length ≤ wsz l := fun l => by
        induction l with
        | nil => exact Nat.le_refl _
        | cons x r ih => rw [wsz_cons, List.length_cons]; omega
      exact Nat.le_trans (this _) h1
    rw [addL_at (pre_at pre_last hn) at_last (by simp; omega), List.map_append]
    rfl
  simp only [hEnd, hE, wipeE, ev_ok, ev_bind, ev_only, ev_ofO, ev_ofOB, ev_ite, evs_ite, evo_some, evs_toS, evs_seq, ev_C, ev_var, ev_op2, ev_op1, ev_opL, ev_nil, ev_cons, ev_call, ev_bVal, ev_bTru, ev_bNot, ev_bAnd, ev_bOr, ev_bYes, ev_cIf, ev_cNot, ev_cAnd, ev_cOr, ev_chain, ev_part_none, ev_part_some, ev_sl, ev_mth, evs_skip, evs_set, evs_ret, evs_expr, evs_if, evs_par, evs_as, ev_gN, ev_gsNil, ev_gsCons, ev_gTup, ev_gIx, evs_aug, ev_defF, evs_for, ev_rng1, ev_iSeq, ev_lc, o_addI, o_subI, o_addS, o_addT, o_mulI, o_modI, o_divI, o_powI, o_cmpI, o_intI, o_intB, o_absI, o_lst, o_tup, bl_bl, List.map_cons, List.map_nil, List.cons_append, List.nil_append, List.append_nil, List.getElem?_cons_zero, List.getElem?_cons_succ, List.set_cons_zero, List.set_cons_succ, List.length_cons, List.length_nil, List.replicate, Nat.reduceAdd, Nat.reduceSub, Nat.reduceLeDiff, true_and, and_true, if_true, decide_eq_true_eq, Nat.zero_add, isStr_s, hadd]
  rw [join_at at_last (by omega)]
  refine (read_bad FK (by omega) (by rw [g2]; exact fun y hy => (g1 y hy).x) fun v pv => ?_).mono fun v L1 q => ?_
  · rw [g2] at pv
    exact absurd pv (no_more pp (by simp) v)
  obtain ⟨p1, hb⟩ := q
  rw [not_bad hb]
  have e2 : jn t.wd ++ (" " : Str) = jn (t.wd ++ [("" : Str)]) := by
    rw [jn_app h3 (List.cons_ne_nil _ _), jn_single, blank_eq]
    exact str_inj (by rw [cps_append, cps_append, cps_append]; simp [show ("" : Str).cps.toList = [] from by decide +kernel])
  simp only [blW, Bool.false_eq_true, if_false, o_addS, e2]
  refine ⟨by have : (" " : Str).length = 1 := by decide +kernel
             omega, ?_⟩
  refine (read_bad FK (by omega) (by rw [c2]; exact fun y hy => (c1 y hy).x) fun v pv => ?_).mono fun v L2 q => ?_
  · rw [c2] at pv
    exact absurd pv (no_more pp (by simp) v)
  obtain ⟨p2, hb2⟩ := q
  rw [not_bad hb2]
  simp only [blW, Bool.false_eq_true, if_false]
  exact k _ (((((pre_last.trans pre_last).trans p1).trans pre_last).trans p2).trans pre_last)
theorem hChk_ok (FK : LGok F) (hm : many ≤ 2) (ht : t.ok many) (hl : t.wd.length ≤ 30) (hd : t.dep ≤ 8) (hp : PoolOk p L) (k : ∀ L' x10 x11 x12 x13 x14, Upd p L L' → N (hE e0 e1 p nb e4 e5 e6 many (some t.enc) (some (.str (jn t.wd))) x10 x11 x12 x13 x14 e15) L') :
    EvS (hChk F (hE e0 e1 p nb e4 e5 e6 many (some t.enc) (some (.str (jn t.wd))) e10 e11 e12 e13 e14 e15) L) N R := by
  have hs : t.size ≤ 30 := Nat.le_trans (Tm.wd_size t) hl
  obtain ⟨pp, ew, hw, h1, h2, h3⟩ := t_wds hm ht hd
  have h0 : 0 < t.wd.length := List.length_pos_iff.mpr h3
  unfold hChk
  rw [evs_seq]
  refine hC1_ok FK hm ht hs hd fun L1 p1 => ?_
  rw [evs_seq]
  refine hWds_ok hm ht hd fun L2 n p2 hn => ?_
  have u2 : Upd p L L2 := .of_pre hp (p1.trans p2)
  have hnp : n ≠ p := u2.pool.ne hn fun a b e => by
    have : t.wd.map W.str = [.int a, .int b] := LO.lst.inj e
    cases hh : t.wd with
    | nil => rw [hh] at this; cases this
    | cons x r => rw [hh] at this; cases this
  rw [evs_seq]
  refine hAt_ok u2.pool hn h0 (by omega) fun L3 a u3 => ?_
  have hn3 := u3.old _ _ hnp hn
  have g3 : GL L3 30 n := ⟨t.wd, hn3, hw, hl⟩
  rw [evs_seq]
  refine hBent_ok g3 fun L4 q rs p4 hq hrs hg => ?_
  rw [evs_seq]
  refine hBents_ok FK (g3.mono p4) hq hrs hg fun L5 x13 x14 p5 => ?_
  refine hEnd_ok FK hm ht hd (pre_at (p4.trans p5) hn3) fun L6 p6 => ?_
  exact k L6 _ _ _ _ _ ((u2.trans u3).trans (.of_pre u3.pool ((p4.trans p5).trans p6)))
theorem hTB_ok (FK : LGok F) (hm0 : 0 ≤ many) (hm2 : many ≤ 2) (B : BOk L nb nc nf f0 f1 n0 n1 n2 n3) (hp : PoolOk p L) (k : ∀ L' x8 x9 x10 x11 x12 x13 x14, Upd p L L' → N (hE e0 e1 p nb e4 e5 e6 many x8 x9 x10 x11 x12 x13 x14 e15) L') :
    EvS (hTB F (hE e0 e1 p nb e4 e5 e6 many e8 e9 e10 e11 e12 e13 e14 e15) L) N R := by
  simp only [hTB, hTerm, hText, hE, wipeE, ev_ok, ev_bind, ev_only, ev_ofO, ev_ofOB, ev_ite, evs_ite, evo_some, evs_toS, evs_seq, ev_C, ev_var, ev_op2, ev_op1, ev_opL, ev_nil, ev_cons, ev_call, ev_bVal, ev_bTru, ev_bNot, ev_bAnd, ev_bOr, ev_bYes, ev_cIf, ev_cNot, ev_cAnd, ev_cOr, ev_chain, ev_part_none, ev_part_some, ev_sl, ev_mth, evs_skip, evs_set, evs_ret, evs_expr, evs_if, evs_par, evs_as, ev_gN, ev_gsNil, ev_gsCons, ev_gTup, ev_gIx, evs_aug, ev_defF, evs_for, ev_rng1, ev_iSeq, ev_lc, o_addI, o_subI, o_addS, o_addT, o_mulI, o_modI, o_divI, o_powI, o_cmpI, o_intI, o_intB, o_absI, o_lst, o_tup, bl_bl, List.map_cons, List.map_nil, List.cons_append, List.nil_append, List.append_nil, List.getElem?_cons_zero, List.getElem?_cons_succ, List.set_cons_zero, List.set_cons_succ, List.length_cons, List.length_nil, List.replicate, Nat.reduceAdd, Nat.reduceSub, Nat.reduceLeDiff, true_and, and_true, if_true, decide_eq_true_eq, Nat.zero_add]
  refine ev_draw hp (by decide) (by decide) fun r hr0 hr1 L1 u1 => ?_
  obtain ⟨rn, rfl⟩ : ∃ rn : Nat, r = rn := ⟨r.toNat, by omega⟩
  refine (FK.T many hm0 hm2 rn (by omega) p nb nc nf f0 f1 n0 n1 n2 n3 L1 (B.upd hp u1) u1.pool).mono fun w L2 q => ?_
  obtain ⟨u2, t, rfl, ht, hd, hs⟩ := q
  have hd8 : t.dep ≤ 8 := by omega
  obtain ⟨pp, ew, hw, h1, h2, h3⟩ := t_wds hm2 ht hd8
  refine (FK.X _ _ L2 pp).mono fun v L3 q => ?_
  obtain ⟨rfl, p3⟩ := q
  have u3 := (u1.trans u2).trans (.of_pre u2.pool p3)
  simp only [wipeE, ev_ok, ev_bind, ev_only, ev_ofO, ev_ofOB, ev_ite, evs_ite, evo_some, evs_toS, evs_seq, ev_C, ev_var, ev_op2, ev_op1, ev_opL, ev_nil, ev_cons, ev_call, ev_bVal, ev_bTru, ev_bNot, ev_bAnd, ev_bOr, ev_bYes, ev_cIf, ev_cNot, ev_cAnd, ev_cOr, ev_chain, ev_part_none, ev_part_some, ev_sl, ev_mth, evs_skip, evs_set, evs_ret, evs_expr, evs_if, evs_par, evs_as, ev_gN, ev_gsNil, ev_gsCons, ev_gTup, ev_gIx, evs_aug, ev_defF, evs_for, ev_rng1, ev_iSeq, ev_lc, o_addI, o_subI, o_addS, o_addT, o_mulI, o_modI, o_divI, o_powI, o_cmpI, o_intI, o_intB, o_absI, o_lst, o_tup, bl_bl, List.map_cons, List.map_nil, List.cons_append, List.nil_append, List.append_nil, List.getElem?_cons_zero, List.getElem?_cons_succ, List.set_cons_zero, List.set_cons_succ, List.length_cons, List.length_nil, List.replicate, Nat.reduceAdd, Nat.reduceSub, Nat.reduceLeDiff, true_and, and_true, if_true, decide_eq_true_eq, Nat.zero_add, isStr_s, split_at (L := L3) (jn t.wd) (by omega), ew, oLen_at at_last, List.length_map, oLe, o_cmpI, blW]
  have u4 : Upd p L (L3 ++ [LO.lst (t.wd.map .str)]) := u3.trans (.of_pre u3.pool pre_last)
  by_cases hl : (t.wd.length : Int) ≤ 30
  · simp only [hl, decide_true, if_true]
    exact hChk_ok FK hm2 ht (by omega) hd8 u4.pool fun L5 a b c d e u5 => k L5 _ _ a b c d e (u4.trans u5)
  · simp only [hl, decide_false, Bool.false_eq_true, if_false]
    exact k _ _ _ _ _ _ _ _ u4
theorem hTurns_ok (FK : LGok F) (hm0 : 0 ≤ many) (hm2 : many ≤ 2) (B : BOk L nb nc nf f0 f1 n0 n1 n2 n3) (hp : PoolOk p L) (k : ∀ L' x4 x8 x9 x10 x11 x12 x13 x14, Upd p L L' → N (hE e0 e1 p nb x4 e5 e6 many x8 x9 x10 x11 x12 x13 x14 e15) L') :
    EvS (hTurns F (hE e0 e1 p nb e4 e5 e6 many e8 e9 e10 e11 e12 e13 e14 e15) L) N R := by
  simp only [hTurns, hE, wipeE, ev_ok, ev_bind, ev_only, ev_ofO, ev_ofOB, ev_ite, evs_ite, evo_some, evs_toS, evs_seq, ev_C, ev_var, ev_op2, ev_op1, ev_opL, ev_nil, ev_cons, ev_call, ev_bVal, ev_bTru, ev_bNot, ev_bAnd, ev_bOr, ev_bYes, ev_cIf, ev_cNot, ev_cAnd, ev_cOr, ev_chain, ev_part_none, ev_part_some, ev_sl, ev_mth, evs_skip, evs_set, evs_ret, evs_expr, evs_if, evs_par, evs_as, ev_gN, ev_gsNil, ev_gsCons, ev_gTup, ev_gIx, evs_aug, ev_defF, evs_for, ev_rng1, ev_iSeq, ev_lc, o_addI, o_subI, o_addS, o_addT, o_mulI, o_modI, o_divI, o_powI, o_cmpI, o_intI, o_intB, o_absI, o_lst, o_tup, bl_bl, List.map_cons, List.map_nil, List.cons_append, List.nil_append, List.append_nil, List.getElem?_cons_zero, List.getElem?_cons_succ, List.set_cons_zero, List.set_cons_succ, List.length_cons, List.length_nil, List.replicate, Nat.reduceAdd, Nat.reduceSub, Nat.reduceLeDiff, true_and, and_true, if_true, decide_eq_true_eq, Nat.zero_add]
  refine ⟨by decide, ?_⟩
  refine for_inv (fun i env L' => Upd p L L' ∧ ∃ x4 x8 x9 x10 x11 x12 x13 x14, env = hE e0 e1 p nb x4 e5 e6 many x8 x9 x10 x11 x12 x13 x14 e15) (n := 12) (fun i env L' hi hq => ?_) (fun env L' hq => ?_) 12 0 _ _ rfl ⟨.refl hp, _, _, _, _, _, _, _, _, rfl⟩
  · obtain ⟨u, x4, x8, x9, x10, x11, x12, x13, x14, rfl⟩ := hq
    refine ⟨.int (0 + i), by simp [srcR, hi], ?_⟩
    simp only [wipeE, ev_ok, ev_bind, ev_only, ev_ofO, ev_ofOB, ev_ite, evs_ite, evo_some, evs_toS, evs_seq, ev_C, ev_var, ev_op2, ev_op1, ev_opL, ev_nil, ev_cons, ev_call, ev_bVal, ev_bTru, ev_bNot, ev_bAnd, ev_bOr, ev_bYes, ev_cIf, ev_cNot, ev_cAnd, ev_cOr, ev_chain, ev_part_none, ev_part_some, ev_sl, ev_mth, evs_skip, evs_set, evs_ret, evs_expr, evs_if, evs_par, evs_as, ev_gN, ev_gsNil, ev_gsCons, ev_gTup, ev_gIx, evs_aug, ev_defF, evs_for, ev_rng1, ev_iSeq, ev_lc, o_addI, o_subI, o_addS, o_addT, o_mulI, o_modI, o_divI, o_powI, o_cmpI, o_intI, o_intB, o_absI, o_lst, o_tup, bl_bl, List.map_cons, List.map_nil, List.cons_append, List.nil_append, List.append_nil, List.getElem?_cons_zero, List.getElem?_cons_succ, List.set_cons_zero, List.set_cons_succ, List.length_cons, List.length_nil, List.replicate, Nat.reduceAdd, Nat.reduceSub, Nat.reduceLeDiff, true_and, and_true, if_true, decide_eq_true_eq, Nat.zero_add, hE]
    exact hTB_ok FK hm0 hm2 (B.upd hp u) u.pool fun L2 a b c d e f g u2 => ⟨u.trans u2, _, a, b, c, d, e, f, g, rfl⟩
  · obtain ⟨u, x4, x8, x9, x10, x11, x12, x13, x14, rfl⟩ := hq
    exact ⟨by simp [srcR], k L' _ _ _ _ _ _ _ _ u⟩
/-! ### what is no text of a term -/
def OS : List Str := ["", " ", "3", "arg", "arg x", "cell", "cell A", "plus 1", "less 1 2 3", "if 1 2", "call f", "call f 3 1 1 1", "call f 1", "call f 01 1", "call F 0", "Tick", "tick 1", "same 1  2", "arg -1", "arg 00", "arg 2"]
def goodW (y : Str) : Bool := decide (y.length ≤ 640) && PyData.strOk y
theorem os_ok : OS.all (fun x => decide (x.length ≤ 100) && ((wds x).all goodW && decide (chk 8 (wds x) ≠ some []))) = true := by decide +kernel
def OddOk (F : LG) (many : Int) (L0 : LH) (w : W) : Prop := ∀ L, L0 <+: L → Ev (F.R [w, .int many] L) fun v L' => L <+: L' ∧ Bad v L'
theorem xok_all {x : Str} (h : (wds x).all goodW = true) : ∀ y ∈ wds x, XOk y := fun y hy => by
  have := List.all_eq_true.mp h y hy
  unfold goodW at this
  rw [Bool.and_eq_true, decide_eq_true_eq] at this
  exact ⟨this.2, this.1⟩
theorem odd_str (FK : LGok F) {x : Str} (h : x ∈ OS) : OddOk F many L (.str x) := fun L1 p1 => by
  have := List.all_eq_true.mp os_ok x h
  rw [Bool.and_eq_true, Bool.and_eq_true, decide_eq_true_eq, decide_eq_true_eq] at this
  exact read_bad FK (by omega) (xok_all this.2.1) fun v pv => absurd pv (no_pr this.2.2 v)
theorem arg_words : ([0, 1] : List Nat).all (fun k => decide (wds (("arg " : Str) ++ dg k) = [("arg" : Str), dg k])) = true := by decide +kernel
theorem odd_arg (FK : LGok F) {k : Nat} (hk : k ≤ 2) (hm : many = k) : OddOk F many L (.str (("arg " : Str) ++ dg k)) := by
  by_cases h2 : k = 2
  · subst h2
    have : (("arg " : Str) ++ dg 2) = "arg 2" := by decide +kernel
    rw [this]
    exact odd_str FK (by simp [OS])
  · have e : wds (("arg " : Str) ++ dg k) = [("arg" : Str), dg k] := by
      have := List.all_eq_true.mp arg_words k (by simp; omega)
      simpa using this
    intro L1 p1
    have hlen : (("arg " : Str) ++ dg k).length ≤ 100 := by
      rw [len_append, dg_len]
      have : ("arg " : Str).length = 4 := by decide +kernel
      omega
    refine read_bad FK (by omega) (by
      rw [e]
      intro y hy
      simp only [List.mem_cons, List.mem_nil_iff, or_false] at hy
      rcases hy with rfl | rfl
      · exact ⟨so_arg, by decide +kernel⟩
      · exact ⟨dg_so k, by rw [dg_len]; decide⟩) fun v pv => ?_
    rw [e] at pv
    obtain ⟨i, hi, rfl, e2⟩ := inv_arg (P := Pr 7) pv rfl
    have := dg_inj (show k ≤ 2 by omega) (show i ≤ 2 by omega) (List.cons.inj e2).1
    subst this
    subst hm
    show (if (btw _ 0 2 || kindOf _ "tick" 1) = true then true else if kindOf _ "arg" 2 = true then argB _ _ else _) = false
    have e1 : kindOf (.tup [.str "arg", .int (k : Int)]) "tick" 1 = false := by rw [kindOf_cons]; rfl
    have e2 : kindOf (.tup [.str "arg", .int (k : Int)]) "arg" 2 = true := by rw [kindOf_cons]; simp
    rw [e1, e2]
    show (if (false || false) = true then true else if true = true then btw (.int (k : Int)) 0 ((k : Int) - 1) else _) = false
    rw [if_neg (by decide), if_pos rfl]
    show (decide ((0 : Int) ≤ k) && decide ((k : Int) ≤ (k : Int) - 1)) = false
    rw [Bool.and_eq_false_iff]
    right
    exact decide_eq_false (by omega)
theorem odd_non (FK : LGok F) : OddOk F many L .non := fun L1 p1 => FK.RO _ _ _ "NoneType" rfl rfl
theorem odd_int (FK : LGok F) {i : Int} : OddOk F many L (.int i) := fun L1 p1 => FK.RO _ _ _ "int" rfl rfl
theorem odd_ref (FK : LGok F) {n : Nat} {ws : List W} (h : L[n]? = some (.lst ws)) : OddOk F many L (.ref n) := fun L1 p1 => FK.RO _ _ _ "list" (by simp only [tyName, pre_at p1 h]) rfl
theorem OddOk.mono {L' : LH} {w : W} (h : OddOk F many L w) (p : L <+: L') : OddOk F many L' w := fun L1 p1 => h L1 (p.trans p1)
theorem hO_ok (FK : LGok F) {k' : Nat} (hk : k' ≤ 2) (hm : many = k') (k : ∀ L' q ws, L <+: L' → L'[q]? = some (.lst ws) → ws.length ≤ 100 → (∀ w ∈ ws, OddOk F many L' w) → N (hE e0 e1 p nb e4 (some (.ref q)) e6 many e8 e9 e10 e11 e12 e13 e14 e15) L') :
    EvS (sSeq (hO1 F) (hO2 F) (hE e0 e1 p nb e4 e5 e6 many e8 e9 e10 e11 e12 e13 e14 e15) L) N R := by
  have hs : oStr [.int many] L = some (.str (dg k'), L) := by rw [hm]; exact str_dg hk
  simp only [hO1, hO2, hE, wipeE, ev_ok, ev_bind, ev_only, ev_ofO, ev_ofOB, ev_ite, evs_ite, evo_some, evs_toS, evs_seq, ev_C, ev_var, ev_op2, ev_op1, ev_opL, ev_nil, ev_cons, ev_call, ev_bVal, ev_bTru, ev_bNot, ev_bAnd, ev_bOr, ev_bYes, ev_cIf, ev_cNot, ev_cAnd, ev_cOr, ev_chain, ev_part_none, ev_part_some, ev_sl, ev_mth, evs_skip, evs_set, evs_ret, evs_expr, evs_if, evs_par, evs_as, ev_gN, ev_gsNil, ev_gsCons, ev_gTup, ev_gIx, evs_aug, ev_defF, evs_for, ev_rng1, ev_iSeq, ev_lc, o_addI, o_subI, o_addS, o_addT, o_mulI, o_modI, o_divI, o_powI, o_cmpI, o_intI, o_intB, o_absI, o_lst, o_tup, bl_bl, List.map_cons, List.map_nil, List.cons_append, List.nil_append, List.append_nil, List.getElem?_cons_zero, List.getElem?_cons_succ, List.set_cons_zero, List.set_cons_succ, List.length_cons, List.length_nil, List.replicate, Nat.reduceAdd, Nat.reduceSub, Nat.reduceLeDiff, true_and, and_true, if_true, decide_eq_true_eq, Nat.zero_add, hs]
  refine ⟨by rw [dg_len]; have : ("arg " : Str).length = 4 := by decide +kernel
             omega, ?_⟩
  rw [addL_at (pre_at pre_last (pre_at pre_last at_last)) at_last (by simp)]
  have os : ∀ {x : Str} {L' : LH}, x ∈ OS → OddOk F many L' (.str x) := fun h => odd_str FK h
  refine k _ _ _ (((pre_last.trans pre_last).trans pre_last).trans pre_last) at_last (by simp) fun w hw => ?_
  simp only [List.cons_append, List.nil_append, List.mem_cons, List.mem_nil_iff, or_false] at hw
  rcases hw with rfl | rfl | rfl | rfl | rfl | rfl | rfl | rfl | rfl | rfl | rfl | rfl | rfl | rfl | rfl | rfl | rfl | rfl | rfl | rfl | rfl | rfl | rfl | rfl
  · exact odd_non FK
  · exact odd_int FK
  · exact os (by simp [OS])
  · exact os (by simp [OS])
  · exact os (by simp [OS])
  · exact os (by simp [OS])
  · exact odd_arg FK hk hm
  · exact os (by simp [OS])
  · exact os (by simp [OS])
  · exact os (by simp [OS])
  · exact os (by simp [OS])
  · exact os (by simp [OS])
  · exact os (by simp [OS])
  · exact os (by simp [OS])
  · exact os (by simp [OS])
  · exact os (by simp [OS])
  · exact os (by simp [OS])
  · exact os (by simp [OS])
  · exact os (by simp [OS])
  · exact os (by simp [OS])
  · exact os (by simp [OS])
  · exact odd_ref FK (ws := [.str "tick"]) (pre_at pre_last (pre_at pre_last at_last))
  · exact os (by simp [OS])
  · exact os (by simp [OS])
theorem hOdd_ok (FK : LGok F) {q : Nat} {ws : List W} (hq : L[q]? = some (.lst ws)) (hl : ws.length ≤ 100) (ho : ∀ w ∈ ws, OddOk F many L w) (k : ∀ L', L <+: L' → N (hE e0 e1 p nb e4 (some (.ref q)) e6 many e8 e9 e10 e11 e12 e13 e14 e15) L') :
    EvS (hOdd F (hE e0 e1 p nb e4 (some (.ref q)) e6 many e8 e9 e10 e11 e12 e13 e14 e15) L) N R := by
  obtain ⟨S, eS, hS⟩ := srcOf_at hq
  simp only [hOdd, hE, wipeE, ev_ok, ev_bind, ev_only, ev_ofO, ev_ofOB, ev_ite, evs_ite, evo_some, evs_toS, evs_seq, ev_C, ev_var, ev_op2, ev_op1, ev_opL, ev_nil, ev_cons, ev_call, ev_bVal, ev_bTru, ev_bNot, ev_bAnd, ev_bOr, ev_bYes, ev_cIf, ev_cNot, ev_cAnd, ev_cOr, ev_chain, ev_part_none, ev_part_some, ev_sl, ev_mth, evs_skip, evs_set, evs_ret, evs_expr, evs_if, evs_par, evs_as, ev_gN, ev_gsNil, ev_gsCons, ev_gTup, ev_gIx, evs_aug, ev_defF, evs_for, ev_rng1, ev_iSeq, ev_lc, o_addI, o_subI, o_addS, o_addT, o_mulI, o_modI, o_divI, o_powI, o_cmpI, o_intI, o_intB, o_absI, o_lst, o_tup, bl_bl, List.map_cons, List.map_nil, List.cons_append, List.nil_append, List.append_nil, List.getElem?_cons_zero, List.getElem?_cons_succ, List.set_cons_zero, List.set_cons_succ, List.length_cons, List.length_nil, List.replicate, Nat.reduceAdd, Nat.reduceSub, Nat.reduceLeDiff, true_and, and_true, if_true, decide_eq_true_eq, Nat.zero_add, eS]
  refine (lc_inv (Q := fun acc L' => acc = [] ∧ L <+: L') (fun i L' acc => acc = [] ∧ L <+: L') (n := ws.length) (fun i L' acc hi hp => ?_) (fun L' acc hp => ?_) S.len 0 L [] (by rw [hS.1]; omega) ⟨rfl, List.prefix_refl _⟩).mono fun acc L' hp => ?_
  · obtain ⟨rfl, pr⟩ := hp
    refine ⟨ws[i], by rw [hS.2 L' pr, List.getElem?_eq_getElem hi], _, rfl, ?_⟩
    simp only [wipeE, ev_ok, ev_bind, ev_only, ev_ofO, ev_ofOB, ev_ite, evs_ite, evo_some, evs_toS, evs_seq, ev_C, ev_var, ev_op2, ev_op1, ev_opL, ev_nil, ev_cons, ev_call, ev_bVal, ev_bTru, ev_bNot, ev_bAnd, ev_bOr, ev_bYes, ev_cIf, ev_cNot, ev_cAnd, ev_cOr, ev_chain, ev_part_none, ev_part_some, ev_sl, ev_mth, evs_skip, evs_set, evs_ret, evs_expr, evs_if, evs_par, evs_as, ev_gN, ev_gsNil, ev_gsCons, ev_gTup, ev_gIx, evs_aug, ev_defF, evs_for, ev_rng1, ev_iSeq, ev_lc, o_addI, o_subI, o_addS, o_addT, o_mulI, o_modI, o_divI, o_powI, o_cmpI, o_intI, o_intB, o_absI, o_lst, o_tup, bl_bl, List.map_cons, List.map_nil, List.cons_append, List.nil_append, List.append_nil, List.getElem?_cons_zero, List.getElem?_cons_succ, List.set_cons_zero, List.set_cons_succ, List.length_cons, List.length_nil, List.replicate, Nat.reduceAdd, Nat.reduceSub, Nat.reduceLeDiff, true_and, and_true, if_true, decide_eq_true_eq, Nat.zero_add]
    refine (ho _ (List.getElem_mem hi) L' pr).mono fun v L2 g => ?_
    obtain ⟨p2, hb⟩ := g
    rw [not_bad hb]
    simp only [blW, Bool.false_eq_true, if_false]
    exact (pr.trans p2).trans pre_last
  · obtain ⟨rfl, pr⟩ := hp
    exact ⟨by rw [hS.2 L' pr, List.getElem?_eq_none (Nat.le_refl _)], rfl, pr⟩
  · obtain ⟨rfl, pr⟩ := hp
    rw [ne_nil (pre_at pre_last at_last) at_last, evo_some]
    simp only [List.isEmpty, Bool.not_true, blW, Bool.false_eq_true, if_false]
    exact k _ ((pr.trans pre_last).trans pre_last)
end
end Z

/-! TJ: law_k79: its body, itself. -/
namespace Z
open PySem PySem.Spec PyProof.Rows L2
theorem n_book {nc nf : Nat} : mergeW [] [((.inr "cells" : Key), W.ref nc), (.inr "functions", .ref nf)] = [((.inr "cells" : Key), W.ref nc), (.inr "functions", .ref nf)] := by simp [mergeW, putW]
theorem n_fun {s : Str} {i : Int} : mergeW [] [((.inr "name" : Key), W.str s), (.inr "many", .int i)] = [((.inr "name" : Key), W.str s), (.inr "many", .int i)] := by simp [mergeW, putW]
section
variable {F : LG} {L : LH} {e4 e8 e9 e10 e11 e12 e13 e14 e15 : Option W} {N : Env → LH → Prop}
theorem hBody_ok {ns : List Int} {kk : Nat} {e2 e3 e5 e6 e7 : Option W} (FK : LGok F) (hk : kk ≤ 1) (k : ∀ L' (r : Env), r.length = 15 → N (some (.scr ns) :: r) L') :
    EvS (hBody F [some (.scr ns), some (.int kk), e2, e3, e4, e5, e6, e7, e8, e9, e10, e11, e12, e13, e14, e15] L) N fun w L' => False := by
  unfold hBody
  rw [evs_seq]
  simp only [hPool, wipeE, ev_ok, ev_bind, ev_only, ev_ofO, ev_ofOB, ev_ite, evs_ite, evo_some, evs_toS, evs_seq, ev_C, ev_var, ev_op2, ev_op1, ev_opL, ev_nil, ev_cons, ev_call, ev_bVal, ev_bTru, ev_bNot, ev_bAnd, ev_bOr, ev_bYes, ev_cIf, ev_cNot, ev_cAnd, ev_cOr, ev_chain, ev_part_none, ev_part_some, ev_sl, ev_mth, evs_skip, evs_set, evs_ret, evs_expr, evs_if, evs_par, evs_as, ev_gN, ev_gsNil, ev_gsCons, ev_gTup, ev_gIx, evs_aug, ev_defF, evs_for, ev_rng1, ev_iSeq, ev_lc, o_addI, o_subI, o_addS, o_addT, o_mulI, o_modI, o_divI, o_powI, o_cmpI, o_intI, o_intB, o_absI, o_lst, o_tup, bl_bl, List.map_cons, List.map_nil, List.cons_append, List.nil_append, List.append_nil, List.getElem?_cons_zero, List.getElem?_cons_succ, List.set_cons_zero, List.set_cons_succ, List.length_cons, List.length_nil, List.replicate, Nat.reduceAdd, Nat.reduceSub, Nat.reduceLeDiff, true_and, and_true, if_true, decide_eq_true_eq, Nat.zero_add]
  refine (pool_ok hk).mono fun w L1 q => ?_
  obtain ⟨p, rfl, _, p1, hp⟩ := q
  simp only [hPar, wipeE, ev_ok, ev_bind, ev_only, ev_ofO, ev_ofOB, ev_ite, evs_ite, evo_some, evs_toS, evs_seq, ev_C, ev_var, ev_op2, ev_op1, ev_opL, ev_nil, ev_cons, ev_call, ev_bVal, ev_bTru, ev_bNot, ev_bAnd, ev_bOr, ev_bYes, ev_cIf, ev_cNot, ev_cAnd, ev_cOr, ev_chain, ev_part_none, ev_part_some, ev_sl, ev_mth, evs_skip, evs_set, evs_ret, evs_expr, evs_if, evs_par, evs_as, ev_gN, ev_gsNil, ev_gsCons, ev_gTup, ev_gIx, evs_aug, ev_defF, evs_for, ev_rng1, ev_iSeq, ev_lc, o_addI, o_subI, o_addS, o_addT, o_mulI, o_modI, o_divI, o_powI, o_cmpI, o_intI, o_intB, o_absI, o_lst, o_tup, bl_bl, List.map_cons, List.map_nil, List.cons_append, List.nil_append, List.append_nil, List.getElem?_cons_zero, List.getElem?_cons_succ, List.set_cons_zero, List.set_cons_succ, List.length_cons, List.length_nil, List.replicate, Nat.reduceAdd, Nat.reduceSub, Nat.reduceLeDiff, true_and, and_true, if_true, decide_eq_true_eq, Nat.zero_add]
  refine (names_ok hp).mono fun w L2 q => ?_
  obtain ⟨u2, nn, s0, s1, s2, s3, rfl, hln, hn, o0, o1, o2, o3⟩ := q
  refine ev_draw u2.pool (by decide) (by decide) fun mn hm0 hm1 L3 u3 => ?_
  obtain ⟨km, rfl⟩ : ∃ km : Nat, mn = km := ⟨mn.toNat, by omega⟩
  have hnn : nn ≠ p := by
    obtain ⟨a, b, e, _⟩ := hp
    have := (List.getElem?_eq_some_iff.mp e).1
    omega
  have hn3 := u3.old _ _ hnn hn
  have a0 : atI [W.str s0, .str s1, .str s2, .str s3] (0 : Int) = some (.str s0) := at0
  have a1 : atI [W.str s0, .str s1, .str s2, .str s3] (1 : Int) = some (.str s1) := at1
  have a2 : atI [W.str s0, .str s1, .str s2, .str s3] (2 : Int) = some (.str s2) := atI_nat (j := 2) rfl
  have a3 : atI [W.str s0, .str s1, .str s2, .str s3] (3 : Int) = some (.str s3) := atI_nat (j := 3) rfl
  simp only [hDict, wipeE, ev_ok, ev_bind, ev_only, ev_ofO, ev_ofOB, ev_ite, evs_ite, evo_some, evs_toS, evs_seq, ev_C, ev_var, ev_op2, ev_op1, ev_opL, ev_nil, ev_cons, ev_call, ev_bVal, ev_bTru, ev_bNot, ev_bAnd, ev_bOr, ev_bYes, ev_cIf, ev_cNot, ev_cAnd, ev_cOr, ev_chain, ev_part_none, ev_part_some, ev_sl, ev_mth, evs_skip, evs_set, evs_ret, evs_expr, evs_if, evs_par, evs_as, ev_gN, ev_gsNil, ev_gsCons, ev_gTup, ev_gIx, evs_aug, ev_defF, evs_for, ev_rng1, ev_iSeq, ev_lc, o_addI, o_subI, o_addS, o_addT, o_mulI, o_modI, o_divI, o_powI, o_cmpI, o_intI, o_intB, o_absI, o_lst, o_tup, bl_bl, List.map_cons, List.map_nil, List.cons_append, List.nil_append, List.append_nil, List.getElem?_cons_zero, List.getElem?_cons_succ, List.set_cons_zero, List.set_cons_succ, List.length_cons, List.length_nil, List.replicate, Nat.reduceAdd, Nat.reduceSub, Nat.reduceLeDiff, true_and, and_true, if_true, decide_eq_true_eq, Nat.zero_add, ev_dict, ev_pairs_cons, ev_pairs_nil, keysW, keyW, ix_at hn3, a0, a1]
  rw [ix_at (pre_at pre_last hn3), a2]
  simp only [wipeE, ev_ok, ev_bind, ev_only, ev_ofO, ev_ofOB, ev_ite, evs_ite, evo_some, evs_toS, evs_seq, ev_C, ev_var, ev_op2, ev_op1, ev_opL, ev_nil, ev_cons, ev_call, ev_bVal, ev_bTru, ev_bNot, ev_bAnd, ev_bOr, ev_bYes, ev_cIf, ev_cNot, ev_cAnd, ev_cOr, ev_chain, ev_part_none, ev_part_some, ev_sl, ev_mth, evs_skip, evs_set, evs_ret, evs_expr, evs_if, evs_par, evs_as, ev_gN, ev_gsNil, ev_gsCons, ev_gTup, ev_gIx, evs_aug, ev_defF, evs_for, ev_rng1, ev_iSeq, ev_lc, o_addI, o_subI, o_addS, o_addT, o_mulI, o_modI, o_divI, o_powI, o_cmpI, o_intI, o_intB, o_absI, o_lst, o_tup, bl_bl, List.map_cons, List.map_nil, List.cons_append, List.nil_append, List.append_nil, List.getElem?_cons_zero, List.getElem?_cons_succ, List.set_cons_zero, List.set_cons_succ, List.length_cons, List.length_nil, List.replicate, Nat.reduceAdd, Nat.reduceSub, Nat.reduceLeDiff, true_and, and_true, if_true, decide_eq_true_eq, Nat.zero_add, ev_dict, ev_pairs_cons, ev_pairs_nil, keysW, keyW, n_fun]
  rw [ix_at (pre_at pre_last (pre_at pre_last hn3)), a3]
  simp only [wipeE, ev_ok, ev_bind, ev_only, ev_ofO, ev_ofOB, ev_ite, evs_ite, evo_some, evs_toS, evs_seq, ev_C, ev_var, ev_op2, ev_op1, ev_opL, ev_nil, ev_cons, ev_call, ev_bVal, ev_bTru, ev_bNot, ev_bAnd, ev_bOr, ev_bYes, ev_cIf, ev_cNot, ev_cAnd, ev_cOr, ev_chain, ev_part_none, ev_part_some, ev_sl, ev_mth, evs_skip, evs_set, evs_ret, evs_expr, evs_if, evs_par, evs_as, ev_gN, ev_gsNil, ev_gsCons, ev_gTup, ev_gIx, evs_aug, ev_defF, evs_for, ev_rng1, ev_iSeq, ev_lc, o_addI, o_subI, o_addS, o_addT, o_mulI, o_modI, o_divI, o_powI, o_cmpI, o_intI, o_intB, o_absI, o_lst, o_tup, bl_bl, List.map_cons, List.map_nil, List.cons_append, List.nil_append, List.append_nil, List.getElem?_cons_zero, List.getElem?_cons_succ, List.set_cons_zero, List.set_cons_succ, List.length_cons, List.length_nil, List.replicate, Nat.reduceAdd, Nat.reduceSub, Nat.reduceLeDiff, true_and, and_true, if_true, decide_eq_true_eq, Nat.zero_add, ev_dict, ev_pairs_cons, ev_pairs_nil, keysW, keyW, n_fun, n_book]
  refine hTurns_ok FK hm0 (by omega) ⟨at_last, pre_at pre_last (pre_at pre_last (pre_at pre_last (pre_at pre_last at_last))), pre_at pre_last at_last, pre_at pre_last (pre_at pre_last (pre_at pre_last at_last)), pre_at pre_last (pre_at pre_last at_last), o0, o1, o2, o3⟩
    (u3.pool.pre ((((pre_last.trans pre_last).trans pre_last).trans pre_last).trans pre_last)) fun L4 x4 x8 x9 x10 x11 x12 x13 x14 u4 => ?_
  refine Eq.mp evs_seq ?_
  refine hO_ok FK (k' := km) (by omega) rfl fun L5 q ws p5 hq hl ho => ?_
  exact hOdd_ok FK hq hl ho fun L6 p6 => k L6 _ rfl
end
theorem law79_ok {F : LG} (FK : LGok F) (ns : List Int) (L : LH) : Ev (lawG F [.scr ns] L) fun w _ => w = .bl true := by
  rw [lawG_eq, ev_defF]
  refine ⟨rfl, ?_⟩
  simp only [hLaw, wipeE, ev_ok, ev_bind, ev_only, ev_ofO, ev_ofOB, ev_ite, evs_ite, evo_some, evs_toS, evs_seq, ev_C, ev_var, ev_op2, ev_op1, ev_opL, ev_nil, ev_cons, ev_call, ev_bVal, ev_bTru, ev_bNot, ev_bAnd, ev_bOr, ev_bYes, ev_cIf, ev_cNot, ev_cAnd, ev_cOr, ev_chain, ev_part_none, ev_part_some, ev_sl, ev_mth, evs_skip, evs_set, evs_ret, evs_expr, evs_if, evs_par, evs_as, ev_gN, ev_gsNil, ev_gsCons, ev_gTup, ev_gIx, evs_aug, ev_defF, evs_for, ev_rng1, ev_iSeq, ev_lc, o_addI, o_subI, o_addS, o_addT, o_mulI, o_modI, o_divI, o_powI, o_cmpI, o_intI, o_intB, o_absI, o_lst, o_tup, bl_bl, List.map_cons, List.map_nil, List.cons_append, List.nil_append, List.append_nil, List.getElem?_cons_zero, List.getElem?_cons_succ, List.set_cons_zero, List.set_cons_succ, List.length_cons, List.length_nil, List.replicate, Nat.reduceAdd, Nat.reduceSub, Nat.reduceLeDiff, true_and, and_true, if_true, decide_eq_true_eq, Nat.zero_add, scr_len]
  have hmin : ∀ Q : W → LH → Prop, EvO (oMin [W.int ns.length, W.int 2] L) Q = Q (.int (if (2 : Int) < ns.length then 2 else ns.length)) L := fun Q => rfl
  have hmax : ∀ (x : Int) (Q : W → LH → Prop), EvO (oMax [W.int 1, W.int x] L) Q = Q (.int (if x > 1 then x else 1)) L := fun x Q => rfl
  simp only [hmin, hmax]
  have hb : 1 ≤ (if (if (2 : Int) < ns.length then 2 else (ns.length : Int)) > 1 then (if (2 : Int) < ns.length then 2 else (ns.length : Int)) else 1) ∧ (if (if (2 : Int) < ns.length then 2 else (ns.length : Int)) > 1 then (if (2 : Int) < ns.length then 2 else (ns.length : Int)) else 1) ≤ 2 := by
    by_cases h : (2 : Int) < ns.length
    · simp only [h, if_true]; decide
    · simp only [h, if_false]
      by_cases h2 : (ns.length : Int) > 1
      · simp only [h2, if_true]; omega
      · simp only [h2, if_false]; decide
  generalize (if (if (2 : Int) < ns.length then 2 else (ns.length : Int)) > 1 then (if (2 : Int) < ns.length then 2 else (ns.length : Int)) else 1) = m at hb ⊢
  obtain ⟨mn, rfl⟩ : ∃ mn : Nat, m = mn := ⟨m.toNat, by omega⟩
  refine ⟨⟨by omega, by omega⟩, ?_⟩
  rw [Int.toNat_natCast]
  refine for_inv (fun i env L' => ∃ r : Env, r.length = 15 ∧ env = some (.scr ns) :: r) (n := mn) (fun i env L' hi hq => ?_) (fun env L' hq => ?_) mn 0 _ _ (by omega) ⟨_, rfl, rfl⟩
  · obtain ⟨r, hr, rfl⟩ := hq
    refine ⟨.int i, by simp [srcR, hi], ?_⟩
    match r, hr with
    | [e1, e2, e3, e4, e5, e6, e7, e8, e9, e10, e11, e12, e13, e14, e15], _ =>
      simp only [wipeE, ev_ok, ev_bind, ev_only, ev_ofO, ev_ofOB, ev_ite, evs_ite, evo_some, evs_toS, evs_seq, ev_C, ev_var, ev_op2, ev_op1, ev_opL, ev_nil, ev_cons, ev_call, ev_bVal, ev_bTru, ev_bNot, ev_bAnd, ev_bOr, ev_bYes, ev_cIf, ev_cNot, ev_cAnd, ev_cOr, ev_chain, ev_part_none, ev_part_some, ev_sl, ev_mth, evs_skip, evs_set, evs_ret, evs_expr, evs_if, evs_par, evs_as, ev_gN, ev_gsNil, ev_gsCons, ev_gTup, ev_gIx, evs_aug, ev_defF, evs_for, ev_rng1, ev_iSeq, ev_lc, o_addI, o_subI, o_addS, o_addT, o_mulI, o_modI, o_divI, o_powI, o_cmpI, o_intI, o_intB, o_absI, o_lst, o_tup, bl_bl, List.map_cons, List.map_nil, List.cons_append, List.nil_append, List.append_nil, List.getElem?_cons_zero, List.getElem?_cons_succ, List.set_cons_zero, List.set_cons_succ, List.length_cons, List.length_nil, List.replicate, Nat.reduceAdd, Nat.reduceSub, Nat.reduceLeDiff, true_and, and_true, if_true, decide_eq_true_eq, Nat.zero_add]
      exact (hBody_ok (N := fun e L2 => ∃ r : Env, r.length = 15 ∧ e = some (.scr ns) :: r) FK (by omega) fun L2 r hr => ⟨r, hr, rfl⟩).mono (fun _ _ q => q) fun _ _ q => q.elim
  · exact ⟨by simp [srcR], trivial⟩
end Z

/-! printed by gen.py -/
namespace K79
open PySem PySem.Spec PyProof.Rows L2 Z
def topS (i : Nat) : Stmt := PySem.Challenge.pw_looseties_k79_whole_terms_as_texts.main.body.getD i (.Pass ⟨0, 0, 0, 0⟩)
abbrev s0 : Stmt := topS 0
abbrev s1 : Stmt := topS 8
abbrev s2 : Stmt := topS 9
abbrev s3 : Stmt := topS 10
abbrev s4 : Stmt := topS 11
abbrev s5 : Stmt := topS 12
abbrev s6 : Stmt := topS 18
abbrev s7 : Stmt := topS 19
abbrev s8 : Stmt := topS 20
abbrev s9 : Stmt := topS 24
abbrev s10 : Stmt := inClass (topS 25) 0
abbrev s11 : Stmt := inClass (topS 25) 1
abbrev s12 : Stmt := inClass (topS 25) 2
abbrev s13 : Stmt := inClass (topS 25) 3
abbrev s14 : Stmt := inClass (topS 25) 4
abbrev s15 : Stmt := inClass (topS 25) 5
abbrev s16 : Stmt := topS 26
abbrev s17 : Stmt := topS 27
abbrev s18 : Stmt := topS 28
abbrev s19 : Stmt := topS 30
abbrev s20 : Stmt := topS 31
abbrev s21 : Stmt := topS 32
abbrev s22 : Stmt := topS 33
abbrev s23 : Stmt := topS 34
abbrev s24 : Stmt := topS 35
abbrev s25 : Stmt := topS 36
abbrev s26 : Stmt := topS 37
def w_FIGURES : W := (.str "0123456789")
def w_LETTERS : W := (.str "abcdefghijklmnopqrstuvwxyz")
def w_MOST_ARGUMENTS : W := (.int 2)
def w_MOST_DEPTH : W := (.int 8)
def w_MOST_LETTERS : W := (.int 8)
def w_MOST_PARTS : W := (.int 30)
def w_MOST_VALUE : W := (.int 2)
def w_PAIRS : W := (.tup [(.str "plus"), (.str "less"), (.str "same")])
def w_VALUES : W := (.str "012")
def tb_is_done (G : Tab) : List (Nat × (Fn × List W)) := [(0, (G 15, []))]
def tb_pull (G : Tab) : List (Nat × (Fn × List W)) := [(0, (G 11, []))]
def tb_pull_figure (G : Tab) : List (Nat × (Fn × List W)) := [(0, (G 13, []))]
def tb_pull_name (G : Tab) : List (Nat × (Fn × List W)) := [(0, (G 14, []))]
def xt_2 : List (Nat × Bool) := [(2, true)]
/-- _wall -/
def B0 (G : Tab) : Sx := sWhile fuelW (bTru (cC (.bl true))) sSkip
def F0 (G : Tab) : Fn := defF 1 1 (B0 G)
theorem sc0 : FnScope ["k"] ["k"] (defScope s0) := ⟨rfl, rfl, rfl, by decide +kernel, rfl, by decide +kernel, by decide +kernel⟩
/-- is_integer -/
def B1 (G : Tab) : Sx := sRet (cAnd (cOpL oIsi (cCons (cVar 0) (cCons (cC (.ty "int")) cNil))) (cNot (cOpL oIsi (cCons (cVar 0) (cCons (cC (.ty "bool")) cNil)))))
def F1 (G : Tab) : Fn := defF 1 1 (B1 G)
theorem sc1 : FnScope ["value"] ["value"] (defScope s1) := ⟨rfl, rfl, rfl, by decide +kernel, rfl, by decide +kernel, by decide +kernel⟩
/-- is_between -/
def B2 (G : Tab) : Sx := sRet (cAnd (cCall (G 1) [] (cCons (cVar 0) cNil)) (cChain oLe oLe (cVar 1) (cVar 0) (cVar 2)))
def F2 (G : Tab) : Fn := defF 3 3 (B2 G)
theorem sc2 : FnScope ["value", "least", "most"] ["value", "least", "most"] (defScope s2) := ⟨rfl, rfl, rfl, by decide +kernel, rfl, by decide +kernel, by decide +kernel⟩
/-- is_value -/
def B3 (G : Tab) : Sx := sRet (cCall (G 2) [] (cCons (cVar 0) (cCons (cC (.int 0)) (cCons (cC w_MOST_VALUE) cNil))))
def F3 (G : Tab) : Fn := defF 1 1 (B3 G)
theorem sc3 : FnScope ["value"] ["value"] (defScope s3) := ⟨rfl, rfl, rfl, by decide +kernel, rfl, by decide +kernel, by decide +kernel⟩
/-- is_name -/
def B4 (G : Tab) : Sx := sRet (cAnd (cOpL oIsi (cCons (cVar 0) (cCons (cC (.ty "str")) cNil))) (cAnd (cChain oLe oLe (cC (.int 1)) (cOpL oLen (cCons (cVar 0) cNil)) (cC w_MOST_LETTERS)) (cOpL oAll (cCons (cLc [1] (iSeq (cVar 0)) (CT.one 1) bYes (cOp2 oInD (cVar 1) (cC w_LETTERS))) cNil))))
def F4 (G : Tab) : Fn := defF 2 1 (B4 G)
theorem sc4 : FnScope ["value", "sign"] ["value"] (defScope s4) := ⟨rfl, rfl, rfl, by decide +kernel, rfl, by decide +kernel, by decide +kernel⟩
/-- has_kind -/
def B5 (G : Tab) : Sx := sRet (cAnd (cOpL oIsi (cCons (cVar 0) (cCons (cC (.ty "tuple")) cNil))) (cAnd (cOp2 oEq (cOpL oLen (cCons (cVar 0) cNil)) (cVar 2)) (cAnd (cOpL oIsi (cCons (cOp2 oIx (cVar 0) (cC (.int 0))) (cCons (cC (.ty "str")) cNil))) (cOp2 oEq (cOp2 oIx (cVar 0) (cC (.int 0))) (cVar 1)))))
def F5 (G : Tab) : Fn := defF 3 3 (B5 G)
theorem sc5 : FnScope ["value", "kind", "many"] ["value", "kind", "many"] (defScope s5) := ⟨rfl, rfl, rfl, by decide +kernel, rfl, by decide +kernel, by decide +kernel⟩
/-- inner_terms -/
def B6 (G : Tab) : Sx := sSeq (sIf (bNot (bTru (cOpL oIsi (cCons (cVar 0) (cCons (cC (.ty "tuple")) cNil))))) (sRet (cOpL oTup cNil)) sSkip) (sSeq (sIf (bVal (cOp2 oEq (cOp2 oIx (cVar 0) (cC (.int 0))) (cC (.str "call")))) (sRet (cOp2 oIx (cVar 0) (cC (.int 2)))) sSkip) (sRet (cIf (bOr (bVal (cOp2 oInD (cOp2 oIx (cVar 0) (cC (.int 0))) (cC w_PAIRS))) (bVal (cOp2 oEq (cOp2 oIx (cVar 0) (cC (.int 0))) (cC (.str "if"))))) (cSl (cVar 0) (some (cC (.int 1))) none) (cOpL oTup cNil))))
def F6 (G : Tab) : Fn := defF 1 1 (B6 G)
theorem sc6 : FnScope ["term"] ["term"] (defScope s6) := ⟨rfl, rfl, rfl, by decide +kernel, rfl, by decide +kernel, by decide +kernel⟩
/-- has_form -/
def B7 (G : Tab) : Sx := sSeq (sIf (bOr (bTru (cCall (G 3) [] (cCons (cVar 0) cNil))) (bTru (cCall (G 5) [] (cCons (cVar 0) (cCons (cC (.str "tick")) (cCons (cC (.int 1)) cNil)))))) (sRet (cC (.bl true))) sSkip) (sSeq (sIf (bTru (cCall (G 5) [] (cCons (cVar 0) (cCons (cC (.str "arg")) (cCons (cC (.int 2)) cNil))))) (sRet (cCall (G 2) [] (cCons (cOp2 oIx (cVar 0) (cC (.int 1))) (cCons (cC (.int 0)) (cCons (cOp2 oSub (cVar 1) (cC (.int 1))) cNil))))) sSkip) (sSeq (sIf (bTru (cCall (G 5) [] (cCons (cVar 0) (cCons (cC (.str "cell")) (cCons (cC (.int 2)) cNil))))) (sRet (cCall (G 4) [] (cCons (cOp2 oIx (cVar 0) (cC (.int 1))) cNil))) sSkip) (sSeq (sIf (bTru (cCall (G 5) [] (cCons (cVar 0) (cCons (cC (.str "call")) (cCons (cC (.int 3)) cNil))))) (sRet (cAnd (cCall (G 4) [] (cCons (cOp2 oIx (cVar 0) (cC (.int 1))) cNil)) (cAnd (cOpL oIsi (cCons (cOp2 oIx (cVar 0) (cC (.int 2))) (cCons (cC (.ty "tuple")) cNil))) (cOp2 oLe (cOpL oLen (cCons (cOp2 oIx (cVar 0) (cC (.int 2))) cNil)) (cC w_MOST_ARGUMENTS))))) sSkip) (sRet (cOr (cOpL oAny (cCons (cLc [2] (iSeq (cC w_PAIRS)) (CT.one 2) bYes (cCall (G 5) [] (cCons (cVar 0) (cCons (cVar 2) (cCons (cC (.int 3)) cNil))))) cNil)) (cCall (G 5) [] (cCons (cVar 0) (cCons (cC (.str "if")) (cCons (cC (.int 4)) cNil)))))))))
def F7 (G : Tab) : Fn := defF 3 2 (B7 G)
theorem sc7 : FnScope ["value", "arguments", "kind"] ["value", "arguments"] (defScope s7) := ⟨rfl, rfl, rfl, by decide +kernel, rfl, by decide +kernel, by decide +kernel⟩
/-- is_term -/
def B8 (G : Tab) : Sx := sSeq (sPar 3 4 (cCons (cOpL oLst (cCons (cVar 0) cNil)) (cCons (cC (.int 0)) cNil))) (sSeq (sFor (iRng1 (cCons (cC w_MOST_DEPTH) cNil)) (gN 2) (sSeq (sAug 4 (oAug oAdd) (cOpL oLen (cCons (cVar 3) cNil))) (sSeq (sIf (bOr (bVal (cOp2 oGt (cVar 4) (cC w_MOST_PARTS))) (bNot (bTru (cOpL oAll (cCons (cLc [6] (iSeq (cVar 3)) (CT.one 6) bYes (cCall (G 7) [] (cCons (cVar 6) (cCons (cVar 1) cNil)))) cNil))))) (sRet (cC (.bl false))) sSkip) (sSeq (sSet 3 (cLc2 [5, 6] [6] (iSeq (cVar 3)) (CT.one 5) bYes (iSeq (cCall (G 6) [] (cCons (cVar 5) cNil))) (CT.one 6) bYes (cVar 6))) (sIf (bVal (cOp2 oEq (cVar 3) (cOpL oLst cNil))) (sRet (cC (.bl true))) sSkip))))) (sRet (cC (.bl false))))
def F8 (G : Tab) : Fn := defF 7 2 (B8 G)
theorem sc8 : FnScope ["value", "arguments", "turn", "layer", "parts", "term", "part"] ["value", "arguments"] (defScope s8) := ⟨rfl, rfl, rfl, by decide +kernel, rfl, by decide +kernel, by decide +kernel⟩
/-- write_term -/
def B9 (G : Tab) : Sx := sSeq (sIf (bNot (bTru (cOpL oIsi (cCons (cVar 0) (cCons (cC (.ty "tuple")) cNil))))) (sRet (cOpL oStr (cCons (cVar 0) cNil))) sSkip) (sSeq (sIf (bVal (cOp2 oEq (cOp2 oIx (cVar 0) (cC (.int 0))) (cC (.str "call")))) (sRet (cMth isStr oJoin (cC (.str " ")) (cCons (cOpL oLst (cCons (cC (.str "call")) (cCons (cOp2 oIx (cVar 0) (cC (.int 1))) (cCons (cOpL oStr (cCons (cOpL oLen (cCons (cOp2 oIx (cVar 0) (cC (.int 2))) cNil)) cNil)) (cStar (cLc [1] (iSeq (cOp2 oIx (cVar 0) (cC (.int 2)))) (CT.one 1) bYes (cCall (G 9) [] (cCons (cVar 1) cNil))) cNil))))) cNil))) sSkip) (sSeq (sIf (bOr (bVal (cOp2 oInD (cOp2 oIx (cVar 0) (cC (.int 0))) (cC w_PAIRS))) (bVal (cOp2 oEq (cOp2 oIx (cVar 0) (cC (.int 0))) (cC (.str "if"))))) (sRet (cMth isStr oJoin (cC (.str " ")) (cCons (cOpL oLst (cCons (cOp2 oIx (cVar 0) (cC (.int 0))) (cStar (cLc [1] (iSeq (cSl (cVar 0) (some (cC (.int 1))) none)) (CT.one 1) bYes (cCall (G 9) [] (cCons (cVar 1) cNil))) cNil))) cNil))) sSkip) (sRet (cMth isStr oJoin (cC (.str " ")) (cCons (cLc [1] (iSeq (cVar 0)) (CT.one 1) bYes (cOpL oStr (cCons (cVar 1) cNil))) cNil)))))
def F9 (G : Tab) : Fn := defF 2 1 (B9 G)
theorem sc9 : FnScope ["term", "part"] ["term"] (defScope s9) := ⟨rfl, rfl, rfl, by decide +kernel, rfl, by decide +kernel, by decide +kernel⟩
/-- Words.__init__ -/
def B10 (G : Tab) : Sx := sSeq (sFldP [0] "left" (cVar 0) (cOpL oList (cCons (cOp1 oRev (cVar 1)) cNil))) (sFldP [0] "is_bad" (cVar 0) (cC (.bl false)))
def F10 (G : Tab) : Fn := defF 2 2 (B10 G)
theorem sc10 : FnScope ["self", "words"] ["self", "words"] (defScope s10) := ⟨rfl, rfl, rfl, by decide +kernel, rfl, by decide +kernel, by decide +kernel⟩
/-- Words.pull -/
def B11 (G : Tab) : Sx := sSeq (sIf (bVal (cOp2 oEq (cOp1 (oFld [0] "left") (cVar 0)) (cOpL oLst cNil))) (sSeq (sFldP [0] "is_bad" (cVar 0) (cC (.bl true))) (sRet (cC (.str "")))) sSkip) (sRet (cMth isLst oPop (cOp1 (oFld [0] "left") (cVar 0)) cNil))
def F11 (G : Tab) : Fn := defF 1 1 (B11 G)
theorem sc11 : FnScope ["self"] ["self"] (defScope s11) := ⟨rfl, rfl, rfl, by decide +kernel, rfl, by decide +kernel, by decide +kernel⟩
/-- Words.pull_one -/
def B12 (G : Tab) : Sx := sExpr (cCall (G 0) [] (cCons (cC (.int 0)) cNil))
def F12 (G : Tab) : Fn := defF 2 2 (B12 G)
theorem sc12 : FnScope ["self", "known"] ["self", "known"] (defScope s12) := ⟨rfl, rfl, rfl, by decide +kernel, rfl, by decide +kernel, by decide +kernel⟩
/-- Words.pull_figure -/
def B13 (G : Tab) : Sx := sSeq (sSet 3 (cMeth (tb_pull G) "pull" (cVar 0) cNil)) (sSeq (sIf (bOr (bVal (cOp2 oNe (cOpL oLen (cCons (cVar 3) cNil)) (cC (.int 1)))) (bOr (bVal (cOp2 oNotInD (cVar 3) (cC w_FIGURES))) (bNot (bVal (cChain oLe oLe (cVar 1) (cOpL oInt (cCons (cVar 3) cNil)) (cVar 2)))))) (sSeq (sFldP [0] "is_bad" (cVar 0) (cC (.bl true))) (sRet (cVar 1))) sSkip) (sRet (cOpL oInt (cCons (cVar 3) cNil))))
def F13 (G : Tab) : Fn := defF 4 3 (B13 G)
theorem sc13 : FnScope ["self", "least", "most", "word"] ["self", "least", "most"] (defScope s13) := ⟨rfl, rfl, rfl, by decide +kernel, rfl, by decide +kernel, by decide +kernel⟩
/-- Words.pull_name -/
def B14 (G : Tab) : Sx := sSeq (sSet 1 (cMeth (tb_pull G) "pull" (cVar 0) cNil)) (sSeq (sIf (bNot (bTru (cCall (G 4) [] (cCons (cVar 1) cNil)))) (sFldP [0] "is_bad" (cVar 0) (cC (.bl true))) sSkip) (sRet (cVar 1)))
def F14 (G : Tab) : Fn := defF 2 1 (B14 G)
theorem sc14 : FnScope ["self", "word"] ["self"] (defScope s14) := ⟨rfl, rfl, rfl, by decide +kernel, rfl, by decide +kernel, by decide +kernel⟩
/-- Words.is_done -/
def B15 (G : Tab) : Sx := sRet (cAnd (cNot (cOp1 (oFld [0] "is_bad") (cVar 0))) (cOp2 oEq (cOp1 (oFld [0] "left") (cVar 0)) (cOpL oLst cNil)))
def F15 (G : Tab) : Fn := defF 1 1 (B15 G)
theorem sc15 : FnScope ["self"] ["self"] (defScope s15) := ⟨rfl, rfl, rfl, by decide +kernel, rfl, by decide +kernel, by decide +kernel⟩
/-- pulled_term -/
def B16 (G : Tab) : Sx := sSeq (sSet 2 (cMeth (tb_pull G) "pull" (cVar 0) cNil)) (sSeq (sIf (bOr (bVal (cOp2 oEq (cVar 1) (cC (.int 0)))) (bTru (cOp1 (oFld [0] "is_bad") (cVar 0)))) (sSeq (sFldP [0] "is_bad" (cVar 0) (cC (.bl true))) (sRet (cC (.int 0)))) sSkip) (sSeq (sIf (bOr (bVal (cOp2 oInD (cVar 2) (cC w_PAIRS))) (bVal (cOp2 oEq (cVar 2) (cC (.str "if"))))) (sRet (cOpL oTup (cCons (cVar 2) (cStar (cLc [5] (iRng1 (cCons (cIf (bVal (cOp2 oEq (cVar 2) (cC (.str "if")))) (cC (.int 3)) (cC (.int 2))) cNil)) (CT.one 5) bYes (cCall (G 16) [] (cCons (cVar 0) (cCons (cOp2 oSub (cVar 1) (cC (.int 1))) cNil)))) cNil)))) sSkip) (sSeq (sIf (bVal (cOp2 oEq (cVar 2) (cC (.str "call")))) (sSeq (sPar 3 4 (cCons (cMeth (tb_pull_name G) "pull_name" (cVar 0) cNil) (cCons (cMeth (tb_pull_figure G) "pull_figure" (cVar 0) (cCons (cC (.int 0)) (cCons (cC (.int 2)) cNil))) cNil))) (sRet (cOpL oTup (cCons (cC (.str "call")) (cCons (cVar 3) (cCons (cOpL oTuple (cCons (cLc [5] (iRng1 (cCons (cVar 4) cNil)) (CT.one 5) bYes (cCall (G 16) [] (cCons (cVar 0) (cCons (cOp2 oSub (cVar 1) (cC (.int 1))) cNil)))) cNil)) cNil)))))) sSkip) (sSeq (sIf (bVal (cOp2 oEq (cVar 2) (cC (.str "arg")))) (sRet (cOpL oTup (cCons (cC (.str "arg")) (cCons (cMeth (tb_pull_figure G) "pull_figure" (cVar 0) (cCons (cC (.int 0)) (cCons (cC (.int 1)) cNil))) cNil)))) sSkip) (sSeq (sIf (bVal (cOp2 oEq (cVar 2) (cC (.str "cell")))) (sRet (cOpL oTup (cCons (cC (.str "cell")) (cCons (cMeth (tb_pull_name G) "pull_name" (cVar 0) cNil) cNil)))) sSkip) (sSeq (sIf (bVal (cOp2 oEq (cVar 2) (cC (.str "tick")))) (sRet (cOpL oTup (cCons (cC (.str "tick")) cNil))) sSkip) (sSeq (sIf (bOr (bVal (cOp2 oNe (cOpL oLen (cCons (cVar 2) cNil)) (cC (.int 1)))) (bVal (cOp2 oNotInD (cVar 2) (cC w_VALUES)))) (sSeq (sFldP [0] "is_bad" (cVar 0) (cC (.bl true))) (sRet (cC (.int 0)))) sSkip) (sRet (cOpL oInt (cCons (cVar 2) cNil))))))))))
def F16 (G : Tab) : Fn := defF 6 2 (B16 G)
theorem sc16 : FnScope ["words", "deep", "word", "name", "many", "turn"] ["words", "deep"] (defScope s16) := ⟨rfl, rfl, rfl, by decide +kernel, rfl, by decide +kernel, by decide +kernel⟩
/-- term_in -/
def B17 (G : Tab) : Sx := sSeq (sSet 2 (cMake 0 (G 10) [] (cCons (cVar 0) cNil))) (sSeq (sSet 3 (cCall (G 16) [] (cCons (cVar 2) (cCons (cC w_MOST_DEPTH) cNil)))) (sRet (cIf (bAnd (bTru (cMeth (tb_is_done G) "is_done" (cVar 2) cNil)) (bTru (cCall (G 8) [] (cCons (cVar 3) (cCons (cVar 1) cNil))))) (cVar 3) (cC .non))))
def F17 (G : Tab) : Fn := defF 4 2 (B17 G)
theorem sc17 : FnScope ["words", "arguments", "row", "term"] ["words", "arguments"] (defScope s17) := ⟨rfl, rfl, rfl, by decide +kernel, rfl, by decide +kernel, by decide +kernel⟩
/-- read_term -/
def B18 (G : Tab) : Sx := sSeq (sSet 2 (cIf (bTru (cOpL oIsi (cCons (cVar 0) (cCons (cC (.ty "str")) cNil)))) (cCall (G 17) [] (cCons (cMth isStr oSplit (cVar 0) (cCons (cC (.str " ")) cNil)) (cCons (cVar 1) cNil))) (cC .non))) (sSeq (sIf (bVal (cOp2 oIs (cVar 2) (cC .non))) (sRaise 2 "index" (cC (.int 0))) sSkip) (sRet (cVar 2)))
def F18 (G : Tab) : Fn := defF 3 2 (B18 G)
theorem sc18 : FnScope ["text", "arguments", "term"] ["text", "arguments"] (defScope s18) := ⟨rfl, rfl, rfl, by decide +kernel, rfl, by decide +kernel, by decide +kernel⟩
/-- _law_pool -/
def B19 (G : Tab) : Sx := sSeq (sSet 2 (cIf (bVal (cOp2 oLt (cVar 1) (cOpL oLen (cCons (cVar 0) cNil)))) (cOp2 oIx (cVar 0) (cVar 1)) (cOp2 oAdd (cOp2 oMul (cC (.int 7)) (cOpL oSum (cCons (cSl (cVar 0) none (some (cC (.int 63)))) cNil))) (cVar 1)))) (sSeq (sSet 3 (cOpL oAbs (cCons (cVar 2) cNil))) (sSeq (sSet 4 (cOp2 oAdd (cOp2 oAdd (cOp2 oAdd (cOp2 oMod (cOpL oInt (cCons (cVar 3) cNil)) (cC (.int 2147483629))) (cOp2 oMul (cOp2 oMul (cC (.int 7919)) (cVar 1)) (cVar 1))) (cOp2 oMul (cC (.int 31)) (cVar 1))) (cC (.int 17)))) (sSeq (sSet 4 (cOp2 oMod (cOpL oInt (cCons (cOp2 oMul (cVar 4) (cC (.int 48271))) cNil)) (cC (.int 2147483647)))) (sRet (cOpL oLst (cCons (cOp2 oMul (cVar 3) (cOpL oInt (cCons (cOp2 oGe (cVar 3) (cOp2 oPow (cC (.int 10)) (cC (.int 18)))) cNil))) (cCons (cOp2 oMod (cOpL oInt (cCons (cOp2 oMul (cVar 4) (cVar 4)) cNil)) (cC (.int 2147483629))) cNil)))))))
def F19 (G : Tab) : Fn := defF 5 2 (B19 G)
theorem sc19 : FnScope ["script", "k", "cell", "size", "mixed"] ["script", "k"] (defScope s19) := ⟨rfl, rfl, rfl, by decide +kernel, rfl, by decide +kernel, by decide +kernel⟩
/-- _law_draw -/
def B20 (G : Tab) : Sx := sSeq (sIf (bVal (cOp2 oGt (cOp2 oIx (cVar 0) (cC (.int 0))) (cC (.int 0)))) (sSeq (sSet 2 (cOp2 oMod (cOpL oInt (cCons (cOp2 oIx (cVar 0) (cC (.int 0))) cNil)) (cVar 1))) (sSeq (sAs (cOp2 oDiv (cOp2 oIx (cVar 0) (cC (.int 0))) (cVar 1)) (gIx (cVar 0) (cC (.int 0)))) (sRet (cVar 2)))) sSkip) (sSeq (sAs (cOp2 oMod (cOpL oInt (cCons (cOp2 oAdd (cOp2 oMul (cOp2 oIx (cVar 0) (cC (.int 1))) (cC (.int 48271))) (cC (.int 11))) cNil)) (cC (.int 2147483647))) (gIx (cVar 0) (cC (.int 1)))) (sRet (cOp2 oMod (cOpL oInt (cCons (cOp2 oDiv (cOp2 oMod (cOpL oInt (cCons (cOp2 oMul (cOp2 oIx (cVar 0) (cC (.int 1))) (cOp2 oIx (cVar 0) (cC (.int 1)))) cNil)) (cC (.int 2147483629))) (cC (.int 16))) cNil)) (cVar 1))))
def F20 (G : Tab) : Fn := defF 3 2 (B20 G)
theorem sc20 : FnScope ["pool", "many", "found"] ["pool", "many"] (defScope s20) := ⟨rfl, rfl, rfl, by decide +kernel, rfl, by decide +kernel, by decide +kernel⟩
/-- _law_pick -/
def B21 (G : Tab) : Sx := sRet (cOp2 oIx (cVar 1) (cCall (G 20) [] (cCons (cVar 0) (cCons (cOpL oLen (cCons (cVar 1) cNil)) cNil))))
def F21 (G : Tab) : Fn := defF 2 2 (B21 G)
theorem sc21 : FnScope ["pool", "row"] ["pool", "row"] (defScope s21) := ⟨rfl, rfl, rfl, by decide +kernel, rfl, by decide +kernel, by decide +kernel⟩
/-- _law_names -/
def B22 (G : Tab) : Sx := sSeq (sSet 2 (cC (.str "abcdefghijklmnopqrstuvwxyz"))) (sSeq (sAs (cOpL oTup (cCons (cCall (G 20) [] (cCons (cVar 0) (cCons (cC (.int 26)) cNil))) (cCons (cOp2 oAdd (cC (.int 1)) (cOp2 oMul (cC (.int 2)) (cCall (G 20) [] (cCons (cVar 0) (cCons (cC (.int 6)) cNil))))) cNil))) (gTupW 2 (gsCons (gN 4) (gsCons (gN 5) gsNil)))) (sSeq (sSet 3 (cOpL oLst (cCons (cOpL oTup (cCons (cC (.str "")) (cCons (cC (.str "")) cNil))) (cCons (cOpL oTup (cCons (cC (.str "")) (cCons (cC (.str "q")) cNil))) (cCons (cOpL oTup (cCons (cC (.str "ab")) (cCons (cC (.str "")) cNil))) (cCons (cOpL oTup (cCons (cC (.str "abcdefg")) (cCons (cC (.str "")) cNil))) (cCons (cOpL oTup (cCons (cC (.str "")) (cCons (cC (.str "abcdefg")) cNil))) cNil))))))) (sSeq (sAs (cCall (G 21) [] (cCons (cVar 0) (cCons (cVar 3) cNil))) (gTupW 2 (gsCons (gN 6) (gsCons (gN 7) gsNil)))) (sRet (cLc [8] (iRng1 (cCons (cVar 1) cNil)) (CT.one 8) bYes (cOp2 oAdd (cOp2 oAdd (cVar 6) (cOp2 oIx (cVar 2) (cOp2 oMod (cOpL oInt (cCons (cOp2 oAdd (cVar 4) (cOp2 oMul (cVar 5) (cVar 8))) cNil)) (cC (.int 26))))) (cVar 7)))))))
def F22 (G : Tab) : Fn := defF 9 2 (B22 G)
theorem sc22 : FnScope ["pool", "count", "signs", "ends", "origin", "step", "head", "tail", "k"] ["pool", "count"] (defScope s22) := ⟨rfl, rfl, rfl, by decide +kernel, rfl, by decide +kernel, by decide +kernel⟩
/-- _law_term -/
def B23 (G : Tab) : Sx := sSeq (sSet 4 (cCall (G 20) [] (cCons (cVar 0) (cCons (cIf (bVal (cOp2 oGt (cVar 3) (cC (.int 0)))) (cC (.int 9)) (cC (.int 4))) cNil)))) (sSeq (sIf (bOr (bVal (cOp2 oEq (cVar 4) (cC (.int 0)))) (bOr (bAnd (bVal (cOp2 oEq (cVar 4) (cC (.int 1)))) (bVal (cOp2 oEq (cVar 2) (cC (.int 0))))) (bAnd (bVal (cOp2 oInD (cVar 4) (cOpL oLst (cCons (cC (.int 2)) (cCons (cC (.int 8)) cNil))))) (bVal (cOp2 oEq (cOp2 oIx (cVar 1) (cC (.str "cells"))) (cOpL oLst cNil)))))) (sRet (cCall (G 20) [] (cCons (cVar 0) (cCons (cC (.int 3)) cNil)))) sSkip) (sSeq (sIf (bVal (cOp2 oEq (cVar 4) (cC (.int 1)))) (sRet (cOpL oTup (cCons (cC (.str "arg")) (cCons (cCall (G 20) [] (cCons (cVar 0) (cCons (cVar 2) cNil))) cNil)))) sSkip) (sSeq (sIf (bOr (bVal (cOp2 oEq (cVar 4) (cC (.int 2)))) (bVal (cOp2 oEq (cVar 4) (cC (.int 8))))) (sRet (cOpL oTup (cCons (cC (.str "cell")) (cCons (cOp2 oIx (cCall (G 21) [] (cCons (cVar 0) (cCons (cOp2 oIx (cVar 1) (cC (.str "cells"))) cNil))) (cC (.int 0))) cNil)))) sSkip) (sSeq (sIf (bVal (cOp2 oEq (cVar 4) (cC (.int 3)))) (sRet (cIf (bVal (cOp2 oEq (cCall (G 20) [] (cCons (cVar 0) (cCons (cC (.int 3)) cNil))) (cC (.int 0)))) (cOpL oTup (cCons (cC (.str "tick")) cNil)) (cCall (G 20) [] (cCons (cVar 0) (cCons (cC (.int 3)) cNil))))) sSkip) (sSeq (sIf (bAnd (bVal (cOp2 oEq (cVar 4) (cC (.int 4)))) (bVal (cOp2 oNe (cOp2 oIx (cVar 1) (cC (.str "functions"))) (cOpL oLst cNil)))) (sSeq (sSet 6 (cCall (G 21) [] (cCons (cVar 0) (cCons (cOp2 oIx (cVar 1) (cC (.str "functions"))) cNil)))) (sRet (cOpL oTup (cCons (cC (.str "call")) (cCons (cOp2 oIx (cVar 6) (cC (.str "name"))) (cCons (cOpL oTuple (cCons (cLc [7] (iRng1 (cCons (cOp2 oIx (cVar 6) (cC (.str "many"))) cNil)) (CT.one 7) bYes (cCall (G 23) [] (cCons (cVar 0) (cCons (cVar 1) (cCons (cVar 2) (cCons (cC (.int 0)) cNil)))))) cNil)) cNil)))))) sSkip) (sSeq (sIf (bVal (cOp2 oEq (cVar 4) (cC (.int 7)))) (sRet (cOp2 oAdd (cOpL oTup (cCons (cC (.str "if")) cNil)) (cOpL oTuple (cCons (cLc [7] (iRng1 (cCons (cC (.int 3)) cNil)) (CT.one 7) bYes (cCall (G 23) [] (cCons (cVar 0) (cCons (cVar 1) (cCons (cVar 2) (cCons (cOp2 oSub (cVar 3) (cC (.int 1))) cNil)))))) cNil)))) sSkip) (sSeq (sSet 5 (cCall (G 21) [] (cCons (cVar 0) (cCons (cOpL oLst (cCons (cC (.str "plus")) (cCons (cC (.str "less")) (cCons (cC (.str "same")) cNil)))) cNil)))) (sRet (cOpL oTup (cCons (cVar 5) (cCons (cCall (G 23) [] (cCons (cVar 0) (cCons (cVar 1) (cCons (cVar 2) (cCons (cOp2 oSub (cVar 3) (cC (.int 1))) cNil))))) (cCons (cCall (G 23) [] (cCons (cVar 0) (cCons (cVar 1) (cCons (cVar 2) (cCons (cOp2 oSub (cVar 3) (cC (.int 1))) cNil))))) cNil))))))))))))
def F23 (G : Tab) : Fn := defF 8 4 (B23 G)
theorem sc23 : FnScope ["pool", "b", "many", "deep", "kind", "head", "f", "at"] ["pool", "b", "many", "deep"] (defScope s23) := ⟨rfl, rfl, rfl, by decide +kernel, rfl, by decide +kernel, by decide +kernel⟩
/-- _law_term_text -/
def B24 (G : Tab) : Sx := sSeq (sIf (bNot (bTru (cOpL oIsi (cCons (cVar 0) (cCons (cC (.ty "tuple")) cNil))))) (sRet (cOpL oStr (cCons (cVar 0) cNil))) sSkip) (sSeq (sIf (bVal (cOp2 oInD (cOp2 oIx (cVar 0) (cC (.int 0))) (cOpL oLst (cCons (cC (.str "arg")) (cCons (cC (.str "cell")) cNil))))) (sRet (cOp2 oAdd (cOp2 oAdd (cOp2 oIx (cVar 0) (cC (.int 0))) (cC (.str " "))) (cOpL oStr (cCons (cOp2 oIx (cVar 0) (cC (.int 1))) cNil)))) sSkip) (sSeq (sIf (bVal (cOp2 oEq (cOp2 oIx (cVar 0) (cC (.int 0))) (cC (.str "call")))) (sRet (cMth isStr oJoin (cC (.str " ")) (cCons (cOp2 oAdd (cOpL oLst (cCons (cC (.str "call")) (cCons (cOp2 oIx (cVar 0) (cC (.int 1))) (cCons (cOpL oStr (cCons (cOpL oLen (cCons (cOp2 oIx (cVar 0) (cC (.int 2))) cNil)) cNil)) cNil)))) (cLc [1] (iSeq (cOp2 oIx (cVar 0) (cC (.int 2)))) (CT.one 1) bYes (cCall (G 24) [] (cCons (cVar 1) cNil)))) cNil))) sSkip) (sRet (cMth isStr oJoin (cC (.str " ")) (cCons (cOp2 oAdd (cOpL oLst (cCons (cOp2 oIx (cVar 0) (cC (.int 0))) cNil)) (cLc [1] (iSeq (cSl (cVar 0) (some (cC (.int 1))) none)) (CT.one 1) bYes (cCall (G 24) [] (cCons (cVar 1) cNil)))) cNil)))))
def F24 (G : Tab) : Fn := defF 2 1 (B24 G)
theorem sc24 : FnScope ["term", "part"] ["term"] (defScope s24) := ⟨rfl, rfl, rfl, by decide +kernel, rfl, by decide +kernel, by decide +kernel⟩
/-- _law_read -/
def B25 (G : Tab) : Sx := sTry (some 2) xt_2 (sRet (cCall (G 18) [] (cCons (cVar 0) (cCons (cVar 1) cNil)))) (fun x => sRet (cOpL oLst (cCons (cC (.str "bad")) (cCons (cXf [2] "index" x) cNil))))
def F25 (G : Tab) : Fn := defF 3 2 (B25 G)
theorem sc25 : FnScope ["text", "many", "e"] ["text", "many"] (defScope s25) := ⟨rfl, rfl, rfl, by decide +kernel, rfl, by decide +kernel, by decide +kernel⟩
/-- law -/
def B26 (G : Tab) : Sx := sSeq (sFor (iRng1 (cCons (cOpL oMax (cCons (cC (.int 1)) (cCons (cOpL oMin (cCons (cOpL oLen (cCons (cVar 0) cNil)) (cCons (cC (.int 2)) cNil))) cNil))) cNil)) (gN 1) (sSeq (sSet 2 (cCall (G 19) [] (cCons (cVar 0) (cCons (cVar 1) cNil)))) (sSeq (sAs (cOpL oTup (cCons (cCall (G 22) [] (cCons (cVar 2) (cCons (cC (.int 4)) cNil))) (cCons (cCall (G 20) [] (cCons (cVar 2) (cCons (cC (.int 3)) cNil))) cNil))) (gTupW 2 (gsCons (gN 6) (gsCons (gN 7) gsNil)))) (sSeq (sSet 3 (cDict [(cC (.str "cells"), cOpL oLst (cCons (cOpL oTup (cCons (cOp2 oIx (cVar 6) (cC (.int 0))) (cCons (cC (.str "table")) cNil))) (cCons (cOpL oTup (cCons (cOp2 oIx (cVar 6) (cC (.int 1))) (cCons (cC (.str "frozen")) cNil))) cNil))), (cC (.str "functions"), cOpL oLst (cCons (cDict [(cC (.str "name"), cOp2 oIx (cVar 6) (cC (.int 2))), (cC (.str "many"), cC (.int 2))]) (cCons (cDict [(cC (.str "name"), cOp2 oIx (cVar 6) (cC (.int 3))), (cC (.str "many"), cC (.int 0))]) cNil)))])) (sSeq (sFor (iRng1 (cCons (cC (.int 12)) cNil)) (gN 4) (sSeq (sSet 8 (cCall (G 23) [] (cCons (cVar 2) (cCons (cVar 3) (cCons (cVar 7) (cCons (cCall (G 20) [] (cCons (cVar 2) (cCons (cC (.int 4)) cNil))) cNil)))))) (sSeq (sSet 9 (cCall (G 24) [] (cCons (cVar 8) cNil))) (sIf (bVal (cOp2 oLe (cOpL oLen (cCons (cMth isStr oSplit (cVar 9) (cCons (cC (.str " ")) cNil)) cNil)) (cC (.int 30)))) (sSeq (sIf (bOr (bVal (cOp2 oNe (cCall (G 9) [] (cCons (cVar 8) cNil)) (cVar 9))) (bVal (cOp2 oNe (cCall (G 25) [] (cCons (cVar 9) (cCons (cVar 7) cNil))) (cVar 8)))) (sRet (cC (.bl false))) sSkip) (sSeq (sSet 10 (cMth isStr oSplit (cVar 9) (cCons (cC (.str " ")) cNil))) (sSeq (sSet 11 (cCall (G 20) [] (cCons (cVar 2) (cCons (cOpL oLen (cCons (cVar 10) cNil)) cNil)))) (sSeq (sSet 12 (cOpL oLst (cCons (cOp2 oAdd (cVar 10) (cOpL oLst (cCons (cC (.str "0")) cNil))) (cCons (cOp2 oAdd (cVar 10) (cOpL oLst (cCons (cC (.str "arg")) cNil))) (cCons (cOp2 oAdd (cOp2 oAdd (cSl (cVar 10) none (some (cVar 11))) (cOpL oLst (cCons (cC (.str "")) cNil))) (cSl (cVar 10) (some (cVar 11)) none)) (cCons (cSl (cVar 10) none (some (cOp1 oNeg (cC (.int 1))))) (cCons (cOp2 oAdd (cVar 10) (cOpL oLst (cCons (cC (.str "")) cNil))) (cCons (cOp2 oAdd (cOpL oLst (cCons (cC (.str "")) cNil)) (cVar 10)) cNil)))))))) (sSeq (sFor (iSeq (cOp2 oAdd (cVar 12) (cOpL oLst (cCons (cOp2 oAdd (cOp2 oAdd (cSl (cVar 10) none (some (cVar 11))) (cOpL oLst (cCons (cC (.str "Plus")) cNil))) (cSl (cVar 10) (some (cOp2 oAdd (cVar 11) (cC (.int 1)))) none)) (cCons (cOp2 oAdd (cOp2 oAdd (cSl (cVar 10) none (some (cVar 11))) (cOpL oLst (cCons (cC (.str "01")) cNil))) (cSl (cVar 10) (some (cOp2 oAdd (cVar 11) (cC (.int 1)))) none)) (cCons (cOp2 oAdd (cOp2 oAdd (cSl (cVar 10) none (some (cVar 11))) (cOpL oLst (cCons (cC (.str "-1")) cNil))) (cSl (cVar 10) (some (cOp2 oAdd (cVar 11) (cC (.int 1)))) none)) cNil)))))) (gN 13) (sSeq (sSet 14 (cCall (G 25) [] (cCons (cMth isStr oJoin (cC (.str " ")) (cCons (cVar 13) cNil)) (cCons (cVar 7) cNil)))) (sIf (bAnd (bVal (cOp2 oNe (cVar 14) (cOpL oLst (cCons (cC (.str "bad")) (cCons (cC (.int 0)) cNil))))) (bOr (bTru (cOpL oIsi (cCons (cVar 14) (cCons (cC (.ty "list")) cNil)))) (bVal (cOp2 oNe (cCall (G 24) [] (cCons (cVar 14) cNil)) (cMth isStr oJoin (cC (.str " ")) (cCons (cVar 13) cNil)))))) (sRet (cC (.bl false))) sSkip))) (sIf (bOr (bVal (cOp2 oNe (cCall (G 25) [] (cCons (cMth isStr oJoin (cC (.str " ")) (cCons (cOp2 oAdd (cVar 10) (cOpL oLst (cCons (cC (.str "0")) cNil))) cNil)) (cCons (cVar 7) cNil))) (cOpL oLst (cCons (cC (.str "bad")) (cCons (cC (.int 0)) cNil))))) (bVal (cOp2 oNe (cCall (G 25) [] (cCons (cOp2 oAdd (cVar 9) (cC (.str " "))) (cCons (cVar 7) cNil))) (cOpL oLst (cCons (cC (.str "bad")) (cCons (cC (.int 0)) cNil)))))) (sRet (cC (.bl false))) sSkip)))))) sSkip)))) (sSeq (sSet 5 (cOpL oLst (cCons (cC .non) (cCons (cC (.int 5)) (cCons (cC (.str "")) (cCons (cC (.str " ")) (cCons (cC (.str "3")) (cCons (cC (.str "arg")) (cCons (cOp2 oAdd (cC (.str "arg ")) (cOpL oStr (cCons (cVar 7) cNil))) (cCons (cC (.str "arg x")) (cCons (cC (.str "cell")) (cCons (cC (.str "cell A")) (cCons (cC (.str "plus 1")) (cCons (cC (.str "less 1 2 3")) (cCons (cC (.str "if 1 2")) (cCons (cC (.str "call f")) cNil)))))))))))))))) (sSeq (sSet 5 (cOp2 oAdd (cVar 5) (cOpL oLst (cCons (cC (.str "call f 3 1 1 1")) (cCons (cC (.str "call f 1")) (cCons (cC (.str "call f 01 1")) (cCons (cC (.str "call F 0")) (cCons (cC (.str "Tick")) (cCons (cC (.str "tick 1")) (cCons (cC (.str "same 1  2")) (cCons (cOpL oLst (cCons (cC (.str "tick")) cNil)) (cCons (cC (.str "arg -1")) (cCons (cC (.str "arg 00")) cNil))))))))))))) (sIf (bVal (cOp2 oNe (cLc [15] (iSeq (cVar 5)) (CT.one 15) (bVal (cOp2 oNe (cCall (G 25) [] (cCons (cVar 15) (cCons (cVar 7) cNil))) (cOpL oLst (cCons (cC (.str "bad")) (cCons (cC (.int 0)) cNil))))) (cVar 15)) (cOpL oLst cNil))) (sRet (cC (.bl false))) sSkip)))))))) (sRet (cC (.bl true)))
def F26 (G : Tab) : Fn := defF 16 1 (B26 G)
theorem sc26 : FnScope ["script", "k", "pool", "b", "turn", "odds", "names", "many", "term", "text", "words", "at", "bent", "some", "told", "odd"] ["script"] (defScope s26) := ⟨rfl, rfl, rfl, by decide +kernel, rfl, by decide +kernel, by decide +kernel⟩
def zstep (G : Tab) : Tab := fun i => match i with
  | 0 => F0 G
  | 1 => F1 G
  | 2 => F2 G
  | 3 => F3 G
  | 4 => F4 G
  | 5 => F5 G
  | 6 => F6 G
  | 7 => F7 G
  | 8 => F8 G
  | 9 => F9 G
  | 10 => F10 G
  | 11 => F11 G
  | 12 => F12 G
  | 13 => F13 G
  | 14 => F14 G
  | 15 => F15 G
  | 16 => F16 G
  | 17 => F17 G
  | 18 => F18 G
  | 19 => F19 G
  | 20 => F20 G
  | 21 => F21 G
  | 22 => F22 G
  | 23 => F23 G
  | 24 => F24 G
  | 25 => F25 G
  | 26 => F26 G
  | _ => fun _ _ => .stk
def zlev : Nat → Tab
  | 0 => fun _ _ _ => .stk
  | k + 1 => zstep (zlev k)
/-- what the top has written -/
structure Fx (K : PySem.W.Frag) (mg : Str → Option Value) (Γ : Z.Ctx) (fd : Nat → FuncData) : Prop where
  hK : Γ.K = K
  u0 : Fun K "_wall" "_wall" s0 (Γ.fns 0) (fd 0)
  m0 : mg "_wall" = some (.ref (Γ.fns 0))
  b0 : Binds K (fd 0) ["k"] []
  u1 : Fun K "is_integer" "is_integer" s1 (Γ.fns 1) (fd 1)
  m1 : mg "is_integer" = some (.ref (Γ.fns 1))
  b1 : Binds K (fd 1) ["value"] []
  u2 : Fun K "is_between" "is_between" s2 (Γ.fns 2) (fd 2)
  m2 : mg "is_between" = some (.ref (Γ.fns 2))
  b2 : Binds K (fd 2) ["value", "least", "most"] []
  u3 : Fun K "is_value" "is_value" s3 (Γ.fns 3) (fd 3)
  m3 : mg "is_value" = some (.ref (Γ.fns 3))
  b3 : Binds K (fd 3) ["value"] []
  u4 : Fun K "is_name" "is_name" s4 (Γ.fns 4) (fd 4)
  m4 : mg "is_name" = some (.ref (Γ.fns 4))
  b4 : Binds K (fd 4) ["value"] []
  u5 : Fun K "has_kind" "has_kind" s5 (Γ.fns 5) (fd 5)
  m5 : mg "has_kind" = some (.ref (Γ.fns 5))
  b5 : Binds K (fd 5) ["value", "kind", "many"] []
  u6 : Fun K "inner_terms" "inner_terms" s6 (Γ.fns 6) (fd 6)
  m6 : mg "inner_terms" = some (.ref (Γ.fns 6))
  b6 : Binds K (fd 6) ["term"] []
  u7 : Fun K "has_form" "has_form" s7 (Γ.fns 7) (fd 7)
  m7 : mg "has_form" = some (.ref (Γ.fns 7))
  b7 : Binds K (fd 7) ["value", "arguments"] []
  u8 : Fun K "is_term" "is_term" s8 (Γ.fns 8) (fd 8)
  m8 : mg "is_term" = some (.ref (Γ.fns 8))
  b8 : Binds K (fd 8) ["value", "arguments"] []
  u9 : Fun K "write_term" "write_term" s9 (Γ.fns 9) (fd 9)
  m9 : mg "write_term" = some (.ref (Γ.fns 9))
  b9 : Binds K (fd 9) ["term"] []
  u10 : Fun K "__init__" "Words.__init__" s10 (Γ.fns 10) (fd 10)
  b10 : Binds K (fd 10) ["self", "words"] []
  u11 : Fun K "pull" "Words.pull" s11 (Γ.fns 11) (fd 11)
  b11 : Binds K (fd 11) ["self"] []
  u12 : Fun K "pull_one" "Words.pull_one" s12 (Γ.fns 12) (fd 12)
  b12 : Binds K (fd 12) ["self", "known"] []
  u13 : Fun K "pull_figure" "Words.pull_figure" s13 (Γ.fns 13) (fd 13)
  b13 : Binds K (fd 13) ["self", "least", "most"] []
  u14 : Fun K "pull_name" "Words.pull_name" s14 (Γ.fns 14) (fd 14)
  b14 : Binds K (fd 14) ["self"] []
  u15 : Fun K "is_done" "Words.is_done" s15 (Γ.fns 15) (fd 15)
  b15 : Binds K (fd 15) ["self"] []
  u16 : Fun K "pulled_term" "pulled_term" s16 (Γ.fns 16) (fd 16)
  m16 : mg "pulled_term" = some (.ref (Γ.fns 16))
  b16 : Binds K (fd 16) ["words", "deep"] []
  u17 : Fun K "term_in" "term_in" s17 (Γ.fns 17) (fd 17)
  m17 : mg "term_in" = some (.ref (Γ.fns 17))
  b17 : Binds K (fd 17) ["words", "arguments"] []
  u18 : Fun K "read_term" "read_term" s18 (Γ.fns 18) (fd 18)
  m18 : mg "read_term" = some (.ref (Γ.fns 18))
  b18 : Binds K (fd 18) ["text", "arguments"] []
  u19 : Fun K "_law_pool" "_law_pool" s19 (Γ.fns 19) (fd 19)
  m19 : mg "_law_pool" = some (.ref (Γ.fns 19))
  b19 : Binds K (fd 19) ["script", "k"] []
  u20 : Fun K "_law_draw" "_law_draw" s20 (Γ.fns 20) (fd 20)
  m20 : mg "_law_draw" = some (.ref (Γ.fns 20))
  b20 : Binds K (fd 20) ["pool", "many"] []
  u21 : Fun K "_law_pick" "_law_pick" s21 (Γ.fns 21) (fd 21)
  m21 : mg "_law_pick" = some (.ref (Γ.fns 21))
  b21 : Binds K (fd 21) ["pool", "row"] []
  u22 : Fun K "_law_names" "_law_names" s22 (Γ.fns 22) (fd 22)
  m22 : mg "_law_names" = some (.ref (Γ.fns 22))
  b22 : Binds K (fd 22) ["pool", "count"] []
  u23 : Fun K "_law_term" "_law_term" s23 (Γ.fns 23) (fd 23)
  m23 : mg "_law_term" = some (.ref (Γ.fns 23))
  b23 : Binds K (fd 23) ["pool", "b", "many", "deep"] []
  u24 : Fun K "_law_term_text" "_law_term_text" s24 (Γ.fns 24) (fd 24)
  m24 : mg "_law_term_text" = some (.ref (Γ.fns 24))
  b24 : Binds K (fd 24) ["term"] []
  u25 : Fun K "_law_read" "_law_read" s25 (Γ.fns 25) (fd 25)
  m25 : mg "_law_read" = some (.ref (Γ.fns 25))
  b25 : Binds K (fd 25) ["text", "many"] []
  u26 : Fun K "law" "law" s26 (Γ.fns 26) (fd 26)
  m26 : mg "law" = some (.ref (Γ.fns 26))
  b26 : Binds K (fd 26) ["script"] []
  z_abs : mg "abs" = none
  z_all : mg "all" = none
  z_any : mg "any" = none
  z_bool : mg "bool" = none
  z_int : mg "int" = none
  z_isinstance : mg "isinstance" = none
  z_len : mg "len" = none
  z_list : mg "list" = none
  z_max : mg "max" = none
  z_min : mg "min" = none
  z_range : mg "range" = none
  z_str : mg "str" = none
  z_sum : mg "sum" = none
  z_tuple : mg "tuple" = none
  cl_0 : Cls K (Γ.cls 0)
  na_0_is_bad : NoAttr K (Γ.cls 0) "is_bad"
  na_0_left : NoAttr K (Γ.cls 0) "left"
  me_0_is_done : Meth K (Γ.cls 0) "is_done" (Γ.fns 15)
  me_0_pull : Meth K (Γ.cls 0) "pull" (Γ.fns 11)
  me_0_pull_figure : Meth K (Γ.cls 0) "pull_figure" (Γ.fns 13)
  me_0_pull_name : Meth K (Γ.cls 0) "pull_name" (Γ.fns 14)
  mk_0 : Mk K (Γ.cls 0) (Γ.fns 10)
  mc_0 : mg "Words" = some (.ref (Γ.cls 0))
  xu_2 : Fun K "__init__" "BadText.__init__" (inClass (topS 3) 0) (Γ.fns 29) (fd 29)
  bx_2 : Binds K (fd 29) ["self", "index"] []
  ox_2 : OexC K (Γ.cls 2)
  xI_2 : PySem.W.findIn K (.ref (Γ.cls 2)) "__init__" = some (some (.ref (Γ.fns 29)))
  xT_2 : PySem.W.typeIn K (.ref (Γ.fns 29)) = some (.type "function")
  xn_2 : PySem.W.findIn K (.ref (Γ.cls 2)) "index" = some none
  xf_2 : XfC K (Γ.cls 2)
  xr_1 : PySem.W.readsIn K (Γ.cls 1) (.type "type") = true
  xg_1 : PySem.W.specialIn K (.ref (Γ.cls 1)) "__getattribute__" = some (some (.builtin "type.__getattribute__"))
  xv_1 : PySem.W.findCls K (.ref (Γ.cls 1)) (.type "type") "__init__" = some (.val (.builtin "ValueError.__init__"))
  mx_1 : mg "StoreError" = some (.ref (Γ.cls 1))
  mx_2 : mg "BadText" = some (.ref (Γ.cls 2))
  xm_2_2 : PySem.W.exmOne K (.ref (Γ.cls 2)) (.ref (Γ.cls 2)) = some true
  g_FIGURES : GW Γ mg "FIGURES" w_FIGURES
  g_LETTERS : GW Γ mg "LETTERS" w_LETTERS
  g_MOST_ARGUMENTS : GW Γ mg "MOST_ARGUMENTS" w_MOST_ARGUMENTS
  g_MOST_DEPTH : GW Γ mg "MOST_DEPTH" w_MOST_DEPTH
  g_MOST_LETTERS : GW Γ mg "MOST_LETTERS" w_MOST_LETTERS
  g_MOST_PARTS : GW Γ mg "MOST_PARTS" w_MOST_PARTS
  g_MOST_VALUE : GW Γ mg "MOST_VALUE" w_MOST_VALUE
  g_PAIRS : GW Γ mg "PAIRS" w_PAIRS
  g_VALUES : GW Γ mg "VALUES" w_VALUES
structure TabOk (P : Program) (w : World) (K : PySem.W.Frag) (mg : Str → Option Value) (base : Heap) (Γ : Z.Ctx) (k : Nat) (G : Tab) : Prop where
  f0 : FnS P w K mg base Γ k (Γ.fns 0) ["k"] [] (G 0)
  f1 : FnS P w K mg base Γ k (Γ.fns 1) ["value"] [] (G 1)
  f2 : FnS P w K mg base Γ k (Γ.fns 2) ["value", "least", "most"] [] (G 2)
  f3 : FnS P w K mg base Γ k (Γ.fns 3) ["value"] [] (G 3)
  f4 : FnS P w K mg base Γ k (Γ.fns 4) ["value"] [] (G 4)
  f5 : FnS P w K mg base Γ k (Γ.fns 5) ["value", "kind", "many"] [] (G 5)
  f6 : FnS P w K mg base Γ k (Γ.fns 6) ["term"] [] (G 6)
  f7 : FnS P w K mg base Γ k (Γ.fns 7) ["value", "arguments"] [] (G 7)
  f8 : FnS P w K mg base Γ k (Γ.fns 8) ["value", "arguments"] [] (G 8)
  f9 : FnS P w K mg base Γ k (Γ.fns 9) ["term"] [] (G 9)
  f10 : FnS P w K mg base Γ k (Γ.fns 10) ["self", "words"] [] (G 10)
  f11 : FnS P w K mg base Γ k (Γ.fns 11) ["self"] [] (G 11)
  f12 : FnS P w K mg base Γ k (Γ.fns 12) ["self", "known"] [] (G 12)
  f13 : FnS P w K mg base Γ k (Γ.fns 13) ["self", "least", "most"] [] (G 13)
  f14 : FnS P w K mg base Γ k (Γ.fns 14) ["self"] [] (G 14)
  f15 : FnS P w K mg base Γ k (Γ.fns 15) ["self"] [] (G 15)
  f16 : FnS P w K mg base Γ k (Γ.fns 16) ["words", "deep"] [] (G 16)
  f17 : FnS P w K mg base Γ k (Γ.fns 17) ["words", "arguments"] [] (G 17)
  f18 : FnS P w K mg base Γ k (Γ.fns 18) ["text", "arguments"] [] (G 18)
  f19 : FnS P w K mg base Γ k (Γ.fns 19) ["script", "k"] [] (G 19)
  f20 : FnS P w K mg base Γ k (Γ.fns 20) ["pool", "many"] [] (G 20)
  f21 : FnS P w K mg base Γ k (Γ.fns 21) ["pool", "row"] [] (G 21)
  f22 : FnS P w K mg base Γ k (Γ.fns 22) ["pool", "count"] [] (G 22)
  f23 : FnS P w K mg base Γ k (Γ.fns 23) ["pool", "b", "many", "deep"] [] (G 23)
  f24 : FnS P w K mg base Γ k (Γ.fns 24) ["term"] [] (G 24)
  f25 : FnS P w K mg base Γ k (Γ.fns 25) ["text", "many"] [] (G 25)
  f26 : FnS P w K mg base Γ k (Γ.fns 26) ["script"] [] (G 26)
theorem Fx.fl_is_bad {K : PySem.W.Frag} {mg : Str → Option Value} {Γ : Z.Ctx} {fd : Nat → FuncData} (Z : Fx K mg Γ fd) : Flds K Γ [0] "is_bad" := Flds.cons Z.cl_0 Z.na_0_is_bad (Flds.nil)
theorem Fx.fl_left {K : PySem.W.Frag} {mg : Str → Option Value} {Γ : Z.Ctx} {fd : Nat → FuncData} (Z : Fx K mg Γ fd) : Flds K Γ [0] "left" := Flds.cons Z.cl_0 Z.na_0_left (Flds.nil)
theorem TabOk.up {P : Program} {w : World} {K : PySem.W.Frag} {mg : Str → Option Value} {base : Heap} {Γ : Z.Ctx} {k : Nat} {G : Tab} (T : TabOk P w K mg base Γ k G) : TabOk P w K mg base Γ (k + 1) G :=
  ⟨T.f0.mono (Nat.le_succ _), T.f1.mono (Nat.le_succ _), T.f2.mono (Nat.le_succ _), T.f3.mono (Nat.le_succ _), T.f4.mono (Nat.le_succ _), T.f5.mono (Nat.le_succ _), T.f6.mono (Nat.le_succ _), T.f7.mono (Nat.le_succ _), T.f8.mono (Nat.le_succ _), T.f9.mono (Nat.le_succ _), T.f10.mono (Nat.le_succ _), T.f11.mono (Nat.le_succ _), T.f12.mono (Nat.le_succ _), T.f13.mono (Nat.le_succ _), T.f14.mono (Nat.le_succ _), T.f15.mono (Nat.le_succ _), T.f16.mono (Nat.le_succ _), T.f17.mono (Nat.le_succ _), T.f18.mono (Nat.le_succ _), T.f19.mono (Nat.le_succ _), T.f20.mono (Nat.le_succ _), T.f21.mono (Nat.le_succ _), T.f22.mono (Nat.le_succ _), T.f23.mono (Nat.le_succ _), T.f24.mono (Nat.le_succ _), T.f25.mono (Nat.le_succ _), T.f26.mono (Nat.le_succ _)⟩
theorem Fx.xt_2 {K : PySem.W.Frag} {mg : Str → Option Value} {Γ : Z.Ctx} {fd : Nat → FuncData} (Z : Fx K mg Γ fd) : ExmS K Γ (.ref (Γ.cls 2)) xt_2 := ExmS.cons Z.xm_2_2 (ExmS.nil)
theorem xsc_2 : FnScope ["self", "index"] ["self", "index"] (defScope (inClass (topS 3) 0)) := ⟨rfl, rfl, rfl, by decide +kernel, rfl, by decide +kernel, by decide +kernel⟩
theorem xi_2 {P : Program} {w : World} {K : PySem.W.Frag} {mg : Str → Option Value} {base : Heap} {Γ : Z.Ctx} {fd : Nat → FuncData} {k : Nat} (Z : Fx K mg Γ fd) : FnOk P w K mg base (L2.CX P w) (k + 1) (Γ.fns 29) (fd 29) ["self", "index"] (spX (Γ.cls 2) "index") :=
  exc_init (txt := "the text is not as it must be") Z.xu_2 xsc_2 Z.ox_2 Z.xn_2 (fun cdv A outer s H E => pss_cons (ps_expr (pe_baseInit rfl Z.mx_1 Z.xr_1 Z.xg_1 Z.xv_1 (pa_cons (pv 0) (pa_cons pe_str pa_nil))) rfl) (pss_cons (ps_ost (pv 0) (pv 1)) pss_nil))
section
variable {P : Program} {w : World} {K : PySem.W.Frag} {mg : Str → Option Value} {base : Heap} {Γ : Z.Ctx} {fd : Nat → FuncData} {k : Nat} {G : Tab}
theorem mt_is_done (Z : Fx K mg Γ fd) (T : TabOk P w K mg base Γ k G) : MthS P w K mg base Γ k "is_done" (tb_is_done G) := MthS.cons Z.cl_0 Z.me_0_is_done T.f15 (MthS.nil)
theorem mt_pull (Z : Fx K mg Γ fd) (T : TabOk P w K mg base Γ k G) : MthS P w K mg base Γ k "pull" (tb_pull G) := MthS.cons Z.cl_0 Z.me_0_pull T.f11 (MthS.nil)
theorem mt_pull_figure (Z : Fx K mg Γ fd) (T : TabOk P w K mg base Γ k G) : MthS P w K mg base Γ k "pull_figure" (tb_pull_figure G) := MthS.cons Z.cl_0 Z.me_0_pull_figure T.f13 (MthS.nil)
theorem mt_pull_name (Z : Fx K mg Γ fd) (T : TabOk P w K mg base Γ k G) : MthS P w K mg base Γ k "pull_name" (tb_pull_name G) := MthS.cons Z.cl_0 Z.me_0_pull_name T.f14 (MthS.nil)
theorem d0 (Z : Fx K mg Γ fd) (T0 : TabOk P w K mg base Γ (k + 1) G) (f : Addr) (cdv : Value) (A : Around) (outer : List PySem.Env) (s : Shared) (H : Hp) (E : XK) : DSs (CxD P w K mg base ["k"] "_wall" (defScope s0) f cdv A outer s H E) Γ (k + 1 + 1) (WxD E) (defBody s0) (B0 G) :=
  have T := T0.up
  dss_one (ds_while fuelW (d_tru d_bl) (dss_one ds_pass))
theorem d1 (Z : Fx K mg Γ fd) (T0 : TabOk P w K mg base Γ (k + 1) G) (f : Addr) (cdv : Value) (A : Around) (outer : List PySem.Env) (s : Shared) (H : Hp) (E : XK) : DSs (CxD P w K mg base ["value"] "is_integer" (defScope s1) f cdv A outer s H E) Γ (k + 1 + 1) (WxD E) (defBody s1) (B1 G) :=
  have T := T0.up
  dss_one (ds_ret (d_and (d_isi Z.z_isinstance (da_cons (d_var 0) (da_cons (d_ty (n := "int") (hm := Z.z_int)) da_nil))) (d_one (d_not (d_isi Z.z_isinstance (da_cons (d_var 0) (da_cons (d_ty (n := "bool") (hm := Z.z_bool)) da_nil)))))))
theorem d2 (Z : Fx K mg Γ fd) (T0 : TabOk P w K mg base Γ (k + 1) G) (f : Addr) (cdv : Value) (A : Around) (outer : List PySem.Env) (s : Shared) (H : Hp) (E : XK) : DSs (CxD P w K mg base ["value", "least", "most"] "is_between" (defScope s2) f cdv A outer s H E) Γ (k + 1 + 1) (WxD E) (defBody s2) (B2 G) :=
  have T := T0.up
  dss_one (ds_ret (d_and (d_call T.f1 Z.m1 (da_cons (d_var 0) da_nil)) (d_one (d_chain o_le o_le (d_var 1) (d_var 0) (d_var 2)))))
theorem d3 (Z : Fx K mg Γ fd) (T0 : TabOk P w K mg base Γ (k + 1) G) (f : Addr) (cdv : Value) (A : Around) (outer : List PySem.Env) (s : Shared) (H : Hp) (E : XK) : DSs (CxD P w K mg base ["value"] "is_value" (defScope s3) f cdv A outer s H E) Γ (k + 1 + 1) (WxD E) (defBody s3) (B3 G) :=
  have T := T0.up
  dss_one (ds_ret (d_call T.f2 Z.m2 (da_cons (d_var 0) (da_cons d_int (da_cons (d_gw Z.g_MOST_VALUE) da_nil)))))
theorem d4 (Z : Fx K mg Γ fd) (T0 : TabOk P w K mg base Γ (k + 1) G) (f : Addr) (cdv : Value) (A : Around) (outer : List PySem.Env) (s : Shared) (H : Hp) (E : XK) : DSs (CxD P w K mg base ["value", "sign"] "is_name" (defScope s4) f cdv A outer s H E) Γ (k + 1 + 1) (WxD E) (defBody s4) (B4 G) :=
  have T := T0.up
  dss_one (ds_ret (d_and (d_isi Z.z_isinstance (da_cons (d_var 0) (da_cons (d_ty (n := "str") (hm := Z.z_str)) da_nil))) (d_and (d_chain o_le o_le d_int (d_len Z.z_len (da_cons (d_var 0) da_nil)) (d_gw Z.g_MOST_LETTERS)) (d_one (d_all Z.z_all (da_cons (d_lc (own := [("sign", 1)]) (c := CT.one 1) (di_seq (d_var 0)) (blkOk_by (N := ["value", "sign"]) (sc := defScope s4) (by decide +kernel)) (by decide) (fun _ _ _ _ _ nd _ => ctg_one 1 nd) (fun _ _ _ _ _ => dts_nil) (fun _ _ _ _ _ => d_in (d_var 1) (d_gw Z.g_LETTERS))) da_nil))))))
theorem d5 (Z : Fx K mg Γ fd) (T0 : TabOk P w K mg base Γ (k + 1) G) (f : Addr) (cdv : Value) (A : Around) (outer : List PySem.Env) (s : Shared) (H : Hp) (E : XK) : DSs (CxD P w K mg base ["value", "kind", "many"] "has_kind" (defScope s5) f cdv A outer s H E) Γ (k + 1 + 1) (WxD E) (defBody s5) (B5 G) :=
  have T := T0.up
  dss_one (ds_ret (d_and (d_isi Z.z_isinstance (da_cons (d_var 0) (da_cons (d_ty (n := "tuple") (hm := Z.z_tuple)) da_nil))) (d_and (d_cmp o_eq (d_len Z.z_len (da_cons (d_var 0) da_nil)) (d_var 2)) (d_and (d_isi Z.z_isinstance (da_cons (d_ix (d_var 0) d_int) (da_cons (d_ty (n := "str") (hm := Z.z_str)) da_nil))) (d_one (d_cmp o_eq (d_ix (d_var 0) d_int) (d_var 1)))))))
theorem d6 (Z : Fx K mg Γ fd) (T0 : TabOk P w K mg base Γ (k + 1) G) (f : Addr) (cdv : Value) (A : Around) (outer : List PySem.Env) (s : Shared) (H : Hp) (E : XK) : DSs (CxD P w K mg base ["term"] "inner_terms" (defScope s6) f cdv A outer s H E) Γ (k + 1 + 1) (WxD E) (defBody s6) (B6 G) :=
  have T := T0.up
  dss_cons (ds_if (b_not (d_tru (d_isi Z.z_isinstance (da_cons (d_var 0) (da_cons (d_ty (n := "tuple") (hm := Z.z_tuple)) da_nil))))) (dss_one (ds_ret (d_tup da_nil))) dss_nil) (dss_cons (ds_if (b_cmp o_eq (d_ix (d_var 0) d_int) d_str) (dss_one (ds_ret (d_ix (d_var 0) d_int))) dss_nil) (dss_one (ds_ret (d_if (b_w (w_or (b_in (d_ix (d_var 0) d_int) (d_gw Z.g_PAIRS)) (w_or1 (b_cmp o_eq (d_ix (d_var 0) d_int) d_str)))) (d_sl (d_var 0) (do_some d_int) do_none) (d_tup da_nil)))))
theorem d7 (Z : Fx K mg Γ fd) (T0 : TabOk P w K mg base Γ (k + 1) G) (f : Addr) (cdv : Value) (A : Around) (outer : List PySem.Env) (s : Shared) (H : Hp) (E : XK) : DSs (CxD P w K mg base ["value", "arguments", "kind"] "has_form" (defScope s7) f cdv A outer s H E) Γ (k + 1 + 1) (WxD E) (defBody s7) (B7 G) :=
  have T := T0.up
  dss_cons (ds_if (b_w (w_or (d_tru (d_call T.f3 Z.m3 (da_cons (d_var 0) da_nil))) (w_or1 (d_tru (d_call T.f5 Z.m5 (da_cons (d_var 0) (da_cons d_str (da_cons d_int da_nil)))))))) (dss_one (ds_ret d_bl)) dss_nil) (dss_cons (ds_if (d_tru (d_call T.f5 Z.m5 (da_cons (d_var 0) (da_cons d_str (da_cons d_int da_nil))))) (dss_one (ds_ret (d_call T.f2 Z.m2 (da_cons (d_ix (d_var 0) d_int) (da_cons d_int (da_cons (d_op o_sub (d_var 1) d_int) da_nil)))))) dss_nil) (dss_cons (ds_if (d_tru (d_call T.f5 Z.m5 (da_cons (d_var 0) (da_cons d_str (da_cons d_int da_nil))))) (dss_one (ds_ret (d_call T.f4 Z.m4 (da_cons (d_ix (d_var 0) d_int) da_nil)))) dss_nil) (dss_cons (ds_if (d_tru (d_call T.f5 Z.m5 (da_cons (d_var 0) (da_cons d_str (da_cons d_int da_nil))))) (dss_one (ds_ret (d_and (d_call T.f4 Z.m4 (da_cons (d_ix (d_var 0) d_int) da_nil)) (d_and (d_isi Z.z_isinstance (da_cons (d_ix (d_var 0) d_int) (da_cons (d_ty (n := "tuple") (hm := Z.z_tuple)) da_nil))) (d_one (d_cmp o_le (d_len Z.z_len (da_cons (d_ix (d_var 0) d_int) da_nil)) (d_gw Z.g_MOST_ARGUMENTS))))))) dss_nil) (dss_one (ds_ret (d_or (d_any Z.z_any (da_cons (d_lc (own := [("kind", 2)]) (c := CT.one 2) (di_seq (d_gw Z.g_PAIRS)) (blkOk_by (N := ["value", "arguments", "kind"]) (sc := defScope s7) (by decide +kernel)) (by decide) (fun _ _ _ _ _ nd _ => ctg_one 2 nd) (fun _ _ _ _ _ => dts_nil) (fun _ _ _ _ _ => d_call T.f5 Z.m5 (da_cons (d_var 0) (da_cons (d_var 2) (da_cons d_int da_nil))))) da_nil)) (d_one (d_call T.f5 Z.m5 (da_cons (d_var 0) (da_cons d_str (da_cons d_int da_nil)))))))))))
theorem d8 (Z : Fx K mg Γ fd) (T0 : TabOk P w K mg base Γ (k + 1) G) (f : Addr) (cdv : Value) (A : Around) (outer : List PySem.Env) (s : Shared) (H : Hp) (E : XK) : DSs (CxD P w K mg base ["value", "arguments", "turn", "layer", "parts", "term", "part"] "is_term" (defScope s8) f cdv A outer s H E) Γ (k + 1 + 1) (WxD E) (defBody s8) (B8 G) :=
  have T := T0.up
  dss_cons (ds_par 3 4 (da_cons (d_lst (da_cons (d_var 0) da_nil)) (da_cons d_int da_nil))) (dss_cons (ds_for (di_rng1 Z.z_range (da_cons (d_gw Z.g_MOST_DEPTH) da_nil)) (dg_name 2) (dss_cons (ds_aug 4 ip_addI (d_len Z.z_len (da_cons (d_var 3) da_nil))) (dss_cons (ds_if (b_w (w_or (b_cmp o_gt (d_var 4) (d_gw Z.g_MOST_PARTS)) (w_or1 (b_not (d_tru (d_all Z.z_all (da_cons (d_lc (own := [("part", 6)]) (c := CT.one 6) (di_seq (d_var 3)) (blkOk_by (N := ["value", "arguments", "turn", "layer", "parts", "term", "part"]) (sc := defScope s8) (by decide +kernel)) (by decide) (fun _ _ _ _ _ nd _ => ctg_one 6 nd) (fun _ _ _ _ _ => dts_nil) (fun _ _ _ _ _ => d_call T.f7 Z.m7 (da_cons (d_var 6) (da_cons (d_var 1) da_nil)))) da_nil))))))) (dss_one (ds_ret d_bl)) dss_nil) (dss_cons (ds_setLc2 3 (own := [("term", 5), ("part", 6)]) (vs1 := [6]) (c := CT.one 5) (c1 := CT.one 6) (di_seq (d_var 3)) (blkOk_by (N := ["value", "arguments", "turn", "layer", "parts", "term", "part"]) (sc := defScope s8) (by decide +kernel)) (by decide) (by decide) (by decide) (fun _ _ _ _ _ nd _ => ctg_one 5 nd) (fun _ _ _ _ _ => dts_nil) (fun _ _ _ _ _ => di_seq (d_call T.f6 Z.m6 (da_cons (d_var 5) da_nil))) (fun _ _ _ _ _ nd _ => ctg_one 6 nd) (fun _ _ _ _ _ => dts_nil) (fun _ _ _ _ _ => d_var 6) (sw_true rfl rfl (by decide) (by decide +kernel))) (dss_one (ds_if (b_cmp o_eq (d_var 3) (d_lst da_nil)) (dss_one (ds_ret d_bl)) dss_nil)))))) (dss_one (ds_ret d_bl)))
theorem d9 (Z : Fx K mg Γ fd) (T0 : TabOk P w K mg base Γ (k + 1) G) (f : Addr) (cdv : Value) (A : Around) (outer : List PySem.Env) (s : Shared) (H : Hp) (E : XK) : DSs (CxD P w K mg base ["term", "part"] "write_term" (defScope s9) f cdv A outer s H E) Γ (k + 1 + 1) (WxD E) (defBody s9) (B9 G) :=
  have T := T0.up
  dss_cons (ds_if (b_not (d_tru (d_isi Z.z_isinstance (da_cons (d_var 0) (da_cons (d_ty (n := "tuple") (hm := Z.z_tuple)) da_nil))))) (dss_one (ds_ret (d_strC Z.z_str (da_cons (d_var 0) da_nil)))) dss_nil) (dss_cons (ds_if (b_cmp o_eq (d_ix (d_var 0) d_int) d_str) (dss_one (ds_ret (d_join d_str (da_cons (d_lst (da_cons d_str (da_cons (d_ix (d_var 0) d_int) (da_cons (d_strC Z.z_str (da_cons (d_len Z.z_len (da_cons (d_ix (d_var 0) d_int) da_nil)) da_nil)) (da_star (d_lc (own := [("part", 1)]) (c := CT.one 1) (di_seq (d_ix (d_var 0) d_int)) (blkOk_by (N := ["term", "part"]) (sc := defScope s9) (by decide +kernel)) (by decide) (fun _ _ _ _ _ nd _ => ctg_one 1 nd) (fun _ _ _ _ _ => dts_nil) (fun _ _ _ _ _ => d_call T.f9 Z.m9 (da_cons (d_var 1) da_nil))) da_nil))))) da_nil)))) dss_nil) (dss_cons (ds_if (b_w (w_or (b_in (d_ix (d_var 0) d_int) (d_gw Z.g_PAIRS)) (w_or1 (b_cmp o_eq (d_ix (d_var 0) d_int) d_str)))) (dss_one (ds_ret (d_join d_str (da_cons (d_lst (da_cons (d_ix (d_var 0) d_int) (da_star (d_lc (own := [("part", 1)]) (c := CT.one 1) (di_seq (d_sl (d_var 0) (do_some d_int) do_none)) (blkOk_by (N := ["term", "part"]) (sc := defScope s9) (by decide +kernel)) (by decide) (fun _ _ _ _ _ nd _ => ctg_one 1 nd) (fun _ _ _ _ _ => dts_nil) (fun _ _ _ _ _ => d_call T.f9 Z.m9 (da_cons (d_var 1) da_nil))) da_nil))) da_nil)))) dss_nil) (dss_one (ds_ret (d_join d_str (da_cons (d_lc (own := [("part", 1)]) (c := CT.one 1) (di_seq (d_var 0)) (blkOk_by (N := ["term", "part"]) (sc := defScope s9) (by decide +kernel)) (by decide) (fun _ _ _ _ _ nd _ => ctg_one 1 nd) (fun _ _ _ _ _ => dts_nil) (fun _ _ _ _ _ => d_strC Z.z_str (da_cons (d_var 1) da_nil))) da_nil))))))
theorem d10 (Z : Fx K mg Γ fd) (T0 : TabOk P w K mg base Γ (k + 1) G) (f : Addr) (cdv : Value) (A : Around) (outer : List PySem.Env) (s : Shared) (H : Hp) (E : XK) : DSs (CxD P w K mg base ["self", "words"] "Words.__init__" (defScope s10) f cdv A outer s H E) Γ (k + 1 + 1) (WxD E) (defBody s10) (B10 G) :=
  have T := T0.up
  dss_cons (ds_fld [0] Z.fl_left (d_var 0) (d_list Z.z_list (da_cons (d_rev (d_var 1)) da_nil))) (dss_one (ds_fld [0] Z.fl_is_bad (d_var 0) d_bl))
theorem d11 (Z : Fx K mg Γ fd) (T0 : TabOk P w K mg base Γ (k + 1) G) (f : Addr) (cdv : Value) (A : Around) (outer : List PySem.Env) (s : Shared) (H : Hp) (E : XK) : DSs (CxD P w K mg base ["self"] "Words.pull" (defScope s11) f cdv A outer s H E) Γ (k + 1 + 1) (WxD E) (defBody s11) (B11 G) :=
  have T := T0.up
  dss_cons (ds_if (b_cmp o_eq (d_fld [0] Z.fl_left (d_var 0)) (d_lst da_nil)) (dss_cons (ds_fld [0] Z.fl_is_bad (d_var 0) d_bl) (dss_one (ds_ret d_str))) dss_nil) (dss_one (ds_ret (d_pop (d_fld [0] Z.fl_left (d_var 0)))))
theorem d12 (Z : Fx K mg Γ fd) (T0 : TabOk P w K mg base Γ (k + 1) G) (f : Addr) (cdv : Value) (A : Around) (outer : List PySem.Env) (s : Shared) (H : Hp) (E : XK) : DSs (CxD P w K mg base ["self", "known"] "Words.pull_one" (defScope s12) f cdv A outer s H E) Γ (k + 1 + 1) (WxD E) (defBody s12) (B12 G) :=
  have T := T0.up
  dss_one (ds_expr (d_call T.f0 Z.m0 (da_cons d_int da_nil)))
theorem d13 (Z : Fx K mg Γ fd) (T0 : TabOk P w K mg base Γ (k + 1) G) (f : Addr) (cdv : Value) (A : Around) (outer : List PySem.Env) (s : Shared) (H : Hp) (E : XK) : DSs (CxD P w K mg base ["self", "least", "most", "word"] "Words.pull_figure" (defScope s13) f cdv A outer s H E) Γ (k + 1 + 1) (WxD E) (defBody s13) (B13 G) :=
  have T := T0.up
  dss_cons (ds_set 3 (d_meth0 (mt_pull Z T) (d_var 0))) (dss_cons (ds_if (b_w (w_or (b_cmp o_ne (d_len Z.z_len (da_cons (d_var 3) da_nil)) d_int) (w_or (b_notIn (d_var 3) (d_gw Z.g_FIGURES)) (w_or1 (b_not (b_chain o_le o_le (d_var 1) (d_intC Z.z_int (da_cons (d_var 3) da_nil)) (d_var 2))))))) (dss_cons (ds_fld [0] Z.fl_is_bad (d_var 0) d_bl) (dss_one (ds_ret (d_var 1)))) dss_nil) (dss_one (ds_ret (d_intC Z.z_int (da_cons (d_var 3) da_nil)))))
theorem d14 (Z : Fx K mg Γ fd) (T0 : TabOk P w K mg base Γ (k + 1) G) (f : Addr) (cdv : Value) (A : Around) (outer : List PySem.Env) (s : Shared) (H : Hp) (E : XK) : DSs (CxD P w K mg base ["self", "word"] "Words.pull_name" (defScope s14) f cdv A outer s H E) Γ (k + 1 + 1) (WxD E) (defBody s14) (B14 G) :=
  have T := T0.up
  dss_cons (ds_set 1 (d_meth0 (mt_pull Z T) (d_var 0))) (dss_cons (ds_if (b_not (d_tru (d_call T.f4 Z.m4 (da_cons (d_var 1) da_nil)))) (dss_one (ds_fld [0] Z.fl_is_bad (d_var 0) d_bl)) dss_nil) (dss_one (ds_ret (d_var 1))))
theorem d15 (Z : Fx K mg Γ fd) (T0 : TabOk P w K mg base Γ (k + 1) G) (f : Addr) (cdv : Value) (A : Around) (outer : List PySem.Env) (s : Shared) (H : Hp) (E : XK) : DSs (CxD P w K mg base ["self"] "Words.is_done" (defScope s15) f cdv A outer s H E) Γ (k + 1 + 1) (WxD E) (defBody s15) (B15 G) :=
  have T := T0.up
  dss_one (ds_ret (d_and (d_not (d_fld [0] Z.fl_is_bad (d_var 0))) (d_one (d_cmp o_eq (d_fld [0] Z.fl_left (d_var 0)) (d_lst da_nil)))))
theorem d16 (Z : Fx K mg Γ fd) (T0 : TabOk P w K mg base Γ (k + 1) G) (f : Addr) (cdv : Value) (A : Around) (outer : List PySem.Env) (s : Shared) (H : Hp) (E : XK) : DSs (CxD P w K mg base ["words", "deep", "word", "name", "many", "turn"] "pulled_term" (defScope s16) f cdv A outer s H E) Γ (k + 1 + 1) (WxD E) (defBody s16) (B16 G) :=
  have T := T0.up
  dss_cons (ds_set 2 (d_meth0 (mt_pull Z T) (d_var 0))) (dss_cons (ds_if (b_w (w_or (b_cmp o_eq (d_var 1) d_int) (w_or1 (d_tru (d_fld [0] Z.fl_is_bad (d_var 0)))))) (dss_cons (ds_fld [0] Z.fl_is_bad (d_var 0) d_bl) (dss_one (ds_ret d_int))) dss_nil) (dss_cons (ds_if (b_w (w_or (b_in (d_var 2) (d_gw Z.g_PAIRS)) (w_or1 (b_cmp o_eq (d_var 2) d_str)))) (dss_one (ds_ret (d_tup (da_cons (d_var 2) (da_star (d_lc (own := [("turn", 5)]) (c := CT.one 5) (di_rng1 Z.z_range (da_cons (d_if (b_cmp o_eq (d_var 2) d_str) d_int d_int) da_nil)) (blkOk_by (N := ["words", "deep", "word", "name", "many", "turn"]) (sc := defScope s16) (by decide +kernel)) (by decide) (fun _ _ _ _ _ nd _ => ctg_one 5 nd) (fun _ _ _ _ _ => dts_nil) (fun _ _ _ _ _ => d_call T.f16 Z.m16 (da_cons (d_var 0) (da_cons (d_op o_sub (d_var 1) d_int) da_nil)))) da_nil))))) dss_nil) (dss_cons (ds_if (b_cmp o_eq (d_var 2) d_str) (dss_cons (ds_par 3 4 (da_cons (d_meth0 (mt_pull_name Z T) (d_var 0)) (da_cons (d_meth (mt_pull_figure Z T) (d_var 0) (da_cons d_int (da_cons d_int da_nil))) da_nil))) (dss_one (ds_ret (d_tup (da_cons d_str (da_cons (d_var 3) (da_cons (d_tupleC Z.z_tuple (da_cons (d_lc (own := [("turn", 5)]) (c := CT.one 5) (di_rng1 Z.z_range (da_cons (d_var 4) da_nil)) (blkOk_by (N := ["words", "deep", "word", "name", "many", "turn"]) (sc := defScope s16) (by decide +kernel)) (by decide) (fun _ _ _ _ _ nd _ => ctg_one 5 nd) (fun _ _ _ _ _ => dts_nil) (fun _ _ _ _ _ => d_call T.f16 Z.m16 (da_cons (d_var 0) (da_cons (d_op o_sub (d_var 1) d_int) da_nil)))) da_nil)) da_nil))))))) dss_nil) (dss_cons (ds_if (b_cmp o_eq (d_var 2) d_str) (dss_one (ds_ret (d_tup (da_cons d_str (da_cons (d_meth (mt_pull_figure Z T) (d_var 0) (da_cons d_int (da_cons d_int da_nil))) da_nil))))) dss_nil) (dss_cons (ds_if (b_cmp o_eq (d_var 2) d_str) (dss_one (ds_ret (d_tup (da_cons d_str (da_cons (d_meth0 (mt_pull_name Z T) (d_var 0)) da_nil))))) dss_nil) (dss_cons (ds_if (b_cmp o_eq (d_var 2) d_str) (dss_one (ds_ret (d_tup (da_cons d_str da_nil)))) dss_nil) (dss_cons (ds_if (b_w (w_or (b_cmp o_ne (d_len Z.z_len (da_cons (d_var 2) da_nil)) d_int) (w_or1 (b_notIn (d_var 2) (d_gw Z.g_VALUES))))) (dss_cons (ds_fld [0] Z.fl_is_bad (d_var 0) d_bl) (dss_one (ds_ret d_int))) dss_nil) (dss_one (ds_ret (d_intC Z.z_int (da_cons (d_var 2) da_nil)))))))))))
theorem d17 (Z : Fx K mg Γ fd) (T0 : TabOk P w K mg base Γ (k + 1) G) (f : Addr) (cdv : Value) (A : Around) (outer : List PySem.Env) (s : Shared) (H : Hp) (E : XK) : DSs (CxD P w K mg base ["words", "arguments", "row", "term"] "term_in" (defScope s17) f cdv A outer s H E) Γ (k + 1 + 1) (WxD E) (defBody s17) (B17 G) :=
  have T := T0.up
  dss_cons (ds_set 2 (d_make Z.mk_0 T0.f10 rfl Z.mc_0 (da_cons (d_var 0) da_nil))) (dss_cons (ds_set 3 (d_call T.f16 Z.m16 (da_cons (d_var 2) (da_cons (d_gw Z.g_MOST_DEPTH) da_nil)))) (dss_one (ds_ret (d_if (b_w (w_and (d_tru (d_meth0 (mt_is_done Z T) (d_var 2))) (w_and1 (d_tru (d_call T.f8 Z.m8 (da_cons (d_var 3) (da_cons (d_var 1) da_nil))))))) (d_var 3) d_non))))
theorem d18 (Z : Fx K mg Γ fd) (T0 : TabOk P w K mg base Γ (k + 1) G) (f : Addr) (cdv : Value) (A : Around) (outer : List PySem.Env) (s : Shared) (H : Hp) (E : XK) : DSs (CxD P w K mg base ["text", "arguments", "term"] "read_term" (defScope s18) f cdv A outer s H E) Γ (k + 1 + 1) (WxD E) (defBody s18) (B18 G) :=
  have T := T0.up
  dss_cons (ds_set 2 (d_if (d_tru (d_isi Z.z_isinstance (da_cons (d_var 0) (da_cons (d_ty (n := "str") (hm := Z.z_str)) da_nil)))) (d_call T.f17 Z.m17 (da_cons (d_split (d_var 0) (da_cons d_str da_nil)) (da_cons (d_var 1) da_nil))) d_non)) (dss_cons (ds_if (b_cmp o_is (d_var 2) d_non) (dss_one (ds_raise Z.ox_2 rfl Z.xI_2 Z.xT_2 (xi_2 Z) Z.bx_2 Z.mx_2 d_int)) dss_nil) (dss_one (ds_ret (d_var 2))))
theorem d19 (Z : Fx K mg Γ fd) (T0 : TabOk P w K mg base Γ (k + 1) G) (f : Addr) (cdv : Value) (A : Around) (outer : List PySem.Env) (s : Shared) (H : Hp) (E : XK) : DSs (CxD P w K mg base ["script", "k", "cell", "size", "mixed"] "_law_pool" (defScope s19) f cdv A outer s H E) Γ (k + 1 + 1) (WxD E) (defBody s19) (B19 G) :=
  have T := T0.up
  dss_cons (ds_set 2 (d_if (b_cmp o_lt (d_var 1) (d_len Z.z_len (da_cons (d_var 0) da_nil))) (d_ix (d_var 0) (d_var 1)) (d_op o_add (d_op o_mul d_int (d_sum Z.z_sum (da_cons (d_sl (d_var 0) do_none (do_some d_int)) da_nil))) (d_var 1)))) (dss_cons (ds_set 3 (d_abs Z.z_abs (da_cons (d_var 2) da_nil))) (dss_cons (ds_set 4 (d_op o_add (d_op o_add (d_op o_add (d_op o_mod (d_intC Z.z_int (da_cons (d_var 3) da_nil)) d_int) (d_op o_mul (d_op o_mul d_int (d_var 1)) (d_var 1))) (d_op o_mul d_int (d_var 1))) d_int)) (dss_cons (ds_set 4 (d_op o_mod (d_intC Z.z_int (da_cons (d_op o_mul (d_var 4) d_int) da_nil)) d_int)) (dss_one (ds_ret (d_lst (da_cons (d_op o_mul (d_var 3) (d_intC Z.z_int (da_cons (d_cmp o_ge (d_var 3) (d_op o_pow d_int d_int)) da_nil))) (da_cons (d_op o_mod (d_intC Z.z_int (da_cons (d_op o_mul (d_var 4) (d_var 4)) da_nil)) d_int) da_nil))))))))
theorem d20 (Z : Fx K mg Γ fd) (T0 : TabOk P w K mg base Γ (k + 1) G) (f : Addr) (cdv : Value) (A : Around) (outer : List PySem.Env) (s : Shared) (H : Hp) (E : XK) : DSs (CxD P w K mg base ["pool", "many", "found"] "_law_draw" (defScope s20) f cdv A outer s H E) Γ (k + 1 + 1) (WxD E) (defBody s20) (B20 G) :=
  have T := T0.up
  dss_cons (ds_if (b_cmp o_gt (d_ix (d_var 0) d_int) d_int) (dss_cons (ds_set 2 (d_op o_mod (d_intC Z.z_int (da_cons (d_ix (d_var 0) d_int) da_nil)) (d_var 1))) (dss_cons (ds_asg (d_op o_div (d_ix (d_var 0) d_int) (d_var 1)) (dg_sub (d_var 0) d_int)) (dss_one (ds_ret (d_var 2))))) dss_nil) (dss_cons (ds_asg (d_op o_mod (d_intC Z.z_int (da_cons (d_op o_add (d_op o_mul (d_ix (d_var 0) d_int) d_int) d_int) da_nil)) d_int) (dg_sub (d_var 0) d_int)) (dss_one (ds_ret (d_op o_mod (d_intC Z.z_int (da_cons (d_op o_div (d_op o_mod (d_intC Z.z_int (da_cons (d_op o_mul (d_ix (d_var 0) d_int) (d_ix (d_var 0) d_int)) da_nil)) d_int) d_int) da_nil)) (d_var 1)))))
theorem d21 (Z : Fx K mg Γ fd) (T0 : TabOk P w K mg base Γ (k + 1) G) (f : Addr) (cdv : Value) (A : Around) (outer : List PySem.Env) (s : Shared) (H : Hp) (E : XK) : DSs (CxD P w K mg base ["pool", "row"] "_law_pick" (defScope s21) f cdv A outer s H E) Γ (k + 1 + 1) (WxD E) (defBody s21) (B21 G) :=
  have T := T0.up
  dss_one (ds_ret (d_ix (d_var 1) (d_call T.f20 Z.m20 (da_cons (d_var 0) (da_cons (d_len Z.z_len (da_cons (d_var 1) da_nil)) da_nil)))))
theorem d22 (Z : Fx K mg Γ fd) (T0 : TabOk P w K mg base Γ (k + 1) G) (f : Addr) (cdv : Value) (A : Around) (outer : List PySem.Env) (s : Shared) (H : Hp) (E : XK) : DSs (CxD P w K mg base ["pool", "count", "signs", "ends", "origin", "step", "head", "tail", "k"] "_law_names" (defScope s22) f cdv A outer s H E) Γ (k + 1 + 1) (WxD E) (defBody s22) (B22 G) :=
  have T := T0.up
  dss_cons (ds_set 2 d_str) (dss_cons (ds_asg (d_tup (da_cons (d_call T.f20 Z.m20 (da_cons (d_var 0) (da_cons d_int da_nil))) (da_cons (d_op o_add d_int (d_op o_mul d_int (d_call T.f20 Z.m20 (da_cons (d_var 0) (da_cons d_int da_nil))))) da_nil))) (dg_tup (dgs_cons (dg_name 4) (dgs_cons (dg_name 5) dgs_nil)))) (dss_cons (ds_set 3 (d_lst (da_cons (d_tup (da_cons d_str (da_cons d_str da_nil))) (da_cons (d_tup (da_cons d_str (da_cons d_str da_nil))) (da_cons (d_tup (da_cons d_str (da_cons d_str da_nil))) (da_cons (d_tup (da_cons d_str (da_cons d_str da_nil))) (da_cons (d_tup (da_cons d_str (da_cons d_str da_nil))) da_nil))))))) (dss_cons (ds_asg (d_call T.f21 Z.m21 (da_cons (d_var 0) (da_cons (d_var 3) da_nil))) (dg_tup (dgs_cons (dg_name 6) (dgs_cons (dg_name 7) dgs_nil)))) (dss_one (ds_ret (d_lc (own := [("k", 8)]) (c := CT.one 8) (di_rng1 Z.z_range (da_cons (d_var 1) da_nil)) (blkOk_by (N := ["pool", "count", "signs", "ends", "origin", "step", "head", "tail", "k"]) (sc := defScope s22) (by decide +kernel)) (by decide) (fun _ _ _ _ _ nd _ => ctg_one 8 nd) (fun _ _ _ _ _ => dts_nil) (fun _ _ _ _ _ => d_op o_add (d_op o_add (d_var 6) (d_ix (d_var 2) (d_op o_mod (d_intC Z.z_int (da_cons (d_op o_add (d_var 4) (d_op o_mul (d_var 5) (d_var 8))) da_nil)) d_int))) (d_var 7))))))))
theorem d23 (Z : Fx K mg Γ fd) (T0 : TabOk P w K mg base Γ (k + 1) G) (f : Addr) (cdv : Value) (A : Around) (outer : List PySem.Env) (s : Shared) (H : Hp) (E : XK) : DSs (CxD P w K mg base ["pool", "b", "many", "deep", "kind", "head", "f", "at"] "_law_term" (defScope s23) f cdv A outer s H E) Γ (k + 1 + 1) (WxD E) (defBody s23) (B23 G) :=
  have T := T0.up
  dss_cons (ds_set 4 (d_call T.f20 Z.m20 (da_cons (d_var 0) (da_cons (d_if (b_cmp o_gt (d_var 3) d_int) d_int d_int) da_nil)))) (dss_cons (ds_if (b_w (w_or (b_cmp o_eq (d_var 4) d_int) (w_or (b_w (w_and (b_cmp o_eq (d_var 4) d_int) (w_and1 (b_cmp o_eq (d_var 2) d_int)))) (w_or1 (b_w (w_and (b_in (d_var 4) (d_lst (da_cons d_int (da_cons d_int da_nil)))) (w_and1 (b_cmp o_eq (d_ix (d_var 1) d_str) (d_lst da_nil))))))))) (dss_one (ds_ret (d_call T.f20 Z.m20 (da_cons (d_var 0) (da_cons d_int da_nil))))) dss_nil) (dss_cons (ds_if (b_cmp o_eq (d_var 4) d_int) (dss_one (ds_ret (d_tup (da_cons d_str (da_cons (d_call T.f20 Z.m20 (da_cons (d_var 0) (da_cons (d_var 2) da_nil))) da_nil))))) dss_nil) (dss_cons (ds_if (b_w (w_or (b_cmp o_eq (d_var 4) d_int) (w_or1 (b_cmp o_eq (d_var 4) d_int)))) (dss_one (ds_ret (d_tup (da_cons d_str (da_cons (d_ix (d_call T.f21 Z.m21 (da_cons (d_var 0) (da_cons (d_ix (d_var 1) d_str) da_nil))) d_int) da_nil))))) dss_nil) (dss_cons (ds_if (b_cmp o_eq (d_var 4) d_int) (dss_one (ds_ret (d_if (b_cmp o_eq (d_call T.f20 Z.m20 (da_cons (d_var 0) (da_cons d_int da_nil))) d_int) (d_tup (da_cons d_str da_nil)) (d_call T.f20 Z.m20 (da_cons (d_var 0) (da_cons d_int da_nil)))))) dss_nil) (dss_cons (ds_if (b_w (w_and (b_cmp o_eq (d_var 4) d_int) (w_and1 (b_cmp o_ne (d_ix (d_var 1) d_str) (d_lst da_nil))))) (dss_cons (ds_set 6 (d_call T.f21 Z.m21 (da_cons (d_var 0) (da_cons (d_ix (d_var 1) d_str) da_nil)))) (dss_one (ds_ret (d_tup (da_cons d_str (da_cons (d_ix (d_var 6) d_str) (da_cons (d_tupleC Z.z_tuple (da_cons (d_lc (own := [("at", 7)]) (c := CT.one 7) (di_rng1 Z.z_range (da_cons (d_ix (d_var 6) d_str) da_nil)) (blkOk_by (N := ["pool", "b", "many", "deep", "kind", "head", "f", "at"]) (sc := defScope s23) (by decide +kernel)) (by decide) (fun _ _ _ _ _ nd _ => ctg_one 7 nd) (fun _ _ _ _ _ => dts_nil) (fun _ _ _ _ _ => d_call T.f23 Z.m23 (da_cons (d_var 0) (da_cons (d_var 1) (da_cons (d_var 2) (da_cons d_int da_nil)))))) da_nil)) da_nil))))))) dss_nil) (dss_cons (ds_if (b_cmp o_eq (d_var 4) d_int) (dss_one (ds_ret (d_op o_add (d_tup (da_cons d_str da_nil)) (d_tupleC Z.z_tuple (da_cons (d_lc (own := [("at", 7)]) (c := CT.one 7) (di_rng1 Z.z_range (da_cons d_int da_nil)) (blkOk_by (N := ["pool", "b", "many", "deep", "kind", "head", "f", "at"]) (sc := defScope s23) (by decide +kernel)) (by decide) (fun _ _ _ _ _ nd _ => ctg_one 7 nd) (fun _ _ _ _ _ => dts_nil) (fun _ _ _ _ _ => d_call T.f23 Z.m23 (da_cons (d_var 0) (da_cons (d_var 1) (da_cons (d_var 2) (da_cons (d_op o_sub (d_var 3) d_int) da_nil)))))) da_nil))))) dss_nil) (dss_cons (ds_set 5 (d_call T.f21 Z.m21 (da_cons (d_var 0) (da_cons (d_lst (da_cons d_str (da_cons d_str (da_cons d_str da_nil)))) da_nil)))) (dss_one (ds_ret (d_tup (da_cons (d_var 5) (da_cons (d_call T.f23 Z.m23 (da_cons (d_var 0) (da_cons (d_var 1) (da_cons (d_var 2) (da_cons (d_op o_sub (d_var 3) d_int) da_nil))))) (da_cons (d_call T.f23 Z.m23 (da_cons (d_var 0) (da_cons (d_var 1) (da_cons (d_var 2) (da_cons (d_op o_sub (d_var 3) d_int) da_nil))))) da_nil)))))))))))))
theorem d24 (Z : Fx K mg Γ fd) (T0 : TabOk P w K mg base Γ (k + 1) G) (f : Addr) (cdv : Value) (A : Around) (outer : List PySem.Env) (s : Shared) (H : Hp) (E : XK) : DSs (CxD P w K mg base ["term", "part"] "_law_term_text" (defScope s24) f cdv A outer s H E) Γ (k + 1 + 1) (WxD E) (defBody s24) (B24 G) :=
  have T := T0.up
  dss_cons (ds_if (b_not (d_tru (d_isi Z.z_isinstance (da_cons (d_var 0) (da_cons (d_ty (n := "tuple") (hm := Z.z_tuple)) da_nil))))) (dss_one (ds_ret (d_strC Z.z_str (da_cons (d_var 0) da_nil)))) dss_nil) (dss_cons (ds_if (b_in (d_ix (d_var 0) d_int) (d_lst (da_cons d_str (da_cons d_str da_nil)))) (dss_one (ds_ret (d_op o_add (d_op o_add (d_ix (d_var 0) d_int) d_str) (d_strC Z.z_str (da_cons (d_ix (d_var 0) d_int) da_nil))))) dss_nil) (dss_cons (ds_if (b_cmp o_eq (d_ix (d_var 0) d_int) d_str) (dss_one (ds_ret (d_join d_str (da_cons (d_op o_add (d_lst (da_cons d_str (da_cons (d_ix (d_var 0) d_int) (da_cons (d_strC Z.z_str (da_cons (d_len Z.z_len (da_cons (d_ix (d_var 0) d_int) da_nil)) da_nil)) da_nil)))) (d_lc (own := [("part", 1)]) (c := CT.one 1) (di_seq (d_ix (d_var 0) d_int)) (blkOk_by (N := ["term", "part"]) (sc := defScope s24) (by decide +kernel)) (by decide) (fun _ _ _ _ _ nd _ => ctg_one 1 nd) (fun _ _ _ _ _ => dts_nil) (fun _ _ _ _ _ => d_call T.f24 Z.m24 (da_cons (d_var 1) da_nil)))) da_nil)))) dss_nil) (dss_one (ds_ret (d_join d_str (da_cons (d_op o_add (d_lst (da_cons (d_ix (d_var 0) d_int) da_nil)) (d_lc (own := [("part", 1)]) (c := CT.one 1) (di_seq (d_sl (d_var 0) (do_some d_int) do_none)) (blkOk_by (N := ["term", "part"]) (sc := defScope s24) (by decide +kernel)) (by decide) (fun _ _ _ _ _ nd _ => ctg_one 1 nd) (fun _ _ _ _ _ => dts_nil) (fun _ _ _ _ _ => d_call T.f24 Z.m24 (da_cons (d_var 1) da_nil)))) da_nil))))))
theorem d25 (Z : Fx K mg Γ fd) (T0 : TabOk P w K mg base Γ (k + 1) G) (f : Addr) (cdv : Value) (A : Around) (outer : List PySem.Env) (s : Shared) (H : Hp) (E : XK) : DSs (CxD P w K mg base ["text", "many", "e"] "_law_read" (defScope s25) f cdv A outer s H E) Γ (k + 1 + 1) (WxD E) (defBody s25) (B25 G) :=
  have T := T0.up
  dss_one (ds_tryAs ⟨rfl, by decide, .inl Z.mx_2⟩ (Fx.xt_2 Z) (i := 2) rfl rfl rfl rfl (fun _ _ _ => dss_one (ds_ret (d_call T.f18 Z.m18 (da_cons (d_var 0) (da_cons (d_var 1) da_nil))))) (fun _ _ _ _ _ hz hf => dxs_one (dx_ret (dx_lst (dxa_cons dx_str (dxa_cons (dx_fld [2] (XFlds.cons Z.xf_2 Z.xn_2 (XFlds.nil)) hz hf) dxa_nil))))))
theorem d26 (Z : Fx K mg Γ fd) (T0 : TabOk P w K mg base Γ (k + 1) G) (f : Addr) (cdv : Value) (A : Around) (outer : List PySem.Env) (s : Shared) (H : Hp) (E : XK) : DSs (CxD P w K mg base ["script", "k", "pool", "b", "turn", "odds", "names", "many", "term", "text", "words", "at", "bent", "some", "told", "odd"] "law" (defScope s26) f cdv A outer s H E) Γ (k + 1 + 1) (WxD E) (defBody s26) (B26 G) :=
  have T := T0.up
  dss_cons (ds_for (di_rng1 Z.z_range (da_cons (d_max Z.z_max (da_cons d_int (da_cons (d_min Z.z_min (da_cons (d_len Z.z_len (da_cons (d_var 0) da_nil)) (da_cons d_int da_nil))) da_nil))) da_nil)) (dg_name 1) (dss_cons (ds_set 2 (d_call T.f19 Z.m19 (da_cons (d_var 0) (da_cons (d_var 1) da_nil)))) (dss_cons (ds_asg (d_tup (da_cons (d_call T.f22 Z.m22 (da_cons (d_var 2) (da_cons d_int da_nil))) (da_cons (d_call T.f20 Z.m20 (da_cons (d_var 2) (da_cons d_int da_nil))) da_nil))) (dg_tup (dgs_cons (dg_name 6) (dgs_cons (dg_name 7) dgs_nil)))) (dss_cons (ds_set 3 (d_dict (dps_cons d_str (d_lst (da_cons (d_tup (da_cons (d_ix (d_var 6) d_int) (da_cons d_str da_nil))) (da_cons (d_tup (da_cons (d_ix (d_var 6) d_int) (da_cons d_str da_nil))) da_nil))) (dps_cons d_str (d_lst (da_cons (d_dict (dps_cons d_str (d_ix (d_var 6) d_int) (dps_cons d_str d_int dps_nil))) (da_cons (d_dict (dps_cons d_str (d_ix (d_var 6) d_int) (dps_cons d_str d_int dps_nil))) da_nil))) dps_nil)))) (dss_cons (ds_for (di_rng1 Z.z_range (da_cons d_int da_nil)) (dg_name 4) (dss_cons (ds_set 8 (d_call T.f23 Z.m23 (da_cons (d_var 2) (da_cons (d_var 3) (da_cons (d_var 7) (da_cons (d_call T.f20 Z.m20 (da_cons (d_var 2) (da_cons d_int da_nil))) da_nil)))))) (dss_cons (ds_set 9 (d_call T.f24 Z.m24 (da_cons (d_var 8) da_nil))) (dss_one (ds_if (b_cmp o_le (d_len Z.z_len (da_cons (d_split (d_var 9) (da_cons d_str da_nil)) da_nil)) d_int) (dss_cons (ds_if (b_w (w_or (b_cmp o_ne (d_call T.f9 Z.m9 (da_cons (d_var 8) da_nil)) (d_var 9)) (w_or1 (b_cmp o_ne (d_call T.f25 Z.m25 (da_cons (d_var 9) (da_cons (d_var 7) da_nil))) (d_var 8))))) (dss_one (ds_ret d_bl)) dss_nil) (dss_cons (ds_set 10 (d_split (d_var 9) (da_cons d_str da_nil))) (dss_cons (ds_set 11 (d_call T.f20 Z.m20 (da_cons (d_var 2) (da_cons (d_len Z.z_len (da_cons (d_var 10) da_nil)) da_nil)))) (dss_cons (ds_set 12 (d_lst (da_cons (d_op o_add (d_var 10) (d_lst (da_cons d_str da_nil))) (da_cons (d_op o_add (d_var 10) (d_lst (da_cons d_str da_nil))) (da_cons (d_op o_add (d_op o_add (d_sl (d_var 10) do_none (do_some (d_var 11))) (d_lst (da_cons d_str da_nil))) (d_sl (d_var 10) (do_some (d_var 11)) do_none)) (da_cons (d_sl (d_var 10) do_none (do_some (d_neg d_int))) (da_cons (d_op o_add (d_var 10) (d_lst (da_cons d_str da_nil))) (da_cons (d_op o_add (d_lst (da_cons d_str da_nil)) (d_var 10)) da_nil)))))))) (dss_cons (ds_for (di_seq (d_op o_add (d_var 12) (d_lst (da_cons (d_op o_add (d_op o_add (d_sl (d_var 10) do_none (do_some (d_var 11))) (d_lst (da_cons d_str da_nil))) (d_sl (d_var 10) (do_some (d_op o_add (d_var 11) d_int)) do_none)) (da_cons (d_op o_add (d_op o_add (d_sl (d_var 10) do_none (do_some (d_var 11))) (d_lst (da_cons d_str da_nil))) (d_sl (d_var 10) (do_some (d_op o_add (d_var 11) d_int)) do_none)) (da_cons (d_op o_add (d_op o_add (d_sl (d_var 10) do_none (do_some (d_var 11))) (d_lst (da_cons d_str da_nil))) (d_sl (d_var 10) (do_some (d_op o_add (d_var 11) d_int)) do_none)) da_nil)))))) (dg_name 13) (dss_cons (ds_set 14 (d_call T.f25 Z.m25 (da_cons (d_join d_str (da_cons (d_var 13) da_nil)) (da_cons (d_var 7) da_nil)))) (dss_one (ds_if (b_w (w_and (b_cmp o_ne (d_var 14) (d_lst (da_cons d_str (da_cons d_int da_nil)))) (w_and1 (b_w (w_or (d_tru (d_isi Z.z_isinstance (da_cons (d_var 14) (da_cons (d_ty (n := "list") (hm := Z.z_list)) da_nil)))) (w_or1 (b_cmp o_ne (d_call T.f24 Z.m24 (da_cons (d_var 14) da_nil)) (d_join d_str (da_cons (d_var 13) da_nil))))))))) (dss_one (ds_ret d_bl)) dss_nil)))) (dss_one (ds_if (b_w (w_or (b_cmp o_ne (d_call T.f25 Z.m25 (da_cons (d_join d_str (da_cons (d_op o_add (d_var 10) (d_lst (da_cons d_str da_nil))) da_nil)) (da_cons (d_var 7) da_nil))) (d_lst (da_cons d_str (da_cons d_int da_nil)))) (w_or1 (b_cmp o_ne (d_call T.f25 Z.m25 (da_cons (d_op o_add (d_var 9) d_str) (da_cons (d_var 7) da_nil))) (d_lst (da_cons d_str (da_cons d_int da_nil))))))) (dss_one (ds_ret d_bl)) dss_nil))))))) dss_nil))))) (dss_cons (ds_set 5 (d_lst (da_cons d_non (da_cons d_int (da_cons d_str (da_cons d_str (da_cons d_str (da_cons d_str (da_cons (d_op o_add d_str (d_strC Z.z_str (da_cons (d_var 7) da_nil))) (da_cons d_str (da_cons d_str (da_cons d_str (da_cons d_str (da_cons d_str (da_cons d_str (da_cons d_str da_nil)))))))))))))))) (dss_cons (ds_set 5 (d_op o_add (d_var 5) (d_lst (da_cons d_str (da_cons d_str (da_cons d_str (da_cons d_str (da_cons d_str (da_cons d_str (da_cons d_str (da_cons (d_lst (da_cons d_str da_nil)) (da_cons d_str (da_cons d_str da_nil))))))))))))) (dss_one (ds_if (b_cmp o_ne (d_lc (own := [("odd", 15)]) (c := CT.one 15) (di_seq (d_var 5)) (blkOk_by (N := ["script", "k", "pool", "b", "turn", "odds", "names", "many", "term", "text", "words", "at", "bent", "some", "told", "odd"]) (sc := defScope s26) (by decide +kernel)) (by decide) (fun _ _ _ _ _ nd _ => ctg_one 15 nd) (fun _ _ _ _ _ => dts_one (b_cmp o_ne (d_call T.f25 Z.m25 (da_cons (d_var 15) (da_cons (d_var 7) da_nil))) (d_lst (da_cons d_str (da_cons d_int da_nil))))) (fun _ _ _ _ _ => d_var 15)) (d_lst da_nil)) (dss_one (ds_ret d_bl)) dss_nil))))))))) (dss_one (ds_ret d_bl))
theorem ok0 (Z : Fx K mg Γ fd) (T : TabOk P w K mg base Γ (k + 1) G) : FnOk P w K mg base (L2.CX P w) (k + 1 + 1 + 1) (Γ.fns 0) (fd 0) ["k"] (spG Γ (F0 G)) :=
  fn_ok Z.u0 sc0 Z.hK (fun cdv A outer s H E => d0 Z T (Γ.fns 0) cdv A outer s H E)
theorem ok1 (Z : Fx K mg Γ fd) (T : TabOk P w K mg base Γ (k + 1) G) : FnOk P w K mg base (L2.CX P w) (k + 1 + 1 + 1) (Γ.fns 1) (fd 1) ["value"] (spG Γ (F1 G)) :=
  fn_ok Z.u1 sc1 Z.hK (fun cdv A outer s H E => d1 Z T (Γ.fns 1) cdv A outer s H E)
theorem ok2 (Z : Fx K mg Γ fd) (T : TabOk P w K mg base Γ (k + 1) G) : FnOk P w K mg base (L2.CX P w) (k + 1 + 1 + 1) (Γ.fns 2) (fd 2) ["value", "least", "most"] (spG Γ (F2 G)) :=
  fn_ok Z.u2 sc2 Z.hK (fun cdv A outer s H E => d2 Z T (Γ.fns 2) cdv A outer s H E)
theorem ok3 (Z : Fx K mg Γ fd) (T : TabOk P w K mg base Γ (k + 1) G) : FnOk P w K mg base (L2.CX P w) (k + 1 + 1 + 1) (Γ.fns 3) (fd 3) ["value"] (spG Γ (F3 G)) :=
  fn_ok Z.u3 sc3 Z.hK (fun cdv A outer s H E => d3 Z T (Γ.fns 3) cdv A outer s H E)
theorem ok4 (Z : Fx K mg Γ fd) (T : TabOk P w K mg base Γ (k + 1) G) : FnOk P w K mg base (L2.CX P w) (k + 1 + 1 + 1) (Γ.fns 4) (fd 4) ["value"] (spG Γ (F4 G)) :=
  fn_ok Z.u4 sc4 Z.hK (fun cdv A outer s H E => d4 Z T (Γ.fns 4) cdv A outer s H E)
theorem ok5 (Z : Fx K mg Γ fd) (T : TabOk P w K mg base Γ (k + 1) G) : FnOk P w K mg base (L2.CX P w) (k + 1 + 1 + 1) (Γ.fns 5) (fd 5) ["value", "kind", "many"] (spG Γ (F5 G)) :=
  fn_ok Z.u5 sc5 Z.hK (fun cdv A outer s H E => d5 Z T (Γ.fns 5) cdv A outer s H E)
theorem ok6 (Z : Fx K mg Γ fd) (T : TabOk P w K mg base Γ (k + 1) G) : FnOk P w K mg base (L2.CX P w) (k + 1 + 1 + 1) (Γ.fns 6) (fd 6) ["term"] (spG Γ (F6 G)) :=
  fn_ok Z.u6 sc6 Z.hK (fun cdv A outer s H E => d6 Z T (Γ.fns 6) cdv A outer s H E)
theorem ok7 (Z : Fx K mg Γ fd) (T : TabOk P w K mg base Γ (k + 1) G) : FnOk P w K mg base (L2.CX P w) (k + 1 + 1 + 1) (Γ.fns 7) (fd 7) ["value", "arguments"] (spG Γ (F7 G)) :=
  fn_ok Z.u7 sc7 Z.hK (fun cdv A outer s H E => d7 Z T (Γ.fns 7) cdv A outer s H E)
theorem ok8 (Z : Fx K mg Γ fd) (T : TabOk P w K mg base Γ (k + 1) G) : FnOk P w K mg base (L2.CX P w) (k + 1 + 1 + 1) (Γ.fns 8) (fd 8) ["value", "arguments"] (spG Γ (F8 G)) :=
  fn_ok Z.u8 sc8 Z.hK (fun cdv A outer s H E => d8 Z T (Γ.fns 8) cdv A outer s H E)
theorem ok9 (Z : Fx K mg Γ fd) (T : TabOk P w K mg base Γ (k + 1) G) : FnOk P w K mg base (L2.CX P w) (k + 1 + 1 + 1) (Γ.fns 9) (fd 9) ["term"] (spG Γ (F9 G)) :=
  fn_ok Z.u9 sc9 Z.hK (fun cdv A outer s H E => d9 Z T (Γ.fns 9) cdv A outer s H E)
theorem ok10 (Z : Fx K mg Γ fd) (T : TabOk P w K mg base Γ (k + 1) G) : FnOk P w K mg base (L2.CX P w) (k + 1 + 1 + 1) (Γ.fns 10) (fd 10) ["self", "words"] (spG Γ (F10 G)) :=
  fn_ok Z.u10 sc10 Z.hK (fun cdv A outer s H E => d10 Z T (Γ.fns 10) cdv A outer s H E)
theorem ok11 (Z : Fx K mg Γ fd) (T : TabOk P w K mg base Γ (k + 1) G) : FnOk P w K mg base (L2.CX P w) (k + 1 + 1 + 1) (Γ.fns 11) (fd 11) ["self"] (spG Γ (F11 G)) :=
  fn_ok Z.u11 sc11 Z.hK (fun cdv A outer s H E => d11 Z T (Γ.fns 11) cdv A outer s H E)
theorem ok12 (Z : Fx K mg Γ fd) (T : TabOk P w K mg base Γ (k + 1) G) : FnOk P w K mg base (L2.CX P w) (k + 1 + 1 + 1) (Γ.fns 12) (fd 12) ["self", "known"] (spG Γ (F12 G)) :=
  fn_ok Z.u12 sc12 Z.hK (fun cdv A outer s H E => d12 Z T (Γ.fns 12) cdv A outer s H E)
theorem ok13 (Z : Fx K mg Γ fd) (T : TabOk P w K mg base Γ (k + 1) G) : FnOk P w K mg base (L2.CX P w) (k + 1 + 1 + 1) (Γ.fns 13) (fd 13) ["self", "least", "most"] (spG Γ (F13 G)) :=
  fn_ok Z.u13 sc13 Z.hK (fun cdv A outer s H E => d13 Z T (Γ.fns 13) cdv A outer s H E)
theorem ok14 (Z : Fx K mg Γ fd) (T : TabOk P w K mg base Γ (k + 1) G) : FnOk P w K mg base (L2.CX P w) (k + 1 + 1 + 1) (Γ.fns 14) (fd 14) ["self"] (spG Γ (F14 G)) :=
  fn_ok Z.u14 sc14 Z.hK (fun cdv A outer s H E => d14 Z T (Γ.fns 14) cdv A outer s H E)
theorem ok15 (Z : Fx K mg Γ fd) (T : TabOk P w K mg base Γ (k + 1) G) : FnOk P w K mg base (L2.CX P w) (k + 1 + 1 + 1) (Γ.fns 15) (fd 15) ["self"] (spG Γ (F15 G)) :=
  fn_ok Z.u15 sc15 Z.hK (fun cdv A outer s H E => d15 Z T (Γ.fns 15) cdv A outer s H E)
theorem ok16 (Z : Fx K mg Γ fd) (T : TabOk P w K mg base Γ (k + 1) G) : FnOk P w K mg base (L2.CX P w) (k + 1 + 1 + 1) (Γ.fns 16) (fd 16) ["words", "deep"] (spG Γ (F16 G)) :=
  fn_ok Z.u16 sc16 Z.hK (fun cdv A outer s H E => d16 Z T (Γ.fns 16) cdv A outer s H E)
theorem ok17 (Z : Fx K mg Γ fd) (T : TabOk P w K mg base Γ (k + 1) G) : FnOk P w K mg base (L2.CX P w) (k + 1 + 1 + 1) (Γ.fns 17) (fd 17) ["words", "arguments"] (spG Γ (F17 G)) :=
  fn_ok Z.u17 sc17 Z.hK (fun cdv A outer s H E => d17 Z T (Γ.fns 17) cdv A outer s H E)
theorem ok18 (Z : Fx K mg Γ fd) (T : TabOk P w K mg base Γ (k + 1) G) : FnOk P w K mg base (L2.CX P w) (k + 1 + 1 + 1) (Γ.fns 18) (fd 18) ["text", "arguments"] (spG Γ (F18 G)) :=
  fn_ok Z.u18 sc18 Z.hK (fun cdv A outer s H E => d18 Z T (Γ.fns 18) cdv A outer s H E)
theorem ok19 (Z : Fx K mg Γ fd) (T : TabOk P w K mg base Γ (k + 1) G) : FnOk P w K mg base (L2.CX P w) (k + 1 + 1 + 1) (Γ.fns 19) (fd 19) ["script", "k"] (spG Γ (F19 G)) :=
  fn_ok Z.u19 sc19 Z.hK (fun cdv A outer s H E => d19 Z T (Γ.fns 19) cdv A outer s H E)
theorem ok20 (Z : Fx K mg Γ fd) (T : TabOk P w K mg base Γ (k + 1) G) : FnOk P w K mg base (L2.CX P w) (k + 1 + 1 + 1) (Γ.fns 20) (fd 20) ["pool", "many"] (spG Γ (F20 G)) :=
  fn_ok Z.u20 sc20 Z.hK (fun cdv A outer s H E => d20 Z T (Γ.fns 20) cdv A outer s H E)
theorem ok21 (Z : Fx K mg Γ fd) (T : TabOk P w K mg base Γ (k + 1) G) : FnOk P w K mg base (L2.CX P w) (k + 1 + 1 + 1) (Γ.fns 21) (fd 21) ["pool", "row"] (spG Γ (F21 G)) :=
  fn_ok Z.u21 sc21 Z.hK (fun cdv A outer s H E => d21 Z T (Γ.fns 21) cdv A outer s H E)
theorem ok22 (Z : Fx K mg Γ fd) (T : TabOk P w K mg base Γ (k + 1) G) : FnOk P w K mg base (L2.CX P w) (k + 1 + 1 + 1) (Γ.fns 22) (fd 22) ["pool", "count"] (spG Γ (F22 G)) :=
  fn_ok Z.u22 sc22 Z.hK (fun cdv A outer s H E => d22 Z T (Γ.fns 22) cdv A outer s H E)
theorem ok23 (Z : Fx K mg Γ fd) (T : TabOk P w K mg base Γ (k + 1) G) : FnOk P w K mg base (L2.CX P w) (k + 1 + 1 + 1) (Γ.fns 23) (fd 23) ["pool", "b", "many", "deep"] (spG Γ (F23 G)) :=
  fn_ok Z.u23 sc23 Z.hK (fun cdv A outer s H E => d23 Z T (Γ.fns 23) cdv A outer s H E)
theorem ok24 (Z : Fx K mg Γ fd) (T : TabOk P w K mg base Γ (k + 1) G) : FnOk P w K mg base (L2.CX P w) (k + 1 + 1 + 1) (Γ.fns 24) (fd 24) ["term"] (spG Γ (F24 G)) :=
  fn_ok Z.u24 sc24 Z.hK (fun cdv A outer s H E => d24 Z T (Γ.fns 24) cdv A outer s H E)
theorem ok25 (Z : Fx K mg Γ fd) (T : TabOk P w K mg base Γ (k + 1) G) : FnOk P w K mg base (L2.CX P w) (k + 1 + 1 + 1) (Γ.fns 25) (fd 25) ["text", "many"] (spG Γ (F25 G)) :=
  fn_ok Z.u25 sc25 Z.hK (fun cdv A outer s H E => d25 Z T (Γ.fns 25) cdv A outer s H E)
theorem ok26 (Z : Fx K mg Γ fd) (T : TabOk P w K mg base Γ (k + 1) G) : FnOk P w K mg base (L2.CX P w) (k + 1 + 1 + 1) (Γ.fns 26) (fd 26) ["script"] (spG Γ (F26 G)) :=
  fn_ok Z.u26 sc26 Z.hK (fun cdv A outer s H E => d26 Z T (Γ.fns 26) cdv A outer s H E)
theorem zlS (k : Nat) : zlev (k + 1) = zstep (zlev k) := rfl
theorem zs0 (G : Tab) : zstep G 0 = F0 G := rfl
theorem zs1 (G : Tab) : zstep G 1 = F1 G := rfl
theorem zs2 (G : Tab) : zstep G 2 = F2 G := rfl
theorem zs3 (G : Tab) : zstep G 3 = F3 G := rfl
theorem zs4 (G : Tab) : zstep G 4 = F4 G := rfl
theorem zs5 (G : Tab) : zstep G 5 = F5 G := rfl
theorem zs6 (G : Tab) : zstep G 6 = F6 G := rfl
theorem zs7 (G : Tab) : zstep G 7 = F7 G := rfl
theorem zs8 (G : Tab) : zstep G 8 = F8 G := rfl
theorem zs9 (G : Tab) : zstep G 9 = F9 G := rfl
theorem zs10 (G : Tab) : zstep G 10 = F10 G := rfl
theorem zs11 (G : Tab) : zstep G 11 = F11 G := rfl
theorem zs12 (G : Tab) : zstep G 12 = F12 G := rfl
theorem zs13 (G : Tab) : zstep G 13 = F13 G := rfl
theorem zs14 (G : Tab) : zstep G 14 = F14 G := rfl
theorem zs15 (G : Tab) : zstep G 15 = F15 G := rfl
theorem zs16 (G : Tab) : zstep G 16 = F16 G := rfl
theorem zs17 (G : Tab) : zstep G 17 = F17 G := rfl
theorem zs18 (G : Tab) : zstep G 18 = F18 G := rfl
theorem zs19 (G : Tab) : zstep G 19 = F19 G := rfl
theorem zs20 (G : Tab) : zstep G 20 = F20 G := rfl
theorem zs21 (G : Tab) : zstep G 21 = F21 G := rfl
theorem zs22 (G : Tab) : zstep G 22 = F22 G := rfl
theorem zs23 (G : Tab) : zstep G 23 = F23 G := rfl
theorem zs24 (G : Tab) : zstep G 24 = F24 G := rfl
theorem zs25 (G : Tab) : zstep G 25 = F25 G := rfl
theorem zs26 (G : Tab) : zstep G 26 = F26 G := rfl
theorem zl0 (k : Nat) : zlev (k + 1) 0 = F0 (zlev k) := (congrFun (zlS k) 0).trans (zs0 _)
theorem zl1 (k : Nat) : zlev (k + 1) 1 = F1 (zlev k) := (congrFun (zlS k) 1).trans (zs1 _)
theorem zl2 (k : Nat) : zlev (k + 1) 2 = F2 (zlev k) := (congrFun (zlS k) 2).trans (zs2 _)
theorem zl3 (k : Nat) : zlev (k + 1) 3 = F3 (zlev k) := (congrFun (zlS k) 3).trans (zs3 _)
theorem zl4 (k : Nat) : zlev (k + 1) 4 = F4 (zlev k) := (congrFun (zlS k) 4).trans (zs4 _)
theorem zl5 (k : Nat) : zlev (k + 1) 5 = F5 (zlev k) := (congrFun (zlS k) 5).trans (zs5 _)
theorem zl6 (k : Nat) : zlev (k + 1) 6 = F6 (zlev k) := (congrFun (zlS k) 6).trans (zs6 _)
theorem zl7 (k : Nat) : zlev (k + 1) 7 = F7 (zlev k) := (congrFun (zlS k) 7).trans (zs7 _)
theorem zl8 (k : Nat) : zlev (k + 1) 8 = F8 (zlev k) := (congrFun (zlS k) 8).trans (zs8 _)
theorem zl9 (k : Nat) : zlev (k + 1) 9 = F9 (zlev k) := (congrFun (zlS k) 9).trans (zs9 _)
theorem zl10 (k : Nat) : zlev (k + 1) 10 = F10 (zlev k) := (congrFun (zlS k) 10).trans (zs10 _)
theorem zl11 (k : Nat) : zlev (k + 1) 11 = F11 (zlev k) := (congrFun (zlS k) 11).trans (zs11 _)
theorem zl12 (k : Nat) : zlev (k + 1) 12 = F12 (zlev k) := (congrFun (zlS k) 12).trans (zs12 _)
theorem zl13 (k : Nat) : zlev (k + 1) 13 = F13 (zlev k) := (congrFun (zlS k) 13).trans (zs13 _)
theorem zl14 (k : Nat) : zlev (k + 1) 14 = F14 (zlev k) := (congrFun (zlS k) 14).trans (zs14 _)
theorem zl15 (k : Nat) : zlev (k + 1) 15 = F15 (zlev k) := (congrFun (zlS k) 15).trans (zs15 _)
theorem zl16 (k : Nat) : zlev (k + 1) 16 = F16 (zlev k) := (congrFun (zlS k) 16).trans (zs16 _)
theorem zl17 (k : Nat) : zlev (k + 1) 17 = F17 (zlev k) := (congrFun (zlS k) 17).trans (zs17 _)
theorem zl18 (k : Nat) : zlev (k + 1) 18 = F18 (zlev k) := (congrFun (zlS k) 18).trans (zs18 _)
theorem zl19 (k : Nat) : zlev (k + 1) 19 = F19 (zlev k) := (congrFun (zlS k) 19).trans (zs19 _)
theorem zl20 (k : Nat) : zlev (k + 1) 20 = F20 (zlev k) := (congrFun (zlS k) 20).trans (zs20 _)
theorem zl21 (k : Nat) : zlev (k + 1) 21 = F21 (zlev k) := (congrFun (zlS k) 21).trans (zs21 _)
theorem zl22 (k : Nat) : zlev (k + 1) 22 = F22 (zlev k) := (congrFun (zlS k) 22).trans (zs22 _)
theorem zl23 (k : Nat) : zlev (k + 1) 23 = F23 (zlev k) := (congrFun (zlS k) 23).trans (zs23 _)
theorem zl24 (k : Nat) : zlev (k + 1) 24 = F24 (zlev k) := (congrFun (zlS k) 24).trans (zs24 _)
theorem zl25 (k : Nat) : zlev (k + 1) 25 = F25 (zlev k) := (congrFun (zlS k) 25).trans (zs25 _)
theorem zl26 (k : Nat) : zlev (k + 1) 26 = F26 (zlev k) := (congrFun (zlS k) 26).trans (zs26 _)
theorem up2 (k : Nat) : 2 * (k + 1) + 1 = 2 * k + 1 + 1 + 1 := rfl
theorem FnS_of {k k1 : Nat} {g g1 : Fn} {f : Addr} {fd : FuncData} {ps : List Str} (hk : k1 = k) (hg : g1 = g) (F : FnOk P w K mg base (L2.CX P w) k f fd ps (spG Γ g)) (B : Binds K fd ps []) (kp : PySem.W.keepIn K (.ref f) = true) : FnS P w K mg base Γ k1 f ps [] g1 := by
  subst hk hg; exact ⟨⟨fd, [], [], F, B, .nil, fun _ _ => .nil⟩, kp⟩
theorem all_base (Z : Fx K mg Γ fd) : TabOk P w K mg base Γ (2 * 0 + 1) (zlev 0) :=
  { f0 := ⟨⟨fd 0, [], [], fn_stk, Z.b0, .nil, fun _ _ => .nil⟩, Z.u0.kp⟩, f1 := ⟨⟨fd 1, [], [], fn_stk, Z.b1, .nil, fun _ _ => .nil⟩, Z.u1.kp⟩, f2 := ⟨⟨fd 2, [], [], fn_stk, Z.b2, .nil, fun _ _ => .nil⟩, Z.u2.kp⟩, f3 := ⟨⟨fd 3, [], [], fn_stk, Z.b3, .nil, fun _ _ => .nil⟩, Z.u3.kp⟩, f4 := ⟨⟨fd 4, [], [], fn_stk, Z.b4, .nil, fun _ _ => .nil⟩, Z.u4.kp⟩, f5 := ⟨⟨fd 5, [], [], fn_stk, Z.b5, .nil, fun _ _ => .nil⟩, Z.u5.kp⟩, f6 := ⟨⟨fd 6, [], [], fn_stk, Z.b6, .nil, fun _ _ => .nil⟩, Z.u6.kp⟩, f7 := ⟨⟨fd 7, [], [], fn_stk, Z.b7, .nil, fun _ _ => .nil⟩, Z.u7.kp⟩, f8 := ⟨⟨fd 8, [], [], fn_stk, Z.b8, .nil, fun _ _ => .nil⟩, Z.u8.kp⟩, f9 := ⟨⟨fd 9, [], [], fn_stk, Z.b9, .nil, fun _ _ => .nil⟩, Z.u9.kp⟩, f10 := ⟨⟨fd 10, [], [], fn_stk, Z.b10, .nil, fun _ _ => .nil⟩, Z.u10.kp⟩, f11 := ⟨⟨fd 11, [], [], fn_stk, Z.b11, .nil, fun _ _ => .nil⟩, Z.u11.kp⟩, f12 := ⟨⟨fd 12, [], [], fn_stk, Z.b12, .nil, fun _ _ => .nil⟩, Z.u12.kp⟩, f13 := ⟨⟨fd 13, [], [], fn_stk, Z.b13, .nil, fun _ _ => .nil⟩, Z.u13.kp⟩, f14 := ⟨⟨fd 14, [], [], fn_stk, Z.b14, .nil, fun _ _ => .nil⟩, Z.u14.kp⟩, f15 := ⟨⟨fd 15, [], [], fn_stk, Z.b15, .nil, fun _ _ => .nil⟩, Z.u15.kp⟩, f16 := ⟨⟨fd 16, [], [], fn_stk, Z.b16, .nil, fun _ _ => .nil⟩, Z.u16.kp⟩, f17 := ⟨⟨fd 17, [], [], fn_stk, Z.b17, .nil, fun _ _ => .nil⟩, Z.u17.kp⟩, f18 := ⟨⟨fd 18, [], [], fn_stk, Z.b18, .nil, fun _ _ => .nil⟩, Z.u18.kp⟩, f19 := ⟨⟨fd 19, [], [], fn_stk, Z.b19, .nil, fun _ _ => .nil⟩, Z.u19.kp⟩, f20 := ⟨⟨fd 20, [], [], fn_stk, Z.b20, .nil, fun _ _ => .nil⟩, Z.u20.kp⟩, f21 := ⟨⟨fd 21, [], [], fn_stk, Z.b21, .nil, fun _ _ => .nil⟩, Z.u21.kp⟩, f22 := ⟨⟨fd 22, [], [], fn_stk, Z.b22, .nil, fun _ _ => .nil⟩, Z.u22.kp⟩, f23 := ⟨⟨fd 23, [], [], fn_stk, Z.b23, .nil, fun _ _ => .nil⟩, Z.u23.kp⟩, f24 := ⟨⟨fd 24, [], [], fn_stk, Z.b24, .nil, fun _ _ => .nil⟩, Z.u24.kp⟩, f25 := ⟨⟨fd 25, [], [], fn_stk, Z.b25, .nil, fun _ _ => .nil⟩, Z.u25.kp⟩, f26 := ⟨⟨fd 26, [], [], fn_stk, Z.b26, .nil, fun _ _ => .nil⟩, Z.u26.kp⟩ }
theorem okS0 (Z : Fx K mg Γ fd) (T : TabOk P w K mg base Γ (2 * k + 1) (zlev k)) : FnS P w K mg base Γ (2 * (k + 1) + 1) (Γ.fns 0) ["k"] [] (zlev (k + 1) 0) := FnS_of (up2 k) (zl0 k) (ok0 Z T) Z.b0 Z.u0.kp
theorem okS1 (Z : Fx K mg Γ fd) (T : TabOk P w K mg base Γ (2 * k + 1) (zlev k)) : FnS P w K mg base Γ (2 * (k + 1) + 1) (Γ.fns 1) ["value"] [] (zlev (k + 1) 1) := FnS_of (up2 k) (zl1 k) (ok1 Z T) Z.b1 Z.u1.kp
theorem okS2 (Z : Fx K mg Γ fd) (T : TabOk P w K mg base Γ (2 * k + 1) (zlev k)) : FnS P w K mg base Γ (2 * (k + 1) + 1) (Γ.fns 2) ["value", "least", "most"] [] (zlev (k + 1) 2) := FnS_of (up2 k) (zl2 k) (ok2 Z T) Z.b2 Z.u2.kp
theorem okS3 (Z : Fx K mg Γ fd) (T : TabOk P w K mg base Γ (2 * k + 1) (zlev k)) : FnS P w K mg base Γ (2 * (k + 1) + 1) (Γ.fns 3) ["value"] [] (zlev (k + 1) 3) := FnS_of (up2 k) (zl3 k) (ok3 Z T) Z.b3 Z.u3.kp
theorem okS4 (Z : Fx K mg Γ fd) (T : TabOk P w K mg base Γ (2 * k + 1) (zlev k)) : FnS P w K mg base Γ (2 * (k + 1) + 1) (Γ.fns 4) ["value"] [] (zlev (k + 1) 4) := FnS_of (up2 k) (zl4 k) (ok4 Z T) Z.b4 Z.u4.kp
theorem okS5 (Z : Fx K mg Γ fd) (T : TabOk P w K mg base Γ (2 * k + 1) (zlev k)) : FnS P w K mg base Γ (2 * (k + 1) + 1) (Γ.fns 5) ["value", "kind", "many"] [] (zlev (k + 1) 5) := FnS_of (up2 k) (zl5 k) (ok5 Z T) Z.b5 Z.u5.kp
theorem okS6 (Z : Fx K mg Γ fd) (T : TabOk P w K mg base Γ (2 * k + 1) (zlev k)) : FnS P w K mg base Γ (2 * (k + 1) + 1) (Γ.fns 6) ["term"] [] (zlev (k + 1) 6) := FnS_of (up2 k) (zl6 k) (ok6 Z T) Z.b6 Z.u6.kp
theorem okS7 (Z : Fx K mg Γ fd) (T : TabOk P w K mg base Γ (2 * k + 1) (zlev k)) : FnS P w K mg base Γ (2 * (k + 1) + 1) (Γ.fns 7) ["value", "arguments"] [] (zlev (k + 1) 7) := FnS_of (up2 k) (zl7 k) (ok7 Z T) Z.b7 Z.u7.kp
theorem okS8 (Z : Fx K mg Γ fd) (T : TabOk P w K mg base Γ (2 * k + 1) (zlev k)) : FnS P w K mg base Γ (2 * (k + 1) + 1) (Γ.fns 8) ["value", "arguments"] [] (zlev (k + 1) 8) := FnS_of (up2 k) (zl8 k) (ok8 Z T) Z.b8 Z.u8.kp
theorem okS9 (Z : Fx K mg Γ fd) (T : TabOk P w K mg base Γ (2 * k + 1) (zlev k)) : FnS P w K mg base Γ (2 * (k + 1) + 1) (Γ.fns 9) ["term"] [] (zlev (k + 1) 9) := FnS_of (up2 k) (zl9 k) (ok9 Z T) Z.b9 Z.u9.kp
theorem okS10 (Z : Fx K mg Γ fd) (T : TabOk P w K mg base Γ (2 * k + 1) (zlev k)) : FnS P w K mg base Γ (2 * (k + 1) + 1) (Γ.fns 10) ["self", "words"] [] (zlev (k + 1) 10) := FnS_of (up2 k) (zl10 k) (ok10 Z T) Z.b10 Z.u10.kp
theorem okS11 (Z : Fx K mg Γ fd) (T : TabOk P w K mg base Γ (2 * k + 1) (zlev k)) : FnS P w K mg base Γ (2 * (k + 1) + 1) (Γ.fns 11) ["self"] [] (zlev (k + 1) 11) := FnS_of (up2 k) (zl11 k) (ok11 Z T) Z.b11 Z.u11.kp
theorem okS12 (Z : Fx K mg Γ fd) (T : TabOk P w K mg base Γ (2 * k + 1) (zlev k)) : FnS P w K mg base Γ (2 * (k + 1) + 1) (Γ.fns 12) ["self", "known"] [] (zlev (k + 1) 12) := FnS_of (up2 k) (zl12 k) (ok12 Z T) Z.b12 Z.u12.kp
theorem okS13 (Z : Fx K mg Γ fd) (T : TabOk P w K mg base Γ (2 * k + 1) (zlev k)) : FnS P w K mg base Γ (2 * (k + 1) + 1) (Γ.fns 13) ["self", "least", "most"] [] (zlev (k + 1) 13) := FnS_of (up2 k) (zl13 k) (ok13 Z T) Z.b13 Z.u13.kp
theorem okS14 (Z : Fx K mg Γ fd) (T : TabOk P w K mg base Γ (2 * k + 1) (zlev k)) : FnS P w K mg base Γ (2 * (k + 1) + 1) (Γ.fns 14) ["self"] [] (zlev (k + 1) 14) := FnS_of (up2 k) (zl14 k) (ok14 Z T) Z.b14 Z.u14.kp
theorem okS15 (Z : Fx K mg Γ fd) (T : TabOk P w K mg base Γ (2 * k + 1) (zlev k)) : FnS P w K mg base Γ (2 * (k + 1) + 1) (Γ.fns 15) ["self"] [] (zlev (k + 1) 15) := FnS_of (up2 k) (zl15 k) (ok15 Z T) Z.b15 Z.u15.kp
theorem okS16 (Z : Fx K mg Γ fd) (T : TabOk P w K mg base Γ (2 * k + 1) (zlev k)) : FnS P w K mg base Γ (2 * (k + 1) + 1) (Γ.fns 16) ["words", "deep"] [] (zlev (k + 1) 16) := FnS_of (up2 k) (zl16 k) (ok16 Z T) Z.b16 Z.u16.kp
theorem okS17 (Z : Fx K mg Γ fd) (T : TabOk P w K mg base Γ (2 * k + 1) (zlev k)) : FnS P w K mg base Γ (2 * (k + 1) + 1) (Γ.fns 17) ["words", "arguments"] [] (zlev (k + 1) 17) := FnS_of (up2 k) (zl17 k) (ok17 Z T) Z.b17 Z.u17.kp
theorem okS18 (Z : Fx K mg Γ fd) (T : TabOk P w K mg base Γ (2 * k + 1) (zlev k)) : FnS P w K mg base Γ (2 * (k + 1) + 1) (Γ.fns 18) ["text", "arguments"] [] (zlev (k + 1) 18) := FnS_of (up2 k) (zl18 k) (ok18 Z T) Z.b18 Z.u18.kp
theorem okS19 (Z : Fx K mg Γ fd) (T : TabOk P w K mg base Γ (2 * k + 1) (zlev k)) : FnS P w K mg base Γ (2 * (k + 1) + 1) (Γ.fns 19) ["script", "k"] [] (zlev (k + 1) 19) := FnS_of (up2 k) (zl19 k) (ok19 Z T) Z.b19 Z.u19.kp
theorem okS20 (Z : Fx K mg Γ fd) (T : TabOk P w K mg base Γ (2 * k + 1) (zlev k)) : FnS P w K mg base Γ (2 * (k + 1) + 1) (Γ.fns 20) ["pool", "many"] [] (zlev (k + 1) 20) := FnS_of (up2 k) (zl20 k) (ok20 Z T) Z.b20 Z.u20.kp
theorem okS21 (Z : Fx K mg Γ fd) (T : TabOk P w K mg base Γ (2 * k + 1) (zlev k)) : FnS P w K mg base Γ (2 * (k + 1) + 1) (Γ.fns 21) ["pool", "row"] [] (zlev (k + 1) 21) := FnS_of (up2 k) (zl21 k) (ok21 Z T) Z.b21 Z.u21.kp
theorem okS22 (Z : Fx K mg Γ fd) (T : TabOk P w K mg base Γ (2 * k + 1) (zlev k)) : FnS P w K mg base Γ (2 * (k + 1) + 1) (Γ.fns 22) ["pool", "count"] [] (zlev (k + 1) 22) := FnS_of (up2 k) (zl22 k) (ok22 Z T) Z.b22 Z.u22.kp
theorem okS23 (Z : Fx K mg Γ fd) (T : TabOk P w K mg base Γ (2 * k + 1) (zlev k)) : FnS P w K mg base Γ (2 * (k + 1) + 1) (Γ.fns 23) ["pool", "b", "many", "deep"] [] (zlev (k + 1) 23) := FnS_of (up2 k) (zl23 k) (ok23 Z T) Z.b23 Z.u23.kp
theorem okS24 (Z : Fx K mg Γ fd) (T : TabOk P w K mg base Γ (2 * k + 1) (zlev k)) : FnS P w K mg base Γ (2 * (k + 1) + 1) (Γ.fns 24) ["term"] [] (zlev (k + 1) 24) := FnS_of (up2 k) (zl24 k) (ok24 Z T) Z.b24 Z.u24.kp
theorem okS25 (Z : Fx K mg Γ fd) (T : TabOk P w K mg base Γ (2 * k + 1) (zlev k)) : FnS P w K mg base Γ (2 * (k + 1) + 1) (Γ.fns 25) ["text", "many"] [] (zlev (k + 1) 25) := FnS_of (up2 k) (zl25 k) (ok25 Z T) Z.b25 Z.u25.kp
theorem okS26 (Z : Fx K mg Γ fd) (T : TabOk P w K mg base Γ (2 * k + 1) (zlev k)) : FnS P w K mg base Γ (2 * (k + 1) + 1) (Γ.fns 26) ["script"] [] (zlev (k + 1) 26) := FnS_of (up2 k) (zl26 k) (ok26 Z T) Z.b26 Z.u26.kp
theorem all_step (Z : Fx K mg Γ fd) (T : TabOk P w K mg base Γ (2 * k + 1) (zlev k)) : TabOk P w K mg base Γ (2 * (k + 1) + 1) (zlev (k + 1)) :=
  ⟨okS0 Z T, okS1 Z T, okS2 Z T, okS3 Z T, okS4 Z T, okS5 Z T, okS6 Z T, okS7 Z T, okS8 Z T, okS9 Z T, okS10 Z T, okS11 Z T, okS12 Z T, okS13 Z T, okS14 Z T, okS15 Z T, okS16 Z T, okS17 Z T, okS18 Z T, okS19 Z T, okS20 Z T, okS21 Z T, okS22 Z T, okS23 Z T, okS24 Z T, okS25 Z T, okS26 Z T⟩
theorem all_ok (Z : Fx K mg Γ fd) (k : Nat) : TabOk P w K mg base Γ (2 * k + 1) (zlev k) := Nat.rec (all_base Z) (fun _ T => all_step Z T) k
theorem lawOk (Z : Fx K mg Γ fd) : FnOk P w K mg base (L2.CX P w) 81 (Γ.fns 26) (fd 26) ["script"] (spG Γ (zlev 40 26)) :=
  (zl26 39).symm ▸ ok26 Z (all_ok Z 39)
end
end K79

namespace K79
open PySem PySem.Spec PyProof.Rows L2 Z
theorem g0 (G : Tab) : F0 G = f_wall := rfl
theorem z0 (k : Nat) : zlev (k + 1) 0 = f_wall := (zl0 k).trans (g0 _)
theorem g1 (G : Tab) : F1 G = f_is_integer := rfl
theorem z1 (k : Nat) : zlev (k + 1) 1 = f_is_integer := (zl1 k).trans (g1 _)
theorem g2 (G : Tab) : F2 G = f_is_between (G 1) := rfl
theorem z2 (k : Nat) : zlev (k + 1) 2 = f_is_between (zlev k 1) := (zl2 k).trans (g2 _)
theorem g3 (G : Tab) : F3 G = f_is_value (G 2) := rfl
theorem z3 (k : Nat) : zlev (k + 1) 3 = f_is_value (zlev k 2) := (zl3 k).trans (g3 _)
theorem g4 (G : Tab) : F4 G = f_is_name := rfl
theorem z4 (k : Nat) : zlev (k + 1) 4 = f_is_name := (zl4 k).trans (g4 _)
theorem g5 (G : Tab) : F5 G = f_has_kind := rfl
theorem z5 (k : Nat) : zlev (k + 1) 5 = f_has_kind := (zl5 k).trans (g5 _)
theorem g6 (G : Tab) : F6 G = f_inner_terms := rfl
theorem z6 (k : Nat) : zlev (k + 1) 6 = f_inner_terms := (zl6 k).trans (g6 _)
theorem g7 (G : Tab) : F7 G = f_has_form (G 3) (G 5) (G 2) (G 4) := rfl
theorem z7 (k : Nat) : zlev (k + 1) 7 = f_has_form (zlev k 3) (zlev k 5) (zlev k 2) (zlev k 4) := (zl7 k).trans (g7 _)
theorem g8 (G : Tab) : F8 G = f_is_term (G 7) (G 6) := rfl
theorem z8 (k : Nat) : zlev (k + 1) 8 = f_is_term (zlev k 7) (zlev k 6) := (zl8 k).trans (g8 _)
theorem g9 (G : Tab) : F9 G = f_write_term (G 9) := rfl
theorem z9 (k : Nat) : zlev (k + 1) 9 = f_write_term (zlev k 9) := (zl9 k).trans (g9 _)
theorem g10 (G : Tab) : F10 G = f_Words___init__ := rfl
theorem z10 (k : Nat) : zlev (k + 1) 10 = f_Words___init__ := (zl10 k).trans (g10 _)
theorem g11 (G : Tab) : F11 G = f_Words_pull := rfl
theorem z11 (k : Nat) : zlev (k + 1) 11 = f_Words_pull := (zl11 k).trans (g11 _)
theorem g12 (G : Tab) : F12 G = f_Words_pull_one (G 0) := rfl
theorem z12 (k : Nat) : zlev (k + 1) 12 = f_Words_pull_one (zlev k 0) := (zl12 k).trans (g12 _)
theorem g13 (G : Tab) : F13 G = f_Words_pull_figure (G 11) := rfl
theorem z13 (k : Nat) : zlev (k + 1) 13 = f_Words_pull_figure (zlev k 11) := (zl13 k).trans (g13 _)
theorem g14 (G : Tab) : F14 G = f_Words_pull_name (G 11) (G 4) := rfl
theorem z14 (k : Nat) : zlev (k + 1) 14 = f_Words_pull_name (zlev k 11) (zlev k 4) := (zl14 k).trans (g14 _)
theorem g15 (G : Tab) : F15 G = f_Words_is_done := rfl
theorem z15 (k : Nat) : zlev (k + 1) 15 = f_Words_is_done := (zl15 k).trans (g15 _)
theorem g16 (G : Tab) : F16 G = f_pulled_term (G 11) (G 16) (G 14) (G 13) := rfl
theorem z16 (k : Nat) : zlev (k + 1) 16 = f_pulled_term (zlev k 11) (zlev k 16) (zlev k 14) (zlev k 13) := (zl16 k).trans (g16 _)
theorem g17 (G : Tab) : F17 G = f_term_in (G 10) (G 16) (G 15) (G 8) := rfl
theorem z17 (k : Nat) : zlev (k + 1) 17 = f_term_in (zlev k 10) (zlev k 16) (zlev k 15) (zlev k 8) := (zl17 k).trans (g17 _)
theorem g18 (G : Tab) : F18 G = f_read_term (G 17) := rfl
theorem z18 (k : Nat) : zlev (k + 1) 18 = f_read_term (zlev k 17) := (zl18 k).trans (g18 _)
theorem g19 (G : Tab) : F19 G = f_law_pool := rfl
theorem z19 (k : Nat) : zlev (k + 1) 19 = f_law_pool := (zl19 k).trans (g19 _)
theorem g20 (G : Tab) : F20 G = f_law_draw := rfl
theorem z20 (k : Nat) : zlev (k + 1) 20 = f_law_draw := (zl20 k).trans (g20 _)
theorem g21 (G : Tab) : F21 G = f_law_pick (G 20) := rfl
theorem z21 (k : Nat) : zlev (k + 1) 21 = f_law_pick (zlev k 20) := (zl21 k).trans (g21 _)
theorem g22 (G : Tab) : F22 G = f_law_names (G 20) (G 21) := rfl
theorem z22 (k : Nat) : zlev (k + 1) 22 = f_law_names (zlev k 20) (zlev k 21) := (zl22 k).trans (g22 _)
theorem g23 (G : Tab) : F23 G = f_law_term (G 20) (G 21) (G 23) := rfl
theorem z23 (k : Nat) : zlev (k + 1) 23 = f_law_term (zlev k 20) (zlev k 21) (zlev k 23) := (zl23 k).trans (g23 _)
theorem g24 (G : Tab) : F24 G = f_law_term_text (G 24) := rfl
theorem z24 (k : Nat) : zlev (k + 1) 24 = f_law_term_text (zlev k 24) := (zl24 k).trans (g24 _)
theorem g25 (G : Tab) : F25 G = f_law_read (G 18) := rfl
theorem z25 (k : Nat) : zlev (k + 1) 25 = f_law_read (zlev k 18) := (zl25 k).trans (g25 _)
theorem g26 (G : Tab) : F26 G = f_law79 (G 19) (G 22) (G 20) (G 23) (G 24) (G 9) (G 25) := rfl
theorem z26 (k : Nat) : zlev (k + 1) 26 = f_law79 (zlev k 19) (zlev k 22) (zlev k 20) (zlev k 23) (zlev k 24) (zlev k 9) (zlev k 25) := (zl26 k).trans (g26 _)
theorem y2 (k : Nat) : zlev (k + 2) 2 = c_is_between := by rw [z2, z1]; rfl
theorem y3 (k : Nat) : zlev (k + 3) 3 = c_is_value := by rw [z3, y2]; rfl
theorem y7 (k : Nat) : zlev (k + 4) 7 = c_has_form := by rw [z7, y3, z5, y2, z4]; rfl
theorem y8 (k : Nat) : zlev (k + 5) 8 = c_is_term := by rw [z8, y7, z6]; rfl
theorem y13 (k : Nat) : zlev (k + 2) 13 = f_Words_pull_figure f_Words_pull := by rw [z13, z11]
theorem y14 (k : Nat) : zlev (k + 2) 14 = f_Words_pull_name f_Words_pull f_is_name := by rw [z14, z11, z4]
theorem y16 (k : Nat) : zlev (k + 3) 16 = c_pulled (zlev (k + 2) 16) := by rw [z16, z11, y13, y14]; rfl
theorem y21 (k : Nat) : zlev (k + 2) 21 = c_pick := by rw [z21, z20]; rfl
theorem y22 (k : Nat) : zlev (k + 3) 22 = f_law_names f_law_draw c_pick := by rw [z22, z20, y21]
theorem y23 (k : Nat) : zlev (k + 3) 23 = c_term (zlev (k + 2) 23) := by rw [z23, z20, y21]; rfl
theorem y17 (k : Nat) : zlev (k + 6) 17 = c_term_in (zlev (k + 5) 16) := by rw [z17, z10, z15, y8]; rfl
theorem y25 (k : Nat) : zlev (k + 2) 25 = c_law_read (zlev k 17) := by rw [z25, z18]; rfl
theorem q24 (k : Nat) : ∀ d, d ≤ 9 → TxS (zlev (k + d) 24) d
  | 0, _ => tx_base _
  | d + 1, h => by rw [show k + (d + 1) = (k + d) + 1 from rfl, z24]; exact tx_step (by omega) (q24 k d (by omega))
theorem q9 (k : Nat) : ∀ d, d ≤ 9 → TxS (zlev (k + d) 9) d
  | 0, _ => tx_base _
  | d + 1, h => by rw [show k + (d + 1) = (k + d) + 1 from rfl, z9]; exact wt_step (by omega) (q9 k d (by omega))
theorem q16 (k : Nat) : ∀ d, PtS (zlev (k + d + 3) 16) d
  | 0 => by rw [y16]; exact pt_base _
  | d + 1 => by rw [show k + (d + 1) + 3 = (k + d + 1) + 3 from rfl, y16]; exact pt_step (q16 k d)
theorem q23 (m : Int) (h0 : 0 ≤ m) (h2 : m ≤ 2) (k : Nat) : ∀ d, TmS m (zlev (k + d + 2) 23) d
  | 0 => term_base _
  | d + 1 => by rw [show k + (d + 1) + 2 = (k + d) + 3 from rfl, y23]; exact term_step h0 h2 (q23 m h0 h2 k d)
def FF : LG := ⟨zlev 39 23, zlev 39 24, zlev 39 25, zlev 39 9⟩
theorem lawG_f (F : LG) : lawG F = f_law79 f_law_pool (f_law_names f_law_draw c_pick) f_law_draw F.T F.X F.W F.R := rfl
theorem zlaw : zlev 40 26 = lawG FF := by
  rw [lawG_f, z26 39, z19 38, y22 36, z20 38]
  rfl
theorem tis : TiS (zlev 37 17) := by
  rw [y17 31]
  exact fun L q us many h hw => term_in_ok (q16 25 8) h hw
theorem rd : FF.R = c_law_read (zlev 37 17) := y25 37
theorem ffok : LGok FF where
  T := fun m h0 h2 => q23 m h0 h2 33 4
  X := q24 31 8 (by decide)
  Wt := q9 31 8 (by decide)
  R := fun x many L hx hw => by
    rw [rd]
    exact law_read_ok tis hx hw
  RO := fun w many L t h1 h2 => by
    rw [rd]
    exact law_read_odd h1 h2
theorem law_true : ∀ ns : List Int, ns.length ≤ 63 → ∃ L, zlev 40 26 [.scr ns] [] = .ok (.bl true) L := fun ns _ => by
  rw [zlaw]
  obtain ⟨w, L, e, rfl⟩ := (law79_ok ffok ns []).ex
  exact ⟨L, e⟩
end K79

namespace K79
open PySem PySem.Spec PyProof.Rows L2 Z
def spL (K : PySem.W.Frag) : Sp := fun vs H Q _ => ∃ (a : Addr) (ns : List Int), vs = [.ref a] ∧ SqL K H a (ns.map V.int) ∧ ns.length ≤ 63 ∧ Only H ∧ ∀ H1, Q (.bl true) H1
theorem all_mk {w : World} {K : PySem.W.Frag} {h : Heap} {mg : Str → Option Value} {fa : Addr}
    {C0 : Addr}
    {C1 : Addr}
    {C2 : Addr}
    {nm2 q2 : Str} {N2 : Addr} {bs2 : List Value} {sn2 : List Str} {sub2 : List Value} {ab2 : Bool} {col2 : Option Bool} {dd2 : Option Addr} {y02 y12 y22 y32 y52 : Option Value}
    {f29 : Addr} {od29 an29 : Option Addr} {sl29 : Array (Option Value)} {oc29 kV29 dc29 pm29 cd29 ct29 : Value}
    {f0 : Addr} {od0 an0 : Option Addr} {sl0 : Array (Option Value)} {oc0 kV0 dc0 pm0 cd0 ct0 : Value}
    {f1 : Addr} {od1 an1 : Option Addr} {sl1 : Array (Option Value)} {oc1 kV1 dc1 pm1 cd1 ct1 : Value}
    {f2 : Addr} {od2 an2 : Option Addr} {sl2 : Array (Option Value)} {oc2 kV2 dc2 pm2 cd2 ct2 : Value}
    {f3 : Addr} {od3 an3 : Option Addr} {sl3 : Array (Option Value)} {oc3 kV3 dc3 pm3 cd3 ct3 : Value}
    {f4 : Addr} {od4 an4 : Option Addr} {sl4 : Array (Option Value)} {oc4 kV4 dc4 pm4 cd4 ct4 : Value}
    {f5 : Addr} {od5 an5 : Option Addr} {sl5 : Array (Option Value)} {oc5 kV5 dc5 pm5 cd5 ct5 : Value}
    {f6 : Addr} {od6 an6 : Option Addr} {sl6 : Array (Option Value)} {oc6 kV6 dc6 pm6 cd6 ct6 : Value}
    {f7 : Addr} {od7 an7 : Option Addr} {sl7 : Array (Option Value)} {oc7 kV7 dc7 pm7 cd7 ct7 : Value}
    {f8 : Addr} {od8 an8 : Option Addr} {sl8 : Array (Option Value)} {oc8 kV8 dc8 pm8 cd8 ct8 : Value}
    {f9 : Addr} {od9 an9 : Option Addr} {sl9 : Array (Option Value)} {oc9 kV9 dc9 pm9 cd9 ct9 : Value}
    {f10 : Addr} {od10 an10 : Option Addr} {sl10 : Array (Option Value)} {oc10 kV10 dc10 pm10 cd10 ct10 : Value}
    {f11 : Addr} {od11 an11 : Option Addr} {sl11 : Array (Option Value)} {oc11 kV11 dc11 pm11 cd11 ct11 : Value}
    {f12 : Addr} {od12 an12 : Option Addr} {sl12 : Array (Option Value)} {oc12 kV12 dc12 pm12 cd12 ct12 : Value}
    {f13 : Addr} {od13 an13 : Option Addr} {sl13 : Array (Option Value)} {oc13 kV13 dc13 pm13 cd13 ct13 : Value}
    {f14 : Addr} {od14 an14 : Option Addr} {sl14 : Array (Option Value)} {oc14 kV14 dc14 pm14 cd14 ct14 : Value}
    {f15 : Addr} {od15 an15 : Option Addr} {sl15 : Array (Option Value)} {oc15 kV15 dc15 pm15 cd15 ct15 : Value}
    {f16 : Addr} {od16 an16 : Option Addr} {sl16 : Array (Option Value)} {oc16 kV16 dc16 pm16 cd16 ct16 : Value}
    {f17 : Addr} {od17 an17 : Option Addr} {sl17 : Array (Option Value)} {oc17 kV17 dc17 pm17 cd17 ct17 : Value}
    {f18 : Addr} {od18 an18 : Option Addr} {sl18 : Array (Option Value)} {oc18 kV18 dc18 pm18 cd18 ct18 : Value}
    {f19 : Addr} {od19 an19 : Option Addr} {sl19 : Array (Option Value)} {oc19 kV19 dc19 pm19 cd19 ct19 : Value}
    {f20 : Addr} {od20 an20 : Option Addr} {sl20 : Array (Option Value)} {oc20 kV20 dc20 pm20 cd20 ct20 : Value}
    {f21 : Addr} {od21 an21 : Option Addr} {sl21 : Array (Option Value)} {oc21 kV21 dc21 pm21 cd21 ct21 : Value}
    {f22 : Addr} {od22 an22 : Option Addr} {sl22 : Array (Option Value)} {oc22 kV22 dc22 pm22 cd22 ct22 : Value}
    {f23 : Addr} {od23 an23 : Option Addr} {sl23 : Array (Option Value)} {oc23 kV23 dc23 pm23 cd23 ct23 : Value}
    {f24 : Addr} {od24 an24 : Option Addr} {sl24 : Array (Option Value)} {oc24 kV24 dc24 pm24 cd24 ct24 : Value}
    {f25 : Addr} {od25 an25 : Option Addr} {sl25 : Array (Option Value)} {oc25 kV25 dc25 pm25 cd25 ct25 : Value}
    {f26 : Addr} {od26 an26 : Option Addr} {sl26 : Array (Option Value)} {oc26 kV26 dc26 pm26 cd26 ct26 : Value}
    {t_FIGURES : Tok}
    {t_LETTERS : Tok}
    {t_MOST_ARGUMENTS : Tok}
    {t_MOST_DEPTH : Tok}
    {t_MOST_LETTERS : Tok}
    {t_MOST_PARTS : Tok}
    {t_MOST_VALUE : Tok}
    {a_PAIRS : Addr} {d_PAIRS : Option Addr} {n_PAIRS : Nat} {sl_PAIRS : Array (Option Value)} {t_PAIRS0 t_PAIRS1 t_PAIRS2 : Tok}
    {t_VALUES : Tok}
    (LT : ∀ ns : List Int, ns.length ≤ 63 → ∃ L, zlev 40 26 [.scr ns] [] = .ok (.bl true) L) (X : K.In h) (G : h.Ns mainGlobals mg) (hfa : mg "law" = some (.ref fa))
    (aC0 : PySem.W.nsIn K mainGlobals "Words" = some (some (.ref C0)))
    (pg0 : PySem.W.plainGet K C0 Str.empty = true)
    (hd0 : PySem.W.hasDictIn K C0 = true)
    (po0 : PySem.W.plainOver K C0 = true)
    (sa0 : PySem.W.findIn K (.ref C0) "__setattr__" = some (some (.builtin "object.__setattr__")))
    (mk0 : PySem.W.makesIn K C0 = true)
    (kc0 : PySem.W.keepIn K (.ref C0) = true)
    (nf0_is_bad : PySem.W.findIn K (.ref C0) "is_bad" = some none)
    (nf0_left : PySem.W.findIn K (.ref C0) "left" = some none)
    (aC1 : PySem.W.nsIn K mainGlobals "StoreError" = some (some (.ref C1)))
    (aC2 : PySem.W.nsIn K mainGlobals "BadText" = some (some (.ref C2)))
    (xL2 : K.lookup C2 = some (excClassObj nm2 q2 C2 N2 bs2 [.ref C1, .type "ValueError", .type "Exception", .type "BaseException", .type "object"] true sn2 sub2 ab2 col2 dd2 y02 y12 y22 y32 y52 "ValueError.__new__"))
    (xs2 : PySem.W.findIn K (.ref C2) "__setattr__" = some (some (.builtin "object.__setattr__")))
    (xe2 : PySem.W.subIn K (.ref C2) (.type "BaseException") = some true)
    (xy2 : PySem.W.typeIn K (.ref C2) = some (.type "type"))
    (xk2 : PySem.W.keepIn K (.ref C2) = true)
    (xa2 : PySem.W.findIn K (.ref C2) "__getattribute__" = some (some (.builtin "BaseException.__getattribute__")))
    (xb2 : PySem.W.findIn K (.ref C2) "__getattr__" = some none)
    (xd2 : PySem.W.hasDictIn K C2 = true)
    (xo2 : PySem.W.findIn K (.ref C2) "index" = some none)
    (xi2 : PySem.W.findIn K (.ref C2) "__init__" = some (some (.ref f29)))
    (xt2 : PySem.W.typeIn K (.ref f29) = some (.type "function"))
    (l29 : K.lookup f29 = some ⟨oc29, od29, .func (PySem.W.fnOf "__init__" "BadText.__init__" (defArgs (inClass (topS 3) 0)) (defBody (inClass (topS 3) 0)) (defScope (inClass (topS 3) 0)) .none kV29 dc29 pm29 an29 cd29 ct29), sl29⟩)
    (c29 : PySem.W.codeIn K cd29 "BadText.__init__" = true)
    (k29 : PySem.W.keepIn K (.ref f29) = true)
    (xr1 : PySem.W.readsIn K C1 (.type "type") = true)
    (xg1 : PySem.W.specialIn K (.ref C1) "__getattribute__" = some (some (.builtin "type.__getattribute__")))
    (xv1 : PySem.W.findCls K (.ref C1) (.type "type") "__init__" = some (.val (.builtin "ValueError.__init__")))
    (he2 : PySem.W.subIn K (.ref C2) (.type "BaseException") = some true)
    (hi2 : PySem.W.isClsIn K C2 = true)
    (hy2 : PySem.W.typeIn K (.ref C2) = some (.type "type"))
    (xm2_2 : PySem.W.subIn K (.ref C2) (.ref C2) = some true)
    (a0 : PySem.W.nsIn K mainGlobals "_wall" = some (some (.ref f0)))
    (l0 : K.lookup f0 = some ⟨oc0, od0, .func (PySem.W.fnOf "_wall" "_wall" (defArgs s0) (defBody s0) (defScope s0) .none kV0 dc0 pm0 an0 cd0 ct0), sl0⟩)
    (c0 : PySem.W.codeIn K cd0 "_wall" = true)
    (k0 : PySem.W.keepIn K (.ref f0) = true)
    (a1 : PySem.W.nsIn K mainGlobals "is_integer" = some (some (.ref f1)))
    (l1 : K.lookup f1 = some ⟨oc1, od1, .func (PySem.W.fnOf "is_integer" "is_integer" (defArgs s1) (defBody s1) (defScope s1) .none kV1 dc1 pm1 an1 cd1 ct1), sl1⟩)
    (c1 : PySem.W.codeIn K cd1 "is_integer" = true)
    (k1 : PySem.W.keepIn K (.ref f1) = true)
    (a2 : PySem.W.nsIn K mainGlobals "is_between" = some (some (.ref f2)))
    (l2 : K.lookup f2 = some ⟨oc2, od2, .func (PySem.W.fnOf "is_between" "is_between" (defArgs s2) (defBody s2) (defScope s2) .none kV2 dc2 pm2 an2 cd2 ct2), sl2⟩)
    (c2 : PySem.W.codeIn K cd2 "is_between" = true)
    (k2 : PySem.W.keepIn K (.ref f2) = true)
    (a3 : PySem.W.nsIn K mainGlobals "is_value" = some (some (.ref f3)))
    (l3 : K.lookup f3 = some ⟨oc3, od3, .func (PySem.W.fnOf "is_value" "is_value" (defArgs s3) (defBody s3) (defScope s3) .none kV3 dc3 pm3 an3 cd3 ct3), sl3⟩)
    (c3 : PySem.W.codeIn K cd3 "is_value" = true)
    (k3 : PySem.W.keepIn K (.ref f3) = true)
    (a4 : PySem.W.nsIn K mainGlobals "is_name" = some (some (.ref f4)))
    (l4 : K.lookup f4 = some ⟨oc4, od4, .func (PySem.W.fnOf "is_name" "is_name" (defArgs s4) (defBody s4) (defScope s4) .none kV4 dc4 pm4 an4 cd4 ct4), sl4⟩)
    (c4 : PySem.W.codeIn K cd4 "is_name" = true)
    (k4 : PySem.W.keepIn K (.ref f4) = true)
    (a5 : PySem.W.nsIn K mainGlobals "has_kind" = some (some (.ref f5)))
    (l5 : K.lookup f5 = some ⟨oc5, od5, .func (PySem.W.fnOf "has_kind" "has_kind" (defArgs s5) (defBody s5) (defScope s5) .none kV5 dc5 pm5 an5 cd5 ct5), sl5⟩)
    (c5 : PySem.W.codeIn K cd5 "has_kind" = true)
    (k5 : PySem.W.keepIn K (.ref f5) = true)
    (a6 : PySem.W.nsIn K mainGlobals "inner_terms" = some (some (.ref f6)))
    (l6 : K.lookup f6 = some ⟨oc6, od6, .func (PySem.W.fnOf "inner_terms" "inner_terms" (defArgs s6) (defBody s6) (defScope s6) .none kV6 dc6 pm6 an6 cd6 ct6), sl6⟩)
    (c6 : PySem.W.codeIn K cd6 "inner_terms" = true)
    (k6 : PySem.W.keepIn K (.ref f6) = true)
    (a7 : PySem.W.nsIn K mainGlobals "has_form" = some (some (.ref f7)))
    (l7 : K.lookup f7 = some ⟨oc7, od7, .func (PySem.W.fnOf "has_form" "has_form" (defArgs s7) (defBody s7) (defScope s7) .none kV7 dc7 pm7 an7 cd7 ct7), sl7⟩)
    (c7 : PySem.W.codeIn K cd7 "has_form" = true)
    (k7 : PySem.W.keepIn K (.ref f7) = true)
    (a8 : PySem.W.nsIn K mainGlobals "is_term" = some (some (.ref f8)))
    (l8 : K.lookup f8 = some ⟨oc8, od8, .func (PySem.W.fnOf "is_term" "is_term" (defArgs s8) (defBody s8) (defScope s8) .none kV8 dc8 pm8 an8 cd8 ct8), sl8⟩)
    (c8 : PySem.W.codeIn K cd8 "is_term" = true)
    (k8 : PySem.W.keepIn K (.ref f8) = true)
    (a9 : PySem.W.nsIn K mainGlobals "write_term" = some (some (.ref f9)))
    (l9 : K.lookup f9 = some ⟨oc9, od9, .func (PySem.W.fnOf "write_term" "write_term" (defArgs s9) (defBody s9) (defScope s9) .none kV9 dc9 pm9 an9 cd9 ct9), sl9⟩)
    (c9 : PySem.W.codeIn K cd9 "write_term" = true)
    (k9 : PySem.W.keepIn K (.ref f9) = true)
    (a10 : PySem.W.findIn K (.ref C0) "__init__" = some (some (.ref f10)))
    (i10 : PySem.W.isFn K (.ref f10) = true)
    (l10 : K.lookup f10 = some ⟨oc10, od10, .func (PySem.W.fnOf "__init__" "Words.__init__" (defArgs s10) (defBody s10) (defScope s10) .none kV10 dc10 pm10 an10 cd10 ct10), sl10⟩)
    (c10 : PySem.W.codeIn K cd10 "Words.__init__" = true)
    (k10 : PySem.W.keepIn K (.ref f10) = true)
    (a11 : PySem.W.findIn K (.ref C0) "pull" = some (some (.ref f11)))
    (i11 : PySem.W.isFn K (.ref f11) = true)
    (l11 : K.lookup f11 = some ⟨oc11, od11, .func (PySem.W.fnOf "pull" "Words.pull" (defArgs s11) (defBody s11) (defScope s11) .none kV11 dc11 pm11 an11 cd11 ct11), sl11⟩)
    (c11 : PySem.W.codeIn K cd11 "Words.pull" = true)
    (k11 : PySem.W.keepIn K (.ref f11) = true)
    (a12 : PySem.W.findIn K (.ref C0) "pull_one" = some (some (.ref f12)))
    (i12 : PySem.W.isFn K (.ref f12) = true)
    (l12 : K.lookup f12 = some ⟨oc12, od12, .func (PySem.W.fnOf "pull_one" "Words.pull_one" (defArgs s12) (defBody s12) (defScope s12) .none kV12 dc12 pm12 an12 cd12 ct12), sl12⟩)
    (c12 : PySem.W.codeIn K cd12 "Words.pull_one" = true)
    (k12 : PySem.W.keepIn K (.ref f12) = true)
    (a13 : PySem.W.findIn K (.ref C0) "pull_figure" = some (some (.ref f13)))
    (i13 : PySem.W.isFn K (.ref f13) = true)
    (l13 : K.lookup f13 = some ⟨oc13, od13, .func (PySem.W.fnOf "pull_figure" "Words.pull_figure" (defArgs s13) (defBody s13) (defScope s13) .none kV13 dc13 pm13 an13 cd13 ct13), sl13⟩)
    (c13 : PySem.W.codeIn K cd13 "Words.pull_figure" = true)
    (k13 : PySem.W.keepIn K (.ref f13) = true)
    (a14 : PySem.W.findIn K (.ref C0) "pull_name" = some (some (.ref f14)))
    (i14 : PySem.W.isFn K (.ref f14) = true)
    (l14 : K.lookup f14 = some ⟨oc14, od14, .func (PySem.W.fnOf "pull_name" "Words.pull_name" (defArgs s14) (defBody s14) (defScope s14) .none kV14 dc14 pm14 an14 cd14 ct14), sl14⟩)
    (c14 : PySem.W.codeIn K cd14 "Words.pull_name" = true)
    (k14 : PySem.W.keepIn K (.ref f14) = true)
    (a15 : PySem.W.findIn K (.ref C0) "is_done" = some (some (.ref f15)))
    (i15 : PySem.W.isFn K (.ref f15) = true)
    (l15 : K.lookup f15 = some ⟨oc15, od15, .func (PySem.W.fnOf "is_done" "Words.is_done" (defArgs s15) (defBody s15) (defScope s15) .none kV15 dc15 pm15 an15 cd15 ct15), sl15⟩)
    (c15 : PySem.W.codeIn K cd15 "Words.is_done" = true)
    (k15 : PySem.W.keepIn K (.ref f15) = true)
    (a16 : PySem.W.nsIn K mainGlobals "pulled_term" = some (some (.ref f16)))
    (l16 : K.lookup f16 = some ⟨oc16, od16, .func (PySem.W.fnOf "pulled_term" "pulled_term" (defArgs s16) (defBody s16) (defScope s16) .none kV16 dc16 pm16 an16 cd16 ct16), sl16⟩)
    (c16 : PySem.W.codeIn K cd16 "pulled_term" = true)
    (k16 : PySem.W.keepIn K (.ref f16) = true)
    (a17 : PySem.W.nsIn K mainGlobals "term_in" = some (some (.ref f17)))
    (l17 : K.lookup f17 = some ⟨oc17, od17, .func (PySem.W.fnOf "term_in" "term_in" (defArgs s17) (defBody s17) (defScope s17) .none kV17 dc17 pm17 an17 cd17 ct17), sl17⟩)
    (c17 : PySem.W.codeIn K cd17 "term_in" = true)
    (k17 : PySem.W.keepIn K (.ref f17) = true)
    (a18 : PySem.W.nsIn K mainGlobals "read_term" = some (some (.ref f18)))
    (l18 : K.lookup f18 = some ⟨oc18, od18, .func (PySem.W.fnOf "read_term" "read_term" (defArgs s18) (defBody s18) (defScope s18) .none kV18 dc18 pm18 an18 cd18 ct18), sl18⟩)
    (c18 : PySem.W.codeIn K cd18 "read_term" = true)
    (k18 : PySem.W.keepIn K (.ref f18) = true)
    (a19 : PySem.W.nsIn K mainGlobals "_law_pool" = some (some (.ref f19)))
    (l19 : K.lookup f19 = some ⟨oc19, od19, .func (PySem.W.fnOf "_law_pool" "_law_pool" (defArgs s19) (defBody s19) (defScope s19) .none kV19 dc19 pm19 an19 cd19 ct19), sl19⟩)
    (c19 : PySem.W.codeIn K cd19 "_law_pool" = true)
    (k19 : PySem.W.keepIn K (.ref f19) = true)
    (a20 : PySem.W.nsIn K mainGlobals "_law_draw" = some (some (.ref f20)))
    (l20 : K.lookup f20 = some ⟨oc20, od20, .func (PySem.W.fnOf "_law_draw" "_law_draw" (defArgs s20) (defBody s20) (defScope s20) .none kV20 dc20 pm20 an20 cd20 ct20), sl20⟩)
    (c20 : PySem.W.codeIn K cd20 "_law_draw" = true)
    (k20 : PySem.W.keepIn K (.ref f20) = true)
    (a21 : PySem.W.nsIn K mainGlobals "_law_pick" = some (some (.ref f21)))
    (l21 : K.lookup f21 = some ⟨oc21, od21, .func (PySem.W.fnOf "_law_pick" "_law_pick" (defArgs s21) (defBody s21) (defScope s21) .none kV21 dc21 pm21 an21 cd21 ct21), sl21⟩)
    (c21 : PySem.W.codeIn K cd21 "_law_pick" = true)
    (k21 : PySem.W.keepIn K (.ref f21) = true)
    (a22 : PySem.W.nsIn K mainGlobals "_law_names" = some (some (.ref f22)))
    (l22 : K.lookup f22 = some ⟨oc22, od22, .func (PySem.W.fnOf "_law_names" "_law_names" (defArgs s22) (defBody s22) (defScope s22) .none kV22 dc22 pm22 an22 cd22 ct22), sl22⟩)
    (c22 : PySem.W.codeIn K cd22 "_law_names" = true)
    (k22 : PySem.W.keepIn K (.ref f22) = true)
    (a23 : PySem.W.nsIn K mainGlobals "_law_term" = some (some (.ref f23)))
    (l23 : K.lookup f23 = some ⟨oc23, od23, .func (PySem.W.fnOf "_law_term" "_law_term" (defArgs s23) (defBody s23) (defScope s23) .none kV23 dc23 pm23 an23 cd23 ct23), sl23⟩)
    (c23 : PySem.W.codeIn K cd23 "_law_term" = true)
    (k23 : PySem.W.keepIn K (.ref f23) = true)
    (a24 : PySem.W.nsIn K mainGlobals "_law_term_text" = some (some (.ref f24)))
    (l24 : K.lookup f24 = some ⟨oc24, od24, .func (PySem.W.fnOf "_law_term_text" "_law_term_text" (defArgs s24) (defBody s24) (defScope s24) .none kV24 dc24 pm24 an24 cd24 ct24), sl24⟩)
    (c24 : PySem.W.codeIn K cd24 "_law_term_text" = true)
    (k24 : PySem.W.keepIn K (.ref f24) = true)
    (a25 : PySem.W.nsIn K mainGlobals "_law_read" = some (some (.ref f25)))
    (l25 : K.lookup f25 = some ⟨oc25, od25, .func (PySem.W.fnOf "_law_read" "_law_read" (defArgs s25) (defBody s25) (defScope s25) .none kV25 dc25 pm25 an25 cd25 ct25), sl25⟩)
    (c25 : PySem.W.codeIn K cd25 "_law_read" = true)
    (k25 : PySem.W.keepIn K (.ref f25) = true)
    (a26 : PySem.W.nsIn K mainGlobals "law" = some (some (.ref f26)))
    (l26 : K.lookup f26 = some ⟨oc26, od26, .func (PySem.W.fnOf "law" "law" (defArgs s26) (defBody s26) (defScope s26) .none kV26 dc26 pm26 an26 cd26 ct26), sl26⟩)
    (c26 : PySem.W.codeIn K cd26 "law" = true)
    (k26 : PySem.W.keepIn K (.ref f26) = true)
    (z_abs : PySem.W.nsIn K mainGlobals "abs" = some none)
    (z_all : PySem.W.nsIn K mainGlobals "all" = some none)
    (z_any : PySem.W.nsIn K mainGlobals "any" = some none)
    (z_bool : PySem.W.nsIn K mainGlobals "bool" = some none)
    (z_int : PySem.W.nsIn K mainGlobals "int" = some none)
    (z_isinstance : PySem.W.nsIn K mainGlobals "isinstance" = some none)
    (z_len : PySem.W.nsIn K mainGlobals "len" = some none)
    (z_list : PySem.W.nsIn K mainGlobals "list" = some none)
    (z_max : PySem.W.nsIn K mainGlobals "max" = some none)
    (z_min : PySem.W.nsIn K mainGlobals "min" = some none)
    (z_range : PySem.W.nsIn K mainGlobals "range" = some none)
    (z_str : PySem.W.nsIn K mainGlobals "str" = some none)
    (z_sum : PySem.W.nsIn K mainGlobals "sum" = some none)
    (z_tuple : PySem.W.nsIn K mainGlobals "tuple" = some none)
    (g_FIGURES : PySem.W.nsIn K mainGlobals "FIGURES" = some (some (.str "0123456789" t_FIGURES)))
    (g_LETTERS : PySem.W.nsIn K mainGlobals "LETTERS" = some (some (.str "abcdefghijklmnopqrstuvwxyz" t_LETTERS)))
    (g_MOST_ARGUMENTS : PySem.W.nsIn K mainGlobals "MOST_ARGUMENTS" = some (some (.int 2 t_MOST_ARGUMENTS)))
    (g_MOST_DEPTH : PySem.W.nsIn K mainGlobals "MOST_DEPTH" = some (some (.int 8 t_MOST_DEPTH)))
    (g_MOST_LETTERS : PySem.W.nsIn K mainGlobals "MOST_LETTERS" = some (some (.int 8 t_MOST_LETTERS)))
    (g_MOST_PARTS : PySem.W.nsIn K mainGlobals "MOST_PARTS" = some (some (.int 30 t_MOST_PARTS)))
    (g_MOST_VALUE : PySem.W.nsIn K mainGlobals "MOST_VALUE" = some (some (.int 2 t_MOST_VALUE)))
    (g_PAIRS : PySem.W.nsIn K mainGlobals "PAIRS" = some (some (.ref a_PAIRS)))
    (h_PAIRS : K.lookup a_PAIRS = some ⟨.type "tuple", d_PAIRS, .seq ([.str "plus" t_PAIRS0, .str "less" t_PAIRS1, .str "same" t_PAIRS2] : List Value).toArray n_PAIRS, sl_PAIRS⟩)
    (g_VALUES : PySem.W.nsIn K mainGlobals "VALUES" = some (some (.str "012" t_VALUES)))
    : ∃ fd : FuncData, (∀ (s : Shared) (v : Value), BindsTo s fd ⟨[v], []⟩ [("script", v)]) ∧ ∀ base : Heap, K.In base → base.Ns mainGlobals mg → FnOk PySem.Challenge.rw_looseties_k79_whole_terms_as_texts.prog w K mg base (L2.CX PySem.Challenge.rw_looseties_k79_whole_terms_as_texts.prog w) 81 fa fd ["script"] (spL K) := by
  have e := hfa.symm.trans (PySem.W.mg_of X G a26)
  cases e
  have F0 := fun_mk (st := s0) l0 c0 k0
  have F1 := fun_mk (st := s1) l1 c1 k1
  have F2 := fun_mk (st := s2) l2 c2 k2
  have F3 := fun_mk (st := s3) l3 c3 k3
  have F4 := fun_mk (st := s4) l4 c4 k4
  have F5 := fun_mk (st := s5) l5 c5 k5
  have F6 := fun_mk (st := s6) l6 c6 k6
  have F7 := fun_mk (st := s7) l7 c7 k7
  have F8 := fun_mk (st := s8) l8 c8 k8
  have F9 := fun_mk (st := s9) l9 c9 k9
  have F10 := fun_mk (st := s10) l10 c10 k10
  have F11 := fun_mk (st := s11) l11 c11 k11
  have F12 := fun_mk (st := s12) l12 c12 k12
  have F13 := fun_mk (st := s13) l13 c13 k13
  have F14 := fun_mk (st := s14) l14 c14 k14
  have F15 := fun_mk (st := s15) l15 c15 k15
  have F16 := fun_mk (st := s16) l16 c16 k16
  have F17 := fun_mk (st := s17) l17 c17 k17
  have F18 := fun_mk (st := s18) l18 c18 k18
  have F19 := fun_mk (st := s19) l19 c19 k19
  have F20 := fun_mk (st := s20) l20 c20 k20
  have F21 := fun_mk (st := s21) l21 c21 k21
  have F22 := fun_mk (st := s22) l22 c22 k22
  have F23 := fun_mk (st := s23) l23 c23 k23
  have F24 := fun_mk (st := s24) l24 c24 k24
  have F25 := fun_mk (st := s25) l25 c25 k25
  have F26 := fun_mk (st := s26) l26 c26 k26
  have F29 := fun_mk (st := inClass (topS 3) 0) l29 c29 k29
  let Γ : Z.Ctx := ⟨K, fun i => match i with | 0 => C0 | 1 => C1 | 2 => C2 | _ => 0, fun i => match i with | 0 => f0 | 1 => f1 | 2 => f2 | 3 => f3 | 4 => f4 | 5 => f5 | 6 => f6 | 7 => f7 | 8 => f8 | 9 => f9 | 10 => f10 | 11 => f11 | 12 => f12 | 13 => f13 | 14 => f14 | 15 => f15 | 16 => f16 | 17 => f17 | 18 => f18 | 19 => f19 | 20 => f20 | 21 => f21 | 22 => f22 | 23 => f23 | 24 => f24 | 25 => f25 | 26 => fa | 29 => f29 | _ => 0⟩
  let fd : Nat → FuncData := fun i => match i with | 0 => PySem.W.fnOf "_wall" "_wall" (defArgs s0) (defBody s0) (defScope s0) .none kV0 dc0 pm0 an0 cd0 ct0 | 1 => PySem.W.fnOf "is_integer" "is_integer" (defArgs s1) (defBody s1) (defScope s1) .none kV1 dc1 pm1 an1 cd1 ct1 | 2 => PySem.W.fnOf "is_between" "is_between" (defArgs s2) (defBody s2) (defScope s2) .none kV2 dc2 pm2 an2 cd2 ct2 | 3 => PySem.W.fnOf "is_value" "is_value" (defArgs s3) (defBody s3) (defScope s3) .none kV3 dc3 pm3 an3 cd3 ct3 | 4 => PySem.W.fnOf "is_name" "is_name" (defArgs s4) (defBody s4) (defScope s4) .none kV4 dc4 pm4 an4 cd4 ct4 | 5 => PySem.W.fnOf "has_kind" "has_kind" (defArgs s5) (defBody s5) (defScope s5) .none kV5 dc5 pm5 an5 cd5 ct5 | 6 => PySem.W.fnOf "inner_terms" "inner_terms" (defArgs s6) (defBody s6) (defScope s6) .none kV6 dc6 pm6 an6 cd6 ct6 | 7 => PySem.W.fnOf "has_form" "has_form" (defArgs s7) (defBody s7) (defScope s7) .none kV7 dc7 pm7 an7 cd7 ct7 | 8 => PySem.W.fnOf "is_term" "is_term" (defArgs s8) (defBody s8) (defScope s8) .none kV8 dc8 pm8 an8 cd8 ct8 | 9 => PySem.W.fnOf "write_term" "write_term" (defArgs s9) (defBody s9) (defScope s9) .none kV9 dc9 pm9 an9 cd9 ct9 | 10 => PySem.W.fnOf "__init__" "Words.__init__" (defArgs s10) (defBody s10) (defScope s10) .none kV10 dc10 pm10 an10 cd10 ct10 | 11 => PySem.W.fnOf "pull" "Words.pull" (defArgs s11) (defBody s11) (defScope s11) .none kV11 dc11 pm11 an11 cd11 ct11 | 12 => PySem.W.fnOf "pull_one" "Words.pull_one" (defArgs s12) (defBody s12) (defScope s12) .none kV12 dc12 pm12 an12 cd12 ct12 | 13 => PySem.W.fnOf "pull_figure" "Words.pull_figure" (defArgs s13) (defBody s13) (defScope s13) .none kV13 dc13 pm13 an13 cd13 ct13 | 14 => PySem.W.fnOf "pull_name" "Words.pull_name" (defArgs s14) (defBody s14) (defScope s14) .none kV14 dc14 pm14 an14 cd14 ct14 | 15 => PySem.W.fnOf "is_done" "Words.is_done" (defArgs s15) (defBody s15) (defScope s15) .none kV15 dc15 pm15 an15 cd15 ct15 | 16 => PySem.W.fnOf "pulled_term" "pulled_term" (defArgs s16) (defBody s16) (defScope s16) .none kV16 dc16 pm16 an16 cd16 ct16 | 17 => PySem.W.fnOf "term_in" "term_in" (defArgs s17) (defBody s17) (defScope s17) .none kV17 dc17 pm17 an17 cd17 ct17 | 18 => PySem.W.fnOf "read_term" "read_term" (defArgs s18) (defBody s18) (defScope s18) .none kV18 dc18 pm18 an18 cd18 ct18 | 19 => PySem.W.fnOf "_law_pool" "_law_pool" (defArgs s19) (defBody s19) (defScope s19) .none kV19 dc19 pm19 an19 cd19 ct19 | 20 => PySem.W.fnOf "_law_draw" "_law_draw" (defArgs s20) (defBody s20) (defScope s20) .none kV20 dc20 pm20 an20 cd20 ct20 | 21 => PySem.W.fnOf "_law_pick" "_law_pick" (defArgs s21) (defBody s21) (defScope s21) .none kV21 dc21 pm21 an21 cd21 ct21 | 22 => PySem.W.fnOf "_law_names" "_law_names" (defArgs s22) (defBody s22) (defScope s22) .none kV22 dc22 pm22 an22 cd22 ct22 | 23 => PySem.W.fnOf "_law_term" "_law_term" (defArgs s23) (defBody s23) (defScope s23) .none kV23 dc23 pm23 an23 cd23 ct23 | 24 => PySem.W.fnOf "_law_term_text" "_law_term_text" (defArgs s24) (defBody s24) (defScope s24) .none kV24 dc24 pm24 an24 cd24 ct24 | 25 => PySem.W.fnOf "_law_read" "_law_read" (defArgs s25) (defBody s25) (defScope s25) .none kV25 dc25 pm25 an25 cd25 ct25 | 26 => PySem.W.fnOf "law" "law" (defArgs s26) (defBody s26) (defScope s26) .none kV26 dc26 pm26 an26 cd26 ct26 | 29 => PySem.W.fnOf "__init__" "BadText.__init__" (defArgs (inClass (topS 3) 0)) (defBody (inClass (topS 3) 0)) (defScope (inClass (topS 3) 0)) .none kV29 dc29 pm29 an29 cd29 ct29 | _ => PySem.W.fnOf "law" "law" (defArgs s26) (defBody s26) (defScope s26) .none kV26 dc26 pm26 an26 cd26 ct26
  have Zf : Fx K mg Γ fd := {
      hK := rfl,
      u0 := F0,
      m0 := PySem.W.mg_of X G a0,
      b0 := F0.binds (fun _ _ _ _ _ _ us hl => match us, hl with | [_], _ => rfl),
      u1 := F1,
      m1 := PySem.W.mg_of X G a1,
      b1 := F1.binds (fun _ _ _ _ _ _ us hl => match us, hl with | [_], _ => rfl),
      u2 := F2,
      m2 := PySem.W.mg_of X G a2,
      b2 := F2.binds (fun _ _ _ _ _ _ us hl => match us, hl with | [_, _, _], _ => rfl),
      u3 := F3,
      m3 := PySem.W.mg_of X G a3,
      b3 := F3.binds (fun _ _ _ _ _ _ us hl => match us, hl with | [_], _ => rfl),
      u4 := F4,
      m4 := PySem.W.mg_of X G a4,
      b4 := F4.binds (fun _ _ _ _ _ _ us hl => match us, hl with | [_], _ => rfl),
      u5 := F5,
      m5 := PySem.W.mg_of X G a5,
      b5 := F5.binds (fun _ _ _ _ _ _ us hl => match us, hl with | [_, _, _], _ => rfl),
      u6 := F6,
      m6 := PySem.W.mg_of X G a6,
      b6 := F6.binds (fun _ _ _ _ _ _ us hl => match us, hl with | [_], _ => rfl),
      u7 := F7,
      m7 := PySem.W.mg_of X G a7,
      b7 := F7.binds (fun _ _ _ _ _ _ us hl => match us, hl with | [_, _], _ => rfl),
      u8 := F8,
      m8 := PySem.W.mg_of X G a8,
      b8 := F8.binds (fun _ _ _ _ _ _ us hl => match us, hl with | [_, _], _ => rfl),
      u9 := F9,
      m9 := PySem.W.mg_of X G a9,
      b9 := F9.binds (fun _ _ _ _ _ _ us hl => match us, hl with | [_], _ => rfl),
      u10 := F10,
      b10 := F10.binds (fun _ _ _ _ _ _ us hl => match us, hl with | [_, _], _ => rfl),
      u11 := F11,
      b11 := F11.binds (fun _ _ _ _ _ _ us hl => match us, hl with | [_], _ => rfl),
      u12 := F12,
      b12 := F12.binds (fun _ _ _ _ _ _ us hl => match us, hl with | [_, _], _ => rfl),
      u13 := F13,
      b13 := F13.binds (fun _ _ _ _ _ _ us hl => match us, hl with | [_, _, _], _ => rfl),
      u14 := F14,
      b14 := F14.binds (fun _ _ _ _ _ _ us hl => match us, hl with | [_], _ => rfl),
      u15 := F15,
      b15 := F15.binds (fun _ _ _ _ _ _ us hl => match us, hl with | [_], _ => rfl),
      u16 := F16,
      m16 := PySem.W.mg_of X G a16,
      b16 := F16.binds (fun _ _ _ _ _ _ us hl => match us, hl with | [_, _], _ => rfl),
      u17 := F17,
      m17 := PySem.W.mg_of X G a17,
      b17 := F17.binds (fun _ _ _ _ _ _ us hl => match us, hl with | [_, _], _ => rfl),
      u18 := F18,
      m18 := PySem.W.mg_of X G a18,
      b18 := F18.binds (fun _ _ _ _ _ _ us hl => match us, hl with | [_, _], _ => rfl),
      u19 := F19,
      m19 := PySem.W.mg_of X G a19,
      b19 := F19.binds (fun _ _ _ _ _ _ us hl => match us, hl with | [_, _], _ => rfl),
      u20 := F20,
      m20 := PySem.W.mg_of X G a20,
      b20 := F20.binds (fun _ _ _ _ _ _ us hl => match us, hl with | [_, _], _ => rfl),
      u21 := F21,
      m21 := PySem.W.mg_of X G a21,
      b21 := F21.binds (fun _ _ _ _ _ _ us hl => match us, hl with | [_, _], _ => rfl),
      u22 := F22,
      m22 := PySem.W.mg_of X G a22,
      b22 := F22.binds (fun _ _ _ _ _ _ us hl => match us, hl with | [_, _], _ => rfl),
      u23 := F23,
      m23 := PySem.W.mg_of X G a23,
      b23 := F23.binds (fun _ _ _ _ _ _ us hl => match us, hl with | [_, _, _, _], _ => rfl),
      u24 := F24,
      m24 := PySem.W.mg_of X G a24,
      b24 := F24.binds (fun _ _ _ _ _ _ us hl => match us, hl with | [_], _ => rfl),
      u25 := F25,
      m25 := PySem.W.mg_of X G a25,
      b25 := F25.binds (fun _ _ _ _ _ _ us hl => match us, hl with | [_, _], _ => rfl),
      u26 := F26,
      m26 := PySem.W.mg_of X G a26,
      b26 := F26.binds (fun _ _ _ _ _ _ us hl => match us, hl with | [_], _ => rfl),
      z_abs := PySem.W.mg_none_of X G z_abs,
      z_all := PySem.W.mg_none_of X G z_all,
      z_any := PySem.W.mg_none_of X G z_any,
      z_bool := PySem.W.mg_none_of X G z_bool,
      z_int := PySem.W.mg_none_of X G z_int,
      z_isinstance := PySem.W.mg_none_of X G z_isinstance,
      z_len := PySem.W.mg_none_of X G z_len,
      z_list := PySem.W.mg_none_of X G z_list,
      z_max := PySem.W.mg_none_of X G z_max,
      z_min := PySem.W.mg_none_of X G z_min,
      z_range := PySem.W.mg_none_of X G z_range,
      z_str := PySem.W.mg_none_of X G z_str,
      z_sum := PySem.W.mg_none_of X G z_sum,
      z_tuple := PySem.W.mg_none_of X G z_tuple,
      cl_0 := ⟨pg0, hd0, po0, sa0⟩,
      na_0_is_bad := nf0_is_bad,
      na_0_left := nf0_left,
      me_0_is_done := ⟨a15, i15, k15⟩,
      me_0_pull := ⟨a11, i11, k11⟩,
      me_0_pull_figure := ⟨a13, i13, k13⟩,
      me_0_pull_name := ⟨a14, i14, k14⟩,
      mk_0 := ⟨mk0, a10, i10, kc0⟩,
      mc_0 := PySem.W.mg_of X G aC0,
      xu_2 := F29,
      bx_2 := F29.binds (fun _ _ _ _ _ _ us hl => match us, hl with | [_, _], _ => rfl),
      ox_2 := ⟨⟨nm2, q2, N2, bs2, _, sn2, sub2, ab2, col2, dd2, y02, y12, y22, y32, y52, xL2, rfl⟩, xs2, xe2, xy2, xk2⟩,
      xI_2 := xi2,
      xT_2 := xt2,
      xn_2 := xo2,
      xf_2 := ⟨xa2, xb2, xe2, xd2⟩,
      xr_1 := xr1,
      xg_1 := xg1,
      xv_1 := xv1,
      mx_1 := PySem.W.mg_of X G aC1,
      mx_2 := PySem.W.mg_of X G aC2,
      xm_2_2 := exm_of he2 hi2 hy2 xm2_2,
      g_FIGURES := gw_str (PySem.W.mg_of X G g_FIGURES),
      g_LETTERS := gw_str (PySem.W.mg_of X G g_LETTERS),
      g_MOST_ARGUMENTS := gw_int (PySem.W.mg_of X G g_MOST_ARGUMENTS),
      g_MOST_DEPTH := gw_int (PySem.W.mg_of X G g_MOST_DEPTH),
      g_MOST_LETTERS := gw_int (PySem.W.mg_of X G g_MOST_LETTERS),
      g_MOST_PARTS := gw_int (PySem.W.mg_of X G g_MOST_PARTS),
      g_MOST_VALUE := gw_int (PySem.W.mg_of X G g_MOST_VALUE),
      g_PAIRS := gw_tup rfl (PySem.W.mg_of X G g_PAIRS) h_PAIRS (RFlat.str (RFlat.str (RFlat.str (RFlat.nil)))) (Nat.le_of_ble_eq_true rfl),
      g_VALUES := gw_str (PySem.W.mg_of X G g_VALUES) }
  refine ⟨fd 26, fun s v => .of_eq rfl, fun base _ _ => ?_⟩
  have T2 := lawOk (P := PySem.Challenge.rw_looseties_k79_whole_terms_as_texts.prog) (w := w) (base := base) Zf
  refine T2.imp fun vs H Q E hq => ?_
  obtain ⟨a, ns, rfl, hS, hl, hO, hQ⟩ := hq
  exact law_end2 (Γ := Γ) rfl hO hS (LT ns hl) hQ
end K79
open PySem PySem.W PyProof.Rows
set_option maxHeartbeats 0 in
theorem PySem.Challenge.cw_looseties_k79_whole_terms_as_texts_holds : PySem.Challenge.rw_looseties_k79_whole_terms_as_texts.Holds := by
  w_on; o_law; k_head; (case hw => w_witness2)
  k_fill
  refine L2.walk_of (l := PySem.Challenge.rw_looseties_k79_whole_terms_as_texts) (n := 63) (k := 81) (x := "script") (CX := fun w => L2.CX PySem.Challenge.rw_looseties_k79_whole_terms_as_texts.prog w) (sp := fun w => K79.spL _) rfl (by decide) rfl ⟨rfl, by decide, by decide⟩ (fun w h Y => PySem.W.kIn_of Y) ?F (fun _ _ a ns hl hO hS => ⟨a, ns, rfl, hS, hl, hO, fun _ => rfl⟩) (fun _ _ _ _ _ h => by obtain ⟨_, _, _, _, _, _, _, _, _, _, _, _, z⟩ := h; exact z)
  case F =>
    intro w mg fa h KX G hmg
    refine' K79.all_mk K79.law_true KX G hmg ?aC0 ?pg0 ?hd0 ?po0 ?sa0 ?mk0 ?kc0 ?nf0_is_bad ?nf0_left ?aC1 ?aC2 ?xL2 ?xs2 ?xe2 ?xy2 ?xk2 ?xa2 ?xb2 ?xd2 ?xo2 ?xi2 ?xt2 ?l29 ?c29 ?k29 ?xr1 ?xg1 ?xv1 ?he2 ?hi2 ?hy2 ?xm2_2 ?a0 ?l0 ?c0 ?k0 ?a1 ?l1 ?c1 ?k1 ?a2 ?l2 ?c2 ?k2 ?a3 ?l3 ?c3 ?k3 ?a4 ?l4 ?c4 ?k4 ?a5 ?l5 ?c5 ?k5 ?a6 ?l6 ?c6 ?k6 ?a7 ?l7 ?c7 ?k7 ?a8 ?l8 ?c8 ?k8 ?a9 ?l9 ?c9 ?k9 ?a10 ?i10 ?l10 ?c10 ?k10 ?a11 ?i11 ?l11 ?c11 ?k11 ?a12 ?i12 ?l12 ?c12 ?k12 ?a13 ?i13 ?l13 ?c13 ?k13 ?a14 ?i14 ?l14 ?c14 ?k14 ?a15 ?i15 ?l15 ?c15 ?k15 ?a16 ?l16 ?c16 ?k16 ?a17 ?l17 ?c17 ?k17 ?a18 ?l18 ?c18 ?k18 ?a19 ?l19 ?c19 ?k19 ?a20 ?l20 ?c20 ?k20 ?a21 ?l21 ?c21 ?k21 ?a22 ?l22 ?c22 ?k22 ?a23 ?l23 ?c23 ?k23 ?a24 ?l24 ?c24 ?k24 ?a25 ?l25 ?c25 ?k25 ?a26 ?l26 ?c26 ?k26 ?z_abs ?z_all ?z_any ?z_bool ?z_int ?z_isinstance ?z_len ?z_list ?z_max ?z_min ?z_range ?z_str ?z_sum ?z_tuple ?g_FIGURES ?g_LETTERS ?g_MOST_ARGUMENTS ?g_MOST_DEPTH ?g_MOST_LETTERS ?g_MOST_PARTS ?g_MOST_VALUE ?g_PAIRS ?h_PAIRS ?g_VALUES
    (case aC0 => k_is)
    (case pg0 => k_is)
    (case hd0 => k_is)
    (case po0 => k_is)
    (case sa0 => k_is)
    (case mk0 => k_is)
    (case kc0 => k_is)
    (case nf0_is_bad => k_is)
    (case nf0_left => k_is)
    (case aC1 => k_is)
    (case aC2 => k_is)
    (case xL2 => k_is)
    (case xs2 => k_is)
    (case xe2 => k_is)
    (case xy2 => k_is)
    (case xk2 => k_is)
    (case xa2 => k_is)
    (case xb2 => k_is)
    (case xd2 => k_is)
    (case xo2 => k_is)
    (case xi2 => k_is)
    (case xt2 => k_is)
    (case l29 => k_is)
    (case c29 => k_is)
    (case k29 => k_is)
    (case xr1 => k_is)
    (case xg1 => k_is)
    (case xv1 => k_is)
    (case he2 => k_is)
    (case hi2 => k_is)
    (case hy2 => k_is)
    (case xm2_2 => first | rfl | k_is)
    (case a0 => k_is)
    (case l0 => k_is)
    (case c0 => k_is)
    (case k0 => k_is)
    (case a1 => k_is)
    (case l1 => k_is)
    (case c1 => k_is)
    (case k1 => k_is)
    (case a2 => k_is)
    (case l2 => k_is)
    (case c2 => k_is)
    (case k2 => k_is)
    (case a3 => k_is)
    (case l3 => k_is)
    (case c3 => k_is)
    (case k3 => k_is)
    (case a4 => k_is)
    (case l4 => k_is)
    (case c4 => k_is)
    (case k4 => k_is)
    (case a5 => k_is)
    (case l5 => k_is)
    (case c5 => k_is)
    (case k5 => k_is)
    (case a6 => k_is)
    (case l6 => k_is)
    (case c6 => k_is)
    (case k6 => k_is)
    (case a7 => k_is)
    (case l7 => k_is)
    (case c7 => k_is)
    (case k7 => k_is)
    (case a8 => k_is)
    (case l8 => k_is)
    (case c8 => k_is)
    (case k8 => k_is)
    (case a9 => k_is)
    (case l9 => k_is)
    (case c9 => k_is)
    (case k9 => k_is)
    (case a10 => k_is)
    (case i10 => k_is)
    (case l10 => k_is)
    (case c10 => k_is)
    (case k10 => k_is)
    (case a11 => k_is)
    (case i11 => k_is)
    (case l11 => k_is)
    (case c11 => k_is)
    (case k11 => k_is)
    (case a12 => k_is)
    (case i12 => k_is)
    (case l12 => k_is)
    (case c12 => k_is)
    (case k12 => k_is)
    (case a13 => k_is)
    (case i13 => k_is)
    (case l13 => k_is)
    (case c13 => k_is)
    (case k13 => k_is)
    (case a14 => k_is)
    (case i14 => k_is)
    (case l14 => k_is)
    (case c14 => k_is)
    (case k14 => k_is)
    (case a15 => k_is)
    (case i15 => k_is)
    (case l15 => k_is)
    (case c15 => k_is)
    (case k15 => k_is)
    (case a16 => k_is)
    (case l16 => k_is)
    (case c16 => k_is)
    (case k16 => k_is)
    (case a17 => k_is)
    (case l17 => k_is)
    (case c17 => k_is)
    (case k17 => k_is)
    (case a18 => k_is)
    (case l18 => k_is)
    (case c18 => k_is)
    (case k18 => k_is)
    (case a19 => k_is)
    (case l19 => k_is)
    (case c19 => k_is)
    (case k19 => k_is)
    (case a20 => k_is)
    (case l20 => k_is)
    (case c20 => k_is)
    (case k20 => k_is)
    (case a21 => k_is)
    (case l21 => k_is)
    (case c21 => k_is)
    (case k21 => k_is)
    (case a22 => k_is)
    (case l22 => k_is)
    (case c22 => k_is)
    (case k22 => k_is)
    (case a23 => k_is)
    (case l23 => k_is)
    (case c23 => k_is)
    (case k23 => k_is)
    (case a24 => k_is)
    (case l24 => k_is)
    (case c24 => k_is)
    (case k24 => k_is)
    (case a25 => k_is)
    (case l25 => k_is)
    (case c25 => k_is)
    (case k25 => k_is)
    (case a26 => k_is)
    (case l26 => k_is)
    (case c26 => k_is)
    (case k26 => k_is)
    (case z_abs => k_is)
    (case z_all => k_is)
    (case z_any => k_is)
    (case z_bool => k_is)
    (case z_int => k_is)
    (case z_isinstance => k_is)
    (case z_len => k_is)
    (case z_list => k_is)
    (case z_max => k_is)
    (case z_min => k_is)
    (case z_range => k_is)
    (case z_str => k_is)
    (case z_sum => k_is)
    (case z_tuple => k_is)
    (case g_FIGURES => k_is)
    (case g_LETTERS => k_is)
    (case g_MOST_ARGUMENTS => k_is)
    (case g_MOST_DEPTH => k_is)
    (case g_MOST_LETTERS => k_is)
    (case g_MOST_PARTS => k_is)
    (case g_MOST_VALUE => k_is)
    (case g_PAIRS => k_is)
    (case h_PAIRS => k_is)
    (case g_VALUES => k_is)
