import PyProof.Rows.All
import Wide.All
import OpenK.AllK
import Wide.FinOn
import HandS.ForMost
import HandS.Exc
import HandS.TryOnly
import HandS.ExcOwn
import HandS.WordsExc
import HandS.CallSlots
import HandS.Wide
import HandS.IsInst
import PyProof.StrBlock2
import HandS.TupLen
import HandS.New0
import HandS.ExcIs
import HandS.Comp
import HandS.SetFor
import PySem.Challenge.RW_trustways_k81_rows_refused
set_option Elab.async false
set_option linter.all false
set_option maxRecDepth 100000
set_option maxHeartbeats 4000000
/-! Pure values, their representation over the abstract heap, the mirror's monad, the judgements. -/
namespace Wk
open PySem PySem.Spec PyProof.Rows L2

/-! ### classes of the program -/
inductive Cl where
  | book | deed | join | leave | trust | pay | turn | desk
  deriving DecidableEq, Repr
inductive Ex where
  | noHouse | twice | noAmount | tooLow | noChain | noRoom | tooMuch | noWish | stillOwes | tooMany | noRow
  deriving DecidableEq, Repr
def flds : Cl → List Str
  | .book => ["houses", "lines", "owed"]
  | .deed => []
  | .join => ["house"]
  | .leave => ["house"]
  | .trust => ["one", "other", "line"]
  | .pay => ["payer", "taker", "amount"]
  | .turn => ["ring", "amount"]
  | .desk => ["book"]

/-! ### pure values -/
inductive D where
  | non | bl (b : Bool) | int (i : Int) | str (x : Str)
  | lst (xs : List D) | tup (xs : List D)
  /-- t: keys are tuples; else each key is the one item of its list -/
  | dct (t : Bool) (kvs : List (List Key × D))
  | ins (c : Cl) (xs : List D)
  /-- the script -/
  | scr (ns : List Int)
  /-- a caught exception, nothing said of it -/
  | adr (a : Addr)
instance : Inhabited D := ⟨.non⟩

/-- what stands at a program point in a slot: a value that is not written to, or an object of the def's own -/
inductive T where
  | sh (d : D)
  | oL (ts : List T)
  | oD (t : Bool) (kvs : List (List Key × D))
mutual
def T.toD : T → D
  | .sh d => d
  | .oL ts => .lst (T.toDs ts)
  | .oD t kvs => .dct t kvs
def T.toDs : List T → List D
  | [] => []
  | t :: ts => t.toD :: T.toDs ts
end

/-! ### the mirror's monads: of expressions, of statements -/
inductive X (α : Type) where
  | ok (a : α) | exc (c : Ex) | bad
inductive M (α : Type) where
  | ok (a : α) | ret (t : T) | exc (c : Ex) | bad
def X.bind {α β : Type} (m : X α) (f : α → X β) : X β :=
  match m with
  | .ok a => f a
  | .exc c => .exc c
  | .bad => .bad
/-- an expression, then what a statement does with it -/
def X.to {α β : Type} (m : X α) (f : α → M β) : M β :=
  match m with
  | .ok a => f a
  | .exc c => .exc c
  | .bad => .bad
def M.bind {α β : Type} (m : M α) (f : α → M β) : M β :=
  match m with
  | .ok a => f a
  | .ret t => .ret t
  | .exc c => .exc c
  | .bad => .bad
def X.of {α : Type} : Option α → X α
  | some a => .ok a
  | none => .bad
/-- what a call hands back -/
def M.fn (m : M Unit) : X D :=
  match m with
  | .ok _ => .ok .non
  | .ret t => .ok t.toD
  | .exc c => .exc c
  | .bad => .bad
def M.fnT (m : M Unit) : X T :=
  match m with
  | .ok _ => .ok (.sh .non)
  | .ret t => .ok t
  | .exc c => .exc c
  | .bad => .bad

/-! ### heaps -/
def isDct : HO → Bool
  | .dK _ => true
  | .dT _ => true
  | _ => false
def isTup : HO → Bool
  | .tup _ => true
  | _ => false
/-- all that G knows is in H (a dict may be locked) -/
def Le (G H : Hp) : Prop := ∀ a o, G a = some o → H a = some o ∨ (isDct o = true ∧ ∃ ob, H a = some (.frz ob o))
theorem Le.refl (G : Hp) : Le G G := fun _ _ h => .inl h
theorem Le.trans {A B C : Hp} (x : Le A B) (y : Le B C) : Le A C := fun a o h => by
  rcases x a o h with h1 | ⟨d, ob, h1⟩
  · exact y a o h1
  · rcases y a _ h1 with h2 | ⟨d2, _⟩
    · exact .inr ⟨d, ob, h2⟩
    · exact absurd (show false = true from d2) Bool.false_ne_true
theorem Le.of_same {A B : Hp} (x : Same A B) : Le A B := fun a o h => .inl (x a o h)
theorem Le.at {G H : Hp} (x : Le G H) {a : Addr} {o : HO} (h : G a = some o) (hd : isDct o = false) : H a = some o := by
  rcases x a o h with h1 | ⟨d, _⟩
  · exact h1
  · rw [hd] at d; cases d
theorem Le.rd {G H : Hp} (x : Le G H) {a : Addr} {o : HO} (h : Rd G a o) : Rd H a o := by
  rcases h with h | ⟨ob, h⟩
  · rcases x a o h with h1 | ⟨_, ob, h1⟩
    · exact .inl h1
    · exact .inr ⟨ob, h1⟩
  · exact .inr ⟨ob, x.at h rfl⟩
theorem Le.sqL {K : PySem.W.Frag} {G H : Hp} (x : Le G H) {a : Addr} {vs : List V} (h : SqL K G a vs) : SqL K H a vs := by
  rcases h with h | h
  · exact .inl (x.rd h)
  · exact .inr h
theorem Le.none {G H : Hp} (x : Le G H) {a : Addr} (h : H a = none) : G a = none := by
  cases e : G a with
  | none => rfl
  | some o =>
    rcases x a o e with h1 | ⟨_, ob, h1⟩ <;> · rw [h] at h1; cases h1

/-- neither a dict nor a locked one -/
def plain : HO → Bool
  | .dK _ => false
  | .dT _ => false
  | .frz _ u => plain u
  | _ => true
/-- what G tells of values holds in H -/
structure Lq (G H : Hp) : Prop where
  x : ∀ a o, G a = some o → plain o = true → H a = some o
  d : ∀ a u, isDct u = true → Rd G a u → Rd H a u
theorem Le.lq {G H : Hp} (x : Le G H) : Lq G H where
  x := fun a o h p => by
    rcases x a o h with h1 | ⟨d, _⟩
    · exact h1
    · cases o <;> first
        | exact absurd (show false = true from p) Bool.false_ne_true
        | exact absurd (show false = true from d) Bool.false_ne_true
  d := fun a u _ h => x.rd h
theorem Lq.at {G H : Hp} (x : Lq G H) {a : Addr} {o : HO} (h : G a = some o) (hd : plain o = true) : H a = some o := x.x a o h hd
theorem Lq.sqL {K : PySem.W.Frag} {G H : Hp} (x : Lq G H) {a : Addr} {vs : List V} (h : SqL K G a vs) : SqL K H a vs := by
  rcases h with (h | ⟨ob, h⟩) | h
  · exact .inl (.inl (x.at h rfl))
  · exact .inl (.inr ⟨ob, x.at h rfl⟩)
  · exact .inr h
theorem Lq.refl (G : Hp) : Lq G G := (Le.refl G).lq

/-- from (G, H) on: nothing in H is changed, G grows by what is new in H, or by tuples -/
structure Nxt (G H G2 H2 : Hp) : Prop where
  g : Le G G2
  gh : Le G2 H2
  h : Same H H2
  nw : ∀ p o, G p = none → H p = some o → isTup o = false → G2 p = none
theorem Nxt.refl {G H : Hp} (x : Le G H) : Nxt G H G H := ⟨Le.refl _, x, Same.refl _, fun _ _ h _ _ => h⟩
theorem Nxt.trans {G H G2 H2 G3 H3 : Hp} (x : Nxt G H G2 H2) (y : Nxt G2 H2 G3 H3) : Nxt G H G3 H3 :=
  ⟨x.g.trans y.g, y.gh, x.h.trans y.h, fun p o a b c => y.nw p o (x.nw p o a b c) (x.h p o b) c⟩
/-- a new object that is known -/
theorem Nxt.new {G H G2 H2 : Hp} (x : Nxt G H G2 H2) {p : Addr} {o : HO} (hp : H2 p = none) : Nxt G H (upd G2 p o) (upd H2 p o) := by
  have gp : G2 p = none := x.gh.none hp
  refine ⟨fun a u e => ?_, fun a u e => ?_, fun a u e => ?_, fun q u a b c => ?_⟩
  · rcases x.g a u e with h1 | ⟨d, ob, h1⟩
    · exact .inl (by rw [upd_ne (ne_of_none h1 gp)]; exact h1)
    · exact .inr ⟨d, ob, by rw [upd_ne (ne_of_none h1 gp)]; exact h1⟩
  · by_cases z : a = p
    · subst z; rw [upd_same] at e; cases e; exact .inl upd_same
    · rw [upd_ne z] at e
      rw [upd_ne z]
      exact x.gh a u e
  · rw [upd_ne (ne_of_none (x.h a u e) hp)]; exact x.h a u e
  · have hq : H2 q = some u := x.h q u b
    rw [upd_ne (ne_of_none hq hp)]
    exact x.nw q u a b c
/-- a new object that is not known -/
theorem Nxt.newO {G H G2 H2 : Hp} (x : Nxt G H G2 H2) {p : Addr} {o : HO} (hp : H2 p = none) : Nxt G H G2 (upd H2 p o) :=
  ⟨x.g, fun a u e => by
    have z : G2 p = none := x.gh.none hp
    rw [upd_ne (ne_of_none e z)]; exact x.gh a u e,
   fun a u e => by rw [upd_ne (ne_of_none (x.h a u e) hp)]; exact x.h a u e, x.nw⟩

/-! ### what represents what -/
structure Zs where
  K : PySem.W.Frag
  cc : Cl → Addr
  ce : Ex → Addr
/-- a dict of the pairs ws at a -/
def RdD (G : Hp) (a : Addr) (t : Bool) (ws : List (List Key × V)) : Prop :=
  match t with
  | true => Rd G a (.dT ws)
  | false => ∃ us : List (Key × V), ws = us.map (fun p => ([p.1], p.2)) ∧ Rd G a (.dK us)
theorem RdD.mono {G H : Hp} (x : Lq G H) {a : Addr} {t : Bool} {ws : List (List Key × V)} (h : RdD G a t ws) : RdD H a t ws := by
  cases t with
  | true => exact x.d _ _ rfl h
  | false => obtain ⟨us, e, r⟩ := h; exact ⟨us, e, x.d _ _ rfl r⟩
mutual
def Rp (Z : Zs) (G : Hp) : D → V → Prop
  | .non, v => v = .non
  | .bl b, v => v = .bl b
  | .int i, v => v = .int i
  | .str x, v => v = .str x
  | .lst xs, v => ∃ a vs, v = .ref a ∧ G a = some (.lst vs) ∧ RpL Z G xs vs
  | .tup xs, v => ∃ a vs, v = .ref a ∧ G a = some (.tup vs) ∧ RpL Z G xs vs
  | .dct t kvs, v => ∃ a ws, v = .ref a ∧ RdD G a t ws ∧ RpK Z G kvs ws
  | .ins c xs, v => ∃ a dx vs, v = .ref a ∧ G a = some (.ins (Z.cc c) dx ((flds c).zip vs)) ∧ xs.length = (flds c).length ∧ RpL Z G xs vs
  | .scr ns, v => ∃ a, v = .ref a ∧ SqL Z.K G a (ns.map V.int)
  | .adr a, v => v = .ref a
def RpL (Z : Zs) (G : Hp) : List D → List V → Prop
  | [], vs => vs = []
  | x :: xs, vs => ∃ v r, vs = v :: r ∧ Rp Z G x v ∧ RpL Z G xs r
def RpK (Z : Zs) (G : Hp) : List (List Key × D) → List (List Key × V) → Prop
  | [], ws => ws = []
  | p :: xs, ws => ∃ v r, ws = (p.1, v) :: r ∧ RpP Z G p v ∧ RpK Z G xs r
def RpP (Z : Zs) (G : Hp) : List Key × D → V → Prop
  | (_, d), v => Rp Z G d v
end
mutual
theorem Rp.mono {Z : Zs} {G H : Hp} (e : Lq G H) : ∀ {d : D} {v : V}, Rp Z G d v → Rp Z H d v
  | .non, _, h => h
  | .bl _, _, h => h
  | .int _, _, h => h
  | .str _, _, h => h
  | .lst xs, _, h => by
    unfold Rp at h ⊢
    obtain ⟨a, vs, r, g, l⟩ := h
    exact ⟨a, vs, r, e.at g rfl, RpL.mono e l⟩
  | .tup xs, _, h => by
    unfold Rp at h ⊢
    obtain ⟨a, vs, r, g, l⟩ := h
    exact ⟨a, vs, r, e.at g rfl, RpL.mono e l⟩
  | .dct t kvs, _, h => by
    unfold Rp at h ⊢
    obtain ⟨a, vs, r, g, l⟩ := h
    exact ⟨a, vs, r, g.mono e, RpK.mono e l⟩
  | .ins c xs, _, h => by
    unfold Rp at h ⊢
    obtain ⟨a, dx, vs, r, g, n, l⟩ := h
    exact ⟨a, dx, vs, r, e.at g rfl, n, RpL.mono e l⟩
  | .scr ns, _, h => by
    unfold Rp at h ⊢
    obtain ⟨a, r, g⟩ := h
    exact ⟨a, r, e.sqL g⟩
  | .adr _, _, h => h
theorem RpL.mono {Z : Zs} {G H : Hp} (e : Lq G H) : ∀ {ds : List D} {vs : List V}, RpL Z G ds vs → RpL Z H ds vs
  | [], _, h => h
  | d :: ds, _, h => by
    unfold RpL at h ⊢
    obtain ⟨v, r, q, a, b⟩ := h
    exact ⟨v, r, q, Rp.mono e a, RpL.mono e b⟩
theorem RpK.mono {Z : Zs} {G H : Hp} (e : Lq G H) : ∀ {ds : List (List Key × D)} {vs : List (List Key × V)}, RpK Z G ds vs → RpK Z H ds vs
  | [], _, h => h
  | p :: ds, _, h => by
    unfold RpK at h ⊢
    obtain ⟨v, r, q, a, b⟩ := h
    exact ⟨v, r, q, RpP.mono e a, RpK.mono e b⟩
theorem RpP.mono {Z : Zs} {G H : Hp} (e : Lq G H) : ∀ {p : List Key × D} {v : V}, RpP Z G p v → RpP Z H p v
  | (_, d), _, h => by
    unfold RpP at h ⊢
    exact Rp.mono e h
end
end Wk

namespace Wk
open PySem PySem.Spec PyProof.Rows L2

/-! ### slots -/
def ExD (H : Hp) (a : Addr) (t : Bool) (ws : List (List Key × V)) : Prop :=
  match t with
  | true => H a = some (.dT ws)
  | false => ∃ us : List (Key × V), ws = us.map (fun p => ([p.1], p.2)) ∧ H a = some (.dK us)
theorem ExD.rd {H : Hp} {a : Addr} {t : Bool} {ws : List (List Key × V)} (h : ExD H a t ws) : RdD H a t ws := by
  cases t with
  | true => exact .inl h
  | false => obtain ⟨us, e, r⟩ := h; exact ⟨us, e, .inl r⟩
theorem ExD.some {H : Hp} {a : Addr} {t : Bool} {ws : List (List Key × V)} (h : ExD H a t ws) : ∃ o, H a = some o ∧ isTup o = false := by
  cases t with
  | true => exact ⟨_, h, rfl⟩
  | false => obtain ⟨us, e, r⟩ := h; exact ⟨_, r, rfl⟩
theorem ExD.keep {H H' : Hp} {a : Addr} {t : Bool} {ws : List (List Key × V)} (h : ExD H a t ws) (k : ∀ o, H a = Option.some o → H' a = Option.some o) : ExD H' a t ws := by
  cases t with
  | true => exact k _ h
  | false => obtain ⟨us, e, r⟩ := h; exact ⟨us, e, k _ r⟩
mutual
def Tv (Z : Zs) (G H : Hp) : T → V → List Addr → Prop
  | .sh d, v, fp => Rp Z G d v ∧ fp = []
  | .oL ts, v, fp => ∃ p vs r, v = .ref p ∧ G p = none ∧ H p = some (.lst vs) ∧ fp = p :: r ∧ TvL Z G H ts vs r
  | .oD t kvs, v, fp => ∃ p ws, v = .ref p ∧ G p = none ∧ ExD H p t ws ∧ RpK Z G kvs ws ∧ fp = [p]
def TvL (Z : Zs) (G H : Hp) : List T → List V → List Addr → Prop
  | [], vs, fp => vs = [] ∧ fp = []
  | t :: ts, vs, fp => ∃ v r f g, vs = v :: r ∧ fp = f ++ g ∧ Tv Z G H t v f ∧ TvL Z G H ts r g
end
abbrev Env := List (Option T)
def EnvR (Z : Zs) (G H : Hp) : Env → L2.St → List Addr → Prop
  | [], σ, fp => σ = [] ∧ fp = []
  | none :: τ, σ, fp => ∃ v r, σ = v :: r ∧ EnvR Z G H τ r fp
  | some t :: τ, σ, fp => ∃ v r f g, σ = some v :: r ∧ fp = f ++ g ∧ Tv Z G H t v f ∧ EnvR Z G H τ r g

mutual
/-- G grows off the footprint, H keeps it -/
theorem Tv.keep {Z : Zs} {G H G' H' : Hp} (g : Lq G G') : ∀ {t : T} {v : V} {fp : List Addr}, Tv Z G H t v fp → (∀ p ∈ fp, G p = none → G' p = none) → (∀ p ∈ fp, ∀ o, H p = some o → H' p = some o) → Tv Z G' H' t v fp
  | .sh d, v, fp, h, _, _ => by
    unfold Tv at h ⊢
    exact ⟨Rp.mono g h.1, h.2⟩
  | .oL ts, v, fp, h, a, b => by
    unfold Tv at h ⊢
    obtain ⟨p, vs, r, e1, e2, e3, e4, l⟩ := h
    subst e4
    exact ⟨p, vs, r, e1, a p List.mem_cons_self e2, b p List.mem_cons_self _ e3, rfl, TvL.keep g l (fun q hq => a q (List.mem_cons_of_mem _ hq)) fun q hq => b q (List.mem_cons_of_mem _ hq)⟩
  | .oD t kvs, v, fp, h, a, b => by
    unfold Tv at h ⊢
    obtain ⟨p, ws, e1, e2, e3, e4, e5⟩ := h
    subst e5
    exact ⟨p, ws, e1, a p List.mem_cons_self e2, e3.keep (b p List.mem_cons_self), RpK.mono g e4, rfl⟩
theorem TvL.keep {Z : Zs} {G H G' H' : Hp} (g : Lq G G') : ∀ {ts : List T} {vs : List V} {fp : List Addr}, TvL Z G H ts vs fp → (∀ p ∈ fp, G p = none → G' p = none) → (∀ p ∈ fp, ∀ o, H p = some o → H' p = some o) → TvL Z G' H' ts vs fp
  | [], vs, fp, h, _, _ => by unfold TvL at h ⊢; exact h
  | t :: ts, vs, fp, h, a, b => by
    unfold TvL at h ⊢
    obtain ⟨v, r, f, q, e1, e2, e3, e4⟩ := h
    subst e2
    exact ⟨v, r, f, q, e1, rfl, Tv.keep g e3 (fun p hp => a p (List.mem_append_left _ hp)) (fun p hp => b p (List.mem_append_left _ hp)),
      TvL.keep g e4 (fun p hp => a p (List.mem_append_right _ hp)) (fun p hp => b p (List.mem_append_right _ hp))⟩
end
mutual
/-- what is owned is not known, and stands -/
theorem Tv.own {Z : Zs} {G H : Hp} : ∀ {t : T} {v : V} {fp : List Addr}, Tv Z G H t v fp → ∀ p ∈ fp, G p = none ∧ ∃ o, H p = some o ∧ isTup o = false
  | .sh d, v, fp, h => by
    unfold Tv at h
    intro p hp; rw [h.2] at hp; cases hp
  | .oL ts, v, fp, h => by
    unfold Tv at h
    obtain ⟨p, vs, r, e1, e2, e3, e4, l⟩ := h
    subst e4
    intro q hq
    rcases List.mem_cons.mp hq with z | z
    · subst z; exact ⟨e2, _, e3, rfl⟩
    · exact TvL.own l q z
  | .oD t kvs, v, fp, h => by
    unfold Tv at h
    obtain ⟨p, ws, e1, e2, e3, e4, e5⟩ := h
    subst e5
    intro q hq
    have z : q = p := List.mem_singleton.mp hq
    subst z
    exact ⟨e2, e3.some⟩
theorem TvL.own {Z : Zs} {G H : Hp} : ∀ {ts : List T} {vs : List V} {fp : List Addr}, TvL Z G H ts vs fp → ∀ p ∈ fp, G p = none ∧ ∃ o, H p = some o ∧ isTup o = false
  | [], vs, fp, h => by
    unfold TvL at h
    intro p hp; rw [h.2] at hp; cases hp
  | t :: ts, vs, fp, h => by
    unfold TvL at h
    obtain ⟨v, r, f, q, e1, e2, e3, e4⟩ := h
    subst e2
    intro p hp
    rcases List.mem_append.mp hp with z | z
    · exact Tv.own e3 p z
    · exact TvL.own e4 p z
end
/-- the owned objects are laid open: G with those of fp as they stand in H -/
def opn (G H : Hp) (fp : List Addr) : Hp := fun a => if a ∈ fp then H a else G a
theorem opn_in {G H : Hp} {fp : List Addr} {a : Addr} (h : a ∈ fp) : opn G H fp a = H a := by unfold opn; rw [if_pos h]
theorem opn_out {G H : Hp} {fp : List Addr} {a : Addr} (h : a ∉ fp) : opn G H fp a = G a := by unfold opn; rw [if_neg h]
theorem opn_le {G H : Hp} {fp : List Addr} (h : ∀ p ∈ fp, G p = none) : Le G (opn G H fp) := fun a o e => by
  by_cases z : a ∈ fp
  · rw [h a z] at e; cases e
  · exact .inl (by rw [opn_out z]; exact e)
theorem le_opn {G H : Hp} {fp : List Addr} (l : Le G H) : Le (opn G H fp) H := fun a o e => by
  by_cases z : a ∈ fp
  · rw [opn_in z] at e; exact .inl e
  · rw [opn_out z] at e; exact l a o e
mutual
theorem Tv.freeze {Z : Zs} {G H : Hp} {fs : List Addr} (hf : ∀ p ∈ fs, G p = none) : ∀ {t : T} {v : V} {fp : List Addr}, Tv Z G H t v fp → (∀ p ∈ fp, p ∈ fs) → Rp Z (opn G H fs) t.toD v
  | .sh d, v, fp, h, _ => by
    unfold Tv at h
    unfold T.toD
    exact Rp.mono (opn_le hf).lq h.1
  | .oL ts, v, fp, h, a => by
    unfold Tv at h
    obtain ⟨p, vs, r, e1, e2, e3, e4, l⟩ := h
    subst e4
    unfold T.toD Rp
    exact ⟨p, vs, e1, by rw [opn_in (a p List.mem_cons_self)]; exact e3, TvL.freeze hf l fun q hq => a q (List.mem_cons_of_mem _ hq)⟩
  | .oD t kvs, v, fp, h, a => by
    unfold Tv at h
    obtain ⟨p, ws, e1, e2, e3, e4, e5⟩ := h
    subst e5
    unfold T.toD Rp
    exact ⟨p, ws, e1, (e3.keep (H' := opn G H fs) fun o z => by rw [opn_in (a p List.mem_cons_self)]; exact z).rd, RpK.mono (opn_le hf).lq e4⟩
theorem TvL.freeze {Z : Zs} {G H : Hp} {fs : List Addr} (hf : ∀ p ∈ fs, G p = none) : ∀ {ts : List T} {vs : List V} {fp : List Addr}, TvL Z G H ts vs fp → (∀ p ∈ fp, p ∈ fs) → RpL Z (opn G H fs) (T.toDs ts) vs
  | [], vs, fp, h, _ => by
    unfold TvL at h
    unfold T.toDs RpL
    exact h.1
  | t :: ts, vs, fp, h, a => by
    unfold TvL at h
    obtain ⟨v, r, f, q, e1, e2, e3, e4⟩ := h
    subst e2
    unfold T.toDs RpL
    exact ⟨v, r, e1, Tv.freeze hf e3 fun p hp => a p (List.mem_append_left _ hp), TvL.freeze hf e4 fun p hp => a p (List.mem_append_right _ hp)⟩
end

theorem EnvR.keep {Z : Zs} {G H G' H' : Hp} (g : Lq G G') : ∀ {τ : Env} {σ : L2.St} {fp : List Addr}, EnvR Z G H τ σ fp → (∀ p ∈ fp, G p = none → G' p = none) → (∀ p ∈ fp, ∀ o, H p = some o → H' p = some o) → EnvR Z G' H' τ σ fp
  | [], σ, fp, h, _, _ => h
  | none :: τ, σ, fp, h, a, b => by
    unfold EnvR at h ⊢
    obtain ⟨v, r, e, q⟩ := h
    exact ⟨v, r, e, EnvR.keep g q a b⟩
  | some t :: τ, σ, fp, h, a, b => by
    unfold EnvR at h ⊢
    obtain ⟨v, r, f, q, e1, e2, e3, e4⟩ := h
    subst e2
    exact ⟨v, r, f, q, e1, rfl, e3.keep g (fun p hp => a p (List.mem_append_left _ hp)) (fun p hp => b p (List.mem_append_left _ hp)),
      EnvR.keep g e4 (fun p hp => a p (List.mem_append_right _ hp)) (fun p hp => b p (List.mem_append_right _ hp))⟩
theorem EnvR.own {Z : Zs} {G H : Hp} : ∀ {τ : Env} {σ : L2.St} {fp : List Addr}, EnvR Z G H τ σ fp → ∀ p ∈ fp, G p = none ∧ ∃ o, H p = some o ∧ isTup o = false
  | [], σ, fp, h => by
    unfold EnvR at h
    intro p hp; rw [h.2] at hp; cases hp
  | none :: τ, σ, fp, h => by
    unfold EnvR at h
    obtain ⟨v, r, e, q⟩ := h
    exact q.own
  | some t :: τ, σ, fp, h => by
    unfold EnvR at h
    obtain ⟨v, r, f, q, e1, e2, e3, e4⟩ := h
    subst e2
    intro p hp
    rcases List.mem_append.mp hp with z | z
    · exact e3.own p z
    · exact e4.own p z
theorem EnvR.nxt {Z : Zs} {G H G' H' : Hp} (x : Nxt G H G' H') {τ : Env} {σ : L2.St} {fp : List Addr} (h : EnvR Z G H τ σ fp) : EnvR Z G' H' τ σ fp :=
  h.keep x.g.lq (fun p hp _ => by obtain ⟨a, o, b, c⟩ := h.own p hp; exact x.nw p o a b c) fun p _ o e => x.h p o e
theorem EnvR.len {Z : Zs} {G H : Hp} : ∀ {τ : Env} {σ : L2.St} {fp : List Addr}, EnvR Z G H τ σ fp → σ.length = τ.length
  | [], σ, fp, h => by unfold EnvR at h; rw [h.1]; rfl
  | none :: τ, σ, fp, h => by
    unfold EnvR at h
    obtain ⟨v, r, e, q⟩ := h
    rw [e, List.length_cons, q.len, List.length_cons]
  | some t :: τ, σ, fp, h => by
    unfold EnvR at h
    obtain ⟨v, r, f, q, e1, e2, e3, e4⟩ := h
    rw [e1, List.length_cons, e4.len, List.length_cons]
/-- the slot i -/
theorem EnvR.get {Z : Zs} {G H : Hp} : ∀ {τ : Env} {σ : L2.St} {fp : List Addr} {i : Nat} {t : T}, EnvR Z G H τ σ fp → τ[i]? = some (some t) → ∃ v f, σ[i]? = some (some v) ∧ Tv Z G H t v f ∧ ∀ p ∈ f, p ∈ fp
  | [], σ, fp, i, t, h, e => by simp at e
  | none :: τ, σ, fp, 0, t, h, e => by simp at e
  | none :: τ, σ, fp, i + 1, t, h, e => by
    unfold EnvR at h
    obtain ⟨v, r, e1, q⟩ := h
    obtain ⟨w, f, a, b, c⟩ := q.get (i := i) (t := t) (by simpa using e)
    exact ⟨w, f, by rw [e1]; simpa using a, b, c⟩
  | some t' :: τ, σ, fp, 0, t, h, e => by
    unfold EnvR at h
    obtain ⟨v, r, f, q, e1, e2, e3, e4⟩ := h
    have z : t' = t := by simpa using e
    subst z
    exact ⟨v, f, by rw [e1]; rfl, e3, fun p hp => by rw [e2]; exact List.mem_append_left _ hp⟩
  | some t' :: τ, σ, fp, i + 1, t, h, e => by
    unfold EnvR at h
    obtain ⟨v, r, f, q, e1, e2, e3, e4⟩ := h
    obtain ⟨w, f', a, b, c⟩ := e4.get (i := i) (t := t) (by simpa using e)
    exact ⟨w, f', by rw [e1]; simpa using a, b, fun p hp => by rw [e2]; exact List.mem_append_right _ (c p hp)⟩

/-- a state: what was at the beginning (GB, B), what is known, what is, the slots -/
def Stt (Z : Zs) (GB B G H : Hp) (σ : L2.St) (τ : Env) : Prop := Nxt GB B G H ∧ ∃ fp, EnvR Z G H τ σ fp ∧ fp.Nodup ∧ ∀ p ∈ fp, B p = none
theorem Stt.nxt {Z : Zs} {GB B G H G' H' : Hp} {σ : L2.St} {τ : Env} (s : Stt Z GB B G H σ τ) (x : Nxt G H G' H') : Stt Z GB B G' H' σ τ := by
  obtain ⟨a, fp, b, c, d⟩ := s
  exact ⟨a.trans x, fp, b.nxt x, c, d⟩
theorem Stt.same {Z : Zs} {GB B G H H' : Hp} {σ : L2.St} {τ : Env} (s : Stt Z GB B G H σ τ) (x : Same H H') : Stt Z GB B G H' σ τ :=
  s.nxt ⟨Le.refl _, s.1.gh.trans (Le.of_same x), x, fun _ _ a _ _ => a⟩

/-! ### weaker words of the slots -/
/-- kept, forgotten, or laid open -/
inductive SubL : Env → Env → Prop where
  | n : SubL [] []
  | s {a : Option T} {τ τ' : Env} : SubL τ τ' → SubL (a :: τ) (a :: τ')
  | d {a : Option T} {τ τ' : Env} : SubL τ τ' → SubL (a :: τ) (none :: τ')
  | f {t : T} {d : D} {τ τ' : Env} : SubL τ τ' → d = t.toD → SubL (some t :: τ) (some (.sh d) :: τ')
theorem SubL.refl : ∀ τ : Env, SubL τ τ
  | [] => .n
  | _ :: r => .s (SubL.refl r)
theorem SubL.run {Z : Zs} {G H : Hp} (l : Le G H) {τ τ' : Env} (s : SubL τ τ') : ∀ {σ : L2.St} {fp : List Addr}, EnvR Z G H τ σ fp → fp.Nodup →
    ∃ fs fp' : List Addr, (∀ p ∈ fs, p ∈ fp) ∧ (∀ p ∈ fp', p ∈ fp) ∧ fp'.Nodup ∧ (∀ p ∈ fs, p ∉ fp') ∧ ∀ gs : List Addr, (∀ p ∈ gs, G p = none) → (∀ p ∈ fs, p ∈ gs) → (∀ p ∈ fp', p ∉ gs) → EnvR Z (opn G H gs) H τ' σ fp' := by
  induction s with
  | n =>
    intro σ fp h nd
    unfold EnvR at h
    exact ⟨[], [], by simp, by simp, List.nodup_nil, by simp, fun gs _ _ _ => ⟨h.1, rfl⟩⟩
  | @s a τ τ' _ ih =>
    intro σ fp h nd
    cases a with
    | none =>
      unfold EnvR at h
      obtain ⟨v, r, e, q⟩ := h
      obtain ⟨fs, fp', a, b, c, d, k⟩ := ih q nd
      exact ⟨fs, fp', a, b, c, d, fun gs g1 g2 g3 => ⟨v, r, e, k gs g1 g2 g3⟩⟩
    | some t =>
      unfold EnvR at h
      obtain ⟨v, r, f, q, e1, e2, e3, e4⟩ := h
      subst e2
      obtain ⟨nf, nq, dj⟩ := List.nodup_append.mp nd
      obtain ⟨fs, fp', a, b, c, d, k⟩ := ih e4 nq
      refine ⟨fs, f ++ fp', fun p hp => List.mem_append_right _ (a p hp), fun p hp => ?_, ?_, fun p hp hq => ?_, fun gs g1 g2 g3 => ?_⟩
      · rcases List.mem_append.mp hp with z | z
        · exact List.mem_append_left _ z
        · exact List.mem_append_right _ (b p z)
      · exact List.nodup_append.mpr ⟨nf, c, fun x hx y hy => dj x hx y (b y hy)⟩
      · rcases List.mem_append.mp hq with z | z
        · exact dj p z p (a p hp) rfl
        · exact d p hp z
      · refine ⟨v, r, f, fp', e1, rfl, e3.keep (opn_le g1).lq (fun p hp z => ?_) (fun p hp o z => z), k gs g1 g2 fun p hp => g3 p (List.mem_append_right _ hp)⟩
        rw [opn_out (g3 p (List.mem_append_left _ hp))]
        exact z
  | @d a τ τ' _ ih =>
    intro σ fp h nd
    cases a with
    | none =>
      unfold EnvR at h
      obtain ⟨v, r, e, q⟩ := h
      obtain ⟨fs, fp', a, b, c, d, k⟩ := ih q nd
      exact ⟨fs, fp', a, b, c, d, fun gs g1 g2 g3 => ⟨v, r, e, k gs g1 g2 g3⟩⟩
    | some t =>
      unfold EnvR at h
      obtain ⟨v, r, f, q, e1, e2, e3, e4⟩ := h
      subst e2
      obtain ⟨nf, nq, dj⟩ := List.nodup_append.mp nd
      obtain ⟨fs, fp', a, b, c, d, k⟩ := ih e4 nq
      exact ⟨fs, fp', fun p hp => List.mem_append_right _ (a p hp), fun p hp => List.mem_append_right _ (b p hp), c, d, fun gs g1 g2 g3 => ⟨some v, r, e1, k gs g1 g2 g3⟩⟩
  | @f t d τ τ' _ ed ih =>
    intro σ fp h nd
    subst ed
    unfold EnvR at h
    obtain ⟨v, r, f, q, e1, e2, e3, e4⟩ := h
    subst e2
    obtain ⟨nf, nq, dj⟩ := List.nodup_append.mp nd
    obtain ⟨fs, fp', a, b, c, d, k⟩ := ih e4 nq
    refine ⟨f ++ fs, fp', fun p hp => ?_, fun p hp => List.mem_append_right _ (b p hp), c, fun p hp hq => ?_, fun gs g1 g2 g3 => ?_⟩
    · rcases List.mem_append.mp hp with z | z
      · exact List.mem_append_left _ z
      · exact List.mem_append_right _ (a p z)
    · rcases List.mem_append.mp hp with z | z
      · exact dj p z p (b p hq) rfl
      · exact d p z hq
    · unfold EnvR
      refine ⟨v, r, [], fp', e1, rfl, ⟨e3.freeze g1 fun p hp => g2 p (List.mem_append_left _ hp), rfl⟩, k gs g1 (fun p hp => g2 p (List.mem_append_right _ hp)) g3⟩
theorem Stt.sub {Z : Zs} {GB B G H : Hp} {σ : L2.St} {τ τ' : Env} (x : Stt Z GB B G H σ τ) (s : SubL τ τ') : ∃ G', Le G G' ∧ Stt Z GB B G' H σ τ' := by
  obtain ⟨n, fp, e, nd, fr⟩ := x
  obtain ⟨fs, fp', a, b, c, d, k⟩ := s.run n.gh e nd
  have gn : ∀ p ∈ fs, G p = none := fun p hp => (e.own p (a p hp)).1
  refine ⟨opn G H fs, opn_le gn, ⟨n.g.trans (opn_le gn), le_opn n.gh, n.h, fun p o g b' t => ?_⟩, fp', k fs gn (fun _ h => h) (fun p hp hq => d p hq hp), c, fun p hp => fr p (b p hp)⟩
  have z : p ∉ fs := fun hp => by rw [fr p (a p hp)] at b'; cases b'
  rw [opn_out z]
  exact n.nw p o g b' t
end Wk

namespace Wk
open PySem PySem.Spec PyProof.Rows L2

/-! ### an expression's judgement -/
def Res (Z : Zs) (w : WX) {α : Type} (σ : L2.St) (G H : Hp) (m : X α) (k : α → Hp → Hp → Prop) : Prop :=
  match m with
  | .ok a => ∀ G2 H2, Nxt G H G2 H2 → k a G2 H2
  | .exc c => ∀ H2, Same H H2 → w (.ref (Z.ce c)) none σ H2
  | .bad => False
section
variable {Z : Zs} {w : WX} {α β : Type} {σ : L2.St} {G H : Hp} {m : X α} {f : α → X β}
theorem Res.bind {k : β → Hp → Hp → Prop} (h : Res Z w σ G H (m.bind f) k) : Res Z w σ G H m (fun a G2 H2 => Res Z w σ G2 H2 (f a) k) := by
  cases m with
  | ok a =>
    intro G2 H2 x
    have h' : Res Z w σ G H (f a) k := h
    show Res Z w σ G2 H2 (f a) k
    cases e : f a with
    | ok b => rw [e] at h'; exact fun G3 H3 y => h' G3 H3 (x.trans y)
    | exc c => rw [e] at h'; exact fun H3 y => h' H3 (x.h.trans y)
    | bad => rw [e] at h'; exact h'
  | exc c => exact h
  | bad => exact h
theorem Res.imp {k k' : α → Hp → Hp → Prop} (h : Res Z w σ G H m k) (i : ∀ a G2 H2, Nxt G H G2 H2 → k a G2 H2 → k' a G2 H2) : Res Z w σ G H m k' := by
  cases m with
  | ok a => exact fun G2 H2 x => i a G2 H2 x (h G2 H2 x)
  | exc c => exact h
  | bad => exact h
theorem Res.now {a : α} {k : α → Hp → Hp → Prop} (l : Le G H) (h : Res Z w σ G H (.ok a) k) : k a G H := h G H (Nxt.refl l)
end
/-- the reading t gives what m tells -/
def EV (Z : Zs) (w : WX) {α β : Type} (t : L2.St → Hp → (β → Hp → Prop) → Prop) (R : Hp → α → β → Prop) (τ : Env) (m : X α) : Prop :=
  ∀ G H σ fp, Le G H → EnvR Z G H τ σ fp → ∀ Q : β → Hp → Prop, Res Z w σ G H m (fun a G2 H2 => ∀ b, R G2 a b → Q b H2) → t σ H Q
abbrev EE (Z : Zs) (w : WX) (te : TE) (τ : Env) (m : X D) : Prop := EV Z w te (fun G d v => Rp Z G d v) τ m
abbrev ET (Z : Zs) (w : WX) (tt : TT) (τ : Env) (m : X Bool) : Prop := EV Z w tt (fun _ b c => c = b) τ m
abbrev EA (Z : Zs) (w : WX) (ta : TA) (τ : Env) (m : X (List D)) : Prop := EV Z w ta (fun G ds vs => RpL Z G ds vs) τ m
abbrev EO (Z : Zs) (w : WX) (to : TO) (τ : Env) (m : X (Option Int)) : Prop := EV Z w to (fun _ a b => b = a) τ m

/-! values of values: an operation on two, on one, on a list -/
def OpD (Z : Zs) (r : R2) (f : D → D → X D) : Prop :=
  ∀ (w : WX) (σ : L2.St) (G H : Hp) (x y : D) (v u : V), Le G H → Rp Z G x v → Rp Z G y u → ∀ Q : VK, Res Z w σ G H (f x y) (fun d G2 H2 => ∀ b, Rp Z G2 d b → Q b H2) → r v u H Q
def UnD (Z : Zs) (r : V → Hp → VK → Prop) (f : D → X D) : Prop :=
  ∀ (w : WX) (σ : L2.St) (G H : Hp) (x : D) (v : V), Le G H → Rp Z G x v → ∀ Q : VK, Res Z w σ G H (f x) (fun d G2 H2 => ∀ b, Rp Z G2 d b → Q b H2) → r v H Q
def CaD (Z : Zs) (r : List V → Hp → VK → Prop) (f : List D → X D) : Prop :=
  ∀ (w : WX) (σ : L2.St) (G H : Hp) (xs : List D) (vs : List V), Le G H → RpL Z G xs vs → ∀ Q : VK, Res Z w σ G H (f xs) (fun d G2 H2 => ∀ b, Rp Z G2 d b → Q b H2) → r vs H Q

section
variable {Z : Zs} {w : WX} {τ : Env} {ta tb te : TE} {ma mb me : X D} {t u : TT} {mt mu : X Bool}
theorem RpL.cons {G : Hp} {d : D} {ds : List D} {v : V} {vs : List V} (h : Rp Z G d v) (t : RpL Z G ds vs) : RpL Z G (d :: ds) (v :: vs) := by unfold RpL; exact ⟨v, vs, rfl, h, t⟩
theorem RpL.nil {G : Hp} : RpL Z G [] [] := by unfold RpL; rfl
theorem RpL.length {G : Hp} : ∀ {ds : List D} {vs : List V}, RpL Z G ds vs → vs.length = ds.length
  | [], vs, h => by unfold RpL at h; rw [h]; rfl
  | d :: ds, vs, h => by
    unfold RpL at h
    obtain ⟨v, r, e, _, q⟩ := h
    rw [e, List.length_cons, q.length, List.length_cons]
theorem RpL.get {G : Hp} : ∀ {ds : List D} {vs : List V} {i : Nat} {d : D}, RpL Z G ds vs → ds[i]? = some d → ∃ v, vs[i]? = some v ∧ Rp Z G d v
  | [], vs, i, d, h, e => by simp at e
  | x :: ds, vs, 0, d, h, e => by
    unfold RpL at h
    obtain ⟨v, r, e1, a, q⟩ := h
    have z : x = d := by simpa using e
    subst z
    exact ⟨v, by rw [e1]; rfl, a⟩
  | x :: ds, vs, i + 1, d, h, e => by
    unfold RpL at h
    obtain ⟨v, r, e1, a, q⟩ := h
    obtain ⟨v', b, c⟩ := q.get (i := i) (d := d) (by simpa using e)
    exact ⟨v', by rw [e1]; simpa using b, c⟩
theorem RpL.at {G : Hp} {ds : List D} {vs : List V} {i : Nat} {v : V} (h : RpL Z G ds vs) (e : vs[i]? = some v) : ∃ d, ds[i]? = some d ∧ Rp Z G d v := by
  have hl : i < ds.length := by rw [← h.length]; exact (List.getElem?_eq_some_iff.mp e).1
  obtain ⟨v', b, c⟩ := h.get (i := i) (d := ds[i]) (List.getElem?_eq_getElem hl)
  rw [e] at b; cases b
  exact ⟨_, List.getElem?_eq_getElem hl, c⟩
theorem RpL.append {G : Hp} : ∀ {ds es : List D} {vs us : List V}, RpL Z G ds vs → RpL Z G es us → RpL Z G (ds ++ es) (vs ++ us)
  | [], es, vs, us, h, k => by unfold RpL at h; rw [h]; exact k
  | d :: ds, es, vs, us, h, k => by
    unfold RpL at h
    obtain ⟨v, r, e, a, q⟩ := h
    rw [e]
    exact RpL.cons a (q.append k)

/-! names, constants -/
theorem ee_var {i : Nat} {d : D} (h : τ[i]? = some (some (.sh d))) : EE Z w (tVar i) τ (.ok d) := fun G H σ fp l e Q q => by
  obtain ⟨v, f, e1, tv, _⟩ := e.get h
  unfold Tv at tv
  exact ⟨v, e1, q.now l v tv.1⟩
theorem ee_int {i : Int} : EE Z w (tC (.int i)) τ (.ok (.int i)) := fun G H σ fp l e Q q => q.now l _ rfl
theorem ee_str {x : PySem.Str} : EE Z w (tC (.str x)) τ (.ok (.str x)) := fun G H σ fp l e Q q => q.now l _ rfl
theorem ee_bl {b : Bool} : EE Z w (tC (.bl b)) τ (.ok (.bl b)) := fun G H σ fp l e Q q => q.now l _ rfl
theorem ee_non : EE Z w (tC .non) τ (.ok .non) := fun G H σ fp l e Q q => q.now l _ rfl

/-! operations -/
theorem ee_op {r : R2} {f : D → D → X D} (hr : OpD Z r f) (ha : EE Z w ta τ ma) (hb : EE Z w tb τ mb) : EE Z w (tOp r ta tb) τ (ma.bind fun x => mb.bind fun y => f x y) := fun G H σ fp l e Q q => by
  refine ha G H σ fp l e _ (q.bind.imp fun x G2 H2 n2 q2 v rv => ?_)
  refine hb G2 H2 σ fp n2.gh (e.nxt n2) _ (q2.bind.imp fun y G3 H3 n3 q3 u ru => ?_)
  exact hr w σ G3 H3 x y v u n3.gh (rv.mono n3.g.lq) ru Q q3
theorem ee_un {r : V → Hp → VK → Prop} {f : D → X D} (hr : UnD Z r f) (ha : EE Z w ta τ ma) : EE Z w (tUn r ta) τ (ma.bind f) := fun G H σ fp l e Q q => by
  refine ha G H σ fp l e _ (q.bind.imp fun x G2 H2 n2 q2 v rv => ?_)
  exact hr w σ G2 H2 x v n2.gh rv Q q2
/-! lists of arguments, displays -/
theorem ea_nil : EA Z w tNil τ (.ok []) := fun G H σ fp l e Q q => q.now l _ RpL.nil
theorem ea_cons {tr : TA} {mr : X (List D)} (ha : EE Z w ta τ ma) (hr : EA Z w tr τ mr) : EA Z w (tCons ta tr) τ (ma.bind fun x => mr.bind fun xs => .ok (x :: xs)) := fun G H σ fp l e Q q => by
  refine ha G H σ fp l e _ (q.bind.imp fun x G2 H2 n2 q2 v rv => ?_)
  refine hr G2 H2 σ fp n2.gh (e.nxt n2) _ (q2.bind.imp fun xs G3 H3 n3 q3 vs rvs => ?_)
  exact q3.now n3.gh _ (RpL.cons (rv.mono n3.g.lq) rvs)
theorem ee_cb {r : List V → Hp → VK → Prop} {f : List D → X D} {tr : TA} {mr : X (List D)} (hr : CaD Z r f) (ha : EA Z w tr τ mr) : EE Z w (tCB r tr) τ (mr.bind f) := fun G H σ fp l e Q q => by
  refine ha G H σ fp l e _ (q.bind.imp fun x G2 H2 n2 q2 v rv => ?_)
  exact hr w σ G2 H2 x v n2.gh rv Q q2
def dLst (xs : List D) : X D := if xs.length ≤ 1000000 then .ok (.lst xs) else .bad
def dTup (xs : List D) : X D := if xs.length ≤ 1000000 then .ok (.tup xs) else .bad
theorem sz6 {n : Nat} (h : n ≤ 1000000) : n ≤ sizeLine := Nat.le_trans h (by decide)
theorem sz6l {n : Nat} (h : n < 1000000) : n < sizeLine := Nat.lt_of_lt_of_le h (by decide)
theorem ee_lst {tr : TA} {mr : X (List D)} (hr : EA Z w tr τ mr) : EE Z w (tLst tr) τ (mr.bind dLst) := fun G H σ fp l e Q q => by
  refine hr G H σ fp l e _ (q.bind.imp fun xs G2 H2 n2 q2 vs rvs => ?_)
  unfold dLst at q2
  by_cases h : xs.length ≤ 1000000
  · rw [if_pos h] at q2
    refine ⟨by rw [rvs.length]; exact sz6 h, fun p hp => ?_⟩
    have n3 := (Nxt.refl n2.gh).new (o := .lst vs) hp
    refine q2 _ _ n3 _ ?_
    unfold Rp
    exact ⟨p, vs, rfl, upd_same, rvs.mono n3.g.lq⟩
  · rw [if_neg h] at q2; exact False.elim q2
theorem ee_tup {tr : TA} {mr : X (List D)} (hr : EA Z w tr τ mr) : EE Z w (tTup tr) τ (mr.bind dTup) := fun G H σ fp l e Q q => by
  refine hr G H σ fp l e _ (q.bind.imp fun xs G2 H2 n2 q2 vs rvs => ?_)
  unfold dTup at q2
  by_cases h : xs.length ≤ 1000000
  · rw [if_pos h] at q2
    refine ⟨by rw [rvs.length]; exact sz6 h, fun p hp => ?_⟩
    have n3 := (Nxt.refl n2.gh).new (o := .tup vs) hp
    refine q2 _ _ n3 _ ?_
    unfold Rp
    exact ⟨p, vs, rfl, upd_same, rvs.mono n3.g.lq⟩
  · rw [if_neg h] at q2; exact False.elim q2

/-! truth -/
def dB (d : D) : X Bool := match d with
  | .bl b => .ok b
  | _ => .bad
theorem dB_ok {d : D} {σ : L2.St} {G H : Hp} {k : Bool → Hp → Hp → Prop} (q : Res Z w σ G H (dB d) k) : ∃ b, d = .bl b ∧ Res Z w σ G H (.ok b) k := by
  cases d <;> first
    | exact ⟨_, rfl, q⟩
    | exact False.elim q
theorem et_B (h : EE Z w te τ me) : ET Z w (tB te) τ (me.bind dB) := fun G H σ fp l e Q q => by
  refine h G H σ fp l e _ (q.bind.imp fun d G2 H2 n2 q2 v rv => ?_)
  obtain ⟨b, rfl, q3⟩ := dB_ok q2
  exact ⟨b, rv, q3.now n2.gh _ rfl⟩
theorem et_test (h : EE Z w te τ me) : ET Z w (tTest te) τ (me.bind dB) := et_B h
theorem et_and (h1 : ET Z w t τ mt) (h2 : ET Z w u τ mu) : ET Z w (tAnd t u) τ (mt.bind fun b => bif b then mu else .ok false) := fun G H σ fp l e Q q => by
  refine h1 G H σ fp l e _ (q.bind.imp fun b G2 H2 n2 q2 c rc => ?_)
  subst rc
  cases c with
  | true => exact h2 G2 H2 σ fp n2.gh (e.nxt n2) Q q2
  | false => exact q2.now n2.gh _ rfl
theorem et_or (h1 : ET Z w t τ mt) (h2 : ET Z w u τ mu) : ET Z w (tOr t u) τ (mt.bind fun b => bif b then .ok true else mu) := fun G H σ fp l e Q q => by
  refine h1 G H σ fp l e _ (q.bind.imp fun b G2 H2 n2 q2 c rc => ?_)
  subst rc
  cases c with
  | false => exact h2 G2 H2 σ fp n2.gh (e.nxt n2) Q q2
  | true => exact q2.now n2.gh _ rfl
theorem et_not (h1 : ET Z w t τ mt) : ET Z w (tNot t) τ (mt.bind fun b => .ok !b) := fun G H σ fp l e Q q => by
  refine h1 G H σ fp l e _ (q.bind.imp fun b G2 H2 n2 q2 c rc => ?_)
  subst rc
  exact q2.now n2.gh _ rfl
theorem ee_andV (h1 : EE Z w ta τ ma) (h2 : EE Z w tb τ mb) : EE Z w (tAndV ta tb) τ ((ma.bind dB).bind fun b => bif b then mb else .ok (.bl false)) := fun G H σ fp l e Q q => by
  refine h1 G H σ fp l e _ (q.bind.bind.imp fun d G2 H2 n2 q2 v rv => ?_)
  obtain ⟨b, rfl, q3⟩ := dB_ok q2
  refine ⟨b, rv, ?_⟩
  cases b with
  | true => exact h2 G2 H2 σ fp n2.gh (e.nxt n2) Q (q3.now n2.gh)
  | false => exact (q3.now n2.gh).now n2.gh _ rfl
theorem ee_orV (h1 : EE Z w ta τ ma) (h2 : EE Z w tb τ mb) : EE Z w (tOrV ta tb) τ ((ma.bind dB).bind fun b => bif b then .ok (.bl true) else mb) := fun G H σ fp l e Q q => by
  refine h1 G H σ fp l e _ (q.bind.bind.imp fun d G2 H2 n2 q2 v rv => ?_)
  obtain ⟨b, rfl, q3⟩ := dB_ok q2
  refine ⟨b, rv, ?_⟩
  cases b with
  | false => exact h2 G2 H2 σ fp n2.gh (e.nxt n2) Q (q3.now n2.gh)
  | true => exact (q3.now n2.gh).now n2.gh _ rfl
theorem ee_notV (h1 : EE Z w ta τ ma) : EE Z w (tNotV ta) τ ((ma.bind dB).bind fun b => .ok (.bl !b)) := fun G H σ fp l e Q q => by
  refine h1 G H σ fp l e _ (q.bind.bind.imp fun d G2 H2 n2 q2 v rv => ?_)
  obtain ⟨b, rfl, q3⟩ := dB_ok q2
  exact ⟨b, rv, (q3.now n2.gh).now n2.gh _ rfl⟩
theorem ee_if (h : ET Z w t τ mt) (h1 : EE Z w ta τ ma) (h2 : EE Z w tb τ mb) : EE Z w (tIf t ta tb) τ (mt.bind fun b => bif b then ma else mb) := fun G H σ fp l e Q q => by
  refine h G H σ fp l e _ (q.bind.imp fun b G2 H2 n2 q2 c rc => ?_)
  subst rc
  cases c with
  | true => exact h1 G2 H2 σ fp n2.gh (e.nxt n2) Q q2
  | false => exact h2 G2 H2 σ fp n2.gh (e.nxt n2) Q q2

/-! an owned object is read for something flat -/
def flatD : D → Bool
  | .non => true
  | .bl _ => true
  | .int _ => true
  | .str _ => true
  | _ => false
theorem flat_rp {G G' : Hp} {d : D} {v : V} (h : flatD d = true) (r : Rp Z G d v) : Rp Z G' d v := by
  cases d <;> first
    | exact r
    | cases h
def frz (τ : Env) : Env := τ.map fun o => o.map fun t => .sh t.toD
def X.flat (m : X D) : X D := m.bind fun d => bif flatD d then .ok d else .bad
theorem EnvR.frz {G H : Hp} {fs : List Addr} (hf : ∀ p ∈ fs, G p = none) : ∀ {τ : Env} {σ : L2.St} {fp : List Addr}, EnvR Z G H τ σ fp → (∀ p ∈ fp, p ∈ fs) → EnvR Z (opn G H fs) H (frz τ) σ []
  | [], σ, fp, h, _ => by
    unfold EnvR at h
    exact ⟨h.1, rfl⟩
  | none :: τ, σ, fp, h, a => by
    unfold EnvR at h
    obtain ⟨v, r, e, q⟩ := h
    exact ⟨v, r, e, q.frz hf a⟩
  | some t :: τ, σ, fp, h, a => by
    unfold EnvR at h
    obtain ⟨v, r, f, q, e1, e2, e3, e4⟩ := h
    subst e2
    exact ⟨v, r, [], [], e1, rfl, ⟨e3.freeze hf fun p hp => a p (List.mem_append_left _ hp), rfl⟩, e4.frz hf fun p hp => a p (List.mem_append_right _ hp)⟩
/-- G is held back: what is new in G2 beside the owned ones is dropped -/
theorem Nxt.back {G H G2 H2 : Hp} {fs : List Addr} (l : Le G H) (x : Nxt (opn G H fs) H G2 H2) : Nxt G H G H2 :=
  ⟨Le.refl _, l.trans (Le.of_same x.h), x.h, fun p o a _ _ => a⟩
theorem ev_bor {α β : Type} {tt : L2.St → Hp → (β → Hp → Prop) → Prop} {R : Hp → α → β → Prop} {m : X α} (h : EV Z w tt R (frz τ) m) (hR : ∀ G G' a b, R G a b → R G' a b) : EV Z w tt R τ m := fun G H σ fp l e Q q => by
  have own := fun p hp => (e.own p hp).1
  refine h (opn G H fp) H σ [] (le_opn l) (e.frz own fun _ h => h) Q ?_
  cases m with
  | ok a =>
    intro G2 H2 x b rb
    exact q G H2 (x.back l) b (hR _ _ _ _ rb)
  | exc c => exact q
  | bad => exact q
theorem et_bor {m : X Bool} (h : ET Z w t (frz τ) m) : ET Z w t τ m := ev_bor h fun _ _ _ _ z => z
theorem ee_bor (h : EE Z w te (frz τ) me) : EE Z w te τ me.flat := fun G H σ fp l e Q q => by
  have own := fun p hp => (e.own p hp).1
  have q := Res.bind q
  refine h (opn G H fp) H σ [] (le_opn l) (e.frz own fun _ h => h) Q ?_
  cases me with
  | ok a =>
    intro G2 H2 x b rb
    have q2 := q G H2 (x.back l)
    have q2' : Res Z w σ G H2 (bif flatD a then X.ok a else X.bad) fun a G2 H2 => ∀ b : V, Rp Z G2 a b → Q b H2 := q2
    cases hf : flatD a with
    | true =>
      rw [hf] at q2'
      exact Res.now (l.trans (Le.of_same x.h)) q2' b (flat_rp hf rb)
    | false =>
      rw [hf] at q2'
      exact False.elim q2'
  | exc c => exact q
  | bad => exact q
end

/-! ### calls of the program's defs -/
/-- the promise that a def does what its mirror does -/
def spM (Z : Zs) (f : List D → M Unit) : Sp := fun vs H Q E => ∃ G ds, Le G H ∧ RpL Z G ds vs ∧
  match f ds with
  | .ok _ => ∀ G2 H2, Nxt G H G2 H2 → Q .non H2
  | .ret t => ∀ v G2 H2 fp, Nxt G H G2 H2 → Tv Z G2 H2 t v fp → fp.Nodup → (∀ p ∈ fp, H p = none) → Q v H2
  | .exc c => ∀ H2, Same H H2 → E (.ref (Z.ce c)) none H2
  | .bad => False
section
variable {Z : Zs} {w : WX} {τ : Env}
/-- a new owned object may be laid open -/
theorem Nxt.opn {G H G2 H2 : Hp} {fp : List Addr} (x : Nxt G H G2 H2) (h : ∀ p ∈ fp, H p = none) (h0 : ∀ p ∈ fp, G2 p = none) : Nxt G H (Wk.opn G2 H2 fp) H2 :=
  ⟨x.g.trans (opn_le h0), le_opn x.gh, x.h, fun p o a b c => by
    have z : p ∉ fp := fun hp => by rw [h p hp] at b; cases b
    rw [opn_out z]; exact x.nw p o a b c⟩
theorem ee_call {f : List D → M Unit} {E : XK} {ta : TA} {ma : X (List D)} (ha : EA Z w ta τ ma) (hw : ∀ σ c H, w (.ref (Z.ce c)) none σ H → E (.ref (Z.ce c)) none H) : EE Z w (tCall (spM Z f) [] E ta) τ (ma.bind fun ds => (f ds).fn) := fun G H σ fp l e Q q => by
  refine ha G H σ fp l e _ (q.bind.imp fun ds G2 H2 n2 q2 vs rvs => ?_)
  show spM Z f (vs ++ []) H2 Q E
  rw [List.append_nil]
  refine ⟨G2, ds, n2.gh, rvs, ?_⟩
  cases e1 : f ds with
  | ok a =>
    rw [e1] at q2
    exact fun G3 H3 n3 => q2 G3 H3 n3 _ rfl
  | ret t =>
    rw [e1] at q2
    intro v G3 H3 fp3 n3 tv nd fr
    have own := fun p hp => (tv.own p hp).1
    exact q2 (opn G3 H3 fp3) H3 (n3.opn fr own) v (tv.freeze own fun _ h => h)
  | exc c =>
    rw [e1] at q2
    exact fun H3 s => hw _ _ _ (q2 H3 s)
  | bad =>
    rw [e1] at q2
    exact q2
end

/-! ### a statement's judgement -/
structure Wh where
  w : WX
  px : Option Env
def PXi (Z : Zs) (GB B G H2 : Hp) (σ2 : L2.St) : Option Env → Prop
  | none => True
  | some τ => ∃ G2, Le G G2 ∧ Stt Z GB B G2 H2 σ2 τ
theorem PXi.at {Z : Zs} {GB B G G' H2 : Hp} {σ2 : L2.St} {o : Option Env} (h : PXi Z GB B G' H2 σ2 o) (l : Le G G') : PXi Z GB B G H2 σ2 o := by
  cases o with
  | none => trivial
  | some τ => obtain ⟨G2, a, b⟩ := h; exact ⟨G2, l.trans a, b⟩
def Out (Z : Zs) (w : Wh) (GB B G : Hp) {S : Type} (m : M S) (env : S → Env) (D : Ends) : Prop :=
  match m with
  | .ok s => ∀ G2 H2 σ2, Le G G2 → Stt Z GB B G2 H2 σ2 (env s) → D.nx σ2 H2
  | .ret t => ∀ v G2 H2 fp, Nxt GB B G2 H2 → Tv Z G2 H2 t v fp → fp.Nodup → (∀ p ∈ fp, B p = none) → D.rt v H2
  | .exc c => ∀ H2 σ2, Same B H2 → PXi Z GB B G H2 σ2 w.px → w.w (.ref (Z.ce c)) none σ2 H2
  | .bad => False
def SS (Z : Zs) (w : Wh) (ts : TS) (τ : Env) {S : Type} (m : M S) (env : S → Env) : Prop :=
  ∀ GB B G H σ, Stt Z GB B G H σ τ → ∀ D : Ends, Out Z w GB B G m env D → ts D σ H
def SubX (τ : Env) : Option Env → Prop
  | none => True
  | some τ' => SubL τ τ'
section
variable {Z : Zs} {w : Wh} {τ : Env} {S S' U : Type} {te : TE} {me : X D}
theorem SubX.run {GB B G H : Hp} {σ : L2.St} (s : Stt Z GB B G H σ τ) {o : Option Env} (x : SubX τ o) : PXi Z GB B G H σ o := by
  cases o with
  | none => trivial
  | some τ' => exact s.sub x
theorem Out.at {GB B G G2 : Hp} {m : M S} {env : S → Env} {D : Ends} (o : Out Z w GB B G m env D) (l : Le G G2) : Out Z w GB B G2 m env D := by
  cases m with
  | ok s => exact fun G3 H3 σ3 l3 st3 => o G3 H3 σ3 (l.trans l3) st3
  | exc c => exact fun H2 σ2 s p => o H2 σ2 s (p.at l)
  | ret t => exact o
  | bad => exact o
theorem Out.bind {GB B G : Hp} {m1 : M S} {m2 : S → M S'} {env1 : S → Env} {env : S' → Env} {D : Ends} {nx' : L2.St → Hp → Prop} (h : Out Z w GB B G (m1.bind m2) env D)
    (k : ∀ s G2 H2 σ2, Le G G2 → Stt Z GB B G2 H2 σ2 (env1 s) → Out Z w GB B G2 (m2 s) env D → nx' σ2 H2) : Out Z w GB B G m1 env1 { D with nx := nx' } := by
  cases m1 with
  | ok s =>
    intro G2 H2 σ2 l st
    refine k s G2 H2 σ2 l st ?_
    have h' : Out Z w GB B G (m2 s) env D := h
    exact h'.at l
  | exc c => exact h
  | ret t => exact h
  | bad => exact h
/-- an expression ahead of what a statement does with it -/
theorem EV.out {α β : Type} {t : L2.St → Hp → (β → Hp → Prop) → Prop} {R : Hp → α → β → Prop} {m : X α} {f : α → M S} {env : S → Env} (he : EV Z w.w t R τ m) (hx : SubX τ w.px) {GB B G H : Hp} {σ : L2.St} (st : Stt Z GB B G H σ τ) {D : Ends}
    (o : Out Z w GB B G (m.to f) env D) {Q : β → Hp → Prop} (k : ∀ a b G2 H2, Le G G2 → Stt Z GB B G2 H2 σ τ → R G2 a b → Out Z w GB B G2 (f a) env D → Q b H2) : t σ H Q := by
  obtain ⟨n, fp, e, nd, fr⟩ := st
  refine he G H σ fp n.gh e Q ?_
  cases m with
  | ok a =>
    intro G2 H2 x b rb
    have st2 : Stt Z GB B G2 H2 σ τ := ⟨n.trans x, fp, e.nxt x, nd, fr⟩
    refine k a b G2 H2 x.g st2 rb ?_
    have h' : Out Z w GB B G (f a) env D := o
    exact h'.at x.g
  | exc c =>
    intro H2 s
    exact o H2 σ (n.h.trans s) (SubX.run (Stt.same ⟨n, fp, e, nd, fr⟩ s) hx)
  | bad => exact o
end
end Wk

namespace Wk
open PySem PySem.Spec PyProof.Rows L2

/-! ### statements -/
theorem EnvR.set {Z : Zs} {G H : Hp} {t : T} {v : V} {f : List Addr} (tv : Tv Z G H t v f) (nf : f.Nodup) : ∀ {τ : Env} {σ : L2.St} {fp : List Addr} {i : Nat}, EnvR Z G H τ σ fp → fp.Nodup → (∀ p ∈ f, p ∉ fp) →
    ∃ fp', EnvR Z G H (τ.set i (some t)) (σ.set i (some v)) fp' ∧ fp'.Nodup ∧ ∀ p ∈ fp', p ∈ fp ∨ p ∈ f
  | [], σ, fp, i, h, nd, dj => by
    unfold EnvR at h
    obtain ⟨e1, e2⟩ := h
    subst e1; subst e2
    exact ⟨[], ⟨rfl, rfl⟩, List.nodup_nil, fun p hp => by cases hp⟩
  | none :: τ, σ, fp, 0, h, nd, dj => by
    unfold EnvR at h
    obtain ⟨x, r, e1, q⟩ := h
    subst e1
    refine ⟨f ++ fp, ⟨v, r, f, fp, rfl, rfl, tv, q⟩, List.nodup_append.mpr ⟨nf, nd, fun a ha b hb z => dj a ha (by rw [z]; exact hb)⟩, fun p hp => ?_⟩
    rcases List.mem_append.mp hp with z | z
    · exact .inr z
    · exact .inl z
  | some u :: τ, σ, fp, 0, h, nd, dj => by
    unfold EnvR at h
    obtain ⟨x, r, a, b, e1, e2, e3, q⟩ := h
    subst e1; subst e2
    obtain ⟨_, nb, _⟩ := List.nodup_append.mp nd
    refine ⟨f ++ b, ⟨v, r, f, b, rfl, rfl, tv, q⟩, List.nodup_append.mpr ⟨nf, nb, fun c hc d hd z => dj c hc (by rw [z]; exact List.mem_append_right _ hd)⟩, fun p hp => ?_⟩
    rcases List.mem_append.mp hp with z | z
    · exact .inr z
    · exact .inl (List.mem_append_right _ z)
  | none :: τ, σ, fp, i + 1, h, nd, dj => by
    unfold EnvR at h
    obtain ⟨x, r, e1, q⟩ := h
    subst e1
    obtain ⟨fp', a, b, c⟩ := EnvR.set tv nf (i := i) q nd dj
    exact ⟨fp', ⟨x, _, rfl, a⟩, b, c⟩
  | some u :: τ, σ, fp, i + 1, h, nd, dj => by
    unfold EnvR at h
    obtain ⟨x, r, a, b, e1, e2, e3, q⟩ := h
    subst e1; subst e2
    obtain ⟨na, nb, dab⟩ := List.nodup_append.mp nd
    obtain ⟨fp', c1, c2, c3⟩ := EnvR.set tv nf (i := i) q nb fun p hp hq => dj p hp (List.mem_append_right _ hq)
    refine ⟨a ++ fp', ⟨x, _, a, fp', rfl, rfl, e3, c1⟩, List.nodup_append.mpr ⟨na, c2, fun c hc d hd z => ?_⟩, fun p hp => ?_⟩
    · rcases c3 d hd with y | y
      · exact dab c hc d y z
      · exact dj d y (by rw [← z]; exact List.mem_append_left _ hc)
    · rcases List.mem_append.mp hp with z | z
      · exact .inl (List.mem_append_left _ z)
      · rcases c3 p z with y | y
        · exact .inl (List.mem_append_right _ y)
        · exact .inr y
theorem Stt.set {Z : Zs} {GB B G H : Hp} {σ : L2.St} {τ : Env} (s : Stt Z GB B G H σ τ) {i : Nat} {d : D} {v : V} (r : Rp Z G d v) : Stt Z GB B G H (σ.set i (some v)) (τ.set i (some (.sh d))) := by
  obtain ⟨n, fp, e, nd, fr⟩ := s
  obtain ⟨fp', a, b, c⟩ := EnvR.set (t := .sh d) (v := v) (f := []) ⟨r, rfl⟩ List.nodup_nil (i := i) e nd (by simp)
  exact ⟨n, fp', a, b, fun p hp => by
    rcases c p hp with z | z
    · exact fr p z
    · cases z⟩
/-- a new owned object in a slot -/
theorem Stt.setO {Z : Zs} {GB B G H : Hp} {σ : L2.St} {τ : Env} {H0 : Hp} (s : Stt Z GB B G H σ τ) {i : Nat} {t : T} {v : V} {f : List Addr} (tv : Tv Z G H t v f) (nf : f.Nodup) (hb : ∀ p ∈ f, B p = none) (hn : ∀ fp, EnvR Z G H τ σ fp → ∀ p ∈ f, p ∉ fp) : Stt Z GB B G H (σ.set i (some v)) (τ.set i (some t)) := by
  obtain ⟨n, fp, e, nd, fr⟩ := s
  obtain ⟨fp', a, b, c⟩ := EnvR.set tv nf (i := i) e nd (hn fp e)
  exact ⟨n, fp', a, b, fun p hp => by
    rcases c p hp with z | z
    · exact fr p z
    · exact hb p z⟩

section
variable {Z : Zs} {w : Wh} {τ : Env} {S S' U : Type} {te : TE} {me : X D} {t1 t2 : TS} {env : S → Env}
theorem ss_nil {s : S} (h : SubL τ (env s)) : SS Z w tNext τ (.ok s) env := fun GB B G H σ st D o => by
  obtain ⟨n, fp, e, nd, fr⟩ := st
  obtain ⟨fs, fp', a, b, c, d, k⟩ := h.run n.gh e nd
  have gn : ∀ p ∈ fs, G p = none := fun p hp => (e.own p (a p hp)).1
  refine o (opn G H fs) H σ (opn_le gn) ⟨⟨n.g.trans (opn_le gn), le_opn n.gh, n.h, fun p o g b' t => ?_⟩, fp', k fs gn (fun _ h => h) (fun p hp hq => d p hq hp), c, fun p hp => fr p (b p hp)⟩
  have z : p ∉ fs := fun hp => by rw [fr p (a p hp)] at b'; cases b'
  rw [opn_out z]
  exact n.nw p o g b' t
theorem ss_seq {m1 : M S} {env1 : S → Env} {m2 : S → M S'} {env2 : S' → Env} (h1 : SS Z w t1 τ m1 env1) (h2 : ∀ s, SS Z w t2 (env1 s) (m2 s) env2) : SS Z w (tSeq t1 t2) τ (m1.bind m2) env2 := fun GB B G H σ st D o =>
  h1 GB B G H σ st { D with nx := t2 D } (o.bind fun s G2 H2 σ2 l st2 o2 => h2 s GB B G2 H2 σ2 st2 D o2)
/-- an expression, then the rest -/
theorem ss_asg {i : Nat} {f : D → M S} (he : EE Z w.w te τ me) (h2 : ∀ d, SS Z w t2 (τ.set i (some (.sh d))) (f d) env) (hx : SubX τ w.px := by trivial) : SS Z w (tSeq (tAsg te (gName i)) t2) τ (me.to f) env := fun GB B G H σ st D o =>
  EV.out he hx st o fun d v G2 H2 l st2 r o2 => h2 d GB B G2 H2 _ (st2.set r) D o2
theorem ss_asg1 {i : Nat} (he : EE Z w.w te τ me) (hx : SubX τ w.px := by trivial) : SS Z w (tAsg te (gName i)) τ (me.to fun d => .ok d) (fun d => τ.set i (some (.sh d))) := fun GB B G H σ st D o =>
  EV.out he hx st o fun d v G2 H2 l st2 r o2 => o2 G2 H2 _ (Le.refl _) (st2.set r)
theorem ss_drop {f : D → M S} (he : EE Z w.w te τ me) (h2 : ∀ d, SS Z w t2 τ (f d) env) (hx : SubX τ w.px := by trivial) : SS Z w (tSeq (tDrop te) t2) τ (me.to f) env := fun GB B G H σ st D o =>
  EV.out he hx st o fun d v G2 H2 l st2 r o2 => h2 d GB B G2 H2 _ st2 D o2
theorem ss_drop1 (he : EE Z w.w te τ me) (hx : SubX τ w.px := by trivial) : SS Z w (tDrop te) τ (me.to fun _ => .ok ()) (fun _ => τ) := fun GB B G H σ st D o =>
  EV.out he hx st o fun d v G2 H2 l st2 r o2 => o2 G2 H2 _ (Le.refl _) st2
theorem ss_ret (he : EE Z w.w te τ me) (hx : SubX τ w.px := by trivial) : SS Z w (tRet te) τ (me.to fun d => .ret (.sh d)) env := fun GB B G H σ st D o =>
  EV.out he hx st o fun d v G2 H2 l st2 r o2 => o2 v G2 H2 [] st2.1 ⟨r, rfl⟩ List.nodup_nil (by simp)
/-- an owned object is handed back -/
theorem EnvR.nd {Z : Zs} {G H : Hp} : ∀ {τ : Env} {σ : L2.St} {fp : List Addr} {i : Nat} {t : T}, EnvR Z G H τ σ fp → fp.Nodup → τ[i]? = some (some t) → ∃ v f, σ[i]? = some (some v) ∧ Tv Z G H t v f ∧ f.Nodup ∧ ∀ p ∈ f, p ∈ fp
  | [], σ, fp, i, t, h, nd, e => by simp at e
  | none :: τ, σ, fp, 0, t, h, nd, e => by simp at e
  | none :: τ, σ, fp, i + 1, t, h, nd, e => by
    unfold EnvR at h
    obtain ⟨v, r, e1, q⟩ := h
    obtain ⟨w, f, a, b, n, c⟩ := q.nd (i := i) (t := t) nd (by simpa using e)
    exact ⟨w, f, by rw [e1]; simpa using a, b, n, c⟩
  | some t' :: τ, σ, fp, 0, t, h, nd, e => by
    unfold EnvR at h
    obtain ⟨v, r, f, q, e1, e2, e3, e4⟩ := h
    have z : t' = t := by simpa using e
    subst z; subst e2
    exact ⟨v, f, by rw [e1]; rfl, e3, (List.nodup_append.mp nd).1, fun p hp => List.mem_append_left _ hp⟩
  | some t' :: τ, σ, fp, i + 1, t, h, nd, e => by
    unfold EnvR at h
    obtain ⟨v, r, f, q, e1, e2, e3, e4⟩ := h
    subst e2
    obtain ⟨w, f', a, b, n, c⟩ := e4.nd (i := i) (t := t) (List.nodup_append.mp nd).2.1 (by simpa using e)
    exact ⟨w, f', by rw [e1]; simpa using a, b, n, fun p hp => List.mem_append_right _ (c p hp)⟩
theorem ss_retO {i : Nat} {t : T} (h : τ[i]? = some (some t)) : SS Z w (tRet (tVar i)) τ (.ret t) env := fun GB B G H σ st D o => by
  obtain ⟨n, fp, e, nd, fr⟩ := st
  obtain ⟨v, f, e1, tv, nf, sub⟩ := e.nd nd h
  exact ⟨v, e1, o v G H f n tv nf fun p hp => fr p (sub p hp)⟩
theorem ss_retN : SS Z w tRetN τ (.ret (.sh .non)) env := fun GB B G H σ st D o => o .non G H [] st.1 ⟨rfl, rfl⟩ List.nodup_nil (by simp)
theorem ss_if {c : TT} {mc : X Bool} {ma mb : M S} (hc : ET Z w.w c τ mc) (h1 : SS Z w t1 τ ma env) (h2 : SS Z w t2 τ mb env) (hx : SubX τ w.px := by trivial) : SS Z w (tIfS c t1 t2) τ (mc.to fun b => bif b then ma else mb) env := fun GB B G H σ st D o =>
  EV.out hc hx st o fun b c G2 H2 l st2 r o2 => by
    subst r
    cases c with
    | true => exact h1 GB B G2 H2 σ st2 D o2
    | false => exact h2 GB B G2 H2 σ st2 D o2
/-- raise C(..) -/
theorem ss_raise {c : Ex} {W : WX} (hw : ∀ σ H, w.w (.ref (Z.ce c)) none σ H → W (.ref (Z.ce c)) none σ H) (hx : SubX τ w.px := by trivial) : SS Z w (fun (_ : Ends) σ H => W (.ref (Z.ce c)) none σ H) τ (.exc c : M S) env := fun GB B G H σ st D o =>
  hw _ _ (o H σ st.1.h (SubX.run st hx))


def forM {S α : Type} (xs : List α) (s : S) (f : S → α → M S) : M S :=
  match xs with
  | [] => .ok s
  | x :: r => (f s x).bind fun s' => forM r s' f
theorem Out.ends {GB B G : Hp} {m : M S} {D D' : Ends} (o : Out Z w GB B G m env D) (h1 : ∀ σ H, D.nx σ H → D'.nx σ H) (h2 : ∀ v H, D.rt v H → D'.rt v H) : Out Z w GB B G m env D' := by
  cases m with
  | ok s => exact fun G3 H3 σ3 l3 st3 => h1 _ _ (o G3 H3 σ3 l3 st3)
  | exc c => exact o
  | ret t => exact fun v G2 H2 fp a b c d => h2 _ _ (o v G2 H2 fp a b c d)
  | bad => exact o
/-- what a target does: u takes the value apart -/
def GJ (Z : Zs) (g : TG) (u : D → Option U) (e : U → Env → Env) : Prop :=
  ∀ (GB B G H : Hp) (σ : L2.St) (τ : Env) (x : D) (v : V), Stt Z GB B G H σ τ → Rp Z G x v → ∀ k : L2.St → Hp → Prop,
    (∃ c, u x = some c ∧ ∀ σ2, Stt Z GB B G H σ2 (e c τ) → k σ2 H) → g v σ H k
theorem gj_name {i : Nat} : GJ Z (gName i) (fun d => some d) (fun d τ => τ.set i (some (.sh d))) := fun GB B G H σ τ x v st r k ⟨c, ec, q⟩ => by
  cases ec
  exact q _ (st.set r)
def unp2 (d : D) : Option (D × D) := match d with
  | .tup [a, b] => some (a, b)
  | _ => none
def unp3 (d : D) : Option (D × D × D) := match d with
  | .tup [a, b, c] => some (a, b, c)
  | _ => none
theorem unp2_inv {d : D} {c : D × D} (h : unp2 d = some c) : d = .tup [c.1, c.2] := by
  unfold unp2 at h
  split at h
  · cases h; rfl
  · cases h
theorem unp3_inv {d : D} {c : D × D × D} (h : unp3 d = some c) : d = .tup [c.1, c.2.1, c.2.2] := by
  unfold unp3 at h
  split at h
  · cases h; rfl
  · cases h
theorem RpL.two {G : Hp} {a b : D} {vs : List V} (h : RpL Z G [a, b] vs) : ∃ x y, vs = [x, y] ∧ Rp Z G a x ∧ Rp Z G b y := by
  unfold RpL at h
  obtain ⟨x, r, e, h1, h2⟩ := h
  unfold RpL at h2
  obtain ⟨y, r2, e2, h3, h4⟩ := h2
  unfold RpL at h4
  subst h4; subst e2; subst e
  exact ⟨x, y, rfl, h1, h3⟩
theorem RpL.three {G : Hp} {a b c : D} {vs : List V} (h : RpL Z G [a, b, c] vs) : ∃ x y z, vs = [x, y, z] ∧ Rp Z G a x ∧ Rp Z G b y ∧ Rp Z G c z := by
  unfold RpL at h
  obtain ⟨x, r, e, h1, h2⟩ := h
  obtain ⟨y, z, e2, h3, h4⟩ := h2.two
  subst e2; subst e
  exact ⟨x, y, z, rfl, h1, h3, h4⟩
theorem gj_tup2 {i j : Nat} : GJ Z (gTup Z.K 2 (gCons (gName i) (gCons (gName j) gNil))) unp2 (fun p τ => (τ.set i (some (.sh p.1))).set j (some (.sh p.2))) := fun GB B G H σ τ x v st r k ⟨c, ec, q⟩ => by
  obtain ⟨a, b⟩ := c
  have z := unp2_inv ec
  subst z
  unfold Rp at r
  obtain ⟨p, vs, e1, e2, l⟩ := r
  obtain ⟨y, z, e3, ra, rb⟩ := l.two
  subst e3
  exact ⟨p, [y, z], e1, SqT.of (st.1.gh.at e2 rfl), rfl, y, [z], rfl, z, [], rfl, rfl, q _ ((st.set ra).set rb)⟩
theorem gj_tup3 {i j n : Nat} : GJ Z (gTup Z.K 3 (gCons (gName i) (gCons (gName j) (gCons (gName n) gNil)))) unp3 (fun p τ => ((τ.set i (some (.sh p.1))).set j (some (.sh p.2.1))).set n (some (.sh p.2.2))) := fun GB B G H σ τ x v st r k ⟨c, ec, q⟩ => by
  obtain ⟨a, b, c⟩ := c
  have z := unp3_inv ec
  subst z
  unfold Rp at r
  obtain ⟨p, vs, e1, e2, l⟩ := r
  obtain ⟨x1, y, z, e3, ra, rb, rc⟩ := l.three
  subst e3
  exact ⟨p, [x1, y, z], e1, SqT.of (st.1.gh.at e2 rfl), rfl, x1, [y, z], rfl, y, [z], rfl, z, [], rfl, rfl, q _ (((st.set ra).set rb).set rc)⟩
/-- x, y = e -/
theorem ss_asgG {g : TG} {u : D → Option U} {e : U → Env → Env} {f : U → M S} (hg : GJ Z g u e) (he : EE Z w.w te τ me) (h2 : ∀ c, SS Z w t2 (e c τ) (f c) env) (hx : SubX τ w.px := by trivial) : SS Z w (tSeq (tAsg te g) t2) τ (me.to fun d => (X.of (u d)).to f) env := fun GB B G H σ st D o =>
  EV.out he hx st o fun d v G2 H2 l st2 r o2 => by
    refine hg GB B G2 H2 σ τ d v st2 r _ ?_
    cases q : u d with
    | some c =>
      rw [q] at o2
      exact ⟨c, rfl, fun σ2 st3 => h2 c GB B G2 H2 σ2 st3 D o2⟩
    | none =>
      rw [q] at o2
      exact False.elim o2

theorem Stt.le {GB B G H : Hp} {σ : L2.St} (s : Stt Z GB B G H σ τ) : Le G H := s.1.gh
end

/-! ### what is walked -/
/-- J goes through the items xs, whatever grows meanwhile -/
def Goz (Z : Zs) (J : It) (G : Hp) (xs : List D) : Prop :=
  ∀ G' H, Le G G' → Le G' H → (∀ i, i < xs.length → J.go i H) ∧ J.stop xs.length H ∧ ∀ i x H', i < xs.length → J.yld i H x H' → ∃ G2, Nxt G' H G2 H' ∧ ∃ d, xs[i]? = some d ∧ Rp Z G2 d x
def EI (Z : Zs) (w : WX) (wi : TI) (τ : Env) (m : X (List D)) : Prop :=
  ∀ G H σ fp, Le G H → EnvR Z G H τ σ fp → ∀ R : It → Hp → Prop, Res Z w σ G H m (fun xs G2 H2 => ∀ J, Goz Z J G2 xs → R J H2) → wi σ H R
def itL (d : D) : X (List D) := match d with
  | .lst xs => .ok xs
  | .scr ns => .ok (ns.map .int)
  | _ => .bad
def itT (d : D) : X (List D) := match d with
  | .tup xs => .ok xs
  | _ => .bad
def itS (d : D) : X (List D) := match d with
  | .str x => .ok (x.cps.toList.map fun c => .str ⟨#[c]⟩)
  | _ => .bad
section
variable {Z : Zs} {w : WX} {τ : Env} {te : TE} {me : X D}
theorem goz_list {a : Addr} {G : Hp} {xs : List D} {vs : List V} (h : ∀ G' H, Le G G' → Le G' H → SqL Z.K H a vs) (r : RpL Z G xs vs) : Goz Z (Itl Z.K a) G xs := fun G' H l1 l2 => by
  have q := h G' H l1 l2
  refine ⟨fun i hi => ?_, ⟨vs, q, by rw [r.length]; exact Nat.le_refl _⟩, fun i x H' hi y => ?_⟩
  · have hi' : i < vs.length := by rw [r.length]; exact hi
    exact ⟨vs, vs[i], q, List.getElem?_eq_getElem hi'⟩
  · obtain ⟨e, y⟩ := y
    subst e
    obtain ⟨d, ed, rd⟩ := r.at (y vs q)
    exact ⟨G', Nxt.refl l2, d, ed, rd.mono l1.lq⟩
theorem goz_tup {a : Addr} {G : Hp} {xs : List D} {vs : List V} (h : ∀ G' H, Le G G' → Le G' H → SqT Z.K H a vs) (r : RpL Z G xs vs) : Goz Z (Itt Z.K a) G xs := fun G' H l1 l2 => by
  have q := h G' H l1 l2
  refine ⟨fun i hi => ?_, ⟨vs, q, by rw [r.length]; exact Nat.le_refl _⟩, fun i x H' hi y => ?_⟩
  · have hi' : i < vs.length := by rw [r.length]; exact hi
    exact ⟨vs, vs[i], q, List.getElem?_eq_getElem hi'⟩
  · obtain ⟨e, y⟩ := y
    subst e
    obtain ⟨d, ed, rd⟩ := r.at (y vs q)
    exact ⟨G', Nxt.refl l2, d, ed, rd.mono l1.lq⟩
theorem rpL_ints {G : Hp} : ∀ ns : List Int, RpL Z G (ns.map .int) (ns.map V.int)
  | [] => RpL.nil
  | n :: ns => RpL.cons rfl (rpL_ints ns)
theorem itL_ok {d : D} {σ : L2.St} {G H : Hp} {k : List D → Hp → Hp → Prop} (q : Res Z w σ G H (itL d) k) : (∃ xs, d = .lst xs ∧ Res Z w σ G H (.ok xs) k) ∨ ∃ ns, d = .scr ns ∧ Res Z w σ G H (.ok (ns.map .int)) k := by
  cases d <;> first
    | exact .inl ⟨_, rfl, q⟩
    | exact .inr ⟨_, rfl, q⟩
    | exact False.elim q
theorem ei_list (he : EE Z w te τ me) : EI Z w (iList Z.K te) τ (me.bind itL) := fun G H σ fp l e R q => by
  refine he G H σ fp l e _ (q.bind.imp fun d G2 H2 n2 q2 v rv => ?_)
  rcases itL_ok q2 with ⟨xs, rfl, q3⟩ | ⟨ns, rfl, q3⟩
  · unfold Rp at rv
    obtain ⟨a, vs, ev, ea, rl⟩ := rv
    have sl : ∀ G' H', Le G2 G' → Le G' H' → SqL Z.K H' a vs := fun G' H' x y => SqL.of (y.at (x.at ea rfl) rfl)
    exact ⟨a, ev, ⟨vs, sl G2 H2 (Le.refl _) n2.gh⟩, q3.now n2.gh _ (goz_list sl rl)⟩
  · unfold Rp at rv
    obtain ⟨a, ev, ea⟩ := rv
    have sl : ∀ G' H', Le G2 G' → Le G' H' → SqL Z.K H' a (ns.map V.int) := fun G' H' x y => y.sqL (x.sqL ea)
    exact ⟨a, ev, ⟨_, sl G2 H2 (Le.refl _) n2.gh⟩, q3.now n2.gh _ (goz_list sl (rpL_ints ns))⟩
theorem itT_ok {d : D} {σ : L2.St} {G H : Hp} {k : List D → Hp → Hp → Prop} (q : Res Z w σ G H (itT d) k) : ∃ xs, d = .tup xs ∧ Res Z w σ G H (.ok xs) k := by
  cases d <;> first
    | exact ⟨_, rfl, q⟩
    | exact False.elim q
theorem ei_tup (he : EE Z w te τ me) : EI Z w (iTup Z.K te) τ (me.bind itT) := fun G H σ fp l e R q => by
  refine he G H σ fp l e _ (q.bind.imp fun d G2 H2 n2 q2 v rv => ?_)
  obtain ⟨xs, rfl, q3⟩ := itT_ok q2
  unfold Rp at rv
  obtain ⟨a, vs, ev, ea, rl⟩ := rv
  have sl : ∀ G' H', Le G2 G' → Le G' H' → SqT Z.K H' a vs := fun G' H' x y => SqT.of (y.at (x.at ea rfl) rfl)
  exact ⟨a, ev, ⟨vs, sl G2 H2 (Le.refl _) n2.gh⟩, q3.now n2.gh _ (goz_tup sl rl)⟩
theorem itS_ok {d : D} {σ : L2.St} {G H : Hp} {k : List D → Hp → Hp → Prop} (q : Res Z w σ G H (itS d) k) : ∃ x, d = .str x ∧ Res Z w σ G H (.ok (x.cps.toList.map fun c => .str ⟨#[c]⟩)) k := by
  cases d <;> first
    | exact ⟨_, rfl, q⟩
    | exact False.elim q
theorem ei_str (he : EE Z w te τ me) : EI Z w (iStr te) τ (me.bind itS) := fun G H σ fp l e R q => by
  refine he G H σ fp l e _ (q.bind.imp fun d G2 H2 n2 q2 v rv => ?_)
  obtain ⟨x, rfl, q3⟩ := itS_ok q2
  refine ⟨x, rv, q3.now n2.gh _ fun G' H' l1 l2 => ⟨fun i hi => ?_, ?_, fun i y H2 hi yy => ?_⟩⟩
  · have : i < x.cps.size := by simpa using hi
    exact this
  · show x.cps.size ≤ _
    simp
  · obtain ⟨e, c, ec, ey⟩ := yy
    subst e; subst ey
    refine ⟨G', Nxt.refl l2, .str ⟨#[c]⟩, ?_, rfl⟩
    rw [List.getElem?_map, Array.getElem?_toList, ec]
    rfl
/-- the ints from a on, n of them, c apart -/
def rng (a c : Int) : Nat → List D
  | 0 => []
  | n + 1 => .int a :: rng (a + c) c n
theorem rng_get : ∀ {a c : Int} {n j : Nat}, j < n → (rng a c n)[j]? = some (.int (a + j * c))
  | a, c, 0, j, h => by omega
  | a, c, n + 1, 0, h => by simp [rng]
  | a, c, n + 1, j + 1, h => by
    have q := rng_get (a := a + c) (c := c) (n := n) (j := j) (by omega)
    show (rng (a + c) c n)[j]? = _
    rw [q]
    have e : a + c + (j : Int) * c = a + ((j + 1 : Nat) : Int) * c := by
      rw [Int.natCast_add, Int.add_mul]
      simp
      omega
    rw [e]
theorem rng_length {a c : Int} : ∀ {n : Nat}, (rng a c n).length = n
  | 0 => rfl
  | n + 1 => by show (rng (a + c) c n).length + 1 = n + 1; rw [rng_length]
def rng1 (ds : List D) : X (List D) := match ds with
  | [.int b] => if -(2 ^ 62) ≤ b ∧ b < 2 ^ 62 then .ok (rng 0 1 b.toNat) else .bad
  | _ => .bad
def rng2 (ds : List D) : X (List D) := match ds with
  | [.int a, .int b] => if -(2 ^ 62) ≤ a ∧ a < 2 ^ 62 ∧ -(2 ^ 62) ≤ b ∧ b < 2 ^ 62 then .ok (rng a 1 (b - a).toNat) else .bad
  | _ => .bad
def rng3 (ds : List D) : X (List D) := match ds with
  | [.int a, .int b, .int c] => if 0 ≤ a ∧ a ≤ 1000000 ∧ 0 ≤ b ∧ b ≤ 1000000 ∧ 0 < c ∧ c < 1000000 then .ok (rng a c (Builtin.Range.rangeSize a b c).toNat) else .bad
  | _ => .bad
theorem goz_rng {a : Int} {n : Nat} {G : Hp} : Goz Z (Itr a n) G (rng a 1 n) := fun G' H l1 l2 => by
  rw [rng_length]
  refine ⟨fun i hi => hi, Nat.le_refl _, fun i x H' hi y => ?_⟩
  obtain ⟨e, y⟩ := y
  subst e; subst y
  exact ⟨G', Nxt.refl l2, _, rng_get hi, by rw [Int.mul_one]; rfl⟩
theorem goz_rngC {a c : Int} {n : Nat} {G : Hp} : Goz Z (Itc a c n) G (rng a c n) := fun G' H l1 l2 => by
  rw [rng_length]
  refine ⟨fun i hi => hi, Nat.le_refl _, fun i x H' hi y => ?_⟩
  obtain ⟨e, y⟩ := y
  subst e; subst y
  exact ⟨G', Nxt.refl l2, _, rng_get hi, rfl⟩
theorem RpL.ints1 {G : Hp} {b : Int} {vs : List V} (h : RpL Z G [.int b] vs) : vs = [.int b] := by
  unfold RpL at h
  obtain ⟨x, r, e, h1, h2⟩ := h
  unfold RpL at h2
  subst h2; subst e
  unfold Rp at h1
  rw [h1]
theorem RpL.one {G : Hp} {b : D} {vs : List V} (h : RpL Z G [b] vs) : ∃ v, vs = [v] ∧ Rp Z G b v := by
  unfold RpL at h
  obtain ⟨x, r, e, h1, h2⟩ := h
  unfold RpL at h2
  subst h2; subst e
  exact ⟨x, rfl, h1⟩
theorem ei_rng1 {ta : TA} {ma : X (List D)} (ha : EA Z w ta τ ma) : EI Z w (iRng1 ta) τ (ma.bind rng1) := fun G H σ fp l e R q => by
  refine ha G H σ fp l e _ (q.bind.imp fun ds G2 H2 n2 q2 vs rv => ?_)
  unfold rng1 at q2
  split at q2
  · split at q2
    · rename_i b h
      refine ⟨b, rv.ints1, h.1, h.2, Res.now n2.gh q2 _ goz_rng⟩
    · exact False.elim q2
  · exact False.elim q2
theorem ei_rng2 {ta : TA} {ma : X (List D)} (ha : EA Z w ta τ ma) : EI Z w (iRng2 ta) τ (ma.bind rng2) := fun G H σ fp l e R q => by
  refine ha G H σ fp l e _ (q.bind.imp fun ds G2 H2 n2 q2 vs rv => ?_)
  unfold rng2 at q2
  split at q2
  · split at q2
    · rename_i a b h
      obtain ⟨x, y, e1, e2, e3⟩ := rv.two
      unfold Rp at e2 e3
      refine ⟨a, b, by rw [e1, e2, e3], h, Res.now n2.gh q2 _ goz_rng⟩
    · exact False.elim q2
  · exact False.elim q2
theorem ei_rng3 {ta : TA} {ma : X (List D)} (ha : EA Z w ta τ ma) : EI Z w (iRng3 ta) τ (ma.bind rng3) := fun G H σ fp l e R q => by
  refine ha G H σ fp l e _ (q.bind.imp fun ds G2 H2 n2 q2 vs rv => ?_)
  unfold rng3 at q2
  split at q2
  · split at q2
    · rename_i a b c h
      obtain ⟨x, y, z, e1, e2, e3, e4⟩ := rv.three
      unfold Rp at e2 e3 e4
      refine ⟨a, b, c, _, by rw [e1, e2, e3, e4], ⟨by omega, by omega, ?_, ?_⟩, Res.now n2.gh q2 _ goz_rngC⟩
      · unfold Builtin.Range.small Builtin.Range.rangeSize
        have e1 : c > 0 := by omega
        have q : (b - a - 1) / c * c ≤ b - a - 1 := Int.ediv_mul_le _ (by omega)
        simp only [Builtin.Range.rangeFitsLong, Bool.and_eq_true, Bool.or_eq_true, decide_eq_true_eq, beq_iff_eq, if_pos e1]
        split
        · have q2 : ((b - a - 1) / c + 1) * c = (b - a - 1) / c * c + c := by rw [Int.add_mul, Int.one_mul]
          have q3 := Int.ediv_le_self c (show (0 : Int) ≤ b - a - 1 by omega)
          have q4 := Int.ediv_nonneg (a := b - a - 1) (b := c) (by omega) (by omega)
          omega
        · omega
      · exact PyProof.Rows.rangeSize_toNat a b c
    · exact False.elim q2
  · exact False.elim q2
end

/-! ### for, while -/
section
variable {Z : Zs} {w : Wh} {τ : Env} {S U : Type} {env : S → Env}
theorem turn_start {s0 : S} {GB B G2 H2 : Hp} {σ : L2.St} {D : Ends} {m : M S} (h0 : SubL τ (env s0)) (st2 : Stt Z GB B G2 H2 σ τ) (o : Out Z w GB B G2 m env D) : ∃ G3, Le G2 G3 ∧ Stt Z GB B G3 H2 σ (env s0) ∧ Out Z w GB B G3 m env D :=
  ss_nil (Z := Z) (w := w) (τ := τ) (env := env) (s := s0) h0 GB B G2 H2 σ st2 { nx := fun σ' H' => ∃ G3, Le G2 G3 ∧ Stt Z GB B G3 H' σ' (env s0) ∧ Out Z w GB B G3 m env D, rt := fun _ _ => False } fun G3 H3 σ3 l3 st3 => ⟨G3, l3, st3, o.at l3⟩
/-- an iterator ahead of what a statement does with it -/
theorem EI.out {wi : TI} {m : X (List D)} {f : List D → M S} (he : EI Z w.w wi τ m) (hx : SubX τ w.px) {GB B G H : Hp} {σ : L2.St} (st : Stt Z GB B G H σ τ) {D : Ends}
    (o : Out Z w GB B G (m.to f) env D) {R : It → Hp → Prop} (k : ∀ xs J G2 H2, Le G G2 → Stt Z GB B G2 H2 σ τ → Goz Z J G2 xs → Out Z w GB B G2 (f xs) env D → R J H2) : wi σ H R := by
  obtain ⟨n, fp, e, nd, fr⟩ := st
  refine he G H σ fp n.gh e R ?_
  cases m with
  | ok a =>
    intro G2 H2 x J gz
    have st2 : Stt Z GB B G2 H2 σ τ := ⟨n.trans x, fp, e.nxt x, nd, fr⟩
    exact k a J G2 H2 x.g st2 gz (Out.at (m := f a) o x.g)
  | exc c =>
    intro H2 s
    exact o H2 σ (n.h.trans s) (SubX.run (Stt.same ⟨n, fp, e, nd, fr⟩ s) hx)
  | bad => exact o
theorem ss_for {wi : TI} {mi : X (List D)} {g : TG} {tb : TS} {u : D → Option U} {e : U → Env → Env} {f : S → U → M S} {s0 : S} (hi : EI Z w.w wi τ mi) (h0 : SubL τ (env s0)) (hg : GJ Z g u e) (hb : ∀ s c, SS Z w tb (e c (env s)) (f s c) env) (hx : SubX τ w.px := by trivial) :
    SS Z w (tFor wi g tb) τ (mi.to fun xs => forM xs s0 fun s x => (X.of (u x)).to (f s)) env := fun GB B G H σ st D o =>
  EI.out hi hx st o fun xs J G2 H2 l st2 gz o2 => by
    refine ⟨fun j n σ' H' => n = xs.length - j ∧ j ≤ xs.length ∧ ∃ s G', Le G2 G' ∧ Stt Z GB B G' H' σ' (env s) ∧ Out Z w GB B G' (forM (xs.drop j) s fun s x => (X.of (u x)).to (f s)) env D, ?_, ?_⟩
    · obtain ⟨G3, l3, st3, o3⟩ := turn_start h0 st2 o2
      exact ⟨xs.length, by simp, Nat.zero_le _, s0, G3, l3, st3, o3⟩
    · rintro j n σ' H' ⟨en, hj, s, G', l', st', o'⟩
      obtain ⟨g1, g2, g3⟩ := gz G' H' l' st'.le
      by_cases hlt : j < xs.length
      · refine .inr ⟨g1 j hlt, fun σ' H' => ∃ m, m < n ∧ m = xs.length - (j + 1) ∧ j + 1 ≤ xs.length ∧ ∃ s G', Le G2 G' ∧ Stt Z GB B G' H' σ' (env s) ∧ Out Z w GB B G' (forM (xs.drop (j + 1)) s fun s x => (X.of (u x)).to (f s)) env D, fun σ3 H3 ⟨m, a, b⟩ => ⟨m, a, b⟩, fun x H4 y => ?_⟩
        obtain ⟨G4, n4, d, ed, rd⟩ := g3 j x H4 hlt y
        have ex : xs.drop j = d :: xs.drop (j + 1) := by
          obtain ⟨hl, hx⟩ := List.getElem?_eq_some_iff.mp ed
          rw [← hx]
          exact List.drop_eq_getElem_cons hl
        rw [ex] at o'
        unfold forM at o'
        have st4 := st'.nxt n4
        have o4 := Out.at o' n4.g
        refine hg GB B G4 H4 σ' (env s) d x st4 rd _ ?_
        cases q : u d with
        | none => rw [q] at o4; exact False.elim o4
        | some c =>
          rw [q] at o4
          refine ⟨c, rfl, fun σ2 st5 => ?_⟩
          have o5 : Out Z w GB B G4 ((f s c).bind fun s' => forM (xs.drop (j + 1)) s' fun s x => (X.of (u x)).to (f s)) env D := o4
          have o6 := Out.bind (env1 := env) (nx' := fun σ' H' => ∃ m, m < n ∧ m = xs.length - (j + 1) ∧ j + 1 ≤ xs.length ∧ ∃ s G', Le G2 G' ∧ Stt Z GB B G' H' σ' (env s) ∧ Out Z w GB B G' (forM (xs.drop (j + 1)) s fun s x => (X.of (u x)).to (f s)) env D) o5 fun s' G6 H6 σ6 l6 st6 o6 =>
            ⟨xs.length - (j + 1), by omega, rfl, hlt, s', G6, (l'.trans n4.g).trans l6, st6, o6⟩
          exact hb s c GB B G4 H4 σ2 st5 _ (o6.ends (fun _ _ h => h) fun _ _ h => h)
      · have ej : j = xs.length := by omega
        subst ej
        rw [List.drop_length] at o'
        exact .inl ⟨g2, o' G' H' σ' (Le.refl _) st'⟩
/-- a while, at most n turns -/
def whileM {S : Type} : Nat → (S → X Bool) → (S → M S) → S → M S
  | 0, _, _, _ => .bad
  | n + 1, c, b, s => (c s).to fun t => bif t then (b s).bind (whileM n c b) else .ok s
theorem ss_while {c : TT} {tb : TS} {mc : S → X Bool} {mb : S → M S} {s0 : S} {n : Nat} (h0 : SubL τ (env s0)) (hc : ∀ s, ET Z w.w c (env s) (mc s)) (hb : ∀ s, SS Z w tb (env s) (mb s) env) (hx : ∀ s, SubX (env s) w.px := by intro _; trivial) :
    SS Z w (tWhile c tb) τ (whileM n mc mb s0) env := fun GB B G H σ st D o => by
  refine ⟨fun k σ' H' => ∃ s G', Stt Z GB B G' H' σ' (env s) ∧ Out Z w GB B G' (whileM k mc mb s) env D, ?_, ?_⟩
  · obtain ⟨G3, l3, st3, o3⟩ := turn_start h0 st o
    exact ⟨n, s0, G3, st3, o3⟩
  · rintro k σ' H' ⟨s, G', st', o'⟩
    cases k with
    | zero => exact False.elim o'
    | succ k =>
      unfold whileM at o'
      refine EV.out (hc s) (hx s) st' o' fun t b G2 H2 l st2 r o2 => ?_
      subst r
      cases b with
      | true =>
        refine ⟨fun σ' H' => ∃ s G', Stt Z GB B G' H' σ' (env s) ∧ Out Z w GB B G' (whileM k mc mb s) env D, fun σ3 H3 h => ⟨k, Nat.lt_succ_self k, h⟩, ?_⟩
        have o3 : Out Z w GB B G2 ((mb s).bind (whileM k mc mb)) env D := o2
        have o4 := Out.bind (env1 := env) (nx' := fun σ' H' => ∃ s G', Stt Z GB B G' H' σ' (env s) ∧ Out Z w GB B G' (whileM k mc mb s) env D) o3 fun s' G6 H6 σ6 l6 st6 o6 => ⟨s', G6, st6, o6⟩
        exact hb s GB B G2 H2 σ' st2 _ (o4.ends (fun _ _ h => h) fun _ _ h => h)
      | false => exact o2 G2 H2 σ' (Le.refl _) st2
end
end Wk

namespace Wk
open PySem PySem.Spec PyProof.Rows L2

/-! ### defs -/
abbrev fil (n : Nat) : Env := List.replicate n none
theorem envR_nones {Z : Zs} {G H : Hp} : ∀ n : Nat, EnvR Z G H (fil n) (List.replicate n none) []
  | 0 => ⟨rfl, rfl⟩
  | n + 1 => ⟨none, List.replicate n none, rfl, envR_nones n⟩
theorem envR_start {Z : Zs} {G H : Hp} {n : Nat} : ∀ {ds : List D} {vs : List V}, RpL Z G ds vs → EnvR Z G H (ds.map (fun d => some (.sh d)) ++ fil n) (vs.map some ++ List.replicate n none) []
  | [], vs, h => by
    unfold RpL at h
    subst h
    exact envR_nones n
  | d :: ds, vs, h => by
    unfold RpL at h
    obtain ⟨v, r, e, a, b⟩ := h
    subst e
    exact ⟨v, _, [], [], rfl, rfl, ⟨a, rfl⟩, envR_start b⟩
abbrev wE (E : XK) : Wh := ⟨fun cls d _ H => E cls d H, none⟩
section
variable {P : Program} {w : World} {K : PySem.W.Frag} {mg : Str → Option Value} {base : Heap}
/-- THE RULE for a def: its body runs as the mirror -/
theorem fn_ok {Z : Zs} {x qual : Str} {st : Stmt} {f : Addr} {fd : FuncData} {N ps : List Str} {k : Nat} {m : List D → M Unit} (F : Fun K x qual st f fd) (S : FnScope N ps (defScope st)) (hlen : ∀ ds, m ds ≠ .bad → ds.length = ps.length)
    (body : ∀ (cdv : Value) (A : Around) (outer : List PySem.Env) (s : Shared) (H : Hp) (E : XK), Room k (A.deeper (envOfC qual (defScope st) s.heap.objs.size f cdv)) →
      Takes (cxOf (L2.CX P w) P w K mg base N qual (defScope st) f cdv A outer s H E) (fun cls d _ H => E cls d H) →
      PassesOwn (model P w) (A.deeper (envOfC qual (defScope st) s.heap.objs.size f cdv)) (envOfC qual (defScope st) s.heap.objs.size f cdv) (cxOf (L2.CX P w) P w K mg base N qual (defScope st) f cdv A outer s H E).xe → ∀ ds : List D, m ds ≠ .bad →
      ∃ t, PSs (cxOf (L2.CX P w) P w K mg base N qual (defScope st) f cdv A outer s H E) (defBody st) t ∧ SS Z (wE E) t (ds.map (fun d => some (.sh d)) ++ fil (N.length - ds.length)) (m ds) (fun _ => fil N.length)) :
    FnOk P w K mg base (L2.CX P w) (k + 1) f fd ps (spM Z m) := by
  have nb : ∀ {vs : List V} {H : Hp} {Q : VK} {E : XK}, spM Z m vs H Q E → ∃ G ds, Le G H ∧ RpL Z G ds vs ∧ m ds ≠ .bad := fun {vs H Q E} h => by
    obtain ⟨G, ds, l, r, h⟩ := h
    refine ⟨G, ds, l, r, fun e => ?_⟩
    rw [e] at h
    exact h
  refine F.okX S (fun vs H Q E h => ?_) (fun cdv A outer s H vs Q E hr h => ?_)
  · obtain ⟨G, ds, l, r, e⟩ := nb h
    rw [r.length]
    exact hlen ds e
  · obtain ⟨G, ds, l, r, h⟩ := h
    have e : m ds ≠ .bad := fun e => by rw [e] at h; exact h
    obtain ⟨t, ht, ss⟩ := body cdv A outer s H E hr (takes_of rfl rfl rfl rfl) (passes_of (X := cxOf (L2.CX P w) P w K mg base N qual (defScope st) f cdv A outer s H E) rfl) ds e
    refine ⟨t, ht, ?_⟩
    have hl : vs.length = ds.length := r.length
    refine ss G H G H (L2.start N vs) ⟨Nxt.refl l, [], ?_, List.nodup_nil, by simp⟩ _ ?_
    · unfold L2.start
      rw [hl]
      exact envR_start r
    · cases q : m ds with
      | ok u =>
        rw [q] at h
        intro G2 H2 σ2 l2 st2
        exact h G2 H2 st2.1
      | ret t =>
        rw [q] at h
        exact fun v G2 H2 fp n tv nd fr => h v G2 H2 fp n tv nd fr
      | exc c =>
        rw [q] at h
        exact fun H2 σ2 s _ => h H2 s
      | bad => exact absurd q e
/-- a def of the program that stands at a name -/
structure Fn (P : Program) (w : World) (K : PySem.W.Frag) (mg : Str → Option Value) (base : Heap) (x : Str) (k : Nat) (ps : List Str) (dvs : List V) (sp : Sp) : Prop where
  ex : ∃ f fd ds, FnOk P w K mg base (L2.CX P w) k f fd ps sp ∧ mg x = some (.ref f) ∧ PySem.W.keepIn K (.ref f) = true ∧ Binds K fd ps ds ∧ Vals dvs ds
theorem Fn.mk1 {x : Str} {k : Nat} {ps : List Str} {sp : Sp} {f : Addr} {fd : FuncData} (F : FnOk P w K mg base (L2.CX P w) k f fd ps sp) (hm : mg x = some (.ref f)) (hk : PySem.W.keepIn K (.ref f) = true) (hb : Binds K fd ps []) : Fn P w K mg base x k ps [] sp := ⟨f, fd, [], F, hm, hk, hb, .nil⟩
end
def Lets (X : Cx) (W : WX) : Prop := ∀ σ, PassesAt (L2.CX X.prog X.w) X σ (WE W σ)
theorem lets_of {X : Cx} {W : WX} (tk : Takes X W) : Lets X W := passAt tk
/-- in a comprehension's block, in an except suite: nothing leaves -/
abbrev w0 : WX := fun _ _ _ _ => False
theorem lets0 {X : Cx} : Lets X w0 := fun _ _ _ _ _ _ _ h => by
  obtain ⟨_, _, _, _, _, _, _, _, _, _, _, _, z⟩ := h
  exact z.elim
section
variable {X : Cx} {W : WX} {x : Str} {k : Nat} {ps : List Str} {dvs : List V} {sp : Sp} {p pos : Pos} {e : Expr} {es : List Expr} {t : TA}
theorem pe_fn (F : Fn X.prog X.w X.K X.mg X.base x k ps dvs sp) (hr : Room k X.A) (hl : Lets X W) (hg : Gl X x) (ha : PA X (e :: es) t) (hdb : (x == ("__debug__" : Str)) = false := by decide)
    (he : starEach (e :: es) X.env = (false, eval e X.env) :: starEach es X.env := by rfl) (hpl : (backTo pos (starEach es X.env)).any (·.1) = false := by rfl) : PE X (.Call (.Name x p) (e :: es) [] pos) (tCallSD sp dvs (WE W) t) := by
  obtain ⟨f, fd, ds, F, hm, hk, hb, hd⟩ := F.ex
  exact pe_callSD F hr hg hm hk hb hd hl ha hdb he hpl
theorem pe_fn0 (F : Fn X.prog X.w X.K X.mg X.base x k ps dvs sp) (hr : Room k X.A) (hl : Lets X W) (hg : Gl X x) (hdb : (x == ("__debug__" : Str)) = false := by decide) : PE X (.Call (.Name x p) [] [] pos) (tCallSD sp dvs (WE W) tNil) := by
  obtain ⟨f, fd, ds, F, hm, hk, hb, hd⟩ := F.ex
  refine ⟨fun pins s σ H Q I h => ?_⟩
  refine wpAny_Call_Name_kw (ld_glob I hg hm ?_ hdb)
  exact PySem.W.callWith_K0 I.kIn hk (run_fnSD (us := []) F hr hb hd (hl σ) I .nil h)
end
section
variable {Z : Zs} {w : WX} {τ : Env}
theorem ee_fn {f : List D → M Unit} {ta : TA} {ma : X (List D)} {dd : List D} {dvs : List V} (ha : EA Z w ta τ ma) (hd : ∀ G, RpL Z G dd dvs) : EE Z w (tCallSD (spM Z f) dvs (WE w) ta) τ (ma.bind fun ds => (f (ds ++ dd)).fn) := fun G H σ fp l e Q q => by
  refine ha G H σ fp l e _ (q.bind.imp fun ds G2 H2 n2 q2 vs rvs => ?_)
  refine ⟨G2, ds ++ dd, n2.gh, rvs.append (hd G2), ?_⟩
  cases e1 : f (ds ++ dd) with
  | ok a =>
    rw [e1] at q2
    exact fun G3 H3 n3 => q2 G3 H3 n3 _ rfl
  | ret t =>
    rw [e1] at q2
    intro v G3 H3 fp3 n3 tv nd fr
    have own := fun p hp => (tv.own p hp).1
    exact q2 (opn G3 H3 fp3) H3 (n3.opn fr own) v (tv.freeze own fun _ h => h)
  | exc c =>
    rw [e1] at q2
    exact fun H3 s => q2 H3 s
  | bad =>
    rw [e1] at q2
    exact q2
/-- as ee_fn, without defaults -/
theorem ee_fn' {f : List D → M Unit} {ta : TA} {ma : X (List D)} (ha : EA Z w ta τ ma) : EE Z w (tCallSD (spM Z f) [] (WE w) ta) τ (ma.bind fun ds => (f ds).fn) := by
  have h := ee_fn (f := f) (dd := []) (dvs := []) ha fun G => RpL.nil
  simpa only [List.append_nil] using h
end
/-! mirrors by the number of arguments -/
def ar0 (m : M Unit) : List D → M Unit
  | [] => m
  | _ => .bad
def ar1 (m : D → M Unit) : List D → M Unit
  | [a] => m a
  | _ => .bad
def ar2 (m : D → D → M Unit) : List D → M Unit
  | [a, b] => m a b
  | _ => .bad
def ar3 (m : D → D → D → M Unit) : List D → M Unit
  | [a, b, c] => m a b c
  | _ => .bad
def ar4 (m : D → D → D → D → M Unit) : List D → M Unit
  | [a, b, c, d] => m a b c d
  | _ => .bad
def ar5 (m : D → D → D → D → D → M Unit) : List D → M Unit
  | [a, b, c, d, e] => m a b c d e
  | _ => .bad
def ar6 (m : D → D → D → D → D → D → M Unit) : List D → M Unit
  | [a, b, c, d, e, f] => m a b c d e f
  | _ => .bad
def ar7 (m : D → D → D → D → D → D → D → M Unit) : List D → M Unit
  | [a, b, c, d, e, f, g] => m a b c d e f g
  | _ => .bad
theorem ar0_inv {m : M Unit} {ds : List D} (h : ar0 m ds ≠ .bad) : ds = [] := by
  unfold ar0 at h; split at h
  · rfl
  · exact absurd rfl h
theorem ar1_inv {m : D → M Unit} {ds : List D} (h : ar1 m ds ≠ .bad) : ∃ a, ds = [a] := by
  unfold ar1 at h; split at h
  · exact ⟨_, rfl⟩
  · exact absurd rfl h
theorem ar2_inv {m : D → D → M Unit} {ds : List D} (h : ar2 m ds ≠ .bad) : ∃ a b, ds = [a, b] := by
  unfold ar2 at h; split at h
  · exact ⟨_, _, rfl⟩
  · exact absurd rfl h
theorem ar3_inv {m : D → D → D → M Unit} {ds : List D} (h : ar3 m ds ≠ .bad) : ∃ a b c, ds = [a, b, c] := by
  unfold ar3 at h; split at h
  · exact ⟨_, _, _, rfl⟩
  · exact absurd rfl h
theorem ar4_inv {m : D → D → D → D → M Unit} {ds : List D} (h : ar4 m ds ≠ .bad) : ∃ a b c d, ds = [a, b, c, d] := by
  unfold ar4 at h; split at h
  · exact ⟨_, _, _, _, rfl⟩
  · exact absurd rfl h
theorem ar5_inv {m : D → D → D → D → D → M Unit} {ds : List D} (h : ar5 m ds ≠ .bad) : ∃ a b c d e, ds = [a, b, c, d, e] := by
  unfold ar5 at h; split at h
  · exact ⟨_, _, _, _, _, rfl⟩
  · exact absurd rfl h
theorem ar6_inv {m : D → D → D → D → D → D → M Unit} {ds : List D} (h : ar6 m ds ≠ .bad) : ∃ a b c d e f, ds = [a, b, c, d, e, f] := by
  unfold ar6 at h; split at h
  · exact ⟨_, _, _, _, _, _, rfl⟩
  · exact absurd rfl h
theorem ar7_inv {m : D → D → D → D → D → D → D → M Unit} {ds : List D} (h : ar7 m ds ≠ .bad) : ∃ a b c d e f g, ds = [a, b, c, d, e, f, g] := by
  unfold ar7 at h; split at h
  · exact ⟨_, _, _, _, _, _, _, rfl⟩
  · exact absurd rfl h

end Wk

namespace Wk
open PySem PySem.Spec PyProof.Rows L2

/-! ### operations that take several kinds -/
def rOr (r r' : R2) : R2 := fun x y H Q => r x y H Q ∨ r' x y H Q
theorem opU {X : Cx} {f : Value → Value → Sem Value} {r r' : R2} (h : OpR X f r) (h' : OpR X f r') : OpR X f (rOr r r') := by
  intro pins s σ H x y v u Q I rx ry q
  rcases q with q | q
  · exact h pins s σ H x y v u Q I rx ry q
  · exact h' pins s σ H x y v u Q I rx ry q
def tOr2 (t t' : TE) : TE := fun σ H Q => t σ H Q ∨ t' σ H Q
theorem pe_or2 {X : Cx} {e : Expr} {t t' : TE} (h : PE X e t) (h' : PE X e t') : PE X e (tOr2 t t') :=
  ⟨fun pins s σ H Q I q => by
    rcases q with q | q
    · exact h.run pins s σ H Q I q
    · exact h'.run pins s σ H Q I q⟩
def rcOr (r r' : List V → Hp → VK → Prop) : List V → Hp → VK → Prop := fun xs H Q => r xs H Q ∨ r' xs H Q
theorem caU {X : Cx} {f : Value} {r r' : List V → Hp → VK → Prop} (h : CallR X f r) (h' : CallR X f r') : CallR X f (rcOr r r') := by
  intro pins s σ H xs us Q I rx q
  rcases q with q | q
  · exact h pins s σ H xs us Q I rx q
  · exact h' pins s σ H xs us Q I rx q

/-! + -/
def rAddS : R2 := fun x y H Q => ∃ i j, x = .str i ∧ y = .str j ∧ i.length + j.length ≤ sizeLine ∧ Q (.str (i ++ j)) H
def rAdd3 : R2 := rOr (rI0 fun i j => .int (i + j)) (rOr rAddS rCat)
theorem op_add3 {X : Cx} : OpR X (binaryOp .Add) rAdd3 := opU op_add (opU op_add_str op_cat)
def dAdd (x y : D) : X D := match x, y with
  | .int i, .int j => .ok (.int (i + j))
  | .str a, .str b => if a.length + b.length ≤ 1000000 then .ok (.str (a ++ b)) else .bad
  | .lst a, .lst b => if a.length + b.length ≤ 1000000 then .ok (.lst (a ++ b)) else .bad
  | _, _ => .bad
section
variable {Z : Zs} {w : WX} {τ : Env}
theorem od_add : OpD Z rAdd3 dAdd := fun w σ G H x y v u l rx ry Q q => by
  unfold dAdd at q
  split at q
  · unfold Rp at rx ry
    subst rx; subst ry
    exact .inl ⟨_, _, rfl, rfl, q.now l _ rfl⟩
  · split at q
    · rename_i h
      unfold Rp at rx ry
      subst rx; subst ry
      exact .inr (.inl ⟨_, _, rfl, rfl, sz6 h, q.now l _ rfl⟩)
    · exact False.elim q
  · split at q
    · rename_i h
      unfold Rp at rx ry
      obtain ⟨a, vs, e1, e2, e3⟩ := rx
      obtain ⟨b, us, e4, e5, e6⟩ := ry
      refine .inr (.inr ⟨a, b, vs, us, e1, e4, l.at e2 rfl, l.at e5 rfl, by rw [e3.length, e6.length]; exact sz6 h, fun p hp => ?_⟩)
      have n := (Nxt.refl l).new (o := .lst (vs ++ us)) hp
      refine q _ _ n _ ?_
      unfold Rp
      exact ⟨p, _, rfl, upd_same, (e3.append e6).mono n.g.lq⟩
    · exact False.elim q
  · exact False.elim q
/-! -, *, //, %, ** -/
def dSub (x y : D) : X D := match x, y with
  | .int i, .int j => .ok (.int (i - j))
  | _, _ => .bad
theorem od_sub : OpD Z (rI0 fun i j => .int (i - j)) dSub := fun w σ G H x y v u l rx ry Q q => by
  unfold dSub at q
  split at q
  · unfold Rp at rx ry
    subst rx; subst ry
    exact ⟨_, _, rfl, rfl, q.now l _ rfl⟩
  · exact False.elim q
def rMulS : R2 := fun x y H Q => ∃ a n, x = .str a ∧ y = .int n ∧ MulOk a n ∧ Q (.str (Txt.mul a n)) H
theorem op_mulS {X : Cx} : OpR X (binaryOp .Mult) rMulS := by
  intro pins s σ H x y v u Q I rx ry h
  obtain ⟨a, n, rfl, rfl, hc, q⟩ := h
  obtain ⟨t, rfl⟩ := rx
  obtain ⟨t', rfl⟩ := ry
  exact SB.mul hc fun t' k => ⟨.str (Txt.mul a n), H, I.tok k, ⟨_, rfl⟩, q⟩
/-- all small or one within 64 bits -/
def mulFits (i j : Int) : Bool := decide (i.natAbs < 2 ^ 60) || decide (j.natAbs < 2 ^ 60) || decide (i.natAbs.log2 + j.natAbs.log2 < 1000000)
def rMul3 : R2 := rOr (rI CMul fun i j => .int (i * j)) (rOr (rI CMulW fun i j => .int (i * j)) rMulS)
theorem op_mul3 {X : Cx} : OpR X (binaryOp .Mult) rMul3 := opU op_mul (opU op_mulW op_mulS)
def dMul (x y : D) : X D := match x, y with
  | .int i, .int j => if mulFits i j then .ok (.int (i * j)) else .bad
  | .str a, .int n => if n ≤ 1000 ∧ -1000 ≤ n ∧ a.length ≤ 1000 then .ok (.str (Txt.mul a n)) else .bad
  | _, _ => .bad
theorem mulOk_small {a : PySem.Str} {n : Int} (h1 : n ≤ 1000) (h2 : -1000 ≤ n) (h3 : a.length ≤ 1000) : MulOk a n := by
  refine ⟨by simp; omega, fun h _ => ?_, fun h _ => ?_⟩
  · have q : (a.length : Int) * n ≤ 1000 * 1000 := Int.mul_le_mul (by omega) h1 (by omega) (by omega)
    have q2 : (a.length : Int) ≤ (2 ^ 63 - 1) / n := (Int.le_ediv_iff_mul_le (by omega)).mpr (by omega)
    omega
  · have q : a.length * n.toNat ≤ 1000 * 1000 := Nat.mul_le_mul h3 (by omega)
    unfold Builtin.Str.tooLong
    rw [decide_eq_false_iff_not]
    have := sizeLine_eq
    omega
theorem od_mul : OpD Z rMul3 dMul := fun w σ G H x y v u l rx ry Q q => by
  unfold dMul at q
  split at q
  · split at q
    · rename_i h
      unfold Rp at rx ry
      subst rx; subst ry
      unfold mulFits at h
      simp only [Bool.or_eq_true, decide_eq_true_eq] at h
      rcases h with (h | h) | h
      · exact .inl ⟨_, _, rfl, rfl, .inl (by omega), q.now l _ rfl⟩
      · exact .inl ⟨_, _, rfl, rfl, .inr (by omega), q.now l _ rfl⟩
      · exact .inr (.inl ⟨_, _, rfl, rfl, h, q.now l _ rfl⟩)
    · exact False.elim q
  · split at q
    · rename_i h
      unfold Rp at rx ry
      subst rx; subst ry
      exact .inr (.inr ⟨_, _, rfl, rfl, mulOk_small h.1 h.2.1 h.2.2, q.now l _ rfl⟩)
    · exact False.elim q
  · exact False.elim q
def rDiv2 : R2 := rOr (rI CDivN fun i j => .int (i.fdiv j)) (rI CDivW fun i j => .int (i / j))
theorem op_div2 {X : Cx} : OpR X (binaryOp .FloorDiv) rDiv2 := opU op_fdivN op_fdivW
/-- // by a positive divisor below 2 ^ 9000 -/
def dDiv (x y : D) : X D := match x, y with
  | .int i, .int j => if 0 < j ∧ j.natAbs.log2 < 9000 then .ok (.int (i / j)) else .bad
  | _, _ => .bad
theorem od_div : OpD Z rDiv2 dDiv := fun w σ G H x y v u l rx ry Q q => by
  unfold dDiv at q
  split at q
  · split at q
    · rename_i h
      unfold Rp at rx ry
      subst rx; subst ry
      exact .inr ⟨_, _, rfl, rfl, h, q.now l _ rfl⟩
    · exact False.elim q
  · exact False.elim q
def dMod (x y : D) : X D := match x, y with
  | .int i, .int j => if 0 < j then .ok (.int (i % j)) else .bad
  | _, _ => .bad
theorem od_mod : OpD Z (rI (fun _ j => 0 < j) fun i j => .int (i % j)) dMod := fun w σ G H x y v u l rx ry Q q => by
  unfold dMod at q
  split at q
  · split at q
    · rename_i h
      unfold Rp at rx ry
      subst rx; subst ry
      exact ⟨_, _, rfl, rfl, h, q.now l _ rfl⟩
    · exact False.elim q
  · exact False.elim q
def dPow (x y : D) : X D := match x, y with
  | .int i, .int j => if 0 ≤ j ∧ j ≤ 1000000 ∧ i.natAbs < 2 ^ 60 then .ok (.int (i ^ j.toNat)) else .bad
  | _, _ => .bad
theorem od_pow : OpD Z (rI CPow fun i j => .int (i ^ j.toNat)) dPow := fun w σ G H x y v u l rx ry Q q => by
  unfold dPow at q
  split at q
  · split at q
    · rename_i h
      unfold Rp at rx ry
      subst rx; subst ry
      exact ⟨_, _, rfl, rfl, ⟨h.1, h.2.1, by omega⟩, q.now l _ rfl⟩
    · exact False.elim q
  · exact False.elim q
def dNeg (x : D) : X D := match x with
  | .int i => .ok (.int (-i))
  | _ => .bad
theorem ud_neg : UnD Z (rU fun i => .int (-i)) dNeg := fun w σ G H x v l rx Q q => by
  unfold dNeg at q
  split at q
  · unfold Rp at rx
    subst rx
    exact ⟨_, rfl, q.now l _ rfl⟩
  · exact False.elim q
/-! comparisons of ints -/
def dLt (x y : D) : X D := match x, y with
  | .int i, .int j => .ok (.bl (decide (i < j)))
  | _, _ => .bad
def dLe (x y : D) : X D := match x, y with
  | .int i, .int j => .ok (.bl (decide (i ≤ j)))
  | _, _ => .bad
def dGt (x y : D) : X D := match x, y with
  | .int i, .int j => .ok (.bl (decide (j < i)))
  | _, _ => .bad
def dGe (x y : D) : X D := match x, y with
  | .int i, .int j => .ok (.bl (decide (j ≤ i)))
  | _, _ => .bad
theorem od_lt : OpD Z (rI0 fun i j => .bl (decide (i < j))) dLt := fun w σ G H x y v u l rx ry Q q => by
  unfold dLt at q
  split at q
  · unfold Rp at rx ry
    subst rx; subst ry
    exact ⟨_, _, rfl, rfl, q.now l _ rfl⟩
  · exact False.elim q
theorem od_le : OpD Z (rI0 fun i j => .bl (decide (i ≤ j))) dLe := fun w σ G H x y v u l rx ry Q q => by
  unfold dLe at q
  split at q
  · unfold Rp at rx ry
    subst rx; subst ry
    exact ⟨_, _, rfl, rfl, q.now l _ rfl⟩
  · exact False.elim q
theorem od_gt : OpD Z (rI0 fun i j => .bl (decide (j < i))) dGt := fun w σ G H x y v u l rx ry Q q => by
  unfold dGt at q
  split at q
  · unfold Rp at rx ry
    subst rx; subst ry
    exact ⟨_, _, rfl, rfl, q.now l _ rfl⟩
  · exact False.elim q
theorem od_ge : OpD Z (rI0 fun i j => .bl (decide (j ≤ i))) dGe := fun w σ G H x y v u l rx ry Q q => by
  unfold dGe at q
  split at q
  · unfold Rp at rx ry
    subst rx; subst ry
    exact ⟨_, _, rfl, rfl, q.now l _ rfl⟩
  · exact False.elim q
/-- a op1 b op2 c -/
theorem ee_chain {r r' : R2} {f f' : D → D → X D} {ta tb tc : TE} {ma mb mc : X D} (hr : OpD Z r f) (hr' : OpD Z r' f') (ha : EE Z w ta τ ma) (hb : EE Z w tb τ mb) (hc : EE Z w tc τ mc) :
    EE Z w (tChain r r' ta tb tc) τ (ma.bind fun x => mb.bind fun y => ((f x y).bind dB).bind fun b => bif b then mc.bind fun z => f' y z else .ok (.bl false)) := fun G H σ fp l e Q q => by
  refine ha G H σ fp l e _ (q.bind.imp fun x G2 H2 n2 q2 v rv => ?_)
  refine hb G2 H2 σ fp n2.gh (e.nxt n2) _ (q2.bind.imp fun y G3 H3 n3 q3 u ru => ?_)
  refine hr w σ G3 H3 x y v u n3.gh (rv.mono n3.g.lq) ru _ (q3.bind.bind.imp fun d G4 H4 n4 q4 b rb => ?_)
  obtain ⟨k, rfl, q5⟩ := dB_ok q4
  have q5 := q5.now n4.gh
  refine ⟨k, rb, ?_⟩
  cases k with
  | true =>
    rw [if_pos rfl]
    refine hc G4 H4 σ fp n4.gh ((e.nxt n2).nxt (n3.trans n4)) _ (Res.imp (Res.bind q5) fun z G5 H5 n5 q6 w' rw' => ?_)
    exact hr' w σ G5 H5 y z u w' n5.gh ((ru.mono n4.g.lq).mono n5.g.lq) rw' Q q6
  | false =>
    rw [if_neg Bool.false_ne_true]
    exact Res.now n4.gh q5 _ rfl

/-! is None -/
def dIsN (x : D) : D := match x with
  | .non => .bl true
  | _ => .bl false
theorem dIsN_eq {G : Hp} {d : D} {v : V} (r : Rp Z G d v) : dIsN d = .bl (decide (v = .non)) := by
  cases d <;> unfold Rp at r
  case non => subst r; rfl
  case bl => subst r; rfl
  case int => subst r; rfl
  case str => subst r; rfl
  case lst => obtain ⟨a, vs, rfl, _⟩ := r; rfl
  case tup => obtain ⟨a, vs, rfl, _⟩ := r; rfl
  case dct => obtain ⟨a, vs, rfl, _⟩ := r; rfl
  case ins => obtain ⟨a, dx, vs, rfl, _⟩ := r; rfl
  case scr => obtain ⟨a, rfl, _⟩ := r; rfl
  case adr => subst r; rfl
theorem ee_isN {ta : TE} {ma : X D} (ha : EE Z w ta τ ma) : EE Z w (tIsN ta) τ (ma.bind fun x => .ok (dIsN x)) := fun G H σ fp l e Q q => by
  refine ha G H σ fp l e _ (q.bind.imp fun x G2 H2 n2 q2 v rv => ?_)
  exact q2.now n2.gh _ (by rw [dIsN_eq rv]; rfl)
theorem ee_notN {ta : TE} {ma : X D} (ha : EE Z w ta τ ma) : EE Z w (tNotN ta) τ (ma.bind fun x => (X.ok (dIsN x)).bind fun b => (dB b).bind fun c => .ok (.bl !c)) := fun G H σ fp l e Q q => by
  refine ha G H σ fp l e _ (q.bind.imp fun x G2 H2 n2 q2 v rv => ?_)
  rw [dIsN_eq rv] at q2
  exact Res.now n2.gh q2 _ rfl

/-! places, slices -/
/-- the place of an item -/
def dAt (x y : D) : X D := match x, y with
  | .lst xs, .int i => .of (atI xs i)
  | .tup xs, .int i => .of (atI xs i)
  | .scr ns, .int i => .of ((atI ns i).map .int)
  | .str z, .int i => if z.length ≤ 1000000 then .of ((atI z.cps.toList i).map fun c => .str ⟨#[c]⟩) else .bad
  | _, _ => .bad
theorem of_ok {d : Option D} {σ : L2.St} {G H : Hp} {k : D → Hp → Hp → Prop} (q : Res Z w σ G H (X.of d) k) : ∃ x, d = some x ∧ Res Z w σ G H (.ok x) k := by
  cases d with
  | none => exact False.elim q
  | some x => exact ⟨x, rfl, q⟩
theorem atI_rp {G : Hp} {xs : List D} {vs : List V} {i : Int} {d : D} (r : RpL Z G xs vs) (h : atI xs i = some d) : ∃ v, atI vs i = some v ∧ Rp Z G d v := by
  unfold atI at h ⊢
  rw [r.length]
  cases e : ixN xs.length i with
  | none => rw [e] at h; cases h
  | some j =>
    rw [e] at h
    exact r.get h
theorem od_at : OpD Z (rIx Z.K) dAt := fun w σ G H x y v u l rx ry Q q => by
  unfold dAt at q
  split at q
  · obtain ⟨d, ed, q2⟩ := of_ok q
    unfold Rp at rx ry
    subst ry
    obtain ⟨a, vs, e1, e2, e3⟩ := rx
    obtain ⟨v', ev, rv⟩ := atI_rp e3 ed
    exact .inl ⟨a, vs, _, v', e1, rfl, SqL.of (l.at e2 rfl), ev, q2.now l _ rv⟩
  · obtain ⟨d, ed, q2⟩ := of_ok q
    unfold Rp at rx ry
    subst ry
    obtain ⟨a, vs, e1, e2, e3⟩ := rx
    obtain ⟨v', ev, rv⟩ := atI_rp e3 ed
    exact .inr (.inl ⟨a, vs, _, v', e1, rfl, SqT.of (l.at e2 rfl), ev, q2.now l _ rv⟩)
  · rename_i ns i
    obtain ⟨d, ed, q2⟩ := of_ok q
    unfold Rp at rx ry
    subst ry
    obtain ⟨a, e1, e2⟩ := rx
    obtain ⟨n, en, en2⟩ := Option.map_eq_some_iff.mp ed
    subst en2
    refine .inl ⟨a, _, _, .int n, e1, rfl, l.sqL e2, ?_, q2.now l _ rfl⟩
    unfold atI at en ⊢
    rw [List.length_map]
    cases e : ixN ns.length i with
    | none => rw [e] at en; cases en
    | some j =>
      rw [e] at en
      show (ns.map V.int)[j]? = _
      rw [List.getElem?_map]
      have en' : ns[j]? = some n := en
      rw [en']; rfl
  · split at q
    · rename_i h
      obtain ⟨d, ed, q2⟩ := of_ok q
      unfold Rp at rx ry
      subst rx; subst ry
      obtain ⟨c, ec, en2⟩ := Option.map_eq_some_iff.mp ed
      subst en2
      exact .inr (.inr ⟨_, _, c, rfl, rfl, sz6 h, ec, q2.now l _ rfl⟩)
    · exact False.elim q
  · exact False.elim q
theorem eo_none : EO Z w tNoPart τ (.ok none) := fun G H σ fp l e Q q => q.now l _ rfl
def dPart (d : D) : X (Option Int) := match d with
  | .int i => .ok (some i)
  | _ => .bad
theorem eo_some {te : TE} {me : X D} (h : EE Z w te τ me) : EO Z w (tPart te) τ (me.bind dPart) := fun G H σ fp l e Q q => by
  refine h G H σ fp l e _ (q.bind.imp fun d G2 H2 n2 q2 v rv => ?_)
  unfold dPart at q2
  split at q2
  · exact ⟨_, rv, Res.now n2.gh q2 _ rfl⟩
  · exact False.elim q2
def cut {α : Type} (xs : List α) (lo hi : Option Int) : List α := (xs.drop (HT.sIx xs.length 0 lo)).take (HT.sIx xs.length xs.length hi - HT.sIx xs.length 0 lo)
def rSl2 (K : PySem.W.Frag) : V → Option Int → Option Int → Hp → VK → Prop := fun x lo hi H Q => rSlL K x lo hi H Q ∨ rSlS x lo hi H Q
theorem sl2 {X : Cx} : SlR X (rSl2 X.K) := sl_list.or sl_str
def dCut (x : D) (lo hi : Option Int) : X D := match x with
  | .lst xs => .ok (.lst (cut xs lo hi))
  | .scr ns => .ok (.lst ((cut ns lo hi).map .int))
  | .str z => if z.length ≤ 1000000 then .ok (.str (cutS z lo hi)) else .bad
  | _ => .bad
theorem RpL.drop {G : Hp} : ∀ {ds : List D} {vs : List V} (n : Nat), RpL Z G ds vs → RpL Z G (ds.drop n) (vs.drop n)
  | ds, vs, 0, h => h
  | [], vs, n + 1, h => by unfold RpL at h; rw [h]; exact RpL.nil
  | d :: ds, vs, n + 1, h => by
    unfold RpL at h
    obtain ⟨v, r, e, a, q⟩ := h
    rw [e]
    exact q.drop n
theorem RpL.take {G : Hp} : ∀ {ds : List D} {vs : List V} (n : Nat), RpL Z G ds vs → RpL Z G (ds.take n) (vs.take n)
  | ds, vs, 0, h => RpL.nil
  | [], vs, n + 1, h => by unfold RpL at h; rw [h]; exact RpL.nil
  | d :: ds, vs, n + 1, h => by
    unfold RpL at h
    obtain ⟨v, r, e, a, q⟩ := h
    rw [e]
    exact RpL.cons a (q.take n)
theorem ee_cut {te : TE} {tl th : TO} {me : X D} {ml mh : X (Option Int)} (he : EE Z w te τ me) (hl : EO Z w tl τ ml) (hh : EO Z w th τ mh) : EE Z w (tSl (rSl2 Z.K) te tl th) τ (me.bind fun x => ml.bind fun lo => mh.bind fun hi => dCut x lo hi) := fun G H σ fp l e Q q => by
  refine he G H σ fp l e _ (q.bind.imp fun x G2 H2 n2 q2 v rv => ?_)
  refine hl G2 H2 σ fp n2.gh (e.nxt n2) _ (q2.bind.imp fun lo G3 H3 n3 q3 lo' rlo => ?_)
  refine hh G3 H3 σ fp n3.gh ((e.nxt n2).nxt n3) _ (q3.bind.imp fun hi G4 H4 n4 q4 hi' rhi => ?_)
  subst rlo; subst rhi
  have rv4 := (rv.mono n3.g.lq).mono n4.g.lq
  unfold dCut at q4
  split at q4
  · rename_i xs
    unfold Rp at rv4
    obtain ⟨a, vs, e1, e2, e3⟩ := rv4
    refine .inl ⟨a, vs, e1, SqL.of (n4.gh.at e2 rfl), fun p hp => ?_⟩
    have n := (Nxt.refl n4.gh).new (o := .lst (cutV vs lo' hi')) hp
    refine q4 _ _ n _ ?_
    unfold Rp
    refine ⟨p, _, rfl, upd_same, RpL.mono n.g.lq ?_⟩
    unfold cut cutV
    rw [e3.length]
    exact (e3.drop _).take _
  · rename_i ns
    unfold Rp at rv4
    obtain ⟨a, e1, e2⟩ := rv4
    refine .inl ⟨a, _, e1, n4.gh.sqL e2, fun p hp => ?_⟩
    have n := (Nxt.refl n4.gh).new (o := .lst (cutV (ns.map V.int) lo' hi')) hp
    refine q4 _ _ n _ ?_
    unfold Rp
    refine ⟨p, _, rfl, upd_same, ?_⟩
    have ec : cutV (ns.map V.int) lo' hi' = (cut ns lo' hi').map V.int := by
      unfold cut cutV
      rw [List.length_map, List.map_take, List.map_drop]
    rw [ec]
    exact rpL_ints _
  · split at q4
    · rename_i h
      unfold Rp at rv4
      exact .inr ⟨_, rv4, sz6 h, Res.now n4.gh q4 _ rfl⟩
    · exact False.elim q4
  · exact False.elim q4
/-! len -/
def dLen (ds : List D) : X D := match ds with
  | [.lst xs] => .ok (.int xs.length)
  | [.tup xs] => .ok (.int xs.length)
  | [.scr ns] => .ok (.int ns.length)
  | [.str z] => if z.length ≤ 1000000 then .ok (.int z.length) else .bad
  | _ => .bad
theorem cd_len : CaD Z (fun xs H Q => ∃ x n, xs = [x] ∧ LenV Z.K x H n ∧ Q (.int n) H) dLen := fun w σ G H ds vs l r Q q => by
  unfold dLen at q
  split at q
  · obtain ⟨v, e, rv⟩ := r.one
    unfold Rp at rv
    obtain ⟨a, us, e1, e2, e3⟩ := rv
    subst e1
    refine ⟨.ref a, _, e, .inl ⟨us, SqL.of (l.at e2 rfl), e3.length.symm⟩, q.now l _ rfl⟩
  · obtain ⟨v, e, rv⟩ := r.one
    unfold Rp at rv
    obtain ⟨a, us, e1, e2, e3⟩ := rv
    subst e1
    refine ⟨.ref a, _, e, .inr ⟨us, SqT.of (l.at e2 rfl), e3.length.symm⟩, q.now l _ rfl⟩
  · obtain ⟨v, e, rv⟩ := r.one
    unfold Rp at rv
    obtain ⟨a, e1, e2⟩ := rv
    subst e1
    refine ⟨.ref a, _, e, .inl ⟨_, l.sqL e2, List.length_map .. |>.symm⟩, q.now l _ rfl⟩
  · obtain ⟨v, e, rv⟩ := r.one
    unfold Rp at rv
    subst rv
    split at q
    · rename_i h
      exact ⟨_, _, e, ⟨sz6 h, rfl⟩, q.now l _ rfl⟩
    · exact False.elim q
  · exact False.elim q
end
end Wk

namespace Wk
open PySem PySem.Spec PyProof.Rows L2

/-! ### isinstance with a built-in class -/
inductive TyY (K : PySem.W.Frag) (H : Hp) : V → Value → Prop where
  | x {v : V} {t : Value} (h : TyX K H v t) : TyY K H v t
  | fDictT {a : Addr} {o : Obj} {kvs : List (List Key × V)} (e : H a = some (.frz o (.dT kvs))) : TyY K H (.ref a) (.type "dict")
theorem kitY_of {X : Cx} {pins : List (Addr × Obj)} {σ : L2.St} {H : Hp} {s : Shared} {x : V} {u t : Value} (I : Inv X pins σ H s) (rx : RelV x u) (ty : TyY X.K H x t) : ∃ P : Heap → Prop, PySem.W.KitX X.K u t P ∧ P s.heap ∧ u ≠ .builtin "__main__.__loader__#opaque" := by
  cases ty with
  | x h => exact kit_of I rx h
  | @fDictT a ob kvs ea =>
    cases (show u = Value.ref a from rx)
    obtain ⟨_, _, _, xs, _, o, es, ep, h1, h2, _⟩ := (show ObjOk X.prog X.w H s.heap a (.frz ob (.dT kvs)) from I.hok a _ ea)
    exact ⟨_, PySem.W.kitx_dict, ⟨o, h1, h2.1⟩, fun z => nomatch z⟩
def rIsY (K : PySem.W.Frag) : List V → Hp → VK → Prop := fun xs H Q => ∃ (x c : V) (t u : Value) (b : Bool), xs = [x, c] ∧ ClsV c u ∧ TyY K H x t ∧ PySem.W.kitOne K t u = some b ∧ Q (.bl b) H
theorem call_isY {X : Cx} : CallR X (.builtin "isinstance") (rIsY X.K) := by
  intro pins s σ H xs us Q I r h
  obtain ⟨x, c, t, u, b, rfl, k, ty, e, q⟩ := h
  obtain ⟨u1, u2, rfl, r1, r2⟩ := vals2 r
  have e2 := k.eq r2
  subst e2
  obtain ⟨P, Z, p, hx⟩ := kitY_of I r1 ty
  exact PySem.W.kia_one Z I.kIn p e hx fun tk => ⟨.bl b, H, I.tok tk, rfl, q⟩
inductive Ty where
  | str | int | bool | list | tuple | dict
  deriving DecidableEq
def Ty.nm : Ty → String
  | .str => "str" | .int => "int" | .bool => "bool" | .list => "list" | .tuple => "tuple" | .dict => "dict"
def D.tn : D → String
  | .non => "NoneType" | .bl _ => "bool" | .int _ => "int" | .str _ => "str" | .lst _ => "list" | .tup _ => "tuple" | .dct _ _ => "dict" | .ins _ _ => "?" | .scr _ => "list" | .adr _ => "?"
def isTy (n : Ty) : D → Bool
  | .non => false
  | .bl _ => n == .bool || n == .int
  | .int _ => n == .int
  | .str _ => n == .str
  | .lst _ => n == .list
  | .tup _ => n == .tuple
  | .dct _ _ => n == .dict
  | .ins _ _ => false
  | .scr _ => n == .list
  | .adr _ => false
def dIs (n : Ty) (d : D) : X D := match d with
  | .ins _ _ => .bad
  | .adr _ => .bad
  | d => .ok (.bl (isTy n d))
theorem kit_bl (n : Ty) : kitB "bool" n.nm = some (n == .bool || n == .int) := by cases n <;> decide +kernel
theorem kit_non (n : Ty) : kitB "NoneType" n.nm = some false := by cases n <;> decide +kernel
theorem kit_int (n : Ty) : kitB "int" n.nm = some (n == .int) := by cases n <;> decide +kernel
theorem kit_str (n : Ty) : kitB "str" n.nm = some (n == .str) := by cases n <;> decide +kernel
theorem kit_list (n : Ty) : kitB "list" n.nm = some (n == .list) := by cases n <;> decide +kernel
theorem kit_tuple (n : Ty) : kitB "tuple" n.nm = some (n == .tuple) := by cases n <;> decide +kernel
theorem kit_dict (n : Ty) : kitB "dict" n.nm = some (n == .dict) := by cases n <;> decide +kernel
theorem tyY_dict {K : PySem.W.Frag} {G : Hp} {a : Addr} {t : Bool} {ws : List (List Key × V)} (h : RdD G a t ws) : TyY K G (.ref a) (.type "dict") := by
  cases t with
  | true =>
    rcases h with h | ⟨o, h⟩
    · exact .x (.base (.dT h))
    · exact .fDictT h
  | false =>
    obtain ⟨us, _, h | ⟨o, h⟩⟩ := h
    · exact .x (.base (.dK h))
    · exact .x (.fDict h)
section
variable {Z : Zs} {w : WX} {τ : Env}
theorem tyY_scr {G : Hp} {a : Addr} {vs : List V} (h : SqL Z.K G a vs) : TyY Z.K G (.ref a) (.type "list") := by
  rcases h with (h | ⟨o, h⟩) | ⟨o, its, n, h, c, _⟩
  · exact .x (.base (.lst h))
  · exact .x (.base (.frz h))
  · exact .x (.kList h c)
theorem ee_is {n : Ty} {c : V} {te : TE} {me : X D} (he : EE Z w te τ me) (hc : c = .ty n.nm := by rfl) : EE Z w (tCB (rIsY Z.K) (tCons te (tCons (tC c) tNil))) τ (me.bind (dIs n)) := fun G H σ fp l e Q q => by
  subst hc
  refine he G H σ fp l e _ (q.bind.imp fun d G2 H2 n2 q2 v rv => ?_)
  show rIsY Z.K [v, .ty n.nm] H2 Q
  cases d <;> unfold Rp at rv
  case non => subst rv; exact ⟨_, _, _, _, _, rfl, .ty _, .x (.base .non), kit_ty (kit_non n), Res.now n2.gh q2 _ rfl⟩
  case bl => subst rv; exact ⟨_, _, _, _, _, rfl, .ty _, .x (.base (.bl _)), kit_ty (kit_bl n), Res.now n2.gh q2 _ rfl⟩
  case int => subst rv; exact ⟨_, _, _, _, _, rfl, .ty _, .x (.base (.int _)), kit_ty (kit_int n), Res.now n2.gh q2 _ rfl⟩
  case str => subst rv; exact ⟨_, _, _, _, _, rfl, .ty _, .x (.base (.str _)), kit_ty (kit_str n), Res.now n2.gh q2 _ rfl⟩
  case lst =>
    obtain ⟨a, vs, e1, e2, _⟩ := rv
    subst e1
    exact ⟨_, _, _, _, _, rfl, .ty _, .x (.base (.lst (n2.gh.at e2 rfl))), kit_ty (kit_list n), Res.now n2.gh q2 _ rfl⟩
  case tup =>
    obtain ⟨a, vs, e1, e2, _⟩ := rv
    subst e1
    exact ⟨_, _, _, _, _, rfl, .ty _, .x (.base (.tup (n2.gh.at e2 rfl))), kit_ty (kit_tuple n), Res.now n2.gh q2 _ rfl⟩
  case dct =>
    obtain ⟨a, ws, e1, e2, _⟩ := rv
    subst e1
    exact ⟨_, _, _, _, _, rfl, .ty _, tyY_dict (e2.mono n2.gh.lq), kit_ty (kit_dict n), Res.now n2.gh q2 _ rfl⟩
  case ins => exact False.elim q2
  case adr => exact False.elim q2
  case scr =>
    obtain ⟨a, e1, e2⟩ := rv
    subst e1
    exact ⟨_, _, _, _, _, rfl, .ty _, tyY_scr (n2.gh.sqL e2), kit_ty (kit_list n), Res.now n2.gh q2 _ rfl⟩

/-! ### dicts: look, put, drop -/
def look {α : Type} (kvs : List (List Key × α)) (k : List Key) : Option α := (kvs.find? fun kv => decide (kv.1 = k)).map (·.2)
def put {α : Type} (kvs : List (List Key × α)) (k : List Key) (v : α) : List (List Key × α) :=
  if (kvs.any fun kv => decide (kv.1 = k)) = true then kvs.map (fun kv => if kv.1 = k then (kv.1, v) else kv) else kvs ++ [(k, v)]
def drp {α : Type} (kvs : List (List Key × α)) (k : List Key) : List (List Key × α) := kvs.filter fun kv => decide (kv.1 ≠ k)
theorem RpK.nil {G : Hp} : RpK Z G [] [] := by unfold RpK; rfl
theorem RpK.cons {G : Hp} {k : List Key} {d : D} {v : V} {kvs : List (List Key × D)} {ws : List (List Key × V)} (h : Rp Z G d v) (t : RpK Z G kvs ws) : RpK Z G ((k, d) :: kvs) ((k, v) :: ws) := by
  unfold RpK
  refine ⟨v, ws, rfl, ?_, t⟩
  unfold RpP
  exact h
theorem RpK.inv {G : Hp} {k : List Key} {d : D} {kvs : List (List Key × D)} {ws : List (List Key × V)} (h : RpK Z G ((k, d) :: kvs) ws) : ∃ v r, ws = (k, v) :: r ∧ Rp Z G d v ∧ RpK Z G kvs r := by
  unfold RpK at h
  obtain ⟨v, r, e, a, b⟩ := h
  unfold RpP at a
  exact ⟨v, r, e, a, b⟩
theorem RpK.length {G : Hp} : ∀ {kvs : List (List Key × D)} {ws : List (List Key × V)}, RpK Z G kvs ws → ws.length = kvs.length
  | [], ws, h => by unfold RpK at h; rw [h]; rfl
  | (k, d) :: kvs, ws, h => by
    obtain ⟨v, r, e, _, q⟩ := h.inv
    rw [e, List.length_cons, q.length, List.length_cons]
theorem RpK.keys {G : Hp} : ∀ {kvs : List (List Key × D)} {ws : List (List Key × V)}, RpK Z G kvs ws → ws.map (·.1) = kvs.map (·.1)
  | [], ws, h => by unfold RpK at h; rw [h]; rfl
  | (k, d) :: kvs, ws, h => by
    obtain ⟨v, r, e, _, q⟩ := h.inv
    rw [e, List.map_cons, q.keys, List.map_cons]
theorem RpK.look {G : Hp} {k : List Key} : ∀ {kvs : List (List Key × D)} {ws : List (List Key × V)}, RpK Z G kvs ws → (∀ d, Wk.look kvs k = some d → ∃ v, valV ws k = some v ∧ Rp Z G d v) ∧ (Wk.look kvs k = none → valV ws k = none)
  | [], ws, h => by
    unfold RpK at h
    subst h
    exact ⟨fun d e => (by cases e), fun _ => rfl⟩
  | (k', d) :: kvs, ws, h => by
    obtain ⟨v, r, e, a, q⟩ := h.inv
    subst e
    by_cases hk : k' = k
    · subst hk
      refine ⟨fun d' e' => ⟨v, ?_, ?_⟩, fun e' => ?_⟩
      · simp [valV]
      · simp [Wk.look] at e'
        subst e'; exact a
      · simp [Wk.look] at e'
    · have e1 : Wk.look ((k', d) :: kvs) k = Wk.look kvs k := by simp [Wk.look, hk]
      have e2 : valV ((k', v) :: r) k = valV r k := by simp [valV, hk]
      rw [e1, e2]
      exact q.look
theorem RpK.any {G : Hp} {k : List Key} {kvs : List (List Key × D)} {ws : List (List Key × V)} (h : RpK Z G kvs ws) : (ws.any fun kv => decide (kv.1 = k)) = kvs.any fun kv => decide (kv.1 = k) := by
  have e1 : (ws.any fun kv => decide (kv.1 = k)) = (ws.map (·.1)).any fun x => decide (x = k) := by rw [List.any_map]; rfl
  have e2 : (kvs.any fun kv => decide (kv.1 = k)) = (kvs.map (·.1)).any fun x => decide (x = k) := by rw [List.any_map]; rfl
  rw [e1, e2, h.keys]
theorem RpK.snoc {G : Hp} {k : List Key} {d : D} {v : V} (rv : Rp Z G d v) : ∀ {kvs : List (List Key × D)} {ws : List (List Key × V)}, RpK Z G kvs ws → RpK Z G (kvs ++ [(k, d)]) (ws ++ [(k, v)])
  | [], ws, h => by
    unfold RpK at h
    subst h
    exact RpK.cons rv RpK.nil
  | (k', d') :: kvs, ws, h => by
    obtain ⟨v', r, e, a, q⟩ := h.inv
    subst e
    exact RpK.cons a (q.snoc rv)
theorem RpK.repl {G : Hp} {k : List Key} {d : D} {v : V} (rv : Rp Z G d v) : ∀ {kvs : List (List Key × D)} {ws : List (List Key × V)}, RpK Z G kvs ws → RpK Z G (kvs.map fun kv => if kv.1 = k then (kv.1, d) else kv) (ws.map fun kv => if kv.1 = k then (kv.1, v) else kv)
  | [], ws, h => by
    unfold RpK at h
    subst h
    exact RpK.nil
  | (k', d') :: kvs, ws, h => by
    obtain ⟨v', r, e, a, q⟩ := h.inv
    subst e
    rw [List.map_cons, List.map_cons]
    by_cases hk : k' = k
    · rw [if_pos hk, if_pos hk]
      exact RpK.cons rv (q.repl rv)
    · rw [if_neg hk, if_neg hk]
      exact RpK.cons a (q.repl rv)
theorem RpK.put {G : Hp} {k : List Key} {d : D} {v : V} {kvs : List (List Key × D)} {ws : List (List Key × V)} (rv : Rp Z G d v) (h : RpK Z G kvs ws) : RpK Z G (Wk.put kvs k d) (putK ws k v) := by
  unfold Wk.put putK
  rw [h.any]
  split
  · exact h.repl rv
  · exact h.snoc rv
theorem RpK.drp {G : Hp} {k : List Key} : ∀ {kvs : List (List Key × D)} {ws : List (List Key × V)}, RpK Z G kvs ws → RpK Z G (Wk.drp kvs k) (dropK ws k)
  | [], ws, h => by
    unfold RpK at h
    subst h
    exact RpK.nil
  | (k', d') :: kvs, ws, h => by
    obtain ⟨v', r, e, a, q⟩ := h.inv
    subst e
    unfold Wk.drp dropK
    by_cases hk : k' = k
    · rw [List.filter_cons_of_neg (by simp [hk]), List.filter_cons_of_neg (by simp [hk])]
      exact q.drp
    · rw [List.filter_cons_of_pos (by simp [hk]), List.filter_cons_of_pos (by simp [hk])]
      exact RpK.cons a q.drp
/-! keys of one item -/
theorem one_val {us : List (Key × V)} {k : Key} : valV (us.map fun p => ([p.1], p.2)) [k] = valV us k := by
  unfold valV
  rw [List.find?_map, Option.map_map]
  have e : ((fun kv : List Key × V => decide (kv.1 = [k])) ∘ fun p : Key × V => ([p.1], p.2)) = fun kv : Key × V => decide (kv.1 = k) := by
    funext p
    simp
  rw [e]
  rfl
theorem one_put {us : List (Key × V)} {k : Key} {v : V} : putK (us.map fun p => ([p.1], p.2)) [k] v = (putK us k v).map fun p => ([p.1], p.2) := by
  unfold putK
  have e : ((us.map fun p : Key × V => ([p.1], p.2)).any fun kv => decide (kv.1 = [k])) = us.any fun kv => decide (kv.1 = k) := by
    rw [List.any_map]
    congr 1
    funext p
    simp
  rw [e]
  split
  · rw [List.map_map, List.map_map]
    congr 1
    funext p
    simp only [Function.comp]
    by_cases h : p.1 = k
    · rw [if_pos h, if_pos (by rw [h])]
    · rw [if_neg h, if_neg (by simpa using h)]
  · rw [List.map_append]; rfl
theorem one_drop {us : List (Key × V)} {k : Key} : dropK (us.map fun p => ([p.1], p.2)) [k] = (dropK us k).map fun p => ([p.1], p.2) := by
  unfold dropK
  rw [List.filter_map]
  congr 1
  congr 1
  funext p
  simp

/-! keys -/
def key1 : D → Option Key
  | .int i => some (.inl i)
  | .str x => some (.inr x)
  | _ => none
def keys1 : List D → Option (List Key)
  | [] => some []
  | d :: ds => (key1 d).bind fun k => (keys1 ds).map fun ks => k :: ks
def keyOf (t : Bool) (d : D) : Option (List Key) := match t, d with
  | true, .tup ds => keys1 ds
  | false, d => (key1 d).map fun k => [k]
  | _, _ => none
theorem key1_rp {G : Hp} {d : D} {v : V} {k : Key} (r : Rp Z G d v) (h : key1 d = some k) : v = kV k := by
  cases d <;> first
    | (cases h; done)
    | (unfold Rp at r; unfold key1 at h; cases h; rw [r]; rfl)
theorem keys1_rp {G : Hp} : ∀ {ds : List D} {vs : List V} {ks : List Key}, RpL Z G ds vs → keys1 ds = some ks → vs = ks.map kV
  | [], vs, ks, r, h => by unfold RpL at r; unfold keys1 at h; cases h; exact r
  | d :: ds, vs, ks, r, h => by
    unfold RpL at r
    obtain ⟨v, q, e, a, b⟩ := r
    unfold keys1 at h
    obtain ⟨k, hk, h2⟩ := Option.bind_eq_some_iff.mp h
    obtain ⟨ks', hks, h3⟩ := Option.map_eq_some_iff.mp h2
    subst h3; subst e
    rw [key1_rp a hk, keys1_rp b hks, List.map_cons]
theorem dget_rp {G H : Hp} {t : Bool} {kd : D} {k : List Key} {a : Addr} {ws : List (List Key × V)} {y : V} (l : Le G H) (ra : RdD G a t ws) (ry : Rp Z G kd y) (hk : keyOf t kd = some k) : DGet H a y (valV ws k) := by
  cases t with
  | true =>
    cases kd <;> try cases hk
    rename_i ds
    unfold Rp at ry
    obtain ⟨b, vs, e1, e2, e3⟩ := ry
    have ek := keys1_rp e3 hk
    subst e1
    exact .inr ⟨ws, k, b, l.rd ra, rfl, by rw [← ek]; exact l.at e2 rfl, rfl⟩
  | false =>
    have h' : (key1 kd).map (fun k => [k]) = some k := by
      unfold keyOf at hk
      exact hk
    obtain ⟨k1, h1, h2⟩ := Option.map_eq_some_iff.mp h'
    obtain ⟨us, eu, r⟩ := ra
    subst h2; subst eu
    rw [one_val]
    exact .inl ⟨us, k1, l.rd r, key1_rp ry h1, rfl⟩
theorem isD_rp {G H : Hp} {t : Bool} {a : Addr} {ws : List (List Key × V)} (l : Le G H) (ra : RdD G a t ws) : IsD H a := by
  cases t with
  | true => exact .inr ⟨ws, l.rd ra⟩
  | false => obtain ⟨us, _, r⟩ := ra; exact .inl ⟨us, l.rd r⟩
/-- d[k] -/
def dIx (x y : D) : X D := match x with
  | .dct t kvs => match keyOf t y with
    | some k => .of (look kvs k)
    | none => .bad
  | x => dAt x y
/-- an index: of a sequence, of a dict -/
theorem ix_go {x y : D} {G H : Hp} {σ : L2.St} {v u : V} (l : Le G H) (rx : Rp Z G x v) (ry : Rp Z G y u) {Q : VK} (q : Res Z w σ G H (dIx x y) fun d G2 H2 => ∀ b, Rp Z G2 d b → Q b H2) :
    (match x with | .dct _ _ => ∃ a v', v = .ref a ∧ DGet H a u (some v') ∧ Q v' H | _ => rIx Z.K v u H Q) := by
  cases x
  case dct t kvs =>
    unfold dIx at q
    dsimp only at q ⊢
    split at q
    · rename_i k hk
      obtain ⟨d, ed, q2⟩ := of_ok q
      unfold Rp at rx
      obtain ⟨a, ws, e1, e2, e3⟩ := rx
      obtain ⟨v', ev, rv⟩ := e3.look.1 d ed
      have g := dget_rp l e2 ry hk
      rw [ev] at g
      exact ⟨a, v', e1, g, q2.now l _ rv⟩
    · exact False.elim q
  all_goals exact od_at w σ G H _ y v u l rx ry Q q
theorem ee_ix {ta tb : TE} {ma mb : X D} (ha : EE Z w ta τ ma) (hb : EE Z w tb τ mb) : EE Z w (tOr2 (tOp (rIx Z.K) ta tb) (tDGet ta tb)) τ (ma.bind fun x => mb.bind fun y => dIx x y) := fun G H σ fp l e Q q => by
  cases ma with
  | ok x =>
    by_cases hd : ∃ t kvs, x = .dct t kvs
    · obtain ⟨t, kvs, rfl⟩ := hd
      refine .inr (ha G H σ fp l e _ fun G2 H2 n2 v rv => ?_)
      have q2 := Res.imp (m := mb) (Res.bind (show Res Z w σ G2 H2 (mb.bind fun y => dIx _ y) _ from (Res.bind (m := X.ok (D.dct t kvs)) q) G2 H2 n2)) fun a G3 H3 n3 h => h
      refine hb G2 H2 σ fp n2.gh (e.nxt n2) _ (q2.imp fun y G3 H3 n3 q3 u ru => ?_)
      exact ix_go n3.gh (rv.mono n3.g.lq) ru q3
    · refine .inl (ha G H σ fp l e _ fun G2 H2 n2 v rv => ?_)
      have q2 := Res.imp (m := mb) (Res.bind (show Res Z w σ G2 H2 (mb.bind fun y => dIx _ y) _ from (Res.bind (m := X.ok x) q) G2 H2 n2)) fun a G3 H3 n3 h => h
      refine hb G2 H2 σ fp n2.gh (e.nxt n2) _ (q2.imp fun y G3 H3 n3 q3 u ru => ?_)
      have z := ix_go n3.gh (rv.mono n3.g.lq) ru q3
      cases x <;> first
        | exact z
        | exact absurd ⟨_, _, rfl⟩ hd
  | exc c => exact .inl (ha G H σ fp l e _ q)
  | bad => exact False.elim q
/-- d.get(k, x) -/
def dGet2 (x y z : D) : X D := match x with
  | .dct t kvs => match keyOf t y with
    | some k => .ok ((look kvs k).getD z)
    | none => .bad
  | _ => .bad
def dDct (x : D) : X D := match x with
  | .dct _ _ => .ok x
  | _ => .bad
theorem ee_get2 {ta tb tc : TE} {ma mb mc : X D} (ha : EE Z w ta τ ma) (hb : EE Z w tb τ mb) (hc : EE Z w tc τ mc) : EE Z w (tDGet2 ta tb tc) τ (ma.bind fun x => (dDct x).bind fun x => mb.bind fun y => mc.bind fun z => dGet2 x y z) := fun G H σ fp l e Q q => by
  refine ha G H σ fp l e _ (q.bind.imp fun x G2 H2 n2 q2 v rv => ?_)
  unfold dDct at q2
  split at q2
  · rename_i t kvs
    unfold Rp at rv
    obtain ⟨a, ws, e1, e2, e3⟩ := rv
    refine ⟨a, e1, isD_rp n2.gh e2, ?_⟩
    have q3 : Res Z w σ G2 H2 (mb.bind fun y => mc.bind fun z => dGet2 (.dct t kvs) y z) fun d G2 H2 => ∀ b, Rp Z G2 d b → Q b H2 := q2
    refine hb G2 H2 σ fp n2.gh (e.nxt n2) _ (q3.bind.imp fun y G3 H3 n3 q4 u ru => ?_)
    refine hc G3 H3 σ fp n3.gh ((e.nxt n2).nxt n3) _ (q4.bind.imp fun z G4 H4 n4 q5 u2 ru2 => ?_)
    unfold dGet2 at q5
    dsimp only at q5
    split at q5
    · rename_i k hk
      have g := dget_rp n4.gh ((e2.mono n3.g.lq).mono n4.g.lq) (ru.mono n4.g.lq) hk
      refine ⟨_, g, Res.now n4.gh q5 _ ?_⟩
      have lk := ((e3.mono n3.g.lq).mono n4.g.lq).look (k := k)
      cases el : look kvs k with
      | some d =>
        obtain ⟨v', ev, rv'⟩ := lk.1 d el
        rw [ev]
        exact rv'
      | none =>
        rw [lk.2 el]
        exact ru2
    · exact False.elim q5
  · exact False.elim q2

/-! in, not in -/
def fV : D → Option V
  | .non => some .non
  | .bl b => some (.bl b)
  | .int i => some (.int i)
  | .str x => some (.str x)
  | _ => none
def fVs : List D → Option (List V)
  | [] => some []
  | d :: ds => (fV d).bind fun v => (fVs ds).map fun vs => v :: vs
theorem fV_rp {G : Hp} {d : D} {v u : V} (r : Rp Z G d v) (h : fV d = some u) : v = u ∧ flatV u = true := by
  cases d <;> first
    | (cases h; done)
    | (unfold Rp at r; unfold fV at h; cases h; exact ⟨r, rfl⟩)
theorem fVs_rp {G : Hp} : ∀ {ds : List D} {vs us : List V}, RpL Z G ds vs → fVs ds = some us → vs = us ∧ us.all flatV = true
  | [], vs, us, r, h => by unfold RpL at r; unfold fVs at h; cases h; exact ⟨r, rfl⟩
  | d :: ds, vs, us, r, h => by
    unfold RpL at r
    obtain ⟨v, q, e, a, b⟩ := r
    unfold fVs at h
    obtain ⟨k, hk, h2⟩ := Option.bind_eq_some_iff.mp h
    obtain ⟨ks', hks, h3⟩ := Option.map_eq_some_iff.mp h2
    subst h3; subst e
    obtain ⟨e1, f1⟩ := fV_rp a hk
    obtain ⟨e2, f2⟩ := fVs_rp b hks
    subst e1; subst e2
    exact ⟨rfl, by rw [List.all_cons, f1, f2] <;> rfl⟩
def rInG : R2 := fun x y H Q => ∃ (c : Nat) (z : PySem.Str), x = .str ⟨#[c]⟩ ∧ y = .str z ∧ Q (.bl (decide (c ∈ z.cps.toList))) H
def rNinG : R2 := fun x y H Q => ∃ (c : Nat) (z : PySem.Str), x = .str ⟨#[c]⟩ ∧ y = .str z ∧ Q (.bl (!decide (c ∈ z.cps.toList))) H
def rIn2 (K : PySem.W.Frag) : R2 := rOr (rIn K false) rInG
def rNin2 (K : PySem.W.Frag) : R2 := rOr (rIn K true) rNinG
theorem op_in2 {X : Cx} : OpR X (compareOp .In) (rIn2 X.K) := opU op_in_seq op_in_sign
theorem op_nin2 {X : Cx} : OpR X (compareOp .NotIn) (rNin2 X.K) := opU op_notIn_seq op_notIn_sign
/-- x in y -/
def dMem (x y : D) : X Bool := match y with
  | .lst ys => match fV x, fVs ys with
    | some v, some vs => .ok (inV v vs)
    | _, _ => .bad
  | .tup ys => match fV x, fVs ys with
    | some v, some vs => .ok (inV v vs)
    | _, _ => .bad
  | .str z => match x with
    | .str s => match s.cps.toList with
      | [c] => .ok (decide (c ∈ z.cps.toList))
      | _ => .bad
    | _ => .bad
  | .dct t kvs => match keyOf t x with
    | some k => .ok (look kvs k).isSome
    | none => .bad
  | _ => .bad
def dIn (x y : D) : X D := (dMem x y).bind fun b => .ok (.bl b)
def dNin (x y : D) : X D := (dMem x y).bind fun b => .ok (.bl !b)
/-- the sequences' part -/
theorem mem_seq {x y : D} {G H : Hp} {σ : L2.St} {v u : V} {neg : Bool} (l : Le G H) (rx : Rp Z G x v) (ry : Rp Z G y u) {Q : VK} (hy : ∀ t kvs, y ≠ .dct t kvs)
    (q : Res Z w σ G H ((dMem x y).bind fun b => .ok (.bl (if neg then !b else b))) fun d G2 H2 => ∀ b, Rp Z G2 d b → Q b H2) :
    (rIn Z.K neg v u H Q) ∨ ∃ (c : Nat) (z : PySem.Str), v = .str ⟨#[c]⟩ ∧ u = .str z ∧ Q (.bl (if neg then !decide (c ∈ z.cps.toList) else decide (c ∈ z.cps.toList))) H := by
  have q := Res.bind q
  unfold dMem at q
  split at q
  · split at q
    · rename_i v' vs' hv hvs
      unfold Rp at ry
      obtain ⟨a, us, e1, e2, e3⟩ := ry
      obtain ⟨ev, fv⟩ := fV_rp rx hv
      obtain ⟨eu, fu⟩ := fVs_rp e3 hvs
      subst ev; subst eu
      exact .inl ⟨a, _, e1, .inl (SqL.of (l.at e2 rfl)), fv, fu, Res.now l (Res.now l q) _ rfl⟩
    · exact False.elim q
  · split at q
    · rename_i v' vs' hv hvs
      unfold Rp at ry
      obtain ⟨a, us, e1, e2, e3⟩ := ry
      obtain ⟨ev, fv⟩ := fV_rp rx hv
      obtain ⟨eu, fu⟩ := fVs_rp e3 hvs
      subst ev; subst eu
      exact .inl ⟨a, _, e1, .inr (SqT.of (l.at e2 rfl)), fv, fu, Res.now l (Res.now l q) _ rfl⟩
    · exact False.elim q
  · split at q
    · split at q
      · rename_i s _ _ c hc
        unfold Rp at rx ry
        refine .inr ⟨c, _, ?_, ry, Res.now l (Res.now l q) _ rfl⟩
        rw [rx]
        have e1 : s.cps = #[c] := Array.toList_inj.mp (by rw [hc])
        cases s with
        | mk a =>
          have e2 : a = #[c] := e1
          rw [e2]
      · exact False.elim q
    · exact False.elim q
  · exact absurd rfl (hy _ _)
  · exact False.elim q
theorem mem_dct {x : D} {t : Bool} {kvs : List (List Key × D)} {G H : Hp} {σ : L2.St} {v u : V} (l : Le G H) (rx : Rp Z G x v) (ry : Rp Z G (.dct t kvs) u) {f : Bool → D} {Q : VK}
    (q : Res Z w σ G H ((dMem x (.dct t kvs)).bind fun b => .ok (f b)) fun d G2 H2 => ∀ b, Rp Z G2 d b → Q b H2) : ∃ a o, u = .ref a ∧ DGet H a v o ∧ ∀ b, Rp Z G (f o.isSome) b → Q b H := by
  have q := Res.bind q
  unfold dMem at q
  dsimp only at q
  split at q
  · rename_i k hk
    unfold Rp at ry
    obtain ⟨a, ws, e1, e2, e3⟩ := ry
    refine ⟨a, _, e1, dget_rp l e2 rx hk, ?_⟩
    have lk := e3.look (k := k)
    have es : (valV ws k).isSome = (look kvs k).isSome := by
      cases el : look kvs k with
      | some d => obtain ⟨v', ev, _⟩ := lk.1 d el; rw [ev]; rfl
      | none => rw [lk.2 el]; rfl
    rw [es]
    exact Res.now l (Res.now l q)
  · exact False.elim q
theorem memX {ta tb : TE} {ma mb : X D} {neg : Bool} {r : R2} {td : TE} (ha : EE Z w ta τ ma) (hb : EE Z w tb τ mb)
    (hr : ∀ v u H Q, ((rIn Z.K neg v u H Q) ∨ ∃ (c : Nat) (z : PySem.Str), v = .str ⟨#[c]⟩ ∧ u = .str z ∧ Q (.bl (if neg then !decide (c ∈ z.cps.toList) else decide (c ∈ z.cps.toList))) H) → r v u H Q)
    (hd : ∀ σ H Q, (ta σ H fun y H1 => tb σ H1 fun x H2 => ∃ a o, x = .ref a ∧ DGet H2 a y o ∧ Q (.bl (if neg then !o.isSome else o.isSome)) H2) → td σ H Q) :
    EE Z w (tOr2 (tOp r ta tb) td) τ (ma.bind fun x => mb.bind fun y => (dMem x y).bind fun b => .ok (.bl (if neg then !b else b))) := fun G H σ fp l e Q q => by
  by_cases hm : ∃ t kvs, mb = .ok (.dct t kvs)
  · obtain ⟨t, kvs, rfl⟩ := hm
    refine .inr (hd σ H Q ?_)
    refine ha G H σ fp l e _ (q.bind.imp fun x G2 H2 n2 q2 v rv => ?_)
    refine hb G2 H2 σ fp n2.gh (e.nxt n2) _ fun G3 H3 n3 u ru => ?_
    have q3 := Res.bind q2 G3 H3 n3
    obtain ⟨a, o, e1, e2, e3⟩ := mem_dct (f := fun b => .bl (if neg then !b else b)) n3.gh (rv.mono n3.g.lq) ru q3
    exact ⟨a, o, e1, e2, e3 _ rfl⟩
  · refine .inl ?_
    refine ha G H σ fp l e _ (q.bind.imp fun x G2 H2 n2 q2 v rv => ?_)
    refine hb G2 H2 σ fp n2.gh (e.nxt n2) _ ?_
    cases mb with
    | ok y =>
      intro G3 H3 n3 u ru
      have q3 := Res.bind q2 G3 H3 n3
      exact hr _ _ _ _ (mem_seq n3.gh (rv.mono n3.g.lq) ru (fun t kvs ey => hm ⟨t, kvs, by rw [ey]⟩) q3)
    | exc c => exact q2
    | bad => exact q2
theorem ee_in {ta tb : TE} {ma mb : X D} (ha : EE Z w ta τ ma) (hb : EE Z w tb τ mb) : EE Z w (tOr2 (tOp (rIn2 Z.K) ta tb) (tDIn ta tb)) τ (ma.bind fun x => mb.bind fun y => dIn x y) :=
  memX (neg := false) ha hb (fun v u H Q h => by
    rcases h with h | ⟨c, z, a, b, k⟩
    · exact .inl h
    · exact .inr ⟨c, z, a, b, k⟩) fun σ H Q h => h
theorem ee_nin {ta tb : TE} {ma mb : X D} (ha : EE Z w ta τ ma) (hb : EE Z w tb τ mb) : EE Z w (tOr2 (tOp (rNin2 Z.K) ta tb) (tDNotIn ta tb)) τ (ma.bind fun x => mb.bind fun y => dNin x y) :=
  memX (neg := true) ha hb (fun v u H Q h => by
    rcases h with h | ⟨c, z, a, b, k⟩
    · exact .inl h
    · exact .inr ⟨c, z, a, b, k⟩) fun σ H Q h => h
end
/-- a test or another one -/
def tOrT (t t' : TT) : TT := fun σ H Q => t σ H Q ∨ t' σ H Q
theorem pt_or2 {X : Cx} {e : Expr} {t t' : TT} (h : PT X e t) (h' : PT X e t') : PT X e (tOrT t t') :=
  ⟨fun pins s σ H Q I q => by
    rcases q with q | q
    · exact h.run pins s σ H Q I q
    · exact h'.run pins s σ H Q I q⟩
theorem et_or2 {Z : Zs} {w : WX} {τ : Env} {t t' : TE} {m : X D} (h : EE Z w (tOr2 t t') τ m) : ET Z w (tOrT (tTest t) (tB t')) τ (m.bind dB) := et_B (te := tOr2 t t') h
end Wk

namespace Wk
open PySem PySem.Spec PyProof.Rows L2

/-! ### == and != of data -/
mutual
def toPy : D → Option PyData
  | .non => some .none
  | .bl b => some (.bool b)
  | .int i => some (.int i)
  | .str x => some (.str x)
  | .lst xs => (toPys xs).map .list
  | .tup xs => (toPys xs).map .tuple
  | .dct _ _ => none
  | .ins _ _ => none
  | .scr ns => some (.list (ns.map .int))
  | .adr _ => none
def toPys : List D → Option (List PyData)
  | [] => some []
  | d :: ds => (toPy d).bind fun p => (toPys ds).map fun ps => p :: ps
end
theorem dpAll_ints {K : PySem.W.Frag} {H : Hp} : ∀ ns : List Int, DpAll K H (ns.map V.int) (ns.map .int)
  | [] => .nil
  | n :: ns => .cons (.int n) (dpAll_ints ns)
mutual
theorem toPy_dp {Z : Zs} {G H : Hp} (l : Le G H) : ∀ {d : D} {p : PyData} {v : V}, toPy d = some p → Rp Z G d v → Dp Z.K H v p
  | .non, p, v, h, r => by unfold toPy at h; unfold Rp at r; cases h; subst r; exact .non
  | .bl b, p, v, h, r => by unfold toPy at h; unfold Rp at r; cases h; subst r; exact .bl b
  | .int i, p, v, h, r => by unfold toPy at h; unfold Rp at r; cases h; subst r; exact .int i
  | .str x, p, v, h, r => by unfold toPy at h; unfold Rp at r; cases h; subst r; exact .str x
  | .lst xs, p, v, h, r => by
    unfold toPy at h; unfold Rp at r
    obtain ⟨ps, h1, h2⟩ := Option.map_eq_some_iff.mp h
    obtain ⟨a, vs, e1, e2, e3⟩ := r
    subst e1; subst h2
    exact .lst (SqL.of (l.at e2 rfl)) (toPys_dp l h1 e3)
  | .tup xs, p, v, h, r => by
    unfold toPy at h; unfold Rp at r
    obtain ⟨ps, h1, h2⟩ := Option.map_eq_some_iff.mp h
    obtain ⟨a, vs, e1, e2, e3⟩ := r
    subst e1; subst h2
    exact .tup (SqT.of (l.at e2 rfl)) (toPys_dp l h1 e3)
  | .dct _ _, p, v, h, r => by unfold toPy at h; cases h
  | .ins _ _, p, v, h, r => by unfold toPy at h; cases h
  | .scr ns, p, v, h, r => by
    unfold toPy at h; unfold Rp at r
    obtain ⟨a, e1, e2⟩ := r
    cases h; subst e1
    exact .lst (l.sqL e2) (dpAll_ints ns)
  | .adr _, p, v, h, r => by unfold toPy at h; cases h
theorem toPys_dp {Z : Zs} {G H : Hp} (l : Le G H) : ∀ {ds : List D} {ps : List PyData} {vs : List V}, toPys ds = some ps → RpL Z G ds vs → DpAll Z.K H vs ps
  | [], ps, vs, h, r => by unfold toPys at h; unfold RpL at r; cases h; subst r; exact .nil
  | d :: ds, ps, vs, h, r => by
    unfold toPys at h; unfold RpL at r
    obtain ⟨p, h1, h2⟩ := Option.bind_eq_some_iff.mp h
    obtain ⟨ps', h3, h4⟩ := Option.map_eq_some_iff.mp h2
    obtain ⟨v, q, e, a, b⟩ := r
    subst h4; subst e
    exact .cons (toPy_dp l h1 a) (toPys_dp l h3 b)
end
def eqPy (x y : D) : X Bool := match toPy x, toPy y with
  | some a, some b => if SeqAt.shaped a = true ∧ SeqAt.shaped b = true then .ok (PyData.eqv a b) else .bad
  | _, _ => .bad
/-- x == y of flat ones -/
def eqF (x y : D) : Option Bool := match fV x, fV y with
  | some a, some b => if scal a b = true then some (decide (a = b)) else none
  | _, _ => none
/-- x == y -/
def eqB (x y : D) : X Bool := match eqF x y with
  | some b => .ok b
  | none => eqPy x y
def dEq (x y : D) : X D := (eqB x y).bind fun b => .ok (.bl b)
def dNe (x y : D) : X D := (eqB x y).bind fun b => .ok (.bl !b)
def rEq3 (K : PySem.W.Frag) : R2 := rOr rEq (rEqD K)
def rNe3 (K : PySem.W.Frag) : R2 := rOr rNe (rNeD K)
theorem op_eq3 {X : Cx} (hu : X.A.units + 64 < cLine) : OpR X (compareOp .Eq) (rEq3 X.K) := opU op_eq (op_eqD hu)
theorem op_ne3 {X : Cx} (hu : X.A.units + 64 < cLine) : OpR X (compareOp .NotEq) (rNe3 X.K) := opU op_ne (op_neD hu)
section
variable {Z : Zs} {w : WX} {τ : Env}
theorem eqPy_go {x y : D} {G H : Hp} {σ : L2.St} {v u : V} {f : Bool → D} (l : Le G H) (rx : Rp Z G x v) (ry : Rp Z G y u) {Q : VK}
    (q : Res Z w σ G H ((eqPy x y).bind fun b => .ok (f b)) fun d G2 H2 => ∀ b, Rp Z G2 d b → Q b H2) : ∃ d e, Dp Z.K H v d ∧ Dp Z.K H u e ∧ SeqAt.shaped d = true ∧ SeqAt.shaped e = true ∧ ∀ b, Rp Z G (f (PyData.eqv d e)) b → Q b H := by
  have q := Res.bind q
  unfold eqPy at q
  split at q
  · rename_i a b ha hb
    split at q
    · rename_i h
      exact ⟨a, b, toPy_dp l ha rx, toPy_dp l hb ry, h.1, h.2, Res.now l (Res.now l q)⟩
    · exact False.elim q
  · exact False.elim q
theorem eqF_go {x y : D} {G : Hp} {v u : V} {c : Bool} (rx : Rp Z G x v) (ry : Rp Z G y u) (h : eqF x y = some c) : scal v u = true ∧ decide (v = u) = c := by
  unfold eqF at h
  split at h
  · rename_i a b ha hb
    obtain ⟨e1, _⟩ := fV_rp rx ha
    obtain ⟨e2, _⟩ := fV_rp ry hb
    subst e1; subst e2
    split at h
    · rename_i hs
      exact ⟨hs, Option.some.inj h⟩
    · cases h
  · cases h
theorem od_eq3 : OpD Z (rEq3 Z.K) dEq := fun w σ G H x y v u l rx ry Q q => by
  unfold dEq eqB at q
  split at q
  · rename_i c hc
    obtain ⟨s, e⟩ := eqF_go rx ry hc
    exact .inl ⟨s, by rw [e]; exact Res.now (w := w) (σ := σ) (G := G) (H := H) l q _ rfl⟩
  · obtain ⟨d, e, h1, h2, h3, h4, h5⟩ := eqPy_go (f := .bl) l rx ry q
    exact .inr ⟨d, e, h1, h2, h3, h4, h5 _ rfl⟩
theorem od_ne3 : OpD Z (rNe3 Z.K) dNe := fun w σ G H x y v u l rx ry Q q => by
  unfold dNe eqB at q
  split at q
  · rename_i c hc
    obtain ⟨s, e⟩ := eqF_go rx ry hc
    exact .inl ⟨s, by rw [e]; exact Res.now (w := w) (σ := σ) (G := G) (H := H) l q _ rfl⟩
  · obtain ⟨d, e, h1, h2, h3, h4, h5⟩ := eqPy_go (f := fun b => .bl !b) l rx ry q
    exact .inr ⟨d, e, h1, h2, h3, h4, h5 _ rfl⟩
end

/-! ### dicts written -/
def kvOf (p : D × D) : Option (List Key × D) := (key1 p.1).map fun k => ([k], p.2)
end Wk

namespace Wk
open PySem PySem.Spec PyProof.Rows L2

/-! ### the mirror's words -/
namespace X
def b2 {α β γ : Type} (a : X α) (b : X β) (f : α → β → X γ) : X γ := a.bind fun x => b.bind fun y => f x y
def cons (a : X D) (r : X (List D)) : X (List D) := a.bind fun x => r.bind fun xs => .ok (x :: xs)
def tst (a : X D) : X Bool := a.bind dB
def and (a b : X Bool) : X Bool := a.bind fun t => bif t then b else .ok false
def or (a b : X Bool) : X Bool := a.bind fun t => bif t then .ok true else b
def not (a : X Bool) : X Bool := a.bind fun t => .ok !t
def andV (a b : X D) : X D := a.tst.bind fun t => bif t then b else .ok (.bl false)
def orV (a b : X D) : X D := a.tst.bind fun t => bif t then .ok (.bl true) else b
def notV (a : X D) : X D := a.tst.bind fun t => .ok (.bl !t)
def ite (c : X Bool) (a b : X D) : X D := c.bind fun t => bif t then a else b
def chain (f g : D → D → X D) (a b c : X D) : X D := a.bind fun x => b.bind fun y => (f x y).tst.bind fun t => bif t then c.bind fun z => g y z else .ok (.bl false)
def isN (a : X D) : X D := a.bind fun x => .ok (dIsN x)
def notN (a : X D) : X D := a.bind fun x => (dB (dIsN x)).bind fun c => .ok (.bl !c)
def cut (a : X D) (lo hi : X (Option Int)) : X D := a.bind fun x => lo.bind fun l => hi.bind fun h => dCut x l h
def get2 (a b c : X D) : X D := a.bind fun x => (dDct x).bind fun x => b.bind fun y => c.bind fun z => dGet2 x y z
def call (f : List D → M Unit) (a : X (List D)) : X D := a.bind fun ds => (f ds).fn
def callD (f : List D → M Unit) (dd : List D) (a : X (List D)) : X D := a.bind fun ds => (f (ds ++ dd)).fn
def ifM {S : Type} (c : X Bool) (a b : M S) : M S := c.to fun t => bif t then a else b
def retM {S : Type} (a : X D) : M S := a.to fun d => .ret (.sh d)
def drpM {S : Type} (a : X D) (r : M S) : M S := a.to fun _ => r
end X
def forX {S U : Type} (mi : X (List D)) (u : D → Option U) (s0 : S) (f : S → U → M S) : M S := mi.to fun xs => Wk.forM xs s0 fun s x => (X.of (u x)).to (f s)
section
variable {Z : Zs} {w : WX} {τ : Env} {ta tb tc te : TE} {ma mb mc me : X D}
theorem xe_op {r : R2} {f : D → D → X D} (hr : OpD Z r f) (ha : EE Z w ta τ ma) (hb : EE Z w tb τ mb) : EE Z w (tOp r ta tb) τ (X.b2 ma mb f) := ee_op hr ha hb
theorem xe_ix (ha : EE Z w ta τ ma) (hb : EE Z w tb τ mb) : EE Z w (tOr2 (tOp (rIx Z.K) ta tb) (tDGet ta tb)) τ (X.b2 ma mb dIx) := ee_ix ha hb
theorem xe_in (ha : EE Z w ta τ ma) (hb : EE Z w tb τ mb) : EE Z w (tOr2 (tOp (rIn2 Z.K) ta tb) (tDIn ta tb)) τ (X.b2 ma mb dIn) := ee_in ha hb
theorem xe_nin (ha : EE Z w ta τ ma) (hb : EE Z w tb τ mb) : EE Z w (tOr2 (tOp (rNin2 Z.K) ta tb) (tDNotIn ta tb)) τ (X.b2 ma mb dNin) := ee_nin ha hb
theorem xe_or2 {t t' : TE} {m : X D} (h : EE Z w (tOr2 t t') τ m) : ET Z w (tOrT (tTest t) (tB t')) τ m.tst := et_or2 h
theorem xa_cons {tr : TA} {mr : X (List D)} (ha : EE Z w ta τ ma) (hr : EA Z w tr τ mr) : EA Z w (tCons ta tr) τ (X.cons ma mr) := ea_cons ha hr
theorem xt_B (h : EE Z w te τ me) : ET Z w (tB te) τ me.tst := et_B h
theorem xt_test (h : EE Z w te τ me) : ET Z w (tTest te) τ me.tst := et_B h
theorem xt_and {t u : TT} {mt mu : X Bool} (h1 : ET Z w t τ mt) (h2 : ET Z w u τ mu) : ET Z w (tAnd t u) τ (X.and mt mu) := et_and h1 h2
theorem xt_or {t u : TT} {mt mu : X Bool} (h1 : ET Z w t τ mt) (h2 : ET Z w u τ mu) : ET Z w (tOr t u) τ (X.or mt mu) := et_or h1 h2
theorem xt_not {t : TT} {mt : X Bool} (h1 : ET Z w t τ mt) : ET Z w (tNot t) τ mt.not := et_not h1
theorem xe_andV (h1 : EE Z w ta τ ma) (h2 : EE Z w tb τ mb) : EE Z w (tAndV ta tb) τ (X.andV ma mb) := ee_andV h1 h2
theorem xe_orV (h1 : EE Z w ta τ ma) (h2 : EE Z w tb τ mb) : EE Z w (tOrV ta tb) τ (X.orV ma mb) := ee_orV h1 h2
theorem xe_notV (h1 : EE Z w ta τ ma) : EE Z w (tNotV ta) τ ma.notV := ee_notV h1
theorem xe_if {t : TT} {mt : X Bool} (h : ET Z w t τ mt) (h1 : EE Z w ta τ ma) (h2 : EE Z w tb τ mb) : EE Z w (tIf t ta tb) τ (X.ite mt ma mb) := ee_if h h1 h2
theorem xe_chain {r r' : R2} {f f' : D → D → X D} (hr : OpD Z r f) (hr' : OpD Z r' f') (ha : EE Z w ta τ ma) (hb : EE Z w tb τ mb) (hc : EE Z w tc τ mc) : EE Z w (tChain r r' ta tb tc) τ (X.chain f f' ma mb mc) := ee_chain hr hr' ha hb hc
theorem xe_isN (ha : EE Z w ta τ ma) : EE Z w (tIsN ta) τ ma.isN := ee_isN ha
theorem xe_notN (ha : EE Z w ta τ ma) : EE Z w (tNotN ta) τ ma.notN := ee_notN ha
theorem xe_cut {tl th : TO} {ml mh : X (Option Int)} (he : EE Z w te τ me) (hl : EO Z w tl τ ml) (hh : EO Z w th τ mh) : EE Z w (tSl (rSl2 Z.K) te tl th) τ (X.cut me ml mh) := ee_cut he hl hh
theorem xe_get2 (ha : EE Z w ta τ ma) (hb : EE Z w tb τ mb) (hc : EE Z w tc τ mc) : EE Z w (tDGet2 ta tb tc) τ (X.get2 ma mb mc) := ee_get2 ha hb hc
theorem xe_fn {f : List D → M Unit} {tr : TA} {mr : X (List D)} (ha : EA Z w tr τ mr) : EE Z w (tCallSD (spM Z f) [] (WE w) tr) τ (X.call f mr) := ee_fn' ha
theorem xe_fnD {f : List D → M Unit} {tr : TA} {mr : X (List D)} {dd : List D} {dvs : List V} (ha : EA Z w tr τ mr) (hd : ∀ G, RpL Z G dd dvs) : EE Z w (tCallSD (spM Z f) dvs (WE w) tr) τ (X.callD f dd mr) := ee_fn ha hd
/-! a new dict -/
theorem xe_newK : EE Z w tDNewK τ (.ok (.dct false [])) := fun G H σ fp l e Q q p hp => by
  have n := (Nxt.refl l).new (o := .dK []) hp
  refine q _ _ n _ ?_
  unfold Rp
  exact ⟨p, [], rfl, ⟨[], rfl, .inl upd_same⟩, RpK.nil⟩
theorem xe_newT : EE Z w tDNewT τ (.ok (.dct true [])) := fun G H σ fp l e Q q p hp => by
  have n := (Nxt.refl l).new (o := .dT []) hp
  refine q _ _ n _ ?_
  unfold Rp
  exact ⟨p, [], rfl, .inl upd_same, RpK.nil⟩
/-- {'k': v}, both written -/
theorem xe_dispC {x : PySem.Str} {v : V} {d : D} (hv : ∀ G, Rp Z G d v) : EE Z w (tDisp [(tC (.str x), tC v)]) τ (.ok (.dct false [([.inr x], d)])) := fun G H σ fp l e Q q p hp => by
  refine ⟨upd_same, [(.inr x, v)], rfl, by show 1 ≤ 15; decide, ?_⟩
  rw [upd_upd]
  have n := (Nxt.refl l).new (o := .dK [(.inr x, v)]) hp
  refine q _ _ n _ ?_
  unfold Rp
  refine ⟨p, [([.inr x], v)], rfl, ⟨[(.inr x, v)], rfl, .inl upd_same⟩, RpK.cons (hv _) RpK.nil⟩
end

/-! ### statements, in the mirror's words -/
/-- an own class of exceptions -/
structure ExF (K : PySem.W.Frag) (mg : PySem.Str → Option Value) (x : PySem.Str) (C : Addr) : Prop where
  g : mg x = some (.ref C)
  x : PySem.W.excIn K C [.type "ValueError", .type "Exception", .type "BaseException", .type "object"] "ValueError.__new__" = true
  k : PySem.W.keepIn K (.ref C) = true
  b : PySem.W.subIn K (.ref C) (.type "BaseException") = some true
  t : PySem.W.typeIn K (.ref C) = some (.type "type")
def tRz (W : WX) (C : Addr) : TS := fun _ σ H => W (.ref C) none σ H
theorem ps_rz {X : Cx} {W : WX} {x m : PySem.Str} {C : Addr} {j : Nat} {p p2 pos pos2 : Pos} (hc : X.calm = true) (tk : Takes X W) (F : ExF X.K X.mg x C) (hg : Gl X x) (hdb : (x == ("__debug__" : PySem.Str)) = false := by decide) :
    PS X (.Raise (some (.Call (.Name x p) [.Constant (.str m) j p2] [] pos)) none pos2) (tRz W C) :=
  ps_raise hc tk (pmk_own PySem.F.excBase_ValueError F.x F.g F.k (raises_own F.b F.t) hg hdb)
section
variable {Z : Zs} {w : Wh} {τ : Env} {S S' U : Type} {te : TE} {me : X D} {t1 t2 : TS} {env : S → Env}
/-- what hands back, whatever stands behind it -/
theorem SS.last {ts : TS} {m : M S} (h : ∀ env' : S → Env, SS Z w ts τ m env') (hn : ∀ s, m ≠ .ok s) : SS Z w (tSeq ts t2) τ m env := fun GB B G H σ st D o =>
  h env GB B G H σ st { D with nx := t2 D } (by
    cases e : m with
    | ok s => exact absurd e (hn s)
    | ret t => rw [e] at o; exact o
    | exc c => rw [e] at o; exact o
    | bad => rw [e] at o; exact o)
theorem xs_ret (he : EE Z w.w te τ me) (hx : SubX τ w.px := by trivial) : SS Z w (tSeq (tRet te) t2) τ (X.retM me) env :=
  SS.last (fun env' => ss_ret he hx) fun s => by cases me <;> exact fun h => nomatch h
theorem xs_retO {i : Nat} {t : T} (h : τ[i]? = some (some t)) : SS Z w (tSeq (tRet (tVar i)) t2) τ (.ret t : M S) env := SS.last (fun env' => ss_retO h) fun s h => nomatch h
theorem xs_retN : SS Z w (tSeq tRetN t2) τ (.ret (.sh .non) : M S) env := SS.last (fun env' => ss_retN) fun s h => nomatch h
theorem xs_raise {c : Ex} (hx : SubX τ w.px := by trivial) : SS Z w (tSeq (tRz w.w (Z.ce c)) t2) τ (.exc c : M S) env :=
  SS.last (fun env' => ss_raise (fun _ _ h => h) hx) fun s h => nomatch h
theorem xs_asg {i : Nat} {f : D → M S} (he : EE Z w.w te τ me) (h2 : ∀ d, SS Z w t2 (τ.set i (some (.sh d))) (f d) env) (hx : SubX τ w.px := by trivial) : SS Z w (tSeq (tAsg te (gName i)) t2) τ (me.to f) env := ss_asg he h2 hx
theorem xs_drop {m : M S} (he : EE Z w.w te τ me) (h2 : SS Z w t2 τ m env) (hx : SubX τ w.px := by trivial) : SS Z w (tSeq (tDrop te) t2) τ (X.drpM me m) env := ss_drop he (fun _ => h2) hx
theorem xs_if {c : TT} {mc : X Bool} {ma mb : M S} (hc : ET Z w.w c τ mc) (h1 : SS Z w t1 τ ma env) (h2 : SS Z w t2 τ mb env) (hx : SubX τ w.px := by trivial) : SS Z w (tIfS c t1 t2) τ (X.ifM mc ma mb) env := ss_if hc h1 h2 hx
theorem xs_for {wi : TI} {mi : X (List D)} {g : TG} {tb : TS} {u : D → Option U} {e : U → Env → Env} {f : S → U → M S} {s0 : S} (hi : EI Z w.w wi τ mi) (h0 : SubL τ (env s0)) (hg : GJ Z g u e) (hb : ∀ s c, SS Z w tb (e c (env s)) (f s c) env) (hx : SubX τ w.px := by trivial) :
    SS Z w (tFor wi g tb) τ (forX mi u s0 f) env := ss_for hi h0 hg hb hx
/-- x += e, x -= e of ints -/
def augI (g : Int → Int → Int) (d y : D) : X D := match d, y with
  | .int i, .int j => .ok (.int (g i j))
  | _, _ => .bad
theorem xs_aug {i : Nat} {d : D} {f : D → M S} {g : Int → Int → Int} (hd : τ[i]? = some (some (.sh d))) (he : EE Z w.w te τ me) (h2 : ∀ d, SS Z w t2 (τ.set i (some (.sh d))) (f d) env) (hx : SubX τ w.px := by trivial) :
    SS Z w (tSeq (tAug i te (ipI g)) t2) τ ((me.bind fun y => augI g d y).to f) env := fun GB B G H σ st D o => by
  obtain ⟨n, fp, e, nd, fr⟩ := id st
  obtain ⟨v, fv, ev, tv, _⟩ := e.get hd
  unfold Tv at tv
  refine ⟨v, ev, ?_⟩
  have o' : Out Z w GB B G (me.to fun y => (augI g d y).to f) env D := by
    cases me <;> exact o
  refine EV.out he hx st o' fun y u G2 H2 l st2 r o2 => ?_
  unfold augI at o2
  split at o2
  · have rd := tv.1
    unfold Rp at rd r
    subst rd; subst r
    exact ⟨_, _, rfl, rfl, h2 _ GB B G2 H2 _ (st2.set (d := .int _) rfl) D o2⟩
  · exact False.elim o2
end
end Wk

namespace Wk
open PySem PySem.Spec PyProof.Rows L2

/-! ### words for the printed walks -/
def oLs (ds : List D) : T := .oL (ds.map .sh)
theorem toDs_sh : ∀ ds : List D, T.toDs (ds.map .sh) = ds
  | [] => by unfold T.toDs; rfl
  | d :: ds => by
    show T.toDs (.sh d :: ds.map .sh) = d :: ds
    unfold T.toDs T.toD
    rw [toDs_sh ds]
theorem oLs_toD (ds : List D) : (oLs ds).toD = .lst ds := by
  unfold oLs T.toD
  rw [toDs_sh]
theorem subl_nones : ∀ τ : Env, SubL τ (fil τ.length)
  | [] => .n
  | _ :: r => .d (subl_nones r)
section
variable {Z : Zs} {w : Wh} {τ : Env} {S : Type} {env : S → Env}
theorem rpNon {G : Hp} : RpL Z G [.non] [.non] := RpL.cons rfl RpL.nil
theorem xs_ifT {c : TT} {t1 t2 : TS} {mc : X Bool} {ma mb : M S} (hc : ET Z w.w c τ mc) (h1 : SS Z w t1 τ ma env) (h2 : SS Z w t2 τ mb env) (hx : SubX τ w.px := by trivial) : SS Z w (tSeq (tIfS c t1 t2) tNext) τ (X.ifM mc ma mb) env :=
  fun GB B G H σ st D o => xs_if hc h1 h2 hx GB B G H σ st { D with nx := tNext D } o
end
theorem pe_globS {X : Cx} {x s : PySem.Str} {pos : Pos} (hg : Gl X x) (h : ∃ t, X.mg x = some (.str s t)) (hd : (x == ("__debug__" : PySem.Str)) = false := by decide) : PE X (.Name x pos) (tC (.str s)) := by
  obtain ⟨t, h⟩ := h
  exact pe_glob hg h ⟨t, rfl⟩ hd

/-! ### more words -/
theorem op_lt3 {X : Cx} : OpR X (compareOp .Lt) (rI0 fun i j => .bl (decide (i < j))) := op_lt
theorem od_lt3 {Z : Zs} : OpD Z (rI0 fun i j => .bl (decide (i < j))) dLt := od_lt
/-! len of anything -/
def rLen3 (K : PySem.W.Frag) : List V → Hp → VK → Prop := fun xs H Q => ∃ x n, xs = [x] ∧ LenV K x H n ∧ Q (.int n) H
theorem call_len3 {X : Cx} : CallR X (.builtin "len") (rLen3 X.K) := call_len
theorem cd_len3 {Z : Zs} : CaD Z (rLen3 Z.K) dLen := cd_len
/-! int(n), int(flag) -/
def rInt3 : List V → Hp → VK → Prop := fun xs H Q => (∃ i, xs = [.int i] ∧ Q (.int i) H) ∨ ∃ k, xs = [.bl k] ∧ Q (.int (if k then 1 else 0)) H
theorem call_int3 {X : Cx} : CallR X (.type "int") rInt3 := call_int1
def dInt (ds : List D) : X D := match ds with
  | [.int i] => .ok (.int i)
  | [.bl k] => .ok (.int (if k then 1 else 0))
  | _ => .bad
theorem cd_int3 {Z : Zs} : CaD Z rInt3 dInt := fun w σ G H ds vs l r Q q => by
  unfold dInt at q
  split at q
  · obtain ⟨v, e, rv⟩ := r.one
    unfold Rp at rv
    exact .inl ⟨_, by rw [e, rv], q.now l _ rfl⟩
  · obtain ⟨v, e, rv⟩ := r.one
    unfold Rp at rv
    exact .inr ⟨_, by rw [e, rv], q.now l _ rfl⟩
  · exact False.elim q

/-! ### the facts of the head -/
structure DefIn (K : PySem.W.Frag) (x : PySem.Str) (st : Stmt) : Prop where
  ex : ∃ f fd, PySem.W.nsIn K mainGlobals x = some (some (.ref f)) ∧ Fun K x x st f fd
theorem defIn {K : PySem.W.Frag} {x : PySem.Str} {st : Stmt} {f : Addr} {oc : Value} {od an : Option Addr} {osl : Array (Option Value)} {kV doc pm cdv ct : Value} (a : PySem.W.nsIn K mainGlobals x = some (some (.ref f)))
    (l : K.lookup f = some ⟨oc, od, .func (PySem.W.fnOf x x (defArgs st) (defBody st) (defScope st) .none kV doc pm an cdv ct), osl⟩) (c : PySem.W.codeIn K cdv x = true) (k : PySem.W.keepIn K (.ref f) = true) : DefIn K x st :=
  ⟨f, _, a, fun_mk l c k⟩
structure ExIn (K : PySem.W.Frag) (x : PySem.Str) (C : Addr) : Prop where
  a : PySem.W.nsIn K mainGlobals x = some (some (.ref C))
  x : PySem.W.excIn K C [.type "ValueError", .type "Exception", .type "BaseException", .type "object"] "ValueError.__new__" = true
  k : PySem.W.keepIn K (.ref C) = true
  b : PySem.W.subIn K (.ref C) (.type "BaseException") = some true
  t : PySem.W.typeIn K (.ref C) = some (.type "type")
theorem ExIn.f {K : PySem.W.Frag} {x : PySem.Str} {C : Addr} {h : Heap} {mg : PySem.Str → Option Value} (e : ExIn K x C) (X : K.In h) (G : h.Ns mainGlobals mg) : ExF K mg x C := ⟨PySem.W.mg_of X G e.a, e.x, e.k, e.b, e.t⟩
section
variable {P : Program} {w : World} {K : PySem.W.Frag} {mg : PySem.Str → Option Value} {base : Heap}
/-- the def at its name, by its walk -/
theorem Fn.of {x : PySem.Str} {st : Stmt} {k : Nat} {ps : List PySem.Str} {sp : Sp} {h : Heap} (D : DefIn K x st) (X : K.In h) (G : h.Ns mainGlobals mg) (F : ∀ f fd, Fun K x x st f fd → FnOk P w K mg base (L2.CX P w) k f fd ps sp)
    (hb : ∀ (kV doc pm : Value) (an : Option Addr) (cdv ct : Value) (us : List Value), us.length = ps.length → bindArgs (PySem.W.fnOf x x (defArgs st) (defBody st) (defScope st) .none kV doc pm an cdv ct) ⟨us, []⟩ = pure (ps.zip us)) : Fn P w K mg base x k ps [] sp := by
  obtain ⟨f, fd, a, D⟩ := D.ex
  exact Fn.mk1 (F f fd D) (PySem.W.mg_of X G a) D.kp (D.binds hb)
end
/-- the law's end: at every script its mirror hands back True -/
theorem law_sp {Z : Zs} {m : D → M Unit} (hm : ∀ ns : List Int, ns.length ≤ 63 → m (.scr ns) = .ret (.sh (.bl true))) {H : Hp} {a : Addr} {ns : List Int} (hl : ns.length ≤ 63) (hS : SqL Z.K H a (ns.map V.int)) :
    spM Z (ar1 m) [.ref a] H (fun v _ => v = .bl true) fun _ _ _ => False := by
  refine ⟨H, [.scr ns], Le.refl H, RpL.cons ?_ RpL.nil, ?_⟩
  · unfold Rp
    exact ⟨a, rfl, hS⟩
  · show (match m (.scr ns) with | .ok _ => _ | .ret t => _ | .exc c => _ | .bad => _)
    rw [hm ns hl]
    intro v G2 H2 fp n tv nd fr
    unfold Tv Rp at tv
    exact tv.1
/-- the law's promise, the classes' addresses left open -/
def lawSp (K : PySem.W.Frag) (m : D → M Unit) : Sp := fun vs H Q E => ∀ Z : Zs, Z.K = K → spM Z (ar1 m) vs H Q E
theorem lawSp.to {K : PySem.W.Frag} {m : D → M Unit} {vs : List V} {H : Hp} {Q : VK} {E : XK} {Z : Zs} (s : lawSp K m vs H Q E) (e : Z.K = K) : spM Z (ar1 m) vs H Q E := s Z e
theorem lawSp_of {K : PySem.W.Frag} {m : D → M Unit} (hm : ∀ ns : List Int, ns.length ≤ 63 → m (.scr ns) = .ret (.sh (.bl true))) {H : Hp} {a : Addr} {ns : List Int} (hl : ns.length ≤ 63) (hS : SqL K H a (ns.map V.int)) :
    lawSp K m [.ref a] H (fun v _ => v = .bl true) fun _ _ _ => False := fun Z e => by
  subst e
  exact law_sp hm hl hS
theorem noCX {P : Program} {w : World} {H : Hp} {s : Shared} {e : Value} {s' : Shared} (h : L2.CX P w [] H s (fun _ _ _ => False) e s') : False := by
  obtain ⟨_, _, _, _, _, _, _, _, _, _, _, _, z⟩ := h
  exact z
end Wk

/-! The mirror's words, evaluated. -/
namespace Wk
open PySem L2
section
variable {α β γ : Type} {S : Type}
@[simp] theorem X.bind_ok (a : α) (f : α → X β) : (X.ok a).bind f = f a := Eq.trans rfl rfl
@[simp] theorem X.bind_exc (c : Ex) (f : α → X β) : (X.exc c).bind f = .exc c := Eq.trans rfl rfl
@[simp] theorem X.bind_bad (f : α → X β) : (X.bad).bind f = .bad := Eq.trans rfl rfl
@[simp] theorem X.to_ok (a : α) (f : α → M β) : (X.ok a).to f = f a := Eq.trans rfl rfl
@[simp] theorem X.to_exc (c : Ex) (f : α → M β) : (X.exc c).to f = .exc c := Eq.trans rfl rfl
@[simp] theorem X.to_bad (f : α → M β) : (X.bad).to f = .bad := Eq.trans rfl rfl
@[simp] theorem M.bind_ok (a : α) (f : α → M β) : (M.ok a).bind f = f a := Eq.trans rfl rfl
@[simp] theorem M.bind_ret (t : T) (f : α → M β) : (M.ret t).bind f = .ret t := Eq.trans rfl rfl
@[simp] theorem M.bind_exc (c : Ex) (f : α → M β) : (M.exc c).bind f = .exc c := Eq.trans rfl rfl
@[simp] theorem M.bind_bad (f : α → M β) : (M.bad).bind f = .bad := Eq.trans rfl rfl
@[simp] theorem X.of_some (a : α) : X.of (some a) = .ok a := Eq.trans rfl rfl
@[simp] theorem X.of_none : X.of (none : Option α) = .bad := Eq.trans rfl rfl
@[simp] theorem M.fn_ok (a : Unit) : (M.ok a).fn = .ok .non := Eq.trans rfl rfl
@[simp] theorem M.fn_ret (t : T) : (M.ret t).fn = .ok t.toD := Eq.trans rfl rfl
@[simp] theorem M.fn_exc (c : Ex) : (M.exc c : M Unit).fn = .exc c := Eq.trans rfl rfl
@[simp] theorem T.toD_sh (d : D) : (T.sh d).toD = d := by unfold T.toD; rfl
@[simp] theorem T.toD_oD (t : Bool) (kvs : List (List Key × D)) : (T.oD t kvs).toD = .dct t kvs := by unfold T.toD; rfl
@[simp] theorem T.toD_oLs (ds : List D) : (oLs ds).toD = .lst ds := oLs_toD ds
@[simp] theorem X.b2_ok (a : α) (b : β) (f : α → β → X γ) : X.b2 (.ok a) (.ok b) f = f a b := Eq.trans rfl rfl
@[simp] theorem X.cons_ok (a : D) (r : List D) : X.cons (.ok a) (.ok r) = .ok (a :: r) := Eq.trans rfl rfl
@[simp] theorem X.tst_bl (b : Bool) : X.tst (.ok (.bl b)) = .ok b := Eq.trans rfl rfl
@[simp] theorem X.and_t (b : X Bool) : X.and (.ok true) b = b := Eq.trans rfl rfl
@[simp] theorem X.and_f (b : X Bool) : X.and (.ok false) b = .ok false := Eq.trans rfl rfl
@[simp] theorem X.or_t (b : X Bool) : X.or (.ok true) b = .ok true := Eq.trans rfl rfl
@[simp] theorem X.or_f (b : X Bool) : X.or (.ok false) b = b := Eq.trans rfl rfl
@[simp] theorem X.and_ok (a b : Bool) : X.and (.ok a) (.ok b) = .ok (a && b) := by cases a <;> rfl
@[simp] theorem X.or_ok (a b : Bool) : X.or (.ok a) (.ok b) = .ok (a || b) := by cases a <;> rfl
@[simp] theorem X.not_ok (a : Bool) : X.not (.ok a) = .ok !a := Eq.trans rfl rfl
@[simp] theorem X.andV_t (b : X D) : X.andV (.ok (.bl true)) b = b := Eq.trans rfl rfl
@[simp] theorem X.andV_f (b : X D) : X.andV (.ok (.bl false)) b = .ok (.bl false) := Eq.trans rfl rfl
@[simp] theorem X.andV_ok (a b : Bool) : X.andV (.ok (.bl a)) (.ok (.bl b)) = .ok (.bl (a && b)) := by cases a <;> rfl
@[simp] theorem X.orV_t (b : X D) : X.orV (.ok (.bl true)) b = .ok (.bl true) := Eq.trans rfl rfl
@[simp] theorem X.orV_f (b : X D) : X.orV (.ok (.bl false)) b = b := Eq.trans rfl rfl
@[simp] theorem X.notV_ok (a : Bool) : X.notV (.ok (.bl a)) = .ok (.bl !a) := Eq.trans rfl rfl
@[simp] theorem X.ite_t (a b : X D) : X.ite (.ok true) a b = a := Eq.trans rfl rfl
@[simp] theorem X.ite_f (a b : X D) : X.ite (.ok false) a b = b := Eq.trans rfl rfl
@[simp] theorem X.ifM_t (a b : M S) : X.ifM (.ok true) a b = a := Eq.trans rfl rfl
@[simp] theorem X.ifM_f (a b : M S) : X.ifM (.ok false) a b = b := Eq.trans rfl rfl
theorem X.ifM_ok (c : Bool) (a b : M S) : X.ifM (.ok c) a b = if c = true then a else b := by cases c <;> rfl
@[simp] theorem X.retM_ok (d : D) : (X.retM (.ok d) : M S) = .ret (.sh d) := Eq.trans rfl rfl
@[simp] theorem X.drpM_ok (d : D) (r : M S) : X.drpM (.ok d) r = r := Eq.trans rfl rfl
@[simp] theorem X.drpM_exc (c : Ex) (r : M S) : X.drpM (.exc c) r = .exc c := Eq.trans rfl rfl
@[simp] theorem X.chain_ii (f g : D → D → X D) (a b c : D) : X.chain f g (.ok a) (.ok b) (.ok c) = (f a b).tst.bind fun t => bif t then g b c else .ok (.bl false) := Eq.trans rfl rfl
@[simp] theorem X.isN_ok (d : D) : X.isN (.ok d) = .ok (dIsN d) := Eq.trans rfl rfl
@[simp] theorem X.notN_ok (d : D) : X.notN (.ok d) = (dB (dIsN d)).bind fun c => .ok (.bl !c) := Eq.trans rfl rfl
@[simp] theorem X.cut_ok (d : D) (l h : Option Int) : X.cut (.ok d) (.ok l) (.ok h) = dCut d l h := Eq.trans rfl rfl
@[simp] theorem X.call_ok (f : List D → M Unit) (ds : List D) : X.call f (.ok ds) = (f ds).fn := Eq.trans rfl rfl
@[simp] theorem X.callD_ok (f : List D → M Unit) (dd ds : List D) : X.callD f dd (.ok ds) = (f (ds ++ dd)).fn := Eq.trans rfl rfl
@[simp] theorem ar0_nil (m : M Unit) : ar0 m [] = m := Eq.trans rfl rfl
@[simp] theorem ar1_1 (m : D → M Unit) (a : D) : ar1 m [a] = m a := Eq.trans rfl rfl
@[simp] theorem ar2_2 (m : D → D → M Unit) (a b : D) : ar2 m [a, b] = m a b := Eq.trans rfl rfl
@[simp] theorem ar3_3 (m : D → D → D → M Unit) (a b c : D) : ar3 m [a, b, c] = m a b c := Eq.trans rfl rfl
@[simp] theorem ar4_4 (m : D → D → D → D → M Unit) (a b c d : D) : ar4 m [a, b, c, d] = m a b c d := Eq.trans rfl rfl
@[simp] theorem ar5_5 (m : D → D → D → D → D → M Unit) (a b c d e : D) : ar5 m [a, b, c, d, e] = m a b c d e := Eq.trans rfl rfl
@[simp] theorem ar6_6 (m : D → D → D → D → D → D → M Unit) (a b c d e f : D) : ar6 m [a, b, c, d, e, f] = m a b c d e f := Eq.trans rfl rfl
@[simp] theorem ar7_7 (m : D → D → D → D → D → D → D → M Unit) (a b c d e f g : D) : ar7 m [a, b, c, d, e, f, g] = m a b c d e f g := Eq.trans rfl rfl
/-! operations -/
@[simp] theorem dAdd_i (i j : Int) : dAdd (.int i) (.int j) = .ok (.int (i + j)) := Eq.trans rfl rfl
@[simp] theorem dSub_i (i j : Int) : dSub (.int i) (.int j) = .ok (.int (i - j)) := Eq.trans rfl rfl
@[simp] theorem dNeg_i (i : Int) : dNeg (.int i) = .ok (.int (-i)) := Eq.trans rfl rfl
@[simp] theorem dLt_i (i j : Int) : dLt (.int i) (.int j) = .ok (.bl (decide (i < j))) := Eq.trans rfl rfl
@[simp] theorem dLe_i (i j : Int) : dLe (.int i) (.int j) = .ok (.bl (decide (i ≤ j))) := Eq.trans rfl rfl
@[simp] theorem dGt_i (i j : Int) : dGt (.int i) (.int j) = .ok (.bl (decide (j < i))) := Eq.trans rfl rfl
@[simp] theorem dGe_i (i j : Int) : dGe (.int i) (.int j) = .ok (.bl (decide (j ≤ i))) := Eq.trans rfl rfl
@[simp] theorem dB_bl (b : Bool) : dB (.bl b) = .ok b := Eq.trans rfl rfl
@[simp] theorem dPart_i (i : Int) : dPart (.int i) = .ok (some i) := Eq.trans rfl rfl
@[simp] theorem dLen_l (xs : List D) : dLen [.lst xs] = .ok (.int xs.length) := Eq.trans rfl rfl
@[simp] theorem dLen_t (xs : List D) : dLen [.tup xs] = .ok (.int xs.length) := Eq.trans rfl rfl
@[simp] theorem dLen_s (ns : List Int) : dLen [.scr ns] = .ok (.int ns.length) := Eq.trans rfl rfl
@[simp] theorem itL_l (xs : List D) : itL (.lst xs) = .ok xs := Eq.trans rfl rfl
@[simp] theorem itT_t (xs : List D) : itT (.tup xs) = .ok xs := Eq.trans rfl rfl
@[simp] theorem itS_s (x : Str) : itS (.str x) = .ok (x.cps.toList.map fun c => .str ⟨#[c]⟩) := Eq.trans rfl rfl
@[simp] theorem unp2_t (a b : D) : unp2 (.tup [a, b]) = some (a, b) := Eq.trans rfl rfl
@[simp] theorem unp3_t (a b c : D) : unp3 (.tup [a, b, c]) = some (a, b, c) := Eq.trans rfl rfl
@[simp] theorem dIsN_non : dIsN .non = .bl true := Eq.trans rfl rfl
/-! sides that hold at once -/
theorem dMul_s (i j : Int) (h : j.natAbs < 2 ^ 60) : dMul (.int i) (.int j) = .ok (.int (i * j)) := by
  show (if mulFits i j = true then X.ok (D.int (i * j)) else .bad) = _
  have e : mulFits i j = true := by unfold mulFits; simp [h]
  rw [if_pos e]
theorem dMul_s' (i j : Int) (h : i.natAbs < 2 ^ 60) : dMul (.int i) (.int j) = .ok (.int (i * j)) := by
  show (if mulFits i j = true then X.ok (D.int (i * j)) else .bad) = _
  have e : mulFits i j = true := by unfold mulFits; simp [h]
  rw [if_pos e]
@[simp] theorem dMod_p (i j : Int) (h : 0 < j) : dMod (.int i) (.int j) = .ok (.int (i % j)) := by
  show (if 0 < j then X.ok (D.int (i % j)) else .bad) = _
  rw [if_pos h]
theorem dDiv_p (i j : Int) (h : 0 < j) (h2 : j.natAbs.log2 < 9000) : dDiv (.int i) (.int j) = .ok (.int (i / j)) := by
  show (if 0 < j ∧ j.natAbs.log2 < 9000 then X.ok (D.int (i / j)) else .bad) = _
  rw [if_pos ⟨h, h2⟩]
@[simp] theorem dDiv_s (i j : Int) (h : 0 < j) (h2 : j < 1152921504606846976) : dDiv (.int i) (.int j) = .ok (.int (i / j)) :=
  dDiv_p i j h (Nat.lt_of_le_of_lt (Nat.le_of_lt_succ (Nat.lt_succ_of_lt ((Nat.log2_lt (by omega)).mpr (show j.natAbs < 2 ^ 60 by omega)))) (by decide))
@[simp] theorem dMul_r (i j : Int) (h : -1152921504606846976 < j) (h2 : j < 1152921504606846976) : dMul (.int i) (.int j) = .ok (.int (i * j)) := dMul_s i j (by omega)
@[simp] theorem dMul_l (i j : Int) (h : -1152921504606846976 < i) (h2 : i < 1152921504606846976) : dMul (.int i) (.int j) = .ok (.int (i * j)) := dMul_s' i j (by omega)
@[simp] theorem dPow_p (i j : Int) (h : 0 ≤ j ∧ j ≤ 1000000 ∧ i.natAbs < 2 ^ 60) : dPow (.int i) (.int j) = .ok (.int (i ^ j.toNat)) := by
  show (if 0 ≤ j ∧ j ≤ 1000000 ∧ i.natAbs < 2 ^ 60 then X.ok (D.int (i ^ j.toNat)) else .bad) = _
  rw [if_pos h]
@[simp] theorem dLst_p (xs : List D) (h : xs.length ≤ 1000000) : dLst xs = .ok (.lst xs) := by unfold dLst; rw [if_pos h]
@[simp] theorem dTup_p (xs : List D) (h : xs.length ≤ 1000000) : dTup xs = .ok (.tup xs) := by unfold dTup; rw [if_pos h]
theorem dAdd_s (x y : Str) (h : x.length + y.length ≤ 1000000) : dAdd (.str x) (.str y) = .ok (.str (x ++ y)) := by
  show (if x.length + y.length ≤ 1000000 then X.ok (D.str (x ++ y)) else .bad) = _
  rw [if_pos h]
theorem dAdd_l (x y : List D) (h : x.length + y.length ≤ 1000000) : dAdd (.lst x) (.lst y) = .ok (.lst (x ++ y)) := by
  show (if x.length + y.length ≤ 1000000 then X.ok (D.lst (x ++ y)) else .bad) = _
  rw [if_pos h]
theorem dLen_str (z : Str) (h : z.length ≤ 1000000) : dLen [.str z] = .ok (.int z.length) := by
  show (if z.length ≤ 1000000 then X.ok (D.int z.length) else .bad) = _
  rw [if_pos h]
/-! == -/
@[simp] theorem eqB_ii (i j : Int) : eqB (.int i) (.int j) = .ok (i == j) := by
  show X.ok (decide (V.int i = V.int j)) = _
  rw [dec_int]
@[simp] theorem eqB_bb (i j : Bool) : eqB (.bl i) (.bl j) = .ok (i == j) := by
  show X.ok (decide (V.bl i = V.bl j)) = _
  rw [dec_bl]
@[simp] theorem eqB_ss (i j : Str) : eqB (.str i) (.str j) = .ok (decide (i = j)) := by
  show X.ok (decide (V.str i = V.str j)) = _
  simp
theorem eqv_ok {x y : D} {a b : PyData} (hf : eqF x y = none) (ha : toPy x = some a) (hb : toPy y = some b) (sa : SeqAt.shaped a = true) (sb : SeqAt.shaped b = true) : eqB x y = .ok (PyData.eqv a b) := by
  unfold eqB
  rw [hf]
  dsimp only
  unfold eqPy
  rw [ha, hb]
  dsimp only
  rw [if_pos ⟨sa, sb⟩]
@[simp] theorem dEq_d (x y : D) : dEq x y = (eqB x y).bind fun b => .ok (.bl b) := Eq.trans rfl rfl
@[simp] theorem dNe_d (x y : D) : dNe x y = (eqB x y).bind fun b => .ok (.bl !b) := Eq.trans rfl rfl
/-! loops -/
@[simp] theorem forM_nil {S α : Type} (s : S) (f : S → α → M S) : forM [] s f = .ok s := Eq.trans rfl rfl
@[simp] theorem forM_cons {S α : Type} (x : α) (r : List α) (s : S) (f : S → α → M S) : forM (x :: r) s f = (f s x).bind fun s' => forM r s' f := Eq.trans rfl rfl
theorem forX_ok {S U : Type} (xs : List D) (u : D → Option U) (s0 : S) (f : S → U → M S) : forX (.ok xs) u s0 f = forM xs s0 fun s x => (X.of (u x)).to (f s) := Eq.trans rfl rfl
theorem forX_some {S : Type} (xs : List D) (s0 : S) (f : S → D → M S) : forX (.ok xs) some s0 f = forM xs s0 f := Eq.trans rfl rfl
/-- a search that hands back r at the first item that fails -/
theorem forM_all {α : Type} {p : α → Bool} {r : T} : ∀ {xs : List α} {f : Unit → α → M Unit}, (∀ x ∈ xs, f () x = if p x = true then .ok () else .ret r) → forM xs () f = if xs.all p = true then .ok () else .ret r
  | [], f, _ => rfl
  | x :: xs, f, h => by
    rw [forM_cons, h x List.mem_cons_self]
    by_cases hp : p x = true
    · rw [if_pos hp, M.bind_ok, forM_all fun y hy => h y (List.mem_cons_of_mem _ hy), List.all_cons, hp, Bool.true_and]
    · rw [if_neg hp, M.bind_ret, List.all_cons, if_neg (by simp [hp])]
/-- a loop that goes on at each item -/
theorem forM_fold {S α : Type} {g : S → α → S} : ∀ {xs : List α} {s : S} {f : S → α → M S}, (∀ s x, x ∈ xs → f s x = .ok (g s x)) → forM xs s f = .ok (xs.foldl g s)
  | [], s, f, _ => rfl
  | x :: xs, s, f, h => by
    rw [forM_cons, h s x List.mem_cons_self, M.bind_ok, forM_fold fun s y hy => h s y (List.mem_cons_of_mem _ hy), List.foldl_cons]
/-- .. where an invariant tells it -/
theorem forM_inv {S α : Type} {I : Nat → S → Prop} {xs : List α} {f : S → α → M S} (hs : ∀ i s x, xs[i]? = some x → I i s → ∃ s', f s x = .ok s' ∧ I (i + 1) s') : ∀ {s : S}, I 0 s → ∃ s', forM xs s f = .ok s' ∧ I xs.length s' := by
  have go : ∀ (k : Nat) (s : S), k ≤ xs.length → I k s → ∃ s', forM (xs.drop k) s f = .ok s' ∧ I xs.length s' := by
    intro k s hk
    induction hn : xs.length - k generalizing k s with
    | zero =>
      intro h
      have e : k = xs.length := by omega
      subst e
      exact ⟨s, by rw [List.drop_length]; rfl, h⟩
    | succ n ih =>
      intro h
      have hlt : k < xs.length := by omega
      rw [List.drop_eq_getElem_cons hlt, forM_cons]
      obtain ⟨s', e, h'⟩ := hs k s xs[k] (List.getElem?_eq_getElem hlt) h
      rw [e, M.bind_ok]
      exact ih (k + 1) s' hlt (by omega) h'
  intro s h
  exact go 0 s (Nat.zero_le _) h

/-! ### places, ranges, texts -/
theorem dIx_l {xs : List D} {k : Nat} {d : D} (h : xs[k]? = some d) : dIx (.lst xs) (.int k) = .ok d := by
  show X.of (atI xs (k : Int)) = _
  rw [atI_nat h]; rfl
theorem dIx_t {xs : List D} {k : Nat} {d : D} (h : xs[k]? = some d) : dIx (.tup xs) (.int k) = .ok d := by
  show X.of (atI xs (k : Int)) = _
  rw [atI_nat h]; rfl
theorem dIx_scr {ns : List Int} {k : Nat} {n : Int} (h : ns[k]? = some n) : dIx (.scr ns) (.int k) = .ok (.int n) := by
  show X.of ((atI ns (k : Int)).map D.int) = _
  rw [atI_nat h]; rfl
theorem dIx_str {s : Str} {k : Nat} {c : Nat} (h : s.cps.toList[k]? = some c) (h2 : s.length ≤ 1000000) : dIx (.str s) (.int k) = .ok (.str ⟨#[c]⟩) := by
  show (if s.length ≤ 1000000 then X.of ((atI s.cps.toList (k : Int)).map fun c => D.str ⟨#[c]⟩) else .bad) = _
  rw [if_pos h2, atI_nat h]
  rfl
/-- at an int that is no less than 0 -/
theorem dIx_int {x : D} {i : Int} {d : D} (h0 : 0 ≤ i) (h : dIx x (.int (i.toNat : Nat)) = .ok d) : dIx x (.int i) = .ok d := by
  have e : ((i.toNat : Nat) : Int) = i := by omega
  rw [e] at h
  exact h
/-- an item of a list at an int within it -/
theorem dIx_mem {xs : List D} {i : Int} (h0 : 0 ≤ i) (h : i < xs.length) : ∃ d, d ∈ xs ∧ dIx (.lst xs) (.int i) = .ok d := by
  have hl : i.toNat < xs.length := by omega
  exact ⟨xs[i.toNat], List.getElem_mem hl, dIx_int h0 (dIx_l (List.getElem?_eq_getElem hl))⟩
theorem dCut_str (z : Str) (lo hi : Option Int) (h : z.length ≤ 1000000) : dCut (.str z) lo hi = .ok (.str (cutS z lo hi)) := by
  show (if z.length ≤ 1000000 then X.ok (D.str (cutS z lo hi)) else .bad) = _
  rw [if_pos h]
theorem rng1_n (n : Nat) (h : n ≤ 1000000) : rng1 [.int n] = .ok (rng 0 1 n) := by
  have e : (2 : Int) ^ 62 = 4611686018427387904 := by decide
  unfold rng1
  dsimp only
  rw [if_pos (by rw [e]; omega)]
  rfl
theorem rng01_get {n j : Nat} (h : j < n) : (rng 0 1 n)[j]? = some (.int j) := by
  rw [rng_get h]
  simp
theorem strAdd_len (x y : Str) : (x ++ y).length = x.length + y.length := by
  show (x.cps ++ y.cps).size = _
  rw [Array.size_append]; rfl
theorem reps_len {α : Type} (a : Array α) : ∀ (n : Nat) (z : Array α), ((List.replicate n a).foldl (· ++ ·) z).size = z.size + n * a.size
  | 0, z => by simp
  | n + 1, z => by
    rw [List.replicate_succ, List.foldl_cons, reps_len a n, Array.size_append, Nat.add_mul, Nat.one_mul]
    omega
theorem strMul_len (x : Str) (n : Nat) : (Txt.mul x n).length = n * x.length := by
  unfold Txt.mul
  split
  · have : n = 0 := by omega
    subst this
    simp [Str.length, Str.empty]
  · split
    · rename_i h
      simp only [Bool.or_eq_true, beq_iff_eq] at h
      rcases h with h | h
      · have : n = 1 := by omega
        subst this; simp
      · rw [h]; simp
    · show ((List.replicate ((n : Int)).toNat x.cps).foldl (· ++ ·) #[]).size = _
      rw [reps_len]; simp; rfl
theorem dMul_str (x : Str) (n : Nat) (h : n ≤ 1000) (h2 : x.length ≤ 1000) : dMul (.str x) (.int n) = .ok (.str (Txt.mul x n)) := by
  show (if (n : Int) ≤ 1000 ∧ -1000 ≤ (n : Int) ∧ x.length ≤ 1000 then X.ok (D.str (Txt.mul x n)) else .bad) = _
  rw [if_pos ⟨by omega, by omega, h2⟩]
@[simp] theorem dIs_l (xs : List D) (n : Ty) : dIs n (.lst xs) = .ok (.bl (n == .list)) := Eq.trans rfl rfl
@[simp] theorem dIs_non (n : Ty) : dIs n .non = .ok (.bl false) := Eq.trans rfl rfl
@[simp] theorem dIs_t (xs : List D) (n : Ty) : dIs n (.tup xs) = .ok (.bl (n == .tuple)) := Eq.trans rfl rfl
@[simp] theorem dIs_bl (b : Bool) (n : Ty) : dIs n (.bl b) = .ok (.bl (n == .bool || n == .int)) := Eq.trans rfl rfl
@[simp] theorem dIs_int (i : Int) (n : Ty) : dIs n (.int i) = .ok (.bl (n == .int)) := Eq.trans rfl rfl
@[simp] theorem dIs_str (x : Str) (n : Ty) : dIs n (.str x) = .ok (.bl (n == .str)) := Eq.trans rfl rfl
@[simp] theorem dIs_dct (t : Bool) (kvs : List (List Key × D)) (n : Ty) : dIs n (.dct t kvs) = .ok (.bl (n == .dict)) := Eq.trans rfl rfl
end
end Wk

namespace Wk
open PySem PySem.Spec PyProof.Rows L2

/-! ### instances: attributes, making -/
/-- the facts of a class of the program -/
structure CF (Z : Zs) (c : Cl) : Prop where
  cl : Cls Z.K (Z.cc c)
  na : ∀ f, f ∈ flds c → NoAttr Z.K (Z.cc c) f
def fldAt : List Str → List D → Str → Option D
  | g :: gs, x :: xs, f => if f = g then some x else fldAt gs xs f
  | _, _, _ => none
def dFld (cs : List Cl) (f : Str) (d : D) : X D := match d with
  | .ins c xs => if c ∈ cs then X.of (fldAt (flds c) xs f) else .bad
  | _ => .bad
section
variable {Z : Zs} {w : WX} {τ : Env} {ta tb te : TE} {ma mb me : X D}
theorem fldAt_rep {G : Hp} : ∀ {gs : List Str} {xs : List D} {vs : List V} {f : Str} {x : D}, RpL Z G xs vs → fldAt gs xs f = some x → f ∈ gs ∧ ∃ v, (gs.zip vs).lookup f = some v ∧ Rp Z G x v
  | [], xs, vs, f, x, r, e => by unfold fldAt at e; cases e
  | g :: gs, [], vs, f, x, r, e => by unfold fldAt at e; cases e
  | g :: gs, y :: xs, vs, f, x, r, e => by
    unfold RpL at r
    obtain ⟨v, vr, ev, rv, rr⟩ := r
    subst ev
    unfold fldAt at e
    by_cases h : f = g
    · rw [if_pos h] at e
      cases e
      refine ⟨by rw [h]; exact List.mem_cons_self, v, ?_, rv⟩
      show List.lookup f ((g, v) :: gs.zip vr) = some v
      rw [List.lookup_cons, beq_iff_eq.mpr h]
    · rw [if_neg h] at e
      obtain ⟨m, v', lv, r'⟩ := fldAt_rep rr e
      refine ⟨List.mem_cons_of_mem _ m, v', ?_, r'⟩
      show List.lookup f ((g, v) :: gs.zip vr) = some v'
      rw [List.lookup_cons, beq_eq_false_iff_ne.mpr h]
      exact lv
theorem dFld_ok {cs : List Cl} {f : Str} {d : D} {σ : L2.St} {G H : Hp} {k : D → Hp → Hp → Prop} (q : Res Z w σ G H (dFld cs f d) k) : ∃ c xs x, d = .ins c xs ∧ c ∈ cs ∧ fldAt (flds c) xs f = some x ∧ Res Z w σ G H (.ok x) k := by
  cases d <;> first
    | exact False.elim q
    | skip
  rename_i c xs
  have q' : Res Z w σ G H (if c ∈ cs then X.of (fldAt (flds c) xs f) else .bad) k := q
  by_cases h : c ∈ cs
  · rw [if_pos h] at q'
    cases e : fldAt (flds c) xs f with
    | none => rw [e] at q'; exact False.elim q'
    | some x => rw [e] at q'; exact ⟨c, xs, x, rfl, h, e, q'⟩
  · rw [if_neg h] at q'; exact False.elim q'
theorem xe_fld {cs : List Cl} {f : Str} (hc : ∀ c, c ∈ cs → CF Z c) (ha : EE Z w ta τ ma) : EE Z w (tFld Z.K ta f) τ (ma.bind (dFld cs f)) := fun G H σ fp l e Q q => by
  refine ha G H σ fp l e _ (q.bind.imp fun d G2 H2 n2 q2 v rv => ?_)
  obtain ⟨c, xs, x, rfl, hm, hf, q3⟩ := dFld_ok q2
  unfold Rp at rv
  obtain ⟨a, dx, vs, ev, ea, _, rl⟩ := rv
  obtain ⟨m, v', lv, rx⟩ := fldAt_rep rl hf
  exact ⟨a, Z.cc c, dx, _, v', ev, n2.gh.at ea rfl, (hc c hm).cl, (hc c hm).na f m, lv, q3.now n2.gh _ rx⟩

/-! making: __init__ stores its arguments -/
def spI (Z : Zs) (c : Cl) : Sp := fun vs H Q _ => ∃ x dx us, vs = V.ref x :: us ∧ us.length = (flds c).length ∧ H x = some (.ins (Z.cc c) dx []) ∧ Q .non (upd H x (.ins (Z.cc c) dx ((flds c).zip us)))
def dMk (c : Cl) (ds : List D) : X D := if ds.length = (flds c).length then .ok (.ins c ds) else .bad
/-- a new instance -/
theorem Nxt.ins {G H : Hp} {x dx : Addr} {C : Addr} {fs : List (Str × V)} (l : Le G H) (nx : H x = none) (ndx : H dx = none) (ne : dx ≠ x) :
    Nxt G H (upd G x (.ins C dx fs)) (upd (upd H dx (.own x)) x (.ins C dx fs)) := by
  have n1 := (Nxt.refl l).newO (o := .own x) ndx
  have q : upd H dx (.own x) x = none := by rw [upd_ne (Ne.symm ne)]; exact nx
  exact n1.new q
theorem xe_make {c : Cl} {E : XK} {tr : TA} {mr : X (List D)} (hr : EA Z w tr τ mr) : EE Z w (tMake (Z.cc c) (spI Z c) [] E tr) τ (mr.bind (dMk c)) := fun G H σ fp l e Q q => by
  refine hr G H σ fp l e _ (q.bind.imp fun ds G2 H2 n2 q2 vs rvs => ?_)
  unfold dMk at q2
  by_cases h : ds.length = (flds c).length
  · rw [if_pos h] at q2
    intro x dx nx ndx ne
    refine ⟨x, dx, vs, by rw [List.append_nil], by rw [rvs.length]; exact h, upd_same, rfl, ?_⟩
    rw [upd_upd]
    have n3 := Nxt.ins (C := Z.cc c) (fs := (flds c).zip vs) n2.gh nx ndx ne
    refine q2 _ _ n3 _ ?_
    unfold Rp
    exact ⟨x, dx, vs, rfl, upd_same, h, rvs.mono n3.g.lq⟩
  · rw [if_neg h] at q2; exact False.elim q2
/-- an instance without attributes -/
def tMk0 (C : Addr) : TE := fun _ H Q => ∀ x dx, H x = none → H dx = none → dx ≠ x → Q (.ref x) (upd (upd H dx (.own x)) x (.ins C dx []))
theorem xe_make0 {c : Cl} (h : flds c = []) : EE Z w (tMk0 (Z.cc c)) τ (.ok (.ins c [])) := fun G H σ fp l e Q q => by
  intro x dx nx ndx ne
  have n3 := Nxt.ins (C := Z.cc c) (fs := []) l nx ndx ne
  refine q _ _ n3 _ ?_
  unfold Rp
  exact ⟨x, dx, [], rfl, by rw [h]; exact upd_same, by rw [h]; rfl, RpL.nil⟩
end
/-- a class that stands at a name and is made by an __init__ of its own -/
structure MkF (P : Program) (w : World) (K : PySem.W.Frag) (mg : Str → Option Value) (base : Heap) (x : Str) (k : Nat) (C : Addr) (sp : Sp) : Prop where
  ex : ∃ f fd ps, Mk K C f ∧ FnOk P w K mg base CX0 k f fd ps sp ∧ mg x = some (.ref C) ∧ Binds K fd ps []
section
variable {X : Cx} {x : Str} {k : Nat} {C : Addr} {sp : Sp} {p pos : Pos} {e : Expr} {es : List Expr} {t : TA}
abbrev EF0 : XK := fun _ _ _ => False
theorem pe_mkF (F : MkF X.prog X.w X.K X.mg X.base x k C sp) (hr : Room (k + 1) X.A) (hg : Gl X x) (ha : PA X (e :: es) t) (hdb : (x == ("__debug__" : Str)) = false := by decide)
    (he : starEach (e :: es) X.env = (false, eval e X.env) :: starEach es X.env := by rfl) (hpl : (backTo pos (starEach es X.env)).any (·.1) = false := by rfl) : PE X (.Call (.Name x p) (e :: es) [] pos) (tMake C sp [] EF0 t) := by
  obtain ⟨f, fd, ps, M, F, hm, hb⟩ := F.ex
  exact pe_make M F hr hg hm hb .nil pass0 ha hdb he hpl
end
end Wk

namespace Wk
open PySem PySem.Spec PyProof.Rows L2

/-! ### an instance of a class without an __init__ -/
structure Mk0 (K : PySem.W.Frag) (mg : Str → Option Value) (x : Str) (C : Addr) : Prop where
  makes : PySem.W.makesIn K C = true
  init : PySem.W.findIn K (.ref C) "__init__" = some (some (.builtin "object.__init__"))
  top : PySem.W.mroIn K C (.type "object") = some true
  kp : PySem.W.keepIn K (.ref C) = true
  g : mg x = some (.ref C)
section
variable {X : Cx} {x : Str} {C : Addr} {p pos : Pos}
theorem pe_mk0 (M : Mk0 X.K X.mg x C) (hg : Gl X x) (hdb : (x == ("__debug__" : Str)) = false := by decide) : PE X (.Call (.Name x p) [] [] pos) (tMk0 C) := by
  refine ⟨fun pins s σ H Q I h => ?_⟩
  refine wpAny_Call_Name_kw (ld_glob I hg M.g ?_ hdb)
  refine PySem.W.callWith_K0 I.kIn M.kp ?_
  have hq := h (s.heap.objs.size + 1) s.heap.objs.size (I.hok.fresh (Nat.le_succ _)) (I.hok.fresh (Nat.le_refl _)) (Nat.ne_of_lt (Nat.lt_succ_self _))
  have I2 := Inv.made (C := C) I
  refine wpAny_call (make_map0 (K := X.K) I.kIn M.makes M.init (fun self => PySem.W.Looks.of_pure (PySem.W.oi_bind self)) ?_)
  have hy : ((s.heap.push PySem.W.emptyDict).push (PySem.W.instObj C s.heap.objs.size)).get? (s.heap.objs.size + 1) = some (PySem.W.instObj C s.heap.objs.size) := by
    have q := Heap.get?_push_size (s.heap.push PySem.W.emptyDict) (o := PySem.W.instObj C s.heap.objs.size) rfl
    rwa [Heap.size_push] at q
  have t1 : PySem.W.Looks (model X.prog X.w) ((s.heap.push PySem.W.emptyDict).push (PySem.W.instObj C s.heap.objs.size)) (typeOf (.ref (s.heap.objs.size + 1))) (.ref C) := NwA.type_at hy rfl
  have t2 : PySem.W.Looks (model X.prog X.w) ((s.heap.push PySem.W.emptyDict).push (PySem.W.instObj C s.heap.objs.size)) (isInstance (.ref (s.heap.objs.size + 1)) (.type "object")) true := t1.andThen (PySem.W.looks_mroIn I2.kIn M.top)
  refine PySem.codeAny_call_builtin PySem.W.oi_plain PySem.W.entry_oi (@PySem.W.check_slot (model X.prog X.w) _ _ _ "object.__init__" "object" "__init__" (.ref (s.heap.objs.size + 1)) [] [] _ PySem.W.oi_kind PySem.W.oi_split t2 (NwA.oi_args_any _ _ _) ?_)
  rw [PySem.W.oi_run]
  exact wpAny_pure ⟨rfl, V.ref (s.heap.objs.size + 1), _, I2, rfl, hq⟩
end

/-! ### methods without arguments -/
theorem passF {P : Program} {X : Cx} : Passes (L2.CX P X.w) X EF0 := fun _ _ _ _ _ _ _ h => by
  obtain ⟨_, _, _, _, _, _, _, _, _, _, _, _, z⟩ := h
  exact z.elim
structure MtF (P : Program) (w : World) (K : PySem.W.Frag) (mg : Str → Option Value) (base : Heap) (m : Str) (k : Nat) (C : Addr) (sp : Sp) : Prop where
  ex : ∃ f fd, Cls K C ∧ Meth K C m f ∧ FnOk P w K mg base (L2.CX P w) k f fd ["self"] sp ∧ Binds K fd ["self"] []
theorem pe_mtF {X : Cx} {o : Expr} {m : Str} {k : Nat} {C : Addr} {sp : Sp} {apos pos : Pos} {ta : TE} {pl : Sem Bool} (he : PE X o ta) (F : MtF X.prog X.w X.K X.mg X.base m k C sp) (hr : Room k X.A)
    (ht : eval (.Call (.Attribute o m apos) [] [] pos) X.env = (do
      let ov ← eval o X.env
      standAt apos.atName
      let (f, first) ← holding [ov] (getMethod ov m pl)
      callWith pos f first (backTo pos (starEach [] X.env)) (backToKw pos (keywordEach [] X.env))) := by rfl) : PE X (.Call (.Attribute o m apos) [] [] pos) (tMeth C m sp [] EF0 ta tNil) := by
  obtain ⟨f, fd, c, hm, F, hb⟩ := F.ex
  exact pe_meth0 he c hm F hr hb .nil passF ht
def mM (f : D → M Unit) (c : Cl) (d : D) : X D := match d with
  | .ins c' xs => if c' = c then (match f (.ins c' xs) with | .ret t => .ok t.toD | _ => .bad) else .bad
  | _ => .bad
def X.alt (m1 m2 : X D) : X D := match m1 with
  | .bad => m2
  | x => x
section
variable {Z : Zs} {w : WX} {τ : Env} {ta tb te t1 t2 : TE} {ma mb me m1 m2 : X D}
theorem xe_alt (h1 : EE Z w t1 τ m1) (h2 : EE Z w t2 τ m2) : EE Z w (tOr2 t1 t2) τ (X.alt m1 m2) := fun G H σ fp l e Q q => by
  cases m1 with
  | bad => exact .inr (h2 G H σ fp l e Q q)
  | ok a => exact .inl (h1 G H σ fp l e Q q)
  | exc c => exact .inl (h1 G H σ fp l e Q q)
theorem lookup_zip_none : ∀ {gs : List Str} {vs : List V} {m : Str}, m ∉ gs → (gs.zip vs).lookup m = none
  | [], vs, m, h => by cases vs <;> rfl
  | g :: gs, [], m, h => rfl
  | g :: gs, v :: vs, m, h => by
    show List.lookup m ((g, v) :: gs.zip vs) = none
    rw [List.lookup_cons, beq_eq_false_iff_ne.mpr fun z => h (by rw [z]; exact List.mem_cons_self)]
    exact lookup_zip_none fun z => h (List.mem_cons_of_mem _ z)
theorem mM_ok {f : D → M Unit} {c : Cl} {d : D} {σ : L2.St} {G H : Hp} {k : D → Hp → Hp → Prop} (q : Res Z w σ G H (mM f c d) k) : ∃ xs t, d = .ins c xs ∧ f d = .ret t ∧ Res Z w σ G H (.ok t.toD) k := by
  cases d <;> first
    | exact False.elim q
    | skip
  rename_i c' xs
  have q' : Res Z w σ G H (if c' = c then (match f (.ins c' xs) with | .ret t => .ok t.toD | _ => .bad) else .bad) k := q
  by_cases h : c' = c
  · rw [if_pos h] at q'
    subst h
    cases e : f (.ins c' xs) with
    | ret t => rw [e] at q'; exact ⟨xs, t, rfl, rfl, q'⟩
    | ok u => rw [e] at q'; exact False.elim q'
    | exc u => rw [e] at q'; exact False.elim q'
    | bad => rw [e] at q'; exact False.elim q'
  · rw [if_neg h] at q'; exact False.elim q'
theorem xe_mt {f : D → M Unit} {c : Cl} {m : Str} (hm : m ∉ flds c) (ha : EE Z w ta τ ma) : EE Z w (tMeth (Z.cc c) m (spM Z (ar1 f)) [] EF0 ta tNil) τ (ma.bind (mM f c)) := fun G H σ fp l e Q q => by
  refine ha G H σ fp l e _ (q.bind.imp fun d G2 H2 n2 q2 v rv => ?_)
  obtain ⟨xs, t, rfl, ef, q3⟩ := mM_ok q2
  have rv' := rv
  unfold Rp at rv
  obtain ⟨a, dx, vs, ev, ea, _, rl⟩ := rv
  refine ⟨a, dx, _, ev, n2.gh.at ea rfl, lookup_zip_none hm, ?_⟩
  show spM Z (ar1 f) [v] H2 Q EF0
  refine ⟨G2, [.ins c xs], n2.gh, RpL.cons rv' RpL.nil, ?_⟩
  show (match f (.ins c xs) with | .ok _ => _ | .ret t => _ | .exc c => _ | .bad => _)
  rw [ef]
  intro u G3 H3 fp3 n3 tv nd fr
  have own := fun p hp => (tv.own p hp).1
  exact q3 (opn G3 H3 fp3) H3 (n3.opn fr own) u (tv.freeze own fun _ h => h)

/-! ### isinstance, own classes -/
structure InsF (Z : Zs) (c : Cl) : Prop where
  cl : Cls Z.K (Z.cc c)
  ha : PySem.W.findIn Z.K (.ref (Z.cc c)) "__class__" = some (some (.builtin "object.__class__"))
  hn : PySem.W.specialIn Z.K (.builtin "object.__class__") "__get__" = some (some (.builtin "getset_descriptor.__get__"))
  ht : PySem.W.takesIn Z.K (.builtin "object.__class__") = some true
  hm : PySem.W.mroIn Z.K (Z.cc c) (.type "object") = some true
def lookC : List (Cl × Bool) → Cl → Option Bool
  | [], _ => none
  | (c, b) :: r, d => if d = c then some b else lookC r d
theorem lookC_mem : ∀ {cs : List (Cl × Bool)} {c : Cl} {b : Bool}, lookC cs c = some b → (c, b) ∈ cs
  | [], c, b, h => by unfold lookC at h; cases h
  | (d, x) :: r, c, b, h => by
    unfold lookC at h
    by_cases e : c = d
    · rw [if_pos e] at h; cases h; subst e; exact List.mem_cons_self
    · rw [if_neg e] at h; exact List.mem_cons_of_mem _ (lookC_mem h)
def dIsC (cs : List (Cl × Bool)) (d : D) : X D := match d with
  | .ins c _ => X.of ((lookC cs c).map .bl)
  | _ => .bad
theorem xe_isC {cs : List (Cl × Bool)} {c' : Cl} (hT : ∀ c b, (c, b) ∈ cs → InsF Z c ∧ PySem.W.kitOne Z.K (.ref (Z.cc c)) (.ref (Z.cc c')) = some b) (ha : EE Z w ta τ ma) : EE Z w (tCB (rIsi Z.K) (tCons ta (tCons (tC (.ref (Z.cc c'))) tNil))) τ (ma.bind (dIsC cs)) := fun G H σ fp l e Q q => by
  refine ha G H σ fp l e _ (q.bind.imp fun d G2 H2 n2 q2 v rv => ?_)
  cases d <;> first
    | exact False.elim q2
    | skip
  rename_i c xs
  have q' : Res Z w σ G2 H2 (X.of ((lookC cs c).map .bl)) (fun a G2 H2 => ∀ b, Rp Z G2 a b → Q b H2) := q2
  cases e1 : lookC cs c with
  | none => rw [e1] at q'; exact False.elim q'
  | some b =>
    rw [e1] at q'
    obtain ⟨F, k⟩ := hT c b (lookC_mem e1)
    unfold Rp at rv
    obtain ⟨a, dx, vs, ev, ea, _, rl⟩ := rv
    subst ev
    exact ⟨_, _, _, _, b, rfl, .own _, .base (.ins (n2.gh.at ea rfl) F.cl F.ha F.hn F.ht F.hm), k, Res.now n2.gh q' _ rfl⟩
end
end Wk

namespace Wk
open PySem PySem.Spec PyProof.Rows L2

/-! ### lists of one's own -/
theorem tv_oLs {Z : Zs} {G H : Hp} {p : Addr} {vs : List V} {ds : List D} (g : G p = none) (h : H p = some (.lst vs)) (r : RpL Z G ds vs) : Tv Z G H (oLs ds) (.ref p) [p] := by
  have q : ∀ {ds : List D} {vs : List V}, RpL Z G ds vs → TvL Z G H (ds.map .sh) vs [] := fun {ds} => by
    induction ds with
    | nil =>
      intro vs r
      unfold RpL at r
      subst r
      show TvL Z G H [] [] []
      unfold TvL
      exact ⟨rfl, rfl⟩
    | cons d ds ih =>
      intro vs r
      unfold RpL at r
      obtain ⟨v, vr, e, a, b⟩ := r
      show TvL Z G H (.sh d :: ds.map .sh) vs []
      unfold TvL
      exact ⟨v, vr, [], [], e, rfl, ⟨a, rfl⟩, ih b⟩
  unfold oLs Tv
  exact ⟨p, vs, [], rfl, g, h, rfl, q r⟩
theorem tv_oLs_inv {Z : Zs} {G H : Hp} {v : V} {ds : List D} {fp : List Addr} (h : Tv Z G H (oLs ds) v fp) : ∃ p vs, v = .ref p ∧ G p = none ∧ H p = some (.lst vs) ∧ fp = [p] ∧ RpL Z G ds vs := by
  have q : ∀ {ds : List D} {vs : List V} {fp : List Addr}, TvL Z G H (ds.map .sh) vs fp → fp = [] ∧ RpL Z G ds vs := fun {ds} => by
    induction ds with
    | nil =>
      intro vs fp r
      have r' : TvL Z G H [] vs fp := r
      unfold TvL at r'
      obtain ⟨a, b⟩ := r'
      subst a
      exact ⟨b, RpL.nil⟩
    | cons d ds ih =>
      intro vs fp r
      have r' : TvL Z G H (.sh d :: ds.map .sh) vs fp := r
      unfold TvL at r'
      obtain ⟨v, vr, f, g, e1, e2, e3, e4⟩ := r'
      unfold Tv at e3
      obtain ⟨a, b⟩ := ih e4
      rw [e1, e2, e3.2, a]
      exact ⟨rfl, RpL.cons e3.1 b⟩
  unfold oLs Tv at h
  obtain ⟨p, vs, r, e1, e2, e3, e4, l⟩ := h
  obtain ⟨a, b⟩ := q l
  exact ⟨p, vs, e1, e2, e3, by rw [e4, a], b⟩
/-- the expression ends in a new list -/
def EFL (Z : Zs) (w : WX) (te : TE) (τ : Env) (m : X (List D)) : Prop :=
  ∀ G H σ fp, Le G H → EnvR Z G H τ σ fp → ∀ Q : VK, Res Z w σ G H m (fun ds G2 H2 => ∀ p vs, H p = none → G2 p = none → H2 p = some (.lst vs) → RpL Z G2 ds vs → Q (.ref p) H2) → te σ H Q
def X.lst (m : X (List D)) : X D := m.bind fun ds => .ok (.lst ds)
section
variable {Z : Zs} {w : WX} {τ : Env} {ta tb te : TE} {ma mb me : X D} {ml : X (List D)}
theorem xe_efl (h : EFL Z w te τ ml) : EE Z w te τ ml.lst := fun G H σ fp l e Q q => by
  refine h G H σ fp l e Q ?_
  cases ml with
  | ok ds =>
    intro G2 H2 n2 p vs hp gp h2 r
    have n3 : Nxt G H (opn G2 H2 [p]) H2 := n2.opn (fun a ha => by rw [List.mem_singleton.mp ha]; exact hp) (fun a ha => by rw [List.mem_singleton.mp ha]; exact gp)
    refine q _ _ n3 (.ref p) ?_
    unfold Rp
    exact ⟨p, vs, rfl, by rw [opn_in (List.mem_singleton.mpr rfl)]; exact h2, r.mono (opn_le (fun a ha => by rw [List.mem_singleton.mp ha]; exact gp)).lq⟩
  | exc c => exact q
  | bad => exact q
/-! [a, b], a + b, s.split(t), list(x) -/
def dLstL (xs : List D) : X (List D) := if xs.length ≤ 1000000 then .ok xs else .bad
theorem xl_lst {tr : TA} {mr : X (List D)} (hr : EA Z w tr τ mr) : EFL Z w (tLst tr) τ (mr.bind dLstL) := fun G H σ fp l e Q q => by
  refine hr G H σ fp l e _ (q.bind.imp fun xs G2 H2 n2 q2 vs rvs => ?_)
  unfold dLstL at q2
  by_cases h : xs.length ≤ 1000000
  · rw [if_pos h] at q2
    refine ⟨by rw [rvs.length]; exact sz6 h, fun p hp => ?_⟩
    exact q2 G2 _ ((Nxt.refl n2.gh).newO hp) p vs (n2.h.free hp) (n2.gh.none hp) upd_same rvs
  · rw [if_neg h] at q2; exact False.elim q2
def dCatL (x y : D) : X (List D) := match x, y with
  | .lst a, .lst b => if a.length + b.length ≤ 1000000 then .ok (a ++ b) else .bad
  | _, _ => .bad
theorem xl_cat (ha : EE Z w ta τ ma) (hb : EE Z w tb τ mb) : EFL Z w (tOp rAdd3 ta tb) τ (X.b2 ma mb dCatL) := fun G H σ fp l e Q q => by
  refine ha G H σ fp l e _ (Res.bind q |>.imp fun x G2 H2 n2 q2 v rx => ?_)
  refine hb G2 H2 σ fp n2.gh (e.nxt n2) _ (Res.bind q2 |>.imp fun y G3 H3 n3 q3 u ry => ?_)
  unfold dCatL at q3
  split at q3
  · split at q3
    · rename_i h
      have rx := rx.mono n3.g.lq
      unfold Rp at rx ry
      obtain ⟨a, vs, e1, e2, e3⟩ := rx
      obtain ⟨b, us, e4, e5, e6⟩ := ry
      refine .inr (.inr ⟨a, b, vs, us, e1, e4, n3.gh.at e2 rfl, n3.gh.at e5 rfl, by rw [e3.length, e6.length]; exact sz6 h, fun p hp => ?_⟩)
      exact q3 G3 _ ((Nxt.refl n3.gh).newO hp) p _ (n2.h.free (n3.h.free hp)) (n3.gh.none hp) upd_same (e3.append e6)
    · exact False.elim q3
  · exact False.elim q3
theorem rpL_strs {G : Hp} : ∀ ys : List Str, RpL Z G (ys.map .str) (ys.map V.str)
  | [] => RpL.nil
  | y :: ys => RpL.cons rfl (rpL_strs ys)
/-- s.split(t): a text of one sign or more -/
def rSpl : V → List V → Hp → VK → Prop := fun x xs H Q => ∃ a b, x = .str a ∧ xs = [.str b] ∧ (b.length == 0) = false ∧ a.length + 2 ≤ sizeLine ∧ rNewStrs (Txt.split a b) H Q
theorem mt_spl {X : Cx} : MtR X "str.split" rSpl := mt_split
def dSplL (x : D) (ys : List D) : X (List D) := match x, ys with
  | .str a, [.str b] => if (b.length == 0) = false ∧ a.length ≤ 1000000 then .ok ((Txt.split a b).map .str) else .bad
  | _, _ => .bad
def dSplS (x : D) : X D := match x with
  | .str _ => .ok x
  | _ => .bad
theorem xl_split {tr : TA} {mr : X (List D)} (ha : EE Z w ta τ ma) (hr : EA Z w tr τ mr) : EFL Z w (tBM Z.K "str" rSpl ta tr) τ (X.b2 (ma.bind dSplS) mr dSplL) := fun G H σ fp l e Q q => by
  refine ha G H σ fp l e _ (Res.bind (Res.bind q) |>.imp fun x G2 H2 n2 q2 v rx => ?_)
  cases x <;> first
    | exact False.elim q2
    | skip
  rename_i a
  have q2 := Res.now n2.gh q2
  refine ⟨by unfold Rp at rx; subst rx; rfl, ?_⟩
  refine hr G2 H2 σ fp n2.gh (e.nxt n2) _ (Res.bind q2 |>.imp fun ys G3 H3 n3 q3 us ry => ?_)
  unfold dSplL at q3
  split at q3
  · rename_i a' b e1
    cases e1
    split at q3
    · rename_i h
      obtain ⟨u, eu, ru⟩ := ry.one
      unfold Rp at rx ru
      subst rx; subst ru; subst eu
      refine ⟨_, b, rfl, rfl, h.1, Nat.le_trans (Nat.add_le_add_right h.2 2) (by decide), fun p hp => ?_⟩
      exact q3 G3 _ ((Nxt.refl n3.gh).newO hp) p _ (n2.h.free (n3.h.free hp)) (n3.gh.none hp) upd_same (rpL_strs _)
    · exact False.elim q3
  · exact False.elim q3
/-- list(x) of a list, of a tuple -/
def rLis (K : PySem.W.Frag) : List V → Hp → VK → Prop := fun xs H Q => ∃ p ys, xs = [.ref p] ∧ (SqL K H p ys ∨ SqT K H p ys) ∧ ∀ l, H l = none → Q (.ref l) (upd H l (.lst ys))
theorem call_lis {X : Cx} : CallR X (.type "list") (rLis X.K) := call_list_of
def dLisL (ys : List D) : X (List D) := match ys with
  | [.lst a] => .ok a
  | [.tup a] => .ok a
  | _ => .bad
theorem xl_list {tr : TA} {mr : X (List D)} (hr : EA Z w tr τ mr) : EFL Z w (tCB (rLis Z.K) tr) τ (mr.bind dLisL) := fun G H σ fp l e Q q => by
  refine hr G H σ fp l e _ (q.bind.imp fun xs G2 H2 n2 q2 vs rvs => ?_)
  unfold dLisL at q2
  split at q2
  · rename_i a
    obtain ⟨u, eu, ru⟩ := rvs.one
    unfold Rp at ru
    obtain ⟨p0, us, e1, e2, e3⟩ := ru
    subst e1; subst eu
    refine ⟨p0, us, rfl, .inl (SqL.of (n2.gh.at e2 rfl)), fun p hp => ?_⟩
    exact q2 G2 _ ((Nxt.refl n2.gh).newO hp) p us (n2.h.free hp) (n2.gh.none hp) upd_same e3
  · rename_i a
    obtain ⟨u, eu, ru⟩ := rvs.one
    unfold Rp at ru
    obtain ⟨p0, us, e1, e2, e3⟩ := ru
    subst e1; subst eu
    refine ⟨p0, us, rfl, .inr (SqT.of (n2.gh.at e2 rfl)), fun p hp => ?_⟩
    exact q2 G2 _ ((Nxt.refl n2.gh).newO hp) p us (n2.h.free hp) (n2.gh.none hp) upd_same e3
  · exact False.elim q2
end
/-! ### [e for x in xs] -/
def X.nx {α : Type} (m : X α) : X α := match m with
  | .ok a => .ok a
  | _ => .bad
def mapX (f : D → X D) : List D → X (List D)
  | [] => .ok []
  | x :: r => (f x).nx.bind fun y => (mapX f r).bind fun ys => .ok (y :: ys)
def X.lc (mi : X (List D)) (f : D → X D) : X (List D) := mi.bind fun xs => if xs.length ≤ 1000000 then mapX f xs else .bad
theorem mapX_inv {f : D → X D} : ∀ {xs : List D}, mapX f xs = .bad ∨ ∃ ys, mapX f xs = .ok ys ∧ ys.length = xs.length ∧ ∀ (i : Nat) (x : D), xs[i]? = some x → ∃ y, ys[i]? = some y ∧ f x = .ok y
  | [] => .inr ⟨[], rfl, rfl, fun i x h => by simp at h⟩
  | x :: r => by
    unfold mapX
    cases e : f x with
    | bad => exact .inl rfl
    | exc c => exact .inl rfl
    | ok y =>
      rcases mapX_inv (f := f) (xs := r) with h | ⟨ys, h1, h2, h3⟩
      · exact .inl (by rw [h]; rfl)
      · refine .inr ⟨y :: ys, by rw [h1]; rfl, by rw [List.length_cons, List.length_cons, h2], fun i z hz => ?_⟩
        cases i with
        | zero => cases (show some x = some z from hz); exact ⟨y, rfl, e⟩
        | succ i => exact h3 i z (by simpa using hz)
theorem EnvR.setS {Z : Zs} {G H : Hp} {d : D} {v : V} (r : Rp Z G d v) : ∀ {τ : Env} {σ : L2.St} {fp : List Addr} {i : Nat}, EnvR Z G H τ σ fp → ∃ fp', EnvR Z G H (τ.set i (some (.sh d))) (σ.set i (some v)) fp'
  | [], σ, fp, i, h => by
    unfold EnvR at h
    obtain ⟨e1, e2⟩ := h
    subst e1; subst e2
    exact ⟨[], ⟨rfl, rfl⟩⟩
  | none :: τ, σ, fp, 0, h => by
    unfold EnvR at h
    obtain ⟨x, s, e1, q⟩ := h
    subst e1
    exact ⟨[] ++ fp, ⟨v, s, [], fp, rfl, rfl, ⟨r, rfl⟩, q⟩⟩
  | some u :: τ, σ, fp, 0, h => by
    unfold EnvR at h
    obtain ⟨x, s, a, b, e1, e2, e3, q⟩ := h
    subst e1
    exact ⟨[] ++ b, ⟨v, s, [], b, rfl, rfl, ⟨r, rfl⟩, q⟩⟩
  | none :: τ, σ, fp, i + 1, h => by
    unfold EnvR at h
    obtain ⟨x, s, e1, q⟩ := h
    subst e1
    obtain ⟨fp', a⟩ := EnvR.setS r (i := i) q
    exact ⟨fp', ⟨x, _, rfl, a⟩⟩
  | some u :: τ, σ, fp, i + 1, h => by
    unfold EnvR at h
    obtain ⟨x, s, a, b, e1, e2, e3, q⟩ := h
    subst e1
    obtain ⟨fp', c⟩ := EnvR.setS r (i := i) q
    exact ⟨a ++ fp', ⟨x, _, a, fp', rfl, rfl, e3, c⟩⟩
section
variable {Z : Zs} {w : WX} {τ : Env}
theorem xl_lc {wi : TI} {mi : X (List D)} {i0 : Nat} {te : TE} {f : D → X D} (hi : EI Z w wi τ mi) (he : ∀ d, EE Z w0 te (τ.set i0 (some (.sh d))) (f d)) : EFL Z w (tLc wi (gName i0) tYes te [i0]) τ (X.lc mi f) := fun G H σ fp l e Q q => by
  refine hi G H σ fp l e _ (q.bind.imp fun xs G2 H2 n2 q2 J gz => ?_)
  intro D hD
  by_cases hl : xs.length ≤ 1000000
  case neg => rw [if_neg hl] at q2; exact False.elim q2
  rw [if_pos hl] at q2
  rcases mapX_inv (f := f) (xs := xs) with hb | ⟨ys, hm, hlen, hys⟩
  · rw [hb] at q2; exact False.elim q2
  rw [hm] at q2
  have gD := n2.gh.none hD
  refine ⟨fun i m H' => m = xs.length - i ∧ i ≤ xs.length ∧ ∃ G' acc, Nxt G2 H2 G' H' ∧ G' D = none ∧ H' D = some (.lst acc) ∧ acc.length = i ∧ RpL Z G' (ys.take i) acc, ⟨xs.length, by simp, Nat.zero_le _, G2, [], (Nxt.refl n2.gh).newO hD, gD, upd_same, rfl, by rw [List.take_zero]; exact RpL.nil⟩, ?_⟩
  rintro i m H' ⟨em, hle, G', acc, n', g', h', la, ra⟩
  obtain ⟨g1, g2, g3⟩ := gz G' H' n'.g n'.gh
  by_cases hlt : i < xs.length
  · refine .inr ⟨g1 i hlt, fun H' => ∃ m', m' < m ∧ m' = xs.length - (i + 1) ∧ i + 1 ≤ xs.length ∧ ∃ G' acc, Nxt G2 H2 G' H' ∧ G' D = none ∧ H' D = some (.lst acc) ∧ acc.length = i + 1 ∧ RpL Z G' (ys.take (i + 1)) acc, fun H'' ⟨m', a, b⟩ => ⟨m', a, b⟩, fun x H4 y => ?_⟩
    obtain ⟨G4, n4, d, ed, rd⟩ := g3 i x H4 hlt y
    obtain ⟨y1, ey, ef⟩ := hys i d ed
    refine ⟨?_, ?_⟩
    · show ((σ.set i0 none).set i0 (some x)).set i0 none = σ.set i0 none
      rw [List.set_set, List.set_set]
    · have eσ : (σ.set i0 none).set i0 (some x) = σ.set i0 (some x) := by rw [List.set_set]
      have e4 : EnvR Z G4 H4 τ σ fp := ((e.nxt n2).nxt n').nxt n4
      obtain ⟨fp', e5⟩ := e4.setS rd (i := i0)
      show te ((σ.set i0 none).set i0 (some x)) H4 _
      rw [eσ]
      have g4 : G4 D = none := n4.nw D _ g' h' rfl
      refine he d G4 H4 _ fp' n4.gh e5 _ ?_
      rw [ef]
      intro G5 H5 n5 b rb
      have h5 : H5 D = some (.lst acc) := n5.h D _ (n4.h D _ h')
      have g5 : G5 D = none := n5.nw D _ g4 (n4.h D _ h') rfl
      refine ⟨acc, h5, by rw [la]; exact sz6l (Nat.lt_of_lt_of_le hlt hl), xs.length - (i + 1), by omega, rfl, hlt, G5, acc ++ [b], ?_, g5, upd_same, by rw [List.length_append, la]; rfl, ?_⟩
      · have n6 := (n'.trans n4).trans n5
        refine ⟨n6.g, fun a o ha => ?_, fun a o ha => ?_, n6.nw⟩
        · have z : a ≠ D := fun z => by rw [z, g5] at ha; cases ha
          rw [upd_ne z]
          exact n5.gh a o ha
        · have z : a ≠ D := fun z => by rw [z, hD] at ha; cases ha
          rw [upd_ne z]
          exact n6.h a o ha
      · rw [List.take_add_one, ey]
        exact ((ra.mono n4.g.lq).mono n5.g.lq).append (RpL.cons rb RpL.nil)
  · have ei : i = xs.length := by omega
    subst ei
    rw [List.take_of_length_le (by rw [hlen]; exact Nat.le_refl _)] at ra
    exact .inl ⟨g2, q2 G' H' n' D acc (n2.h.free hD) g' h' ra⟩
end
end Wk

namespace Wk
open PySem PySem.Spec PyProof.Rows L2

/-! ### an owned list is changed -/
theorem EnvR.upd {Z : Zs} {G H : Hp} {p : Addr} {o : HO} {τ : Env} {σ : L2.St} {fp : List Addr} (h : EnvR Z G H τ σ fp) (n : p ∉ fp) : EnvR Z G (upd H p o) τ σ fp :=
  h.keep (Lq.refl G) (fun _ _ z => z) fun q hq u e => by rw [upd_ne (fun z => n (by rw [← z]; exact hq))]; exact e
theorem Tv.upd {Z : Zs} {G H : Hp} {p : Addr} {o : HO} {t : T} {v : V} {fp : List Addr} (h : Tv Z G H t v fp) (n : p ∉ fp) : Tv Z G (upd H p o) t v fp :=
  h.keep (Lq.refl G) (fun _ _ z => z) fun q hq u e => by rw [upd_ne (fun z => n (by rw [← z]; exact hq))]; exact e
theorem EnvR.mut {Z : Zs} {G H : Hp} {ds : List D} : ∀ {τ : Env} {σ : L2.St} {fp : List Addr} {i : Nat}, EnvR Z G H τ σ fp → fp.Nodup → τ[i]? = some (some (oLs ds)) →
    ∃ p vs, σ[i]? = some (some (.ref p)) ∧ p ∈ fp ∧ G p = none ∧ H p = some (.lst vs) ∧ RpL Z G ds vs ∧ ∀ ds' vs', RpL Z G ds' vs' → EnvR Z G (L2.upd H p (.lst vs')) (τ.set i (some (oLs ds'))) σ fp
  | [], σ, fp, i, h, nd, e => by simp at e
  | none :: τ, σ, fp, 0, h, nd, e => by simp at e
  | some t :: τ, σ, fp, 0, h, nd, e => by
    unfold EnvR at h
    obtain ⟨v, r, f, g, e1, e2, e3, e4⟩ := h
    have z : t = oLs ds := by simpa using e
    subst z; subst e1; subst e2
    obtain ⟨p, vs, ev, gp, hp, ef, rr⟩ := tv_oLs_inv e3
    subst ev; subst ef
    obtain ⟨_, _, dj⟩ := List.nodup_append.mp nd
    refine ⟨p, vs, rfl, List.mem_append_left _ (List.mem_singleton.mpr rfl), gp, hp, rr, fun ds' vs' r' => ?_⟩
    exact ⟨.ref p, r, [p], g, rfl, rfl, tv_oLs gp upd_same r', EnvR.upd e4 fun hq => dj p (List.mem_singleton.mpr rfl) p hq rfl⟩
  | none :: τ, σ, fp, i + 1, h, nd, e => by
    unfold EnvR at h
    obtain ⟨v, r, e1, q⟩ := h
    subst e1
    obtain ⟨p, vs, a, b, c, d, x, k⟩ := EnvR.mut (i := i) q nd (by simpa using e)
    exact ⟨p, vs, by simpa using a, b, c, d, x, fun ds' vs' r' => ⟨v, r, rfl, k ds' vs' r'⟩⟩
  | some t :: τ, σ, fp, i + 1, h, nd, e => by
    unfold EnvR at h
    obtain ⟨v, r, f, g, e1, e2, e3, e4⟩ := h
    subst e1; subst e2
    obtain ⟨_, ng, dj⟩ := List.nodup_append.mp nd
    obtain ⟨p, vs, a, b, c, d, x, k⟩ := EnvR.mut (i := i) e4 ng (by simpa using e)
    refine ⟨p, vs, by simpa using a, List.mem_append_right _ b, c, d, x, fun ds' vs' r' => ⟨v, r, f, g, rfl, rfl, Tv.upd e3 fun hq => dj p hq p b rfl, k ds' vs' r'⟩⟩
theorem Stt.mut {Z : Zs} {GB B G H : Hp} {σ : L2.St} {τ : Env} {ds : List D} {i : Nat} (s : Stt Z GB B G H σ τ) (e : τ[i]? = some (some (oLs ds))) :
    ∃ p vs, σ[i]? = some (some (.ref p)) ∧ G p = none ∧ H p = some (.lst vs) ∧ RpL Z G ds vs ∧ ∀ ds' vs', RpL Z G ds' vs' → Stt Z GB B G (upd H p (.lst vs')) σ (τ.set i (some (oLs ds'))) := by
  obtain ⟨n, fp, en, nd, fr⟩ := s
  obtain ⟨p, vs, a, b, c, d, x, k⟩ := en.mut nd e
  refine ⟨p, vs, a, c, d, x, fun ds' vs' r' => ⟨⟨n.g, fun q o ha => ?_, fun q o ha => ?_, n.nw⟩, fp, k ds' vs' r', nd, fr⟩⟩
  · have z : q ≠ p := fun z => by rw [z, c] at ha; cases ha
    rw [upd_ne z]; exact n.gh q o ha
  · have z : q ≠ p := fun z => by rw [z, fr p b] at ha; cases ha
    rw [upd_ne z]; exact n.h q o ha
section
variable {Z : Zs} {w : Wh} {τ : Env} {S : Type} {te ti : TE} {me mi : X D} {t2 : TS} {env : S → Env}
/-- x = a new list -/
theorem xs_asgL {i : Nat} {ml : X (List D)} {f : List D → M S} (he : EFL Z w.w te τ ml) (h2 : ∀ ds, SS Z w t2 (τ.set i (some (oLs ds))) (f ds) env) (hx : SubX τ w.px := by trivial) : SS Z w (tSeq (tAsg te (gName i)) t2) τ (ml.to f) env := fun GB B G H σ st D o => by
  obtain ⟨n, fp, e, nd, fr⟩ := id st
  refine he G H σ fp n.gh e _ ?_
  cases ml with
  | ok ds =>
    intro G2 H2 x p vs hp gp h2' r
    obtain ⟨fp', e', nd', c'⟩ := EnvR.set (tv_oLs gp h2' r) (by simp) (i := i) (e.nxt x) nd fun q hq hf => by
      rw [List.mem_singleton.mp hq] at hf
      obtain ⟨_, o1, ho, _⟩ := e.own p hf
      rw [hp] at ho
      cases ho
    have st3 : Stt Z GB B G2 H2 (σ.set i (some (.ref p))) (τ.set i (some (oLs ds))) := ⟨n.trans x, fp', e', nd', fun q hq => by
      rcases c' q hq with z | z
      · exact fr q z
      · rw [List.mem_singleton.mp z]; exact n.h.free hp⟩
    have o' : Out Z w GB B G (f ds) env D := o
    exact h2 ds GB B G2 H2 _ st3 D (o'.at x.g)
  | exc c => exact fun H2 s => o H2 σ (n.h.trans s) (SubX.run (Stt.same st s) hx)
  | bad => exact o
/-- x.append(e) -/
theorem xs_append {i : Nat} {ds : List D} {f : D → M S} (hd : τ[i]? = some (some (oLs ds))) (hl : ds.length < 1000000) (he : EE Z w.w te τ me) (h2 : ∀ d, SS Z w t2 (τ.set i (some (oLs (ds ++ [d])))) (f d) env) (hx : SubX τ w.px := by trivial) :
    SS Z w (tSeq (tDrop (tBM Z.K "list" rAppend (tVar i) (tCons te tNil))) t2) τ (me.to f) env := fun GB B G H σ st D o => by
  obtain ⟨p, vs, ep, gp, hp, rr, _⟩ := st.mut hd
  refine ⟨.ref p, ep, .inl ⟨rfl, vs, SqL.of hp⟩, ?_⟩
  refine EV.out he hx st o fun d v G2 H2 l st2 r o2 => ?_
  obtain ⟨p', vs', ep', gp', hp', rr', k⟩ := st2.mut hd
  rw [ep] at ep'
  cases ep'
  refine ⟨p, vs', v, rfl, rfl, hp', by rw [rr'.length]; exact sz6l hl, ?_⟩
  exact h2 d GB B G2 _ _ (k _ _ (rr'.append (RpL.cons r RpL.nil))) D o2
/-- x[k] = e -/
def setAt (ds : List D) (k : D) (d : D) : X (List D) := match k with
  | .int k => match ixN ds.length k with
    | some j => .ok (ds.set j d)
    | none => .bad
  | _ => .bad
theorem RpL.set {G : Hp} {d : D} {v : V} (h : Rp Z G d v) : ∀ {ds : List D} {vs : List V} {j : Nat}, RpL Z G ds vs → RpL Z G (ds.set j d) (vs.set j v)
  | [], vs, j, r => by unfold RpL at r; subst r; exact RpL.nil
  | x :: ds, vs, 0, r => by
    unfold RpL at r
    obtain ⟨u, ur, e, a, b⟩ := r
    subst e
    exact RpL.cons h b
  | x :: ds, vs, j + 1, r => by
    unfold RpL at r
    obtain ⟨u, ur, e, a, b⟩ := r
    subst e
    exact RpL.cons a (RpL.set h b)
theorem xs_setL {i : Nat} {ds : List D} {f : List D → M S} (hd : τ[i]? = some (some (oLs ds))) (he : EE Z w.w te τ me) (hi : EE Z w.w ti τ mi) (h2 : ∀ ds', SS Z w t2 (τ.set i (some (oLs ds'))) (f ds') env) (hx : SubX τ w.px := by trivial) :
    SS Z w (tSeq (tAsg te (gSub (tVar i) ti rSetL)) t2) τ (me.to fun d => mi.to fun k => (setAt ds k d).to f) env := fun GB B G H σ st D o =>
  EV.out he hx st o fun d v G2 H2 l st2 r o2 => by
    obtain ⟨p, vs, ep, gp, hp, rr, _⟩ := st2.mut hd
    refine ⟨.ref p, ep, ?_⟩
    refine EV.out hi hx st2 o2 fun kd u G3 H3 l3 st3 ru o3 => ?_
    obtain ⟨p', vs', ep', gp', hp', rr', k⟩ := st3.mut hd
    rw [ep] at ep'
    cases ep'
    unfold setAt at o3
    cases kd <;> first
      | exact False.elim o3
      | skip
    rename_i kk
    dsimp only at o3
    unfold Rp at ru
    subst ru
    cases ej : ixN ds.length kk with
    | none => rw [ej] at o3; exact False.elim o3
    | some j =>
      rw [ej] at o3
      refine ⟨p, vs', kk, j, rfl, rfl, hp', by rw [rr'.length]; exact ej, ?_⟩
      exact h2 _ GB B G3 _ _ (k _ _ (RpL.set (r.mono l3.lq) rr')) D o3
/-- slots are laid open, forgotten, ahead of a statement -/
theorem xs_fz {ts : TS} {τ' : Env} {m : M S} (h0 : SubL τ τ') (h : SS Z w ts τ' m env) : SS Z w ts τ m env := fun GB B G H σ st D o => by
  obtain ⟨n, fp, e, nd, fr⟩ := st
  obtain ⟨fs, fp', a, b, c, d, k⟩ := h0.run n.gh e nd
  have gn : ∀ p ∈ fs, G p = none := fun p hp => (e.own p (a p hp)).1
  refine h GB B (opn G H fs) H σ ⟨⟨n.g.trans (opn_le gn), le_opn n.gh, n.h, fun p o g b' t => ?_⟩, fp', k fs gn (fun _ h => h) (fun p hp hq => d p hq hp), c, fun p hp => fr p (b p hp)⟩ D (o.at (opn_le gn))
  have z : p ∉ fs := fun hp => by rw [fr p (a p hp)] at b'; cases b'
  rw [opn_out z]
  exact n.nw p o g b' t
end
/-! ### owned lists read for something flat -/
section
variable {Z : Zs} {w : WX} {τ : Env} {te : TE} {me : X D} {ml : X (List D)}
theorem frz_get {i : Nat} {t : T} (h : τ[i]? = some (some t)) : (frz τ)[i]? = some (some (.sh t.toD)) := by
  unfold frz
  rw [List.getElem?_map, h]
  rfl
theorem ee_varS {i : Nat} {d : D} (h : τ[i]? = some (some (.sh d))) : EE Z w (tVar i) (frz τ) (.ok d) := by
  have q := frz_get h
  unfold T.toD at q
  exact ee_var q
theorem ee_varF {i : Nat} {ds : List D} (h : τ[i]? = some (some (oLs ds))) : EE Z w (tVar i) (frz τ) (.ok (.lst ds)) := by
  have q := frz_get h
  rw [oLs_toD] at q
  exact ee_var q
def X.flatL (m : X (List D)) : X (List D) := m.bind fun ds => bif ds.all flatD then .ok ds else .bad
theorem flat_rpL {G G' : Hp} : ∀ {ds : List D} {vs : List V}, ds.all flatD = true → RpL Z G ds vs → RpL Z G' ds vs
  | [], vs, h, r => r
  | d :: ds, vs, h, r => by
    rw [List.all_cons, Bool.and_eq_true] at h
    unfold RpL at r ⊢
    obtain ⟨v, vr, e, a, b⟩ := r
    exact ⟨v, vr, e, flat_rp h.1 a, flat_rpL h.2 b⟩
theorem xl_bor (h : EFL Z w te (frz τ) ml) : EFL Z w te τ ml.flatL := fun G H σ fp l e Q q => by
  have own := fun p hp => (e.own p hp).1
  refine h (opn G H fp) H σ [] (le_opn l) (e.frz own fun _ h => h) Q ?_
  cases ml with
  | ok ds =>
    have q : Res Z w σ G H (bif ds.all flatD then X.ok ds else X.bad) fun ds G2 H2 => ∀ p vs, H p = none → G2 p = none → H2 p = some (.lst vs) → RpL Z G2 ds vs → Q (.ref p) H2 := q
    intro G2 H2 x p vs hp gp h2 r
    cases hf : ds.all flatD with
    | true =>
      rw [hf] at q
      exact q G H2 (x.back l) p vs hp (l.none hp) h2 (flat_rpL hf r)
    | false =>
      rw [hf] at q
      exact False.elim q
  | exc c => exact q
  | bad => exact q
end
end Wk

namespace Wk
open PySem PySem.Spec PyProof.Rows L2

/-! ### list.count of a text -/
def eqs (x : Str) (v : Value) : Bool := match v with
  | .str y _ => y == x
  | _ => false
theorem eqs_gives {x : Str} {t : Tok} : ∀ {us : List Value} {ys : List Str}, StrsAre us ys → ∀ y ∈ us, MeetsSeq.EqGives y (.str x t) (eqs x y)
  | _, _, .nil => fun y hy => by cases hy
  | _, _, .cons z t' h => fun y hy => by
    rcases List.mem_cons.mp hy with e | e
    · rw [e]
      exact fun _ _ _ _ _ _ h => wpAny_eqBool_str h
    · exact eqs_gives h y e
theorem eqs_count {x : Str} : ∀ {us : List Value} {ys : List Str}, StrsAre us ys → us.countP (eqs x) = ys.count x
  | _, _, .nil => rfl
  | _, _, .cons z t h => by
    have ih := eqs_count (x := x) h
    rw [List.countP_cons, List.count_cons, ih] <;> rfl
def rCntS (K : PySem.W.Frag) : V → List V → Hp → VK → Prop := fun x xs H Q => ∃ (p : Addr) (ys : List Str) (z : Str), x = .ref p ∧ xs = [.str z] ∧ SqL K H p (ys.map V.str) ∧ Q (.int (ys.count z : Nat)) H
theorem mt_lcountS {X : Cx} : MtR X "list.count" (rCntS X.K) := by
  intro pins s σ H x xs v us Q I rx rxs h
  obtain ⟨p, ys, z, rfl, rfl, hs, q⟩ := h
  cases rx
  obtain ⟨u, rfl, ru⟩ := rxs.one
  obtain ⟨t, rfl⟩ := ru
  obtain ⟨its, rv, ⟨⟨cls, dd, data, sl⟩, n, ho, hc, hdn, hd⟩, hlen⟩ := I.list hs
  simp only at hc hd
  subst hc hd
  have hi := rv.strs
  refine call_meets PySem.F.slot_list_count ⟨_, ho, rfl⟩ PySem.F.entry_list_count (PySem.F.args_list_count_2 _ _)
    (SeqAt.list_countAt p its.toArray n dd sl (.str z t) (eqs z)) ⟨ho, fun y hy => (eqs_gives hi y (by simpa using hy)).at _ _, ?_⟩
  have ec : its.toArray.toList.countP (eqs z) = ys.count z := eqs_count hi
  refine ⟨.int (ys.count z : Nat), H, I.tok _, ⟨s.toks, ?_⟩, q⟩
  show Value.int ((its.toArray.toList.countP (eqs z) : Nat) : Int) s.toks = Value.int ((ys.count z : Nat) : Int) s.toks
  rw [ec]
/-- the texts of a list of texts -/
def strsOf : List D → Option (List Str)
  | [] => some []
  | .str x :: r => (strsOf r).map (x :: ·)
  | _ :: _ => none
theorem strsOf_eq : ∀ {ds : List D} {ys : List Str}, strsOf ds = some ys → ds = ys.map .str
  | [], ys, h => by unfold strsOf at h; cases h; rfl
  | d :: r, ys, h => by
    cases d <;> first
      | (unfold strsOf at h; cases h; done)
      | skip
    rename_i x
    unfold strsOf at h
    cases e : strsOf r with
    | none => rw [e] at h; cases h
    | some zs => rw [e] at h; cases h; rw [strsOf_eq e]; rfl
theorem rpL_strs_inv {Z : Zs} {G : Hp} : ∀ {ys : List Str} {vs : List V}, RpL Z G (ys.map .str) vs → vs = ys.map V.str
  | [], vs, h => by
    have h' : RpL Z G [] vs := h
    unfold RpL at h'
    exact h'
  | y :: ys, vs, h => by
    have h' : RpL Z G (.str y :: ys.map .str) vs := h
    unfold RpL at h'
    obtain ⟨v, r, e, a, b⟩ := h'
    unfold Rp at a
    rw [e, a, rpL_strs_inv b]
    rfl
def dLs (x : D) : X D := match x with
  | .lst _ => .ok x
  | _ => .bad
def dCnt (x : D) (as : List D) : X D := match x, as with
  | .lst ds, [.str z] => match strsOf ds with
    | some ys => .ok (.int (ys.count z : Nat))
    | none => .bad
  | _, _ => .bad
def dStrOne (x : D) : X D := match x with
  | .str _ => .ok x
  | _ => .bad
def dJoin (x : D) (as : List D) : X D := match x, as with
  | .str a, [.lst ds] => match strsOf ds with
    | some ys => if (ys.map (·.length)).sum + ys.length * a.length ≤ 1000000 then .ok (.str (Txt.join a ys)) else .bad
    | none => .bad
  | _, _ => .bad
def rJoi (K : PySem.W.Frag) : V → List V → Hp → VK → Prop := fun x xs H Q => ∃ a p, ∃ ys : List Str, x = .str a ∧ xs = [.ref p] ∧ (SqL K H p (ys.map V.str) ∨ SqT K H p (ys.map V.str)) ∧ (ys.map (·.length)).sum + ys.length * a.length ≤ 16777216 ∧ Q (.str (Txt.join a ys)) H
theorem mt_joi {X : Cx} : MtR X "str.join" (rJoi X.K) := mt_join
section
variable {Z : Zs} {w : WX} {τ : Env} {ta tb te : TE} {ma mb me : X D} {tr : TA} {mr : X (List D)}
theorem xe_cnt (ha : EE Z w ta τ ma) (hr : EA Z w tr τ mr) : EE Z w (tBM Z.K "list" (rCntS Z.K) ta tr) τ (X.b2 (ma.bind dLs) mr dCnt) := fun G H σ fp l e Q q => by
  refine ha G H σ fp l e _ (Res.bind (Res.bind q) |>.imp fun x G2 H2 n2 q2 v rx => ?_)
  cases x <;> first
    | exact False.elim q2
    | skip
  rename_i ds
  have q2 := Res.now n2.gh q2
  unfold Rp at rx
  obtain ⟨a, vs, e1, e2, e3⟩ := rx
  subst e1
  refine ⟨.inl ⟨rfl, vs, SqL.of (n2.gh.at e2 rfl)⟩, ?_⟩
  refine hr G2 H2 σ fp n2.gh (e.nxt n2) _ (Res.bind q2 |>.imp fun ys G3 H3 n3 q3 us ry => ?_)
  unfold dCnt at q3
  split at q3
  · rename_i ds' z e1
    cases e1
    split at q3
    · rename_i ys he
      have hd := strsOf_eq he
      subst hd
      have hv := rpL_strs_inv e3
      subst hv
      obtain ⟨u, eu, ru⟩ := ry.one
      unfold Rp at ru
      subst ru; subst eu
      exact ⟨a, ys, z, rfl, rfl, SqL.of (n3.gh.at (n3.g.at e2 rfl) rfl), Res.now n3.gh q3 _ rfl⟩
    · exact False.elim q3
  · exact False.elim q3
theorem xe_join (ha : EE Z w ta τ ma) (hr : EA Z w tr τ mr) : EE Z w (tBM Z.K "str" (rJoi Z.K) ta tr) τ (X.b2 (ma.bind dStrOne) mr dJoin) := fun G H σ fp l e Q q => by
  refine ha G H σ fp l e _ (Res.bind (Res.bind q) |>.imp fun x G2 H2 n2 q2 v rx => ?_)
  cases x <;> first
    | exact False.elim q2
    | skip
  rename_i a
  have q2 := Res.now n2.gh q2
  unfold Rp at rx
  subst rx
  refine ⟨rfl, ?_⟩
  refine hr G2 H2 σ fp n2.gh (e.nxt n2) _ (Res.bind q2 |>.imp fun ys G3 H3 n3 q3 us ry => ?_)
  unfold dJoin at q3
  split at q3
  · rename_i a' ds e1
    cases e1
    split at q3
    · rename_i ys he
      have hd := strsOf_eq he
      subst hd
      obtain ⟨u, eu, ru⟩ := ry.one
      unfold Rp at ru
      obtain ⟨p, vs, e1, e2, e3⟩ := ru
      have hv := rpL_strs_inv e3
      subst hv; subst e1; subst eu
      split at q3
      · rename_i hz
        exact ⟨a, p, ys, rfl, rfl, .inl (SqL.of (n3.gh.at e2 rfl)), Nat.le_trans hz (by decide), Res.now n3.gh q3 _ rfl⟩
      · exact False.elim q3
    · exact False.elim q3
  · exact False.elim q3
end
/-! ### str(n), int(s), min, max -/
def sI (i : Int) : Str := toString i
def rStrI : List V → Hp → VK → Prop := fun xs H Q => ∃ i, xs = [.int i] ∧ i.natAbs.log2 < 1920 ∧ Q (.str (sI i)) H
theorem call_strI {X : Cx} : CallR X (.type "str") rStrI := call_str_int
def dStrI (ds : List D) : X D := match ds with
  | [.int i] => if i.natAbs.log2 < 1920 then .ok (.str (sI i)) else .bad
  | _ => .bad
theorem cd_strI {Z : Zs} : CaD Z rStrI dStrI := fun w σ G H ds vs l r Q q => by
  unfold dStrI at q
  split at q
  · obtain ⟨v, e, rv⟩ := r.one
    unfold Rp at rv
    split at q
    · rename_i h
      exact ⟨_, by rw [e, rv], h, q.now l _ rfl⟩
    · exact False.elim q
  · exact False.elim q
def rInt4 : List V → Hp → VK → Prop := rcOr rInt3 fun xs H Q => ∃ a n, xs = [.str a] ∧ PySem.intText? a = some n ∧ a.length ≤ 640 ∧ Q (.int n) H
theorem call_int4 {X : Cx} : CallR X (.type "int") rInt4 := caU call_int3 call_int_str
def dInt4 (ds : List D) : X D := match ds with
  | [.int i] => .ok (.int i)
  | [.bl k] => .ok (.int (if k then 1 else 0))
  | [.str a] => match PySem.intText? a with
    | some n => if a.length ≤ 640 then .ok (.int n) else .bad
    | none => .bad
  | _ => .bad
theorem cd_int4 {Z : Zs} : CaD Z rInt4 dInt4 := fun w σ G H ds vs l r Q q => by
  unfold dInt4 at q
  split at q
  · obtain ⟨v, e, rv⟩ := r.one
    unfold Rp at rv
    exact .inl (.inl ⟨_, by rw [e, rv], q.now l _ rfl⟩)
  · obtain ⟨v, e, rv⟩ := r.one
    unfold Rp at rv
    exact .inl (.inr ⟨_, by rw [e, rv], q.now l _ rfl⟩)
  · obtain ⟨v, e, rv⟩ := r.one
    unfold Rp at rv
    split at q
    · rename_i n hn
      split at q
      · rename_i h
        exact .inr ⟨_, n, by rw [e, rv], hn, h, q.now l _ rfl⟩
      · exact False.elim q
    · exact False.elim q
  · exact False.elim q
def rMin2 : List V → Hp → VK → Prop := fun xs H Q => ∃ i j, xs = [.int i, .int j] ∧ Q (.int (if j < i then j else i)) H
def rMax2 : List V → Hp → VK → Prop := fun xs H Q => ∃ i j, xs = [.int i, .int j] ∧ Q (.int (if j > i then j else i)) H
theorem call_min2' {X : Cx} (hc : X.calm = true) : CallR X (.builtin "min") rMin2 := call_min2 hc
theorem call_max2' {X : Cx} (hc : X.calm = true) : CallR X (.builtin "max") rMax2 := call_max2 hc
def dMin2 (ds : List D) : X D := match ds with
  | [.int i, .int j] => .ok (.int (if j < i then j else i))
  | _ => .bad
def dMax2 (ds : List D) : X D := match ds with
  | [.int i, .int j] => .ok (.int (if j > i then j else i))
  | _ => .bad
theorem cd_min2 {Z : Zs} : CaD Z rMin2 dMin2 := fun w σ G H ds vs l r Q q => by
  unfold dMin2 at q
  split at q
  · obtain ⟨x, y, e, rx, ry⟩ := r.two
    unfold Rp at rx ry
    exact ⟨_, _, by rw [e, rx, ry], q.now l _ rfl⟩
  · exact False.elim q
theorem cd_max2 {Z : Zs} : CaD Z rMax2 dMax2 := fun w σ G H ds vs l r Q q => by
  unfold dMax2 at q
  split at q
  · obtain ⟨x, y, e, rx, ry⟩ := r.two
    unfold Rp at rx ry
    exact ⟨_, _, by rw [e, rx, ry], q.now l _ rfl⟩
  · exact False.elim q
end Wk

namespace Wk
open PySem PySem.Spec PyProof.Rows L2

/-! ### try: .. except X as e: .. isinstance(e, ..) -/
def rIsEx (K : PySem.W.Frag) (cls : Value) (d : Option Addr) (a : Addr) : List V → Hp → VK → Prop := fun xs H Q =>
  ∃ D, cls = .ref D ∧ d = none ∧ ExcC K D ∧ ∃ (c : V) (u : Value) (b : Bool), xs = [.ref a, c] ∧ ClsV c u ∧ PySem.W.kitOne K (.ref D) u = some b ∧ Q (.bl b) H
theorem call_isEx {X : Cx} {a : Addr} {cls : Value} {d : Option Addr} {oe : Obj} {pn : List (Addr × Obj)} (hz : Zc cls d oe) (hf : ∃ vs, oe.data = .fields vs) : CallR (X.suite a ((a, oe) :: pn)) (.builtin "isinstance") (rIsEx X.K cls d a) := by
  intro pins s σ H xs us Q I r h
  obtain ⟨D, rfl, rfl, C, c, u, b, rfl, k, e, q⟩ := h
  exact call_isE C hz hf pins s σ H _ us Q I r ⟨c, u, b, rfl, fun v hv => k.eq hv, e, q⟩
def rIsExT (K : PySem.W.Frag) (cls : Value) (d : Option Addr) (a : Addr) : List V → Hp → VK → Prop := fun xs H Q =>
  ∃ D, cls = .ref D ∧ d = none ∧ ExcC K D ∧ ∃ (tp : Addr) (cs : List V) (us : List Value) (b : Bool), xs = [.ref a, .ref tp] ∧ H tp = some (.tup cs) ∧ Paired ClsV cs us ∧ PySem.W.kitAny K (.ref D) us = some b ∧ Q (.bl b) H
theorem call_isExT {X : Cx} {a : Addr} {cls : Value} {d : Option Addr} {oe : Obj} {pn : List (Addr × Obj)} (hz : Zc cls d oe) (hf : ∃ vs, oe.data = .fields vs) : CallR (X.suite a ((a, oe) :: pn)) (.builtin "isinstance") (rIsExT X.K cls d a) := by
  intro pins s σ H xs us Q I r h
  obtain ⟨D, rfl, rfl, C, tp, cs, ws, b, rfl, hT, k, e, q⟩ := h
  obtain ⟨u1, u2, rfl, r1, r2⟩ := vals2 r
  cases (show u2 = Value.ref tp from r2)
  cases (show u1 = Value.ref a from r1)
  obtain ⟨hget, _⟩ := I.pin (a, oe) (List.mem_append.mpr (.inl List.mem_cons_self))
  obtain ⟨vs, hv⟩ := hf
  have J : PySem.W.InstAt s.heap a oe D none := by
    obtain ⟨oc, od, oda, osl⟩ := oe
    obtain ⟨h1, h2⟩ := hz
    dsimp only at h1 h2 hv
    subst h1 h2 hv
    exact ⟨hget, rfl, rfl, trivial⟩
  obtain ⟨_, its, rv, o, h1, h2, n, h3⟩ := (show ObjOk X.prog X.w H s.heap tp (.tup cs) from I.hok tp _ hT)
  have e3 := ClsV.all k rv
  subst e3
  obtain ⟨oc, od, dt, sl⟩ := o
  simp only at h2 h3
  subst h2 h3
  exact PySem.W.kia_tup (PySem.W.handS_kitx_exc C.hg C.hk C.hs C.hd C.ha C.hn C.ht C.hm) I.kIn J h1 e (fun z => nomatch z) fun tk => ⟨.bl b, H, I.kept (t' := tk) fun _ _ z => z, rfl, q⟩
section
variable {Z : Zs} {w : WX} {τ : Env}
/-- isinstance(e, C) -/
theorem xe_isEx {c : Ex} {a : Addr} {i : Nat} {v : V} {u : Value} {b : Bool} (hE : ExcC Z.K (Z.ce c)) (hi : τ[i]? = some (some (.sh (.adr a)))) (hv : ClsV v u) (hk : PySem.W.kitOne Z.K (.ref (Z.ce c)) u = some b) :
    EE Z w (tCB (rIsEx Z.K (.ref (Z.ce c)) none a) (tCons (tVar i) (tCons (tC v) tNil))) τ (.ok (.bl b)) := fun G H σ fp l e Q q => by
  obtain ⟨x, f, e1, tv, _⟩ := e.get hi
  unfold Tv Rp at tv
  refine ⟨x, e1, ?_⟩
  rw [tv.1]
  exact ⟨_, rfl, rfl, hE, v, u, b, rfl, hv, hk, Res.now l q _ rfl⟩
/-- isinstance(e, (C, D, ..)) -/
theorem xe_isExT {c : Ex} {a : Addr} {i : Nat} {tc : TA} {cs : List V} {us : List Value} {b : Bool} (hE : ExcC Z.K (Z.ce c)) (hi : τ[i]? = some (some (.sh (.adr a)))) (hc : ∀ (σ : L2.St) (H : Hp) (Q : List V → Hp → Prop), Q cs H → tc σ H Q) (hv : Paired ClsV cs us) (hl : cs.length ≤ 100) (hk : PySem.W.kitAny Z.K (.ref (Z.ce c)) us = some b) :
    EE Z w (tCB (rIsExT Z.K (.ref (Z.ce c)) none a) (tCons (tVar i) (tCons (tTup tc) tNil))) τ (.ok (.bl b)) := fun G H σ fp l e Q q => by
  obtain ⟨x, f, e1, tv, _⟩ := e.get hi
  unfold Tv Rp at tv
  refine ⟨x, e1, ?_⟩
  rw [tv.1]
  refine hc _ _ _ ⟨Nat.le_trans hl (by decide), fun p hp => ?_⟩
  have n := (Nxt.refl l).new (o := .tup cs) hp
  exact ⟨_, rfl, rfl, hE, p, cs, us, b, rfl, upd_same, hv, hk, q _ _ n _ rfl⟩
end
def M.tryE {S : Type} (cs : List Ex) (mb : M S) (mh : Ex → M S) : M S := match mb with
  | .exc c => if c ∈ cs then mh c else .bad
  | m => m
section
variable {Z : Zs} {w : Wh} {τ τx : Env} {S : Type} {env : S → Env}
theorem ss_try {cs : List Ex} {cv : Value} {i : Nat} {tb : WX → TS} {ts : Addr → Value → Option Addr → TS} {mb : M S} {mh : Ex → M S} (hc : ∀ c, c ∈ cs → PySem.W.exmOne Z.K (.ref (Z.ce c)) cv = some true)
    (hb : ∀ W, SS Z ⟨W, some τx⟩ (tb W) τ mb env) (hh : ∀ c a, c ∈ cs → SS Z w (ts a (.ref (Z.ce c)) none) (τx.set i (some (.sh (.adr a)))) (mh c) env) (he : ∀ s, (env s)[i]? = some none) :
    SS Z w (fun D σ H => tb (wAs Z.K cv i ts w.w D) D σ H) τ (M.tryE cs mb mh) env := fun GB B G H σ st D o => by
  refine hb (wAs Z.K cv i ts w.w D) GB B G H σ st D ?_
  cases mb with
  | ok s => exact o
  | ret t => exact o
  | bad => exact o
  | exc c =>
    have o' : Out Z w GB B G (if c ∈ cs then mh c else .bad) env D := o
    intro H2 σ2 s ⟨G2, l2, st2⟩
    by_cases hm : c ∈ cs
    · rw [if_pos hm] at o'
      refine ⟨true, hc c hm, fun _ a ha => ?_, fun z => nomatch z⟩
      have o2 := o'.at l2
      refine hh c a hm GB B G2 H2 _ (st2.set (d := .adr a) rfl) _ ?_
      cases e : mh c with
      | ok s =>
        rw [e] at o2
        intro G3 H3 σ3 l3 st3
        refine o2 G3 H3 _ l3 ?_
        obtain ⟨n, fp, en, nd, fr⟩ := st3
        refine ⟨n, fp, ?_, nd, fr⟩
        have q : ∀ {τ : Env} {σ : L2.St} {fp : List Addr} {i : Nat}, EnvR Z G3 H3 τ σ fp → τ[i]? = some none → EnvR Z G3 H3 τ (σ.set i none) fp := fun {τ} => by
          induction τ with
          | nil => intro σ fp i h z; simp at z
          | cons t τ ih =>
            intro σ fp i h z
            cases t with
            | none =>
              unfold EnvR at h
              obtain ⟨v, r, e1, q⟩ := h
              subst e1
              cases i with
              | zero => exact ⟨none, r, rfl, q⟩
              | succ i => exact ⟨v, _, rfl, ih q (by simpa using z)⟩
            | some t =>
              unfold EnvR at h
              obtain ⟨v, r, f, g, e1, e2, e3, e4⟩ := h
              subst e1; subst e2
              cases i with
              | zero => simp at z
              | succ i => exact ⟨v, _, f, g, rfl, rfl, e3, ih e4 (by simpa using z)⟩
        exact q en (he s)
      | exc c => rw [e] at o2; exact o2
      | ret t => rw [e] at o2; exact o2
      | bad => rw [e] at o2; exact o2
    · rw [if_neg hm] at o'
      exact False.elim o'
/-- a try, then the rest -/
theorem ss_tryT {t1 t2 : TS} {S' : Type} {m1 : M S} {m2 : S → M S'} {env2 : S' → Env} (h1 : SS Z w t1 τ m1 env) (h2 : ∀ s, SS Z w t2 (env s) (m2 s) env2) : SS Z w (tSeq t1 t2) τ (m1.bind m2) env2 := ss_seq h1 h2
end
end Wk

namespace Wk
open PySem PySem.Spec PyProof.Rows L2

/-! ### words for the printed walks: classes -/
def CFs (Z : Zs) (cs : List Cl) : Prop := ∀ c, c ∈ cs → CF Z c
theorem cf_nil {Z : Zs} : CFs Z [] := fun _ h => by cases h
theorem cf_cons {Z : Zs} {c : Cl} {cs : List Cl} (h : CF Z c) (t : CFs Z cs) : CFs Z (c :: cs) := fun d hd => by
  rcases List.mem_cons.mp hd with z | z
  · rw [z]; exact h
  · exact t d z
def ICs (Z : Zs) (c' : Cl) (cs : List (Cl × Bool)) : Prop := ∀ c b, (c, b) ∈ cs → InsF Z c ∧ PySem.W.kitOne Z.K (.ref (Z.cc c)) (.ref (Z.cc c')) = some b
theorem ic_nil {Z : Zs} {c' : Cl} : ICs Z c' [] := fun _ _ h => by cases h
theorem ic_cons {Z : Zs} {c' c : Cl} {b : Bool} {cs : List (Cl × Bool)} (h : InsF Z c) (k : PySem.W.kitOne Z.K (.ref (Z.cc c)) (.ref (Z.cc c')) = some b) (t : ICs Z c' cs) : ICs Z c' ((c, b) :: cs) := fun d x hd => by
  rcases List.mem_cons.mp hd with z | z
  · cases z; exact ⟨h, k⟩
  · exact t d x z
theorem putF_new {f : Str} {v : V} : ∀ {fs : List (Str × V)}, f ∉ fs.map (·.1) → putF f v fs = fs ++ [(f, v)]
  | [], _ => rfl
  | (g, x) :: r, h => by
    show (if g = f then (g, v) :: r else (g, x) :: putF f v r) = _
    rw [if_neg (fun z => h (by rw [List.map_cons, ← z]; exact List.mem_cons_self)), putF_new fun z => h (List.mem_cons_of_mem _ z)]
    rfl
theorem sfld_go {K : PySem.W.Frag} {C dx x : Addr} {fs : List (Str × V)} {f : Str} {v : V} {H : Hp} {σ : L2.St} {D : Ends} {i : Nat} (hc : Cls K C) (hn : NoAttr K C f) (hx : H x = some (.ins C dx fs)) (hf : f ∉ fs.map (·.1)) (hl : fs.length < 1000)
    (h0 : σ[0]? = some (some (.ref x))) (hi : σ[i]? = some (some v)) (k : D.nx σ (upd H x (.ins C dx (fs ++ [(f, v)])))) : sFld K (tVar 0) (tVar i) f D σ H :=
  ⟨v, hi, .ref x, h0, x, C, dx, fs, rfl, hx, hc, hn, hl, by rw [putF_new hf]; exact k⟩
/-- self.f = list(x) ahead of the other stores -/
def spIT (Z : Zs) : Sp := fun vs H Q _ => ∃ (x dx r : Addr) (a : V) (ys : List V), vs = [.ref x, .ref r, a] ∧ (SqL Z.K H r ys ∨ SqT Z.K H r ys) ∧ H x = some (.ins (Z.cc .turn) dx []) ∧
  ∀ p, H p = none → Q .non (upd (upd H p (.lst ys)) x (.ins (Z.cc .turn) dx [("ring", .ref p), ("amount", a)]))
def dMkT (ds : List D) : X D := match ds with
  | [.lst a, x] => .ok (.ins .turn [.lst a, x])
  | [.tup a, x] => .ok (.ins .turn [.lst a, x])
  | _ => .bad
section
variable {Z : Zs} {w : WX} {τ : Env}
theorem xe_makeT {tr : TA} {mr : X (List D)} (hr : EA Z w tr τ mr) : EE Z w (tMake (Z.cc .turn) (spIT Z) [] EF0 tr) τ (mr.bind dMkT) := fun G H σ fp l e Q q => by
  refine hr G H σ fp l e _ (q.bind.imp fun ds G2 H2 n2 q2 vs rvs => ?_)
  have go : ∀ (a : List D) (y : D) (us : List V) (r : Addr) (v : V), vs = [.ref r, v] → RpL Z G2 a us → Rp Z G2 y v → (∀ H', Same H2 H' → (SqL Z.K H' r us ∨ SqT Z.K H' r us)) →
      (∀ G3 H3, Nxt G2 H2 G3 H3 → ∀ b, Rp Z G3 (.ins .turn [.lst a, y]) b → Q b H3) → tMake (Z.cc .turn) (spIT Z) [] EF0 (fun _ H Q => Q vs H) σ H2 Q := by
    intro a y us r v ev ra ry hs k x dx nx ndx ne
    subst ev
    have nxd : upd H2 dx (.own x) x = none := by rw [upd_ne (Ne.symm ne)]; exact nx
    have s3 : Same H2 (upd (upd H2 dx (.own x)) x (.ins (Z.cc .turn) dx [])) := fun b o eb => by
      rw [upd_ne (ne_of_none eb nx), upd_ne (ne_of_none eb ndx)]; exact eb
    refine ⟨x, dx, r, v, us, rfl, hs _ s3, upd_same, fun p hp => ⟨rfl, ?_⟩⟩
    have px : p ≠ x := fun z => by rw [z, upd_same] at hp; cases hp
    have pd : upd H2 dx (.own x) p = none := by rw [upd_ne px] at hp; exact hp
    have eq : upd (upd (upd (upd H2 dx (.own x)) x (.ins (Z.cc .turn) dx [])) p (.lst us)) x (.ins (Z.cc .turn) dx [("ring", V.ref p), ("amount", v)])
        = upd (upd (upd H2 dx (.own x)) p (.lst us)) x (.ins (Z.cc .turn) dx [("ring", V.ref p), ("amount", v)]) := by
      funext b
      by_cases h1 : b = x
      · rw [h1, upd_same, upd_same]
      · rw [upd_ne h1, upd_ne h1]
        by_cases h2 : b = p
        · rw [h2, upd_same, upd_same]
        · rw [upd_ne h2, upd_ne h2, upd_ne h1]
    rw [eq]
    have n1 := (Nxt.refl n2.gh).newO (o := .own x) ndx
    have n3 := n1.new (o := .lst us) pd
    have n4 := n3.new (p := x) (o := .ins (Z.cc .turn) dx [("ring", V.ref p), ("amount", v)]) (by rw [upd_ne (Ne.symm px)]; exact nxd)
    refine k _ _ n4 _ ?_
    unfold Rp
    refine ⟨x, dx, [V.ref p, v], rfl, upd_same, rfl, RpL.cons ?_ (RpL.cons (ry.mono n4.g.lq) RpL.nil)⟩
    unfold Rp
    exact ⟨p, us, rfl, by rw [upd_ne px]; exact upd_same, ra.mono n4.g.lq⟩
  unfold dMkT at q2
  split at q2
  · rename_i a y
    obtain ⟨u, v, ev, ru, rv⟩ := rvs.two
    unfold Rp at ru
    obtain ⟨r, us, e1, e2, e3⟩ := ru
    subst e1
    exact go a y us r v ev e3 rv (fun H' s => .inl (SqL.of (s _ _ (n2.gh.at e2 rfl)))) fun G3 H3 n3 b rb => q2 G3 H3 n3 b rb
  · rename_i a y
    obtain ⟨u, v, ev, ru, rv⟩ := rvs.two
    unfold Rp at ru
    obtain ⟨r, us, e1, e2, e3⟩ := ru
    subst e1
    exact go a y us r v ev e3 rv (fun H' s => .inr (SqT.of (s _ _ (n2.gh.at e2 rfl)))) fun G3 H3 n3 b rb => q2 G3 H3 n3 b rb
  · exact False.elim q2
end
/-! ### the facts of the head: classes -/
structure ClsIn (K : PySem.W.Frag) (C : Addr) : Prop where
  pg : PySem.W.plainGet K C Str.empty = true
  hd : PySem.W.hasDictIn K C = true
  po : PySem.W.plainOver K C = true
  sa : PySem.W.findIn K (.ref C) "__setattr__" = some (some (.builtin "object.__setattr__"))
  ha : PySem.W.findIn K (.ref C) "__class__" = some (some (.builtin "object.__class__"))
  hn : PySem.W.specialIn K (.builtin "object.__class__") "__get__" = some (some (.builtin "getset_descriptor.__get__"))
  ht : PySem.W.takesIn K (.builtin "object.__class__") = some true
  hm : PySem.W.mroIn K C (.type "object") = some true
  mks : PySem.W.makesIn K C = true
  kc : PySem.W.keepIn K (.ref C) = true
theorem ClsIn.cl {K : PySem.W.Frag} {C : Addr} (c : ClsIn K C) : Cls K C := ⟨c.pg, c.hd, c.po, c.sa⟩
theorem ClsIn.ins {Z : Zs} {c : Cl} (h : ClsIn Z.K (Z.cc c)) : InsF Z c := ⟨h.cl, h.ha, h.hn, h.ht, h.hm⟩
/-- a def of a class -/
structure MetIn (K : PySem.W.Frag) (C : Addr) (m qual : Str) (st : Stmt) : Prop where
  ex : ∃ f fd, PySem.W.findIn K (.ref C) m = some (some (.ref f)) ∧ PySem.W.isFn K (.ref f) = true ∧ Fun K m qual st f fd
theorem metIn {K : PySem.W.Frag} {C : Addr} {m qual : Str} {st : Stmt} {f : Addr} {oc : Value} {od an : Option Addr} {osl : Array (Option Value)} {kV doc pm cdv ct : Value} (a : PySem.W.findIn K (.ref C) m = some (some (.ref f))) (i : PySem.W.isFn K (.ref f) = true)
    (l : K.lookup f = some ⟨oc, od, .func (PySem.W.fnOf m qual (defArgs st) (defBody st) (defScope st) .none kV doc pm an cdv ct), osl⟩) (c : PySem.W.codeIn K cdv qual = true) (k : PySem.W.keepIn K (.ref f) = true) : MetIn K C m qual st :=
  ⟨f, _, a, i, fun_mk l c k⟩
section
variable {P : Program} {w : World} {K : PySem.W.Frag} {mg : Str → Option Value} {base : Heap}
theorem MtF.of {m qual : Str} {st : Stmt} {C : Addr} {k : Nat} {sp : Sp} (D : MetIn K C m qual st) (c : Cls K C) (F : ∀ f fd, Fun K m qual st f fd → FnOk P w K mg base (L2.CX P w) k f fd ["self"] sp)
    (hb : ∀ (kV doc pm : Value) (an : Option Addr) (cdv ct : Value) (us : List Value), us.length = (["self"] : List Str).length → bindArgs (PySem.W.fnOf m qual (defArgs st) (defBody st) (defScope st) .none kV doc pm an cdv ct) ⟨us, []⟩ = pure ((["self"] : List Str).zip us)) : MtF P w K mg base m k C sp := by
  obtain ⟨f, fd, a, i, D⟩ := D.ex
  exact ⟨f, fd, c, ⟨a, i, D.kp⟩, F f fd D, D.binds hb⟩
theorem MkF.of {x qual : Str} {st : Stmt} {C : Addr} {k : Nat} {sp : Sp} {ps : List Str} {h : Heap} (D : MetIn K C "__init__" qual st) (ci : ClsIn K C) (X : K.In h) (G : h.Ns mainGlobals mg) (g : PySem.W.nsIn K mainGlobals x = some (some (.ref C))) (F : ∀ f fd, Fun K "__init__" qual st f fd → FnOk P w K mg base CX0 k f fd ps sp)
    (hb : ∀ (kV doc pm : Value) (an : Option Addr) (cdv ct : Value) (us : List Value), us.length = ps.length → bindArgs (PySem.W.fnOf "__init__" qual (defArgs st) (defBody st) (defScope st) .none kV doc pm an cdv ct) ⟨us, []⟩ = pure (ps.zip us)) : MkF P w K mg base x k C sp := by
  obtain ⟨f, fd, a, i, D⟩ := D.ex
  exact ⟨f, fd, ps, ⟨ci.mks, a, i, ci.kc⟩, F f fd D, PySem.W.mg_of X G g, D.binds hb⟩
end

/-- an own list is short -/
def M.lim {S : Type} (ds : List D) (m : M S) : M S := if ds.length < 1000000 then m else .bad
theorem xs_lim {Z : Zs} {w : Wh} {τ : Env} {S : Type} {env : S → Env} {ts : TS} {ds : List D} {m : M S} (h : ds.length < 1000000 → SS Z w ts τ m env) : SS Z w ts τ (M.lim ds m) env := fun GB B G H σ st D o => by
  unfold M.lim at o
  by_cases hl : ds.length < 1000000
  · rw [if_pos hl] at o; exact h hl GB B G H σ st D o
  · rw [if_neg hl] at o; exact False.elim o
theorem ix_seqK {X : Cx} {K : PySem.W.Frag} (h : X.K = K) : IxR X (rIx K) := by
  subst h
  exact ix_seq
theorem op_eq3K {X : Cx} {K : PySem.W.Frag} (h : X.K = K) (hu : X.A.units + 64 < cLine) : OpR X (compareOp .Eq) (rEq3 K) := by
  subst h
  exact op_eq3 hu
theorem op_ne3K {X : Cx} {K : PySem.W.Frag} (h : X.K = K) (hu : X.A.units + 64 < cLine) : OpR X (compareOp .NotEq) (rNe3 K) := by
  subst h
  exact op_ne3 hu
def tTry (K : PySem.W.Frag) (c : Value) (i : Nat) (tb : WX → TS) (ts : Addr → Value → Option Addr → TS) (Wout : WX) : TS := fun D σ H => tb (wAs K c i ts Wout D) D σ H
theorem ps_tryN {X : Cx} {x n : Str} {c : Value} {i : Nat} {body suite : List Stmt} {b₀ : Stmt} {np pos pos' : Pos} {tb : WX → TS} {ts : Addr → Value → Option Addr → TS} {Wout : WX} (hs : X.stack = X.env :: X.outer) (hf : X.env.frame = some X.env.locals) (hN : X.N.Nodup) (hi : X.N[i]? = some n) (hln : X.env.kindOf n = some .local) (hc : Names X x c) (tk : Takes X Wout)
    (hb : ∀ (W : WX) (pn : List (Addr × Obj)) (xe : Value → Shared → Prop), Takes (X.tr pn xe) W → PassesOwn (model X.prog X.w) X.A X.env xe → PSs (X.tr pn xe) body (tb W))
    (hsu : ∀ (a : Addr) (oe : Obj) (cls : Value) (d : Option Addr) (pn : List (Addr × Obj)), Zc cls d oe → (∃ vs, oe.data = .fields vs) → PSs (X.suite a ((a, oe) :: pn)) (b₀ :: suite) (ts a cls d)) :
    PS X (.Try body [.ExceptHandler (some (.Name x np)) (some n) (b₀ :: suite) pos'] [] [] pos) (tTry X.K c i tb ts Wout) := ps_try_as hs hf hN hi hln hc tk hb hsu
section
variable {Z : Zs} {w : Wh} {τ τx : Env} {S : Type} {env : S → Env}
theorem xs_try {cs : List Ex} {cv : Value} {i : Nat} {tb : WX → TS} {ts : Addr → Value → Option Addr → TS} {mb : M S} {mh : Ex → M S} (hc : ∀ c, c ∈ cs → PySem.W.exmOne Z.K (.ref (Z.ce c)) cv = some true)
    (hb : ∀ W, SS Z ⟨W, some τx⟩ (tb W) τ mb env) (hh : ∀ c a, c ∈ cs → SS Z w (ts a (.ref (Z.ce c)) none) (τx.set i (some (.sh (.adr a)))) (mh c) env) (he : ∀ s, (env s)[i]? = some none) :
    SS Z w (tTry Z.K cv i tb ts w.w) τ (M.tryE cs mb mh) env := ss_try hc hb hh he
end
theorem kitO {K : PySem.W.Frag} {t C : Addr} {b : Bool} (hd : PySem.W.hasDictIn K C = true) (ht : PySem.W.typeIn K (.ref C) = some (.type "type")) (hr : PySem.W.subIn K (.ref C) (.ref C) = some true) (hs : PySem.W.subIn K (.ref t) (.ref C) = some b) : PySem.W.kitOne K (.ref t) (.ref C) = some b := by
  obtain ⟨cd, hc, _⟩ := PySem.W.any_some hd
  show (if ((Value.ref t) == (Value.ref C)) = true then some true else (if ((PySem.W.clsIn K C).isSome && PySem.W.typeIn K (.ref C) == some (.type "type")) = true then PySem.W.subIn K (.ref t) (.ref C) else none)) = some b
  by_cases h : ((Value.ref t) == (Value.ref C)) = true
  · rw [if_pos h]
    have e : t = C := Value.ref.inj (beq_iff_eq.mp h)
    subst e
    rw [hr] at hs
    exact hs
  · rw [if_neg h, if_pos (by rw [hc, ht] <;> rfl)]
    exact hs
theorem kitT {K : PySem.W.Frag} {t : Addr} {T : String} {b : Bool} (hm : PySem.W.kitMeta T = true) (hs : PySem.W.subIn K (.ref t) (.type T) = some b) : PySem.W.kitOne K (.ref t) (.type T) = some b := by
  show (if ((Value.ref t) == (Value.type T)) = true then some true else (if PySem.W.kitMeta T = true then PySem.W.subIn K (.ref t) (.type T) else none)) = some b
  rw [if_neg (fun h => by cases beq_iff_eq.mp h), if_pos hm]
  exact hs
theorem kitN {K : PySem.W.Frag} {t c : Value} {cs : List Value} (h : PySem.W.kitOne K t c = some false) (hr : PySem.W.kitAny K t cs = some false) : PySem.W.kitAny K t (c :: cs) = some false := kitAny_cons h (fun _ => hr) (fun z => nomatch z)
theorem kitY {K : PySem.W.Frag} {t c : Value} {cs : List Value} (h : PySem.W.kitOne K t c = some true) : PySem.W.kitAny K t (c :: cs) = some true := kitAny_cons h (fun z => nomatch z) (fun _ => rfl)
theorem kit0 {K : PySem.W.Frag} {t : Value} : PySem.W.kitAny K t [] = some false := rfl
/-- an exception class as a thing that is asked -/
structure ExT (K : PySem.W.Frag) (C : Addr) : Prop where
  hd : PySem.W.hasDictIn K C = true
  ht : PySem.W.typeIn K (.ref C) = some (.type "type")
  hr : PySem.W.subIn K (.ref C) (.ref C) = some true
end Wk

namespace Py
open PySem PySem.Spec PyProof.Rows L2 Wk
def m_law_cell_at (script1 k1 : D) : M Unit :=
  (M.bind (X.ifM (X.tst (X.b2 (.ok k1) (X.bind (X.cons (.ok script1) (.ok [])) dLen) dLt))
  (X.retM (X.b2 (.ok script1) (.ok k1) dIx))
  (.ok ())) fun s1 : Unit =>
  (X.retM (.ok (.int 0))))
def m_law_name_b1 : (D × D) → D → M (D × D) :=
  fun s2 k1 =>
  (X.to (X.b2 (X.b2 (X.b2 (X.b2 (X.b2 (.ok s2.1) (.ok s2.1) dMul) (X.b2 (.ok (.int 48271)) (.ok s2.1) dMul) dAdd) (.ok k1) dAdd) (.ok (.int 7)) dAdd) (.ok (.int 2147483647)) dMod) fun number2 =>
  (X.to (X.b2 (.ok s2.2) (X.b2 (.ok (.str "abcdefghijklmnopqrstuvwxyz")) (X.b2 (X.b2 (.ok number2) (.ok (.int 64)) dDiv) (.ok (.int 26)) dMod) dIx) dAdd) fun text2 =>
  (.ok (number2, text2))))
def m_law_name (cell1 : D) : M Unit :=
  (X.to (X.bind (X.cons (.ok (.str "join")) (X.cons (.ok (.str "trust")) (X.cons (.ok (.str "pay")) (X.cons (.ok (.str "turn")) (X.cons (.ok (.str "leave")) (X.cons (.ok (.str "owes")) (X.cons (.ok (.str "room")) (X.cons (.ok (.str "stands")) (X.cons (.ok (.str "most")) (X.cons (.ok (.str "high")) (X.cons (.ok (.str "low")) (X.cons (.ok (.str "bar")) (X.cons (.ok (.str "houses")) (.ok [])))))))))))))) dLst) fun somex1 =>
  (M.bind (X.ifM (X.tst (X.b2 (X.b2 (.ok cell1) (.ok (.int 5)) dMod) (.ok (.int 1)) dEq))
  (X.retM (X.b2 (.ok somex1) (X.b2 (X.b2 (.ok cell1) (.ok (.int 5)) dDiv) (.ok (.int 13)) dMod) dIx))
  (.ok ())) fun s1 : Unit =>
  (X.to (X.b2 (.ok cell1) (.ok (.int 2147483647)) dMod) fun number1 =>
  (X.to (.ok (.str "")) fun text1 =>
  (M.bind (forX (X.bind (X.cons (X.b2 (.ok (.int 1)) (X.b2 (X.b2 (.ok number1) (.ok (.int 5)) dDiv) (.ok (.int 8)) dMod) dAdd) (.ok [])) rng1) some (number1, text1) m_law_name_b1) fun s2 : D × D =>
  (X.retM (.ok s2.2)))))))
def m_law_two (cell1 : D) : M Unit :=
  (X.to (X.call (ar1 m_law_name) (X.cons (.ok cell1) (.ok []))) fun one1 =>
  (X.to (X.call (ar1 m_law_name) (X.cons (X.b2 (X.b2 (.ok cell1) (.ok (.int 5)) dDiv) (.ok (.int 3)) dAdd) (.ok []))) fun other1 =>
  (M.bind (X.ifM (X.and (X.tst (X.b2 (.ok one1) (.ok other1) dEq)) (X.tst (X.b2 (X.b2 (.ok one1) (.ok (.int 0)) dIx) (.ok (.str "a")) dEq)))
  (X.to (X.b2 (.ok (.str "b")) (X.cut (.ok one1) (X.bind (.ok (.int 1)) dPart) (.ok none)) dAdd) fun other2 =>
  (.ok other2))
  (X.ifM (X.tst (X.b2 (.ok one1) (.ok other1) dEq))
  (X.to (X.b2 (.ok (.str "a")) (X.cut (.ok one1) (X.bind (.ok (.int 1)) dPart) (.ok none)) dAdd) fun other3 =>
  (.ok other3))
  (.ok other1))) fun s1 : D =>
  (X.retM (X.bind (X.cons (.ok one1) (X.cons (.ok s1) (.ok []))) dTup)))))
def m_law_number (cell1 top1 : D) : M Unit :=
  (M.bind (X.ifM (X.tst (X.b2 (X.b2 (.ok cell1) (.ok (.int 4)) dMod) (.ok (.int 0)) dEq))
  (X.retM (X.b2 (X.b2 (.ok cell1) (.ok (.int 4)) dDiv) (.ok (.int 9)) dMod))
  (.ok ())) fun s1 : Unit =>
  (M.bind (X.ifM (X.tst (X.b2 (X.b2 (.ok cell1) (.ok (.int 4)) dMod) (.ok (.int 1)) dEq))
  (X.retM (X.b2 (.ok top1) (X.b2 (X.b2 (.ok cell1) (.ok (.int 4)) dDiv) (.ok (.int 9)) dMod) dSub))
  (.ok ())) fun s2 : Unit =>
  (X.retM (X.b2 (X.b2 (.ok cell1) (.ok (.int 4)) dDiv) (X.b2 (.ok top1) (.ok (.int 1)) dAdd) dMod))))
def m_law_ring_c1 (front1 : D) (letters1 : D) (begin1 : D) (back1 : D) : D → X D :=
  fun k1 =>
  (X.b2 (X.b2 (.ok front1) (X.b2 (.ok letters1) (X.b2 (X.b2 (.ok begin1) (X.b2 (.ok (.int 7)) (.ok k1) dMul) dAdd) (.ok (.int 26)) dMod) dIx) dAdd) (.ok back1) dAdd)
def m_law_ring (cell1 many1 : D) : M Unit :=
  (X.to (.ok (.str "abcdefghijklmnopqrstuvwxyz")) fun letters1 =>
  (X.to (X.b2 (X.b2 (X.b2 (X.b2 (.ok cell1) (.ok (.int 2147483647)) dMod) (.ok (.int 48271)) dMul) (.ok (.int 11)) dAdd) (.ok (.int 2147483647)) dMod) fun number1 =>
  (X.to (X.bind (X.cons (.ok (.str "turn")) (X.cons (.ok (.str "pay")) (X.cons (.ok (.str "join")) (X.cons (.ok (.str "leave")) (X.cons (.ok (.str "trust")) (X.cons (.ok (.str "owes")) (X.cons (.ok (.str "low")) (X.cons (.ok (.str "high")) (.ok []))))))))) dLst) fun somex1 =>
  (M.bind (X.ifM (X.tst (X.b2 (X.b2 (.ok number1) (.ok (.int 3)) dMod) (.ok (.int 1)) dEq))
  (X.retM (X.cut (X.b2 (X.cut (.ok somex1) (X.bind (X.b2 (X.b2 (.ok number1) (.ok (.int 3)) dDiv) (.ok (.int 8)) dMod) dPart) (.ok none)) (X.cut (.ok somex1) (.ok none) (X.bind (X.b2 (X.b2 (.ok number1) (.ok (.int 3)) dDiv) (.ok (.int 8)) dMod) dPart)) dAdd) (.ok none) (X.bind (.ok many1) dPart)))
  (.ok ())) fun s1 : Unit =>
  (X.to (X.b2 (.ok (.int 1)) (X.b2 (X.b2 (.ok number1) (.ok (.int 3)) dDiv) (.ok (.int 8)) dMod) dAdd) fun size1 =>
  (X.to (X.b2 (X.b2 (.ok number1) (.ok (.int 24)) dDiv) (.ok size1) dMod) fun place1 =>
  (X.to (X.b2 (X.b2 (.ok letters1) (X.b2 (X.b2 (.ok number1) (.ok (.int 192)) dDiv) (.ok (.int 26)) dMod) dIx) (.ok place1) dMul) fun front1 =>
  (X.to (X.b2 (X.b2 (.ok letters1) (X.b2 (X.b2 (.ok number1) (.ok (.int 4992)) dDiv) (.ok (.int 26)) dMod) dIx) (X.b2 (X.b2 (.ok size1) (.ok (.int 1)) dSub) (.ok place1) dSub) dMul) fun back1 =>
  (X.to (X.b2 (X.b2 (.ok number1) (.ok (.int 129792)) dDiv) (.ok (.int 26)) dMod) fun begin1 =>
  (X.retM (X.lst (X.lc (X.bind (X.cons (.ok many1) (.ok [])) rng1) (m_law_ring_c1 front1 letters1 begin1 back1)))))))))))))
def m_law_made (head1 one1 two1 : D) : M Unit :=
  (X.to (X.b2 (.ok head1) (.ok (.int 5)) dMod) fun kind1 =>
  (X.to (X.call (ar1 m_law_two) (X.cons (.ok one1) (.ok []))) fun d => X.to (X.of (unp2 d)) fun c1 =>
  (M.bind (X.ifM (X.tst (X.b2 (.ok kind1) (.ok (.int 0)) dEq))
  (X.retM (X.bind (X.cons (.ok kind1) (X.cons (X.bind (X.cons (.ok c1.1) (.ok [])) dTup) (X.cons (X.b2 (.ok (.str "join ")) (.ok c1.1) dAdd) (.ok [])))) dTup))
  (.ok ())) fun s1 : Unit =>
  (M.bind (X.ifM (X.tst (X.b2 (.ok kind1) (.ok (.int 1)) dEq))
  (X.to (X.call (ar2 m_law_number) (X.cons (.ok two1) (X.cons (X.b2 (X.b2 (.ok (.int 10)) (.ok (.int 59)) dPow) (.ok (.int 1)) dSub) (.ok [])))) fun line1 =>
  (X.retM (X.bind (X.cons (.ok kind1) (X.cons (X.bind (X.cons (.ok c1.1) (X.cons (.ok c1.2) (X.cons (.ok line1) (.ok [])))) dTup) (X.cons (X.b2 (X.b2 (X.b2 (X.b2 (X.b2 (.ok (.str "trust ")) (.ok c1.1) dAdd) (.ok (.str " ")) dAdd) (.ok c1.2) dAdd) (.ok (.str " ")) dAdd) (X.bind (X.cons (.ok line1) (.ok [])) dStrI) dAdd) (.ok [])))) dTup)))
  (.ok ())) fun s2 : Unit =>
  (X.to (X.bind (X.cons (.ok (.int 1)) (X.cons (X.call (ar2 m_law_number) (X.cons (.ok two1) (X.cons (X.b2 (X.b2 (.ok (.int 10)) (.ok (.int 60)) dPow) (.ok (.int 1)) dSub) (.ok [])))) (.ok []))) dMax2) fun amount1 =>
  (M.bind (X.ifM (X.tst (X.b2 (.ok kind1) (.ok (.int 2)) dEq))
  (X.retM (X.bind (X.cons (.ok kind1) (X.cons (X.bind (X.cons (.ok c1.1) (X.cons (.ok c1.2) (X.cons (.ok amount1) (.ok [])))) dTup) (X.cons (X.b2 (X.b2 (X.b2 (X.b2 (X.b2 (.ok (.str "pay ")) (.ok c1.1) dAdd) (.ok (.str " ")) dAdd) (.ok c1.2) dAdd) (.ok (.str " ")) dAdd) (X.bind (X.cons (.ok amount1) (.ok [])) dStrI) dAdd) (.ok [])))) dTup))
  (.ok ())) fun s3 : Unit =>
  (M.bind (X.ifM (X.tst (X.b2 (.ok kind1) (.ok (.int 3)) dEq))
  (X.to (X.call (ar2 m_law_ring) (X.cons (.ok one1) (X.cons (X.b2 (.ok (.int 3)) (X.b2 (X.b2 (.ok head1) (.ok (.int 5)) dDiv) (.ok (.int 6)) dMod) dAdd) (.ok [])))) fun ring1 =>
  (X.retM (X.bind (X.cons (.ok kind1) (X.cons (X.bind (X.cons (.ok ring1) (X.cons (.ok amount1) (.ok []))) dTup) (X.cons (X.b2 (X.b2 (X.b2 (.ok (.str "turn ")) (X.bind (X.cons (.ok amount1) (.ok [])) dStrI) dAdd) (.ok (.str " ")) dAdd) (X.b2 (X.bind (.ok (.str " ")) dStrOne) (X.cons (.ok ring1) (.ok [])) dJoin) dAdd) (.ok [])))) dTup)))
  (.ok ())) fun s4 : Unit =>
  (X.retM (X.bind (X.cons (.ok kind1) (X.cons (X.bind (X.cons (.ok c1.1) (.ok [])) dTup) (X.cons (X.b2 (.ok (.str "leave ")) (.ok c1.1) dAdd) (.ok [])))) dTup)))))))))
def m_law_words (text1 place1 rest1 way1 : D) : M Unit :=
  (X.to (X.b2 (X.bind (.ok text1) dSplS) (X.cons (.ok (.str " ")) (.ok [])) dSplL) fun words1 =>
  (X.to (X.flat (X.b2 (.ok place1) (X.bind (X.cons (.ok (.lst words1)) (.ok [])) dLen) dMod)) fun k1 =>
  (M.bind (X.ifM (X.tst (X.b2 (.ok way1) (.ok (.int 3)) dEq))
  (X.to (X.b2 (X.cut (.ok (.lst words1)) (.ok none) (X.bind (.ok k1) dPart)) (X.cut (.ok (.lst words1)) (X.bind (X.b2 (.ok k1) (.ok (.int 1)) dAdd) dPart) (.ok none)) dCatL) fun words2 =>
  (.ok words2))
  (.ok words1)) fun s1 : List D =>
  (M.bind (X.ifM (X.tst (X.b2 (.ok way1) (.ok (.int 4)) dEq))
  (X.to (X.b2 (X.b2 (X.cut (.ok (.lst s1)) (.ok none) (X.bind (.ok k1) dPart)) (X.bind (X.cons (X.b2 (.ok (.lst s1)) (.ok k1) dIx) (.ok [])) dLst) dAdd) (X.cut (.ok (.lst s1)) (X.bind (.ok k1) dPart) (.ok none)) dCatL) fun words3 =>
  (.ok words3))
  (.ok s1)) fun s2 : List D =>
  (M.bind (X.ifM (X.tst (X.b2 (.ok way1) (.ok (.int 5)) dEq))
  (X.to (X.flat (X.b2 (.ok (.lst s2)) (X.b2 (.ok k1) (.ok (.int 1)) dSub) dIx)) fun d => X.to (.ok k1) fun k => X.to (setAt s2 k d) fun words4 =>
  (.ok words4))
  (.ok s2)) fun s3 : List D =>
  (M.bind (X.ifM (X.tst (X.b2 (.ok way1) (.ok (.int 6)) dEq))
  (X.to (X.bind (X.cons (.ok (.str "0")) (X.cons (.ok (.str "00")) (X.cons (.ok (.str "07")) (X.cons (.ok (.str "+1")) (X.cons (.ok (.str "-1")) (X.cons (.ok (.str "1_0")) (X.cons (.ok (.str "")) (X.cons (.ok (.str "1.0")) (X.cons (X.b2 (.ok (.str "1")) (X.b2 (.ok (.str "0")) (.ok (.int 59)) dMul) dAdd) (X.cons (X.b2 (.ok (.str "9")) (.ok (.int 60)) dMul) (X.cons (X.b2 (.ok (.str "1")) (X.b2 (.ok (.str "0")) (.ok (.int 60)) dMul) dAdd) (.ok [])))))))))))) dLst) fun somex1 =>
  (X.to (X.b2 (.ok somex1) (X.bind (X.cons (X.b2 (.ok (.str "9")) (.ok (.int 59)) dMul) (X.cons (X.b2 (.ok (.str "9")) (.ok (.int 61)) dMul) (X.cons (.ok (.str "1\n")) (X.cons (.ok (.str "x1")) (.ok []))))) dLst) dAdd) fun somex2 =>
  (X.to (X.b2 (.ok somex2) (X.b2 (.ok rest1) (.ok (.int 15)) dMod) dIx) fun d => X.to (X.flat (X.b2 (X.bind (X.cons (.ok (.int 1)) (X.cons (X.b2 (X.bind (X.cons (.ok (.lst s3)) (.ok [])) dLen) (.ok (.int 1)) dSub) (.ok []))) dLst) (X.b2 (X.b2 (.ok rest1) (.ok (.int 15)) dDiv) (.ok (.int 2)) dMod) dIx)) fun k => X.to (setAt s3 k d) fun words5 =>
  (.ok (.lst words5)))))
  (.ok (.lst s3))) fun s4 : D =>
  (M.bind (X.ifM (X.tst (X.b2 (.ok way1) (.ok (.int 7)) dEq))
  (X.to (X.b2 (.ok s4) (X.cut (X.bind (X.cons (.ok (.str "a")) (X.cons (.ok (.str "b")) (X.cons (.ok (.str "c")) (X.cons (.ok (.str "d")) (X.cons (.ok (.str "e")) (X.cons (.ok (.str "f")) (X.cons (.ok (.str "g")) (X.cons (.ok (.str "h")) (X.cons (.ok (.str "i")) (.ok [])))))))))) dLst) (.ok none) (X.bind (X.b2 (.ok (.int 1)) (X.b2 (.ok rest1) (.ok (.int 9)) dMod) dAdd) dPart)) dAdd) fun words6 =>
  (.ok words6))
  (.ok s4)) fun s5 : D =>
  (X.retM (X.b2 (X.bind (.ok (.str " ")) dStrOne) (X.cons (.ok s5) (.ok [])) dJoin)))))))))
def m_law_spoiled (text1 cell1 : D) : M Unit :=
  (X.to (.ok (.str " !\"#$&'()*+,-./0123456789:;<=>?@ABCDEFGHIJKLMNOPQRSTUVWXYZ[\\]^_`")) fun signs1 =>
  (X.to (X.b2 (.ok signs1) (.ok (.str "abcdefghijklmnopqrstuvwxyz{|}~\n")) dAdd) fun signs2 =>
  (X.to (X.b2 (X.b2 (X.b2 (X.b2 (.ok cell1) (.ok (.int 2147483629)) dMod) (.ok (.int 44021)) dMul) (.ok (.int 5)) dAdd) (.ok (.int 2147483629)) dMod) fun number1 =>
  (X.to (X.b2 (.ok number1) (.ok (.int 9)) dMod) fun way1 =>
  (X.to (X.b2 (X.b2 (.ok number1) (.ok (.int 9)) dDiv) (X.b2 (X.bind (X.cons (.ok text1) (.ok [])) dLen) (.ok (.int 1)) dAdd) dMod) fun place1 =>
  (X.to (X.b2 (.ok number1) (.ok (.int 7919)) dDiv) fun rest1 =>
  (M.bind (X.ifM (X.tst (X.b2 (.ok way1) (.ok (.int 0)) dEq))
  (X.retM (X.b2 (X.b2 (X.cut (.ok text1) (.ok none) (X.bind (.ok place1) dPart)) (X.b2 (.ok signs2) (X.b2 (.ok rest1) (X.bind (X.cons (.ok signs2) (.ok [])) dLen) dMod) dIx) dAdd) (X.cut (.ok text1) (X.bind (.ok place1) dPart) (.ok none)) dAdd))
  (.ok ())) fun s1 : Unit =>
  (M.bind (X.ifM (X.tst (X.b2 (.ok way1) (.ok (.int 1)) dEq))
  (X.retM (X.b2 (X.cut (.ok text1) (.ok none) (X.bind (.ok place1) dPart)) (X.cut (.ok text1) (X.bind (X.b2 (.ok place1) (.ok (.int 1)) dAdd) dPart) (.ok none)) dAdd))
  (.ok ())) fun s2 : Unit =>
  (M.bind (X.ifM (X.tst (X.b2 (.ok way1) (.ok (.int 2)) dEq))
  (X.retM (X.b2 (X.b2 (X.cut (.ok text1) (.ok none) (X.bind (.ok place1) dPart)) (X.b2 (.ok signs2) (X.b2 (.ok rest1) (X.bind (X.cons (.ok signs2) (.ok [])) dLen) dMod) dIx) dAdd) (X.cut (.ok text1) (X.bind (X.b2 (.ok place1) (.ok (.int 1)) dAdd) dPart) (.ok none)) dAdd))
  (.ok ())) fun s3 : Unit =>
  (M.bind (X.ifM (X.tst (X.b2 (.ok way1) (.ok (.int 8)) dLt))
  (X.retM (X.call (ar4 m_law_words) (X.cons (.ok text1) (X.cons (.ok place1) (X.cons (.ok rest1) (X.cons (.ok way1) (.ok [])))))))
  (.ok ())) fun s4 : Unit =>
  (X.to (X.bind (X.cons (.ok .non) (X.cons (.ok (.int 5)) (X.cons (.ok (.bl true)) (X.cons (X.bind (X.cons (.ok text1) (.ok [])) dLst) (X.cons (X.bind (X.cons (.ok text1) (.ok [])) dTup) (X.cons (.ok (.dct false [])) (X.cons (.ok (.str "")) (X.cons (.ok (.str " ")) (X.cons (.ok (.str "join")) (X.cons (.ok (.str "join ")) (X.cons (.ok (.str "Join a")) (X.cons (.ok (.str "turn")) (X.cons (.ok (.str "turn 1")) (X.cons (.ok (.str "pay a b")) (.ok []))))))))))))))) dLst) fun somex1 =>
  (X.retM (X.b2 (.ok somex1) (X.b2 (.ok rest1) (.ok (.int 14)) dMod) dIx)))))))))))))
def m_is_name_b1 : Unit → D → M (Unit) :=
  fun s2 sign1 =>
  (X.ifM (X.tst (X.b2 (.ok sign1) (.ok (.str "abcdefghijklmnopqrstuvwxyz")) dNin))
  (X.retM (.ok (.bl false)))
  (.ok ()))
def m_is_name (thing1 : D) : M Unit :=
  (M.bind (X.ifM (X.or (X.not (X.tst (X.bind (.ok thing1) (dIs .str)))) (X.not (X.tst (X.chain dLe dLe (.ok (.int 1)) (X.bind (X.cons (.ok thing1) (.ok [])) dLen) (.ok (.int 8))))))
  (X.retM (.ok (.bl false)))
  (.ok ())) fun s1 : Unit =>
  (M.bind (forX (X.bind (.ok thing1) itS) some () m_is_name_b1) fun s2 : Unit =>
  (X.retM (.ok (.bl true)))))
def m_two_unlike (words1 : D) : M Unit :=
  (X.retM (X.andV (X.call (ar1 m_is_name) (X.cons (X.b2 (.ok words1) (.ok (.int 0)) dIx) (.ok []))) (X.andV (X.call (ar1 m_is_name) (X.cons (X.b2 (.ok words1) (.ok (.int 1)) dIx) (.ok []))) (X.b2 (X.b2 (.ok words1) (.ok (.int 0)) dIx) (X.b2 (.ok words1) (.ok (.int 1)) dIx) dNe))))
def m_number_of_b1 : Unit → D → M (Unit) :=
  fun s2 sign1 =>
  (X.ifM (X.tst (X.b2 (.ok sign1) (.ok (.str "0123456789")) dNin))
  (X.retM (X.bind (.ok (.int 1)) dNeg))
  (.ok ()))
def m_number_of (word1 : D) : M Unit :=
  (M.bind (X.ifM (X.or (X.not (X.tst (X.chain dLe dLe (.ok (.int 1)) (X.bind (X.cons (.ok word1) (.ok [])) dLen) (.ok (.int 60))))) (X.and (X.tst (X.b2 (X.b2 (.ok word1) (.ok (.int 0)) dIx) (.ok (.str "0")) dEq)) (X.tst (X.b2 (X.bind (X.cons (.ok word1) (.ok [])) dLen) (.ok (.int 1)) dGt))))
  (X.retM (X.bind (.ok (.int 1)) dNeg))
  (.ok ())) fun s1 : Unit =>
  (M.bind (forX (X.bind (.ok word1) itS) some () m_number_of_b1) fun s2 : Unit =>
  (X.retM (X.bind (X.cons (.ok word1) (.ok [])) dInt4))))
def m_is_line (thing1 : D) : M Unit :=
  (X.retM (X.andV (X.bind (.ok thing1) (dIs .int)) (X.andV (X.notV (X.bind (.ok thing1) (dIs .bool))) (X.chain dLe dLt (.ok (.int 0)) (.ok thing1) (X.b2 (.ok (.int 10)) (.ok (.int 59)) dPow)))))
def m_is_amount (thing1 : D) : M Unit :=
  (X.retM (X.andV (X.bind (.ok thing1) (dIs .int)) (X.andV (X.notV (X.bind (.ok thing1) (dIs .bool))) (X.chain dLe dLt (.ok (.int 1)) (.ok thing1) (X.b2 (.ok (.int 10)) (.ok (.int 60)) dPow)))))
def m_all_names_b1 (words1 : D) : Unit → D → M (Unit) :=
  fun s1 word1 =>
  (X.ifM (X.or (X.not (X.tst (X.call (ar1 m_is_name) (X.cons (.ok word1) (.ok []))))) (X.tst (X.b2 (X.b2 (X.bind (.ok words1) dLs) (X.cons (.ok word1) (.ok [])) dCnt) (.ok (.int 1)) dGt)))
  (X.retM (.ok (.bl false)))
  (.ok ()))
def m_all_names (words1 : D) : M Unit :=
  (M.bind (forX (X.bind (.ok words1) itL) some () (m_all_names_b1 words1)) fun s1 : Unit =>
  (X.retM (.ok (.bl true))))
def m_deed_of (words1 : D) : M Unit :=
  (M.bind (X.ifM (X.and (X.tst (X.b2 (X.b2 (.ok words1) (.ok (.int 0)) dIx) (.ok (.str "join")) dEq)) (X.and (X.tst (X.b2 (X.bind (X.cons (.ok words1) (.ok [])) dLen) (.ok (.int 2)) dEq)) (X.tst (X.call (ar1 m_is_name) (X.cons (X.b2 (.ok words1) (.ok (.int 1)) dIx) (.ok []))))))
  (X.retM (X.bind (X.cons (X.b2 (.ok words1) (.ok (.int 1)) dIx) (.ok [])) (dMk .join)))
  (.ok ())) fun s1 : Unit =>
  (M.bind (X.ifM (X.and (X.tst (X.b2 (X.b2 (.ok words1) (.ok (.int 0)) dIx) (.ok (.str "leave")) dEq)) (X.and (X.tst (X.b2 (X.bind (X.cons (.ok words1) (.ok [])) dLen) (.ok (.int 2)) dEq)) (X.tst (X.call (ar1 m_is_name) (X.cons (X.b2 (.ok words1) (.ok (.int 1)) dIx) (.ok []))))))
  (X.retM (X.bind (X.cons (X.b2 (.ok words1) (.ok (.int 1)) dIx) (.ok [])) (dMk .leave)))
  (.ok ())) fun s2 : Unit =>
  (M.bind (X.ifM (X.and (X.tst (X.b2 (X.b2 (.ok words1) (.ok (.int 0)) dIx) (.ok (.str "trust")) dEq)) (X.and (X.tst (X.b2 (X.bind (X.cons (.ok words1) (.ok [])) dLen) (.ok (.int 4)) dEq)) (X.and (X.tst (X.call (ar1 m_two_unlike) (X.cons (X.cut (.ok words1) (X.bind (.ok (.int 1)) dPart) (X.bind (.ok (.int 3)) dPart)) (.ok [])))) (X.tst (X.call (ar1 m_is_line) (X.cons (X.call (ar1 m_number_of) (X.cons (X.b2 (.ok words1) (.ok (.int 3)) dIx) (.ok []))) (.ok [])))))))
  (X.retM (X.bind (X.cons (X.b2 (.ok words1) (.ok (.int 1)) dIx) (X.cons (X.b2 (.ok words1) (.ok (.int 2)) dIx) (X.cons (X.call (ar1 m_number_of) (X.cons (X.b2 (.ok words1) (.ok (.int 3)) dIx) (.ok []))) (.ok [])))) (dMk .trust)))
  (.ok ())) fun s3 : Unit =>
  (M.bind (X.ifM (X.and (X.tst (X.b2 (X.b2 (.ok words1) (.ok (.int 0)) dIx) (.ok (.str "pay")) dEq)) (X.and (X.tst (X.b2 (X.bind (X.cons (.ok words1) (.ok [])) dLen) (.ok (.int 4)) dEq)) (X.and (X.tst (X.call (ar1 m_two_unlike) (X.cons (X.cut (.ok words1) (X.bind (.ok (.int 1)) dPart) (X.bind (.ok (.int 3)) dPart)) (.ok [])))) (X.tst (X.call (ar1 m_is_amount) (X.cons (X.call (ar1 m_number_of) (X.cons (X.b2 (.ok words1) (.ok (.int 3)) dIx) (.ok []))) (.ok [])))))))
  (X.retM (X.bind (X.cons (X.b2 (.ok words1) (.ok (.int 1)) dIx) (X.cons (X.b2 (.ok words1) (.ok (.int 2)) dIx) (X.cons (X.call (ar1 m_number_of) (X.cons (X.b2 (.ok words1) (.ok (.int 3)) dIx) (.ok []))) (.ok [])))) (dMk .pay)))
  (.ok ())) fun s4 : Unit =>
  (M.bind (X.ifM (X.and (X.tst (X.b2 (X.b2 (.ok words1) (.ok (.int 0)) dIx) (.ok (.str "turn")) dEq)) (X.and (X.tst (X.chain dLe dLe (.ok (.int 5)) (X.bind (X.cons (.ok words1) (.ok [])) dLen) (.ok (.int 10)))) (X.and (X.tst (X.call (ar1 m_is_amount) (X.cons (X.call (ar1 m_number_of) (X.cons (X.b2 (.ok words1) (.ok (.int 1)) dIx) (.ok []))) (.ok [])))) (X.tst (X.call (ar1 m_all_names) (X.cons (X.cut (.ok words1) (X.bind (.ok (.int 2)) dPart) (.ok none)) (.ok [])))))))
  (X.retM (X.bind (X.cons (X.cut (.ok words1) (X.bind (.ok (.int 2)) dPart) (.ok none)) (X.cons (X.call (ar1 m_number_of) (X.cons (X.b2 (.ok words1) (.ok (.int 1)) dIx) (.ok []))) (.ok []))) dMkT))
  (.ok ())) fun s5 : Unit =>
  (X.retM (.ok .non)))))))
def m_read (row1 : D) : M Unit :=
  (M.bind (X.ifM (X.not (X.tst (X.bind (.ok row1) (dIs .str))))
  (.exc .noRow)
  (.ok ())) fun s1 : Unit =>
  (X.to (X.call (ar1 m_deed_of) (X.cons (X.lst (X.b2 (X.bind (.ok row1) dSplS) (X.cons (.ok (.str " ")) (.ok [])) dSplL)) (.ok []))) fun deed1 =>
  (M.bind (X.ifM (X.tst (X.isN (.ok deed1)))
  (.exc .noRow)
  (.ok ())) fun s2 : Unit =>
  (X.retM (.ok deed1)))))
def m_law_told (row1 : D) : M Unit :=
  (X.to (.ok .non) fun found1 =>
  (X.to (.ok .non) fun kinds1 =>
  (M.bind (M.tryE [.noRow] (X.to (X.call (ar1 m_read) (X.cons (.ok row1) (.ok []))) fun found2 =>
  (.ok (found2, kinds1))) fun _ =>
  (X.to (X.bind (X.cons (.ok (.bl true)) (X.cons (.ok (.bl true)) (X.cons (.ok (.bl false)) (X.cons (.ok (.bl false)) (.ok []))))) dLst) fun kinds2 =>
  (.ok (found1, kinds2)))) fun s1 : D × D =>
  (X.retM (X.bind (X.cons (.ok s1.1) (X.cons (.ok s1.2) (.ok []))) dTup)))))
def m_law_word_b1 : Unit → D → M (Unit) :=
  fun s1 sign1 =>
  (X.ifM (X.tst (X.b2 (.ok sign1) (.ok (.str "abcdefghijklmnopqrstuvwxyz")) dNin))
  (X.retM (.ok (.bl false)))
  (.ok ()))
def m_law_word (word1 : D) : M Unit :=
  (M.bind (forX (X.bind (.ok word1) itS) some () m_law_word_b1) fun s1 : Unit =>
  (X.retM (X.andV (X.b2 (X.bind (X.cons (.ok word1) (.ok [])) dLen) (.ok (.int 1)) dGe) (X.b2 (X.bind (X.cons (.ok word1) (.ok [])) dLen) (.ok (.int 8)) dLe))))
def m_law_houses_b1 (words1 : D) : Unit → D → M (Unit) :=
  fun s2 k1 =>
  (X.ifM (X.or (X.not (X.tst (X.call (ar1 m_law_word) (X.cons (X.b2 (.ok words1) (.ok k1) dIx) (.ok []))))) (X.tst (X.b2 (X.b2 (.ok words1) (.ok k1) dIx) (X.cut (.ok words1) (.ok none) (X.bind (.ok k1) dPart)) dIn)))
  (X.retM (.ok (.bl false)))
  (.ok ()))
def m_law_houses (words1 fewest1 many1 : D) : M Unit :=
  (M.bind (X.ifM (X.or (X.tst (X.b2 (X.bind (X.cons (.ok words1) (.ok [])) dLen) (.ok fewest1) dLt)) (X.tst (X.b2 (X.bind (X.cons (.ok words1) (.ok [])) dLen) (.ok many1) dGt)))
  (X.retM (.ok (.bl false)))
  (.ok ())) fun s1 : Unit =>
  (M.bind (forX (X.bind (X.cons (X.bind (X.cons (.ok words1) (.ok [])) dLen) (.ok [])) rng1) some () (m_law_houses_b1 words1)) fun s2 : Unit =>
  (X.retM (.ok (.bl true)))))
def m_law_figures_b1 : Unit → D → M (Unit) :=
  fun s2 sign1 =>
  (X.ifM (X.tst (X.b2 (.ok sign1) (.ok (.str "0123456789")) dNin))
  (X.retM (.ok (.bl false)))
  (.ok ()))
def m_law_figures (word1 bottom1 top1 : D) : M Unit :=
  (M.bind (X.ifM (X.or (X.tst (X.b2 (.ok word1) (.ok (.str "")) dEq)) (X.or (X.tst (X.b2 (X.bind (X.cons (.ok word1) (.ok [])) dLen) (.ok top1) dGt)) (X.tst (X.b2 (.ok word1) (.ok (.str "0")) dEq))))
  (X.retM (X.andV (X.b2 (.ok word1) (.ok (.str "0")) dEq) (X.b2 (.ok bottom1) (.ok (.int 0)) dEq)))
  (.ok ())) fun s1 : Unit =>
  (M.bind (forX (X.bind (.ok word1) itS) some () m_law_figures_b1) fun s2 : Unit =>
  (X.retM (X.b2 (X.b2 (.ok word1) (.ok (.int 0)) dIx) (.ok (.str "0")) dNe))))
def m_law_good (row1 : D) : M Unit :=
  (M.bind (X.ifM (X.not (X.tst (X.bind (.ok row1) (dIs .str))))
  (X.retM (.ok (.bl false)))
  (.ok ())) fun s1 : Unit =>
  (X.to (X.lst (X.b2 (X.bind (.ok row1) dSplS) (X.cons (.ok (.str " ")) (.ok [])) dSplL)) fun words1 =>
  (M.bind (X.ifM (X.or (X.tst (X.b2 (X.b2 (.ok words1) (.ok (.int 0)) dIx) (.ok (.str "join")) dEq)) (X.tst (X.b2 (X.b2 (.ok words1) (.ok (.int 0)) dIx) (.ok (.str "leave")) dEq)))
  (X.retM (X.call (ar3 m_law_houses) (X.cons (X.cut (.ok words1) (X.bind (.ok (.int 1)) dPart) (.ok none)) (X.cons (.ok (.int 1)) (X.cons (.ok (.int 1)) (.ok []))))))
  (.ok ())) fun s2 : Unit =>
  (M.bind (X.ifM (X.and (X.tst (X.b2 (X.b2 (.ok words1) (.ok (.int 0)) dIx) (.ok (.str "trust")) dEq)) (X.tst (X.b2 (X.bind (X.cons (.ok words1) (.ok [])) dLen) (.ok (.int 4)) dEq)))
  (X.retM (X.andV (X.call (ar3 m_law_houses) (X.cons (X.cut (.ok words1) (X.bind (.ok (.int 1)) dPart) (X.bind (.ok (.int 3)) dPart)) (X.cons (.ok (.int 2)) (X.cons (.ok (.int 2)) (.ok []))))) (X.call (ar3 m_law_figures) (X.cons (X.b2 (.ok words1) (.ok (.int 3)) dIx) (X.cons (.ok (.int 0)) (X.cons (.ok (.int 59)) (.ok [])))))))
  (.ok ())) fun s3 : Unit =>
  (M.bind (X.ifM (X.and (X.tst (X.b2 (X.b2 (.ok words1) (.ok (.int 0)) dIx) (.ok (.str "pay")) dEq)) (X.tst (X.b2 (X.bind (X.cons (.ok words1) (.ok [])) dLen) (.ok (.int 4)) dEq)))
  (X.retM (X.andV (X.call (ar3 m_law_houses) (X.cons (X.cut (.ok words1) (X.bind (.ok (.int 1)) dPart) (X.bind (.ok (.int 3)) dPart)) (X.cons (.ok (.int 2)) (X.cons (.ok (.int 2)) (.ok []))))) (X.call (ar3 m_law_figures) (X.cons (X.b2 (.ok words1) (.ok (.int 3)) dIx) (X.cons (.ok (.int 1)) (X.cons (.ok (.int 60)) (.ok [])))))))
  (.ok ())) fun s4 : Unit =>
  (M.bind (X.ifM (X.and (X.tst (X.b2 (X.b2 (.ok words1) (.ok (.int 0)) dIx) (.ok (.str "turn")) dEq)) (X.tst (X.b2 (X.bind (X.cons (.ok words1) (.ok [])) dLen) (.ok (.int 1)) dGt)))
  (X.retM (X.andV (X.call (ar3 m_law_houses) (X.cons (X.cut (.ok words1) (X.bind (.ok (.int 2)) dPart) (.ok none)) (X.cons (.ok (.int 3)) (X.cons (.ok (.int 8)) (.ok []))))) (X.call (ar3 m_law_figures) (X.cons (X.b2 (.ok words1) (.ok (.int 1)) dIx) (X.cons (.ok (.int 1)) (X.cons (.ok (.int 60)) (.ok [])))))))
  (.ok ())) fun s5 : Unit =>
  (X.retM (.ok (.bl false)))))))))
def m_Turn_row (self1 : D) : M Unit :=
  (X.retM (X.b2 (X.b2 (X.b2 (.ok (.str "turn ")) (X.bind (X.cons (X.bind (.ok self1) (dFld [.pay, .turn] "amount")) (.ok [])) dStrI) dAdd) (.ok (.str " ")) dAdd) (X.b2 (X.bind (.ok (.str " ")) dStrOne) (X.cons (X.bind (.ok self1) (dFld [.turn] "ring")) (.ok [])) dJoin) dAdd))
def m_Pay_row (self1 : D) : M Unit :=
  (X.retM (X.b2 (X.b2 (X.b2 (X.b2 (X.b2 (.ok (.str "pay ")) (X.bind (.ok self1) (dFld [.pay] "payer")) dAdd) (.ok (.str " ")) dAdd) (X.bind (.ok self1) (dFld [.pay] "taker")) dAdd) (.ok (.str " ")) dAdd) (X.bind (X.cons (X.bind (.ok self1) (dFld [.pay, .turn] "amount")) (.ok [])) dStrI) dAdd))
def m_Trust_row (self1 : D) : M Unit :=
  (X.retM (X.b2 (X.b2 (X.b2 (X.b2 (X.b2 (.ok (.str "trust ")) (X.bind (.ok self1) (dFld [.trust] "one")) dAdd) (.ok (.str " ")) dAdd) (X.bind (.ok self1) (dFld [.trust] "other")) dAdd) (.ok (.str " ")) dAdd) (X.bind (X.cons (X.bind (.ok self1) (dFld [.trust] "line")) (.ok [])) dStrI) dAdd))
def m_Leave_row (self1 : D) : M Unit :=
  (X.retM (X.b2 (.ok (.str "leave ")) (X.bind (.ok self1) (dFld [.join, .leave] "house")) dAdd))
def m_Join_row (self1 : D) : M Unit :=
  (X.retM (X.b2 (.ok (.str "join ")) (X.bind (.ok self1) (dFld [.join, .leave] "house")) dAdd))
def m_Deed_row (self1 : D) : M Unit :=
  (X.retM (.ok (.str "")))
def m_law_c1 (script1 : D) (k1 : D) : D → X D :=
  fun j1 =>
  (X.b2 (X.call (ar2 m_law_cell_at) (X.cons (.ok script1) (X.cons (X.b2 (.ok k1) (.ok j1) dAdd) (.ok [])))) (X.b2 (.ok (.int 10)) (.ok (.int 62)) dPow) dMod)
def m_law_b2 (script1 : D) : Unit → D → M (Unit) :=
  fun s1 k1 =>
  (X.to (X.lst (X.lc (X.bind (X.cons (.ok (.int 4)) (.ok [])) rng1) (m_law_c1 script1 k1))) fun cells1 =>
  (X.to (X.call (ar2 m_law_spoiled) (X.cons (X.b2 (X.call (ar3 m_law_made) (X.cons (X.b2 (.ok cells1) (.ok (.int 0)) dIx) (X.cons (X.b2 (.ok cells1) (.ok (.int 1)) dIx) (X.cons (X.b2 (.ok cells1) (.ok (.int 2)) dIx) (.ok []))))) (.ok (.int 2)) dIx) (X.cons (X.b2 (.ok cells1) (.ok (.int 3)) dIx) (.ok [])))) fun row1 =>
  (X.to (X.call (ar1 m_law_told) (X.cons (.ok row1) (.ok []))) fun d => X.to (X.of (unp2 d)) fun c1 =>
  (X.ifM (X.not (X.tst (X.call (ar1 m_law_good) (X.cons (.ok row1) (.ok [])))))
  (X.ifM (X.tst (X.b2 (.ok c1.2) (X.bind (X.cons (.ok (.bl true)) (X.cons (.ok (.bl true)) (X.cons (.ok (.bl false)) (X.cons (.ok (.bl false)) (.ok []))))) dLst) dNe))
  (X.retM (.ok (.bl false)))
  (.ok ()))
  (X.ifM (X.or (X.tst (X.notN (.ok c1.2))) (X.tst (X.b2 (X.alt (X.bind (.ok c1.1) (mM m_Deed_row .deed)) (X.alt (X.bind (.ok c1.1) (mM m_Join_row .join)) (X.alt (X.bind (.ok c1.1) (mM m_Leave_row .leave)) (X.alt (X.bind (.ok c1.1) (mM m_Trust_row .trust)) (X.alt (X.bind (.ok c1.1) (mM m_Pay_row .pay)) (X.bind (.ok c1.1) (mM m_Turn_row .turn))))))) (.ok row1) dNe)))
  (X.retM (.ok (.bl false)))
  (.ok ()))))))
def m_law (script1 : D) : M Unit :=
  (M.bind (forX (X.bind (X.cons (.ok (.int 0)) (X.cons (X.bind (X.cons (X.bind (X.cons (.ok script1) (.ok [])) dLen) (X.cons (.ok (.int 63)) (.ok []))) dMin2) (X.cons (.ok (.int 4)) (.ok [])))) rng3) some () (m_law_b2 script1)) fun s1 : Unit =>
  (X.retM (.ok (.bl true))))
end Py

namespace Py
open PySem L2 Wk
/-! ### the defs of the program, in plain words -/
theorem cell_at (ns : List Int) (k : Nat) : m_law_cell_at (.scr ns) (.int k) = .ret (.sh (.int (ns.getD k 0))) := by
  unfold m_law_cell_at
  simp only [X.cons_ok, X.bind_ok, dLen_s, X.b2_ok, dLt_i, X.tst_bl]
  by_cases h : k < ns.length
  · have e : decide ((k : Int) < (ns.length : Int)) = true := decide_eq_true (by omega)
    rw [e, X.ifM_t, dIx_scr (List.getElem?_eq_getElem h), X.retM_ok, M.bind_ret]
    simp [h]
  · have e : decide ((k : Int) < (ns.length : Int)) = false := decide_eq_false (by omega)
    rw [e, X.ifM_f, M.bind_ok, X.retM_ok]
    simp [h]
def abc : Str := "abcdefghijklmnopqrstuvwxyz"
theorem abc_len : abc.length = 26 := by decide +kernel
def inAbc (c : Nat) : Bool := decide (c ∈ abc.cps.toList)
/-- the sign at a place of the letters -/
def letter (i : Nat) : Nat := abc.cps.toList.getD i 0
theorem letter_in {i : Nat} (h : i < 26) : inAbc (letter i) = true := by
  have hl : i < abc.cps.toList.length := by
    rw [Array.length_toList]
    have : abc.cps.size = 26 := abc_len
    omega
  unfold inAbc letter
  rw [List.getD_eq_getElem?_getD, List.getElem?_eq_getElem hl]
  exact decide_eq_true (List.getElem_mem hl)
theorem at_abc {i : Int} (h0 : 0 ≤ i) (h1 : i < 26) : dIx (.str abc) (.int i) = .ok (.str ⟨#[letter i.toNat]⟩) := by
  have hl : i.toNat < abc.cps.toList.length := by
    rw [Array.length_toList]
    have : abc.cps.size = 26 := abc_len
    omega
  refine dIx_int h0 (dIx_str ?_ (by rw [abc_len]; decide))
  unfold letter
  rw [List.getD_eq_getElem?_getD, List.getElem?_eq_getElem hl]
  rfl
theorem is_name_turn (x : D) (c : Nat) (h : x = .str ⟨#[c]⟩) : m_is_name_b1 () x = if inAbc c = true then .ok () else .ret (.sh (.bl false)) := by
  subst h
  unfold m_is_name_b1
  rw [show (D.str "abcdefghijklmnopqrstuvwxyz") = .str abc from rfl, X.b2_ok]
  have e : dNin (.str ⟨#[c]⟩) (.str abc) = .ok (.bl !(inAbc c)) := Eq.trans rfl rfl
  rw [e, X.tst_bl, X.ifM_ok]
  cases inAbc c <;> rfl
/-- a walk over the signs of a text that ends at the first that p refuses -/
theorem signs_all {p : Nat → Bool} {r : T} (f : Unit → D → M Unit) (hf : ∀ x c, x = D.str ⟨#[c]⟩ → f () x = if p c = true then .ok () else .ret r) (s : Str) :
    (forX (X.bind (.ok (.str s)) itS) some () f) = if s.cps.toList.all p = true then .ok () else .ret r := by
  rw [X.bind_ok, itS_s, forX_some]
  rw [forM_all (p := fun x => match x with | .str z => p (z.cps.toList.headD 0) | _ => false) (r := r)]
  · rw [List.all_map]; rfl
  · intro x hx
    obtain ⟨c, _, rfl⟩ := List.mem_map.mp hx
    rw [hf _ c rfl]; rfl
def nameB (s : Str) : Bool := decide (1 ≤ s.length) && decide (s.length ≤ 8) && s.cps.toList.all inAbc
theorem is_name_ok (s : Str) (hs : s.length ≤ 1000000) : m_is_name (.str s) = .ret (.sh (.bl (nameB s))) := by
  unfold m_is_name
  simp only [X.bind_ok, dIs_str, X.cons_ok, dLen_str s hs, X.chain_ii, dLe_i, X.tst_bl]
  rw [show (Ty.str == Ty.str) = true from rfl, X.not_ok, Bool.not_true, X.or_f]
  have h1 : decide ((1 : Int) ≤ (s.length : Nat)) = decide (1 ≤ s.length) := by simp; omega
  have h2 : decide (((s.length : Nat) : Int) ≤ 8) = decide (s.length ≤ 8) := by simp; omega
  rw [h1, h2]
  have e := signs_all m_is_name_b1 is_name_turn s
  rw [X.bind_ok] at e
  rw [e]
  show _ = M.ret (.sh (.bl (decide (1 ≤ s.length) && decide (s.length ≤ 8) && s.cps.toList.all inAbc)))
  cases decide (1 ≤ s.length) <;> cases decide (s.length ≤ 8) <;> cases s.cps.toList.all inAbc <;> rfl
theorem pow60 : dPow (.int 10) (.int 60) = .ok (.int (10 ^ 60)) := dPow_p _ _ (by decide)
theorem pow59 : dPow (.int 10) (.int 59) = .ok (.int (10 ^ 59)) := dPow_p _ _ (by decide)
theorem pow62 : dPow (.int 10) (.int 62) = .ok (.int (10 ^ 62)) := dPow_p _ _ (by decide)
def amountB (i : Int) : Bool := decide (1 ≤ i) && decide (i < 10 ^ 60)
def lineB (i : Int) : Bool := decide (0 ≤ i) && decide (i < 10 ^ 59)
theorem is_amount_ok (i : Int) : m_is_amount (.int i) = .ret (.sh (.bl (amountB i))) := by
  unfold m_is_amount
  simp only [X.bind_ok, X.b2_ok, pow60, dIs_int, X.chain_ii, dLe_i, dLt_i, X.tst_bl]
  show X.retM (X.andV (.ok (.bl true)) (X.andV (.ok (.bl true)) _)) = M.ret (.sh (.bl (decide (1 ≤ i) && decide (i < 10 ^ 60))))
  rw [X.andV_t, X.andV_t]
  cases decide (1 ≤ i) <;> rfl
theorem is_line_ok (i : Int) : m_is_line (.int i) = .ret (.sh (.bl (lineB i))) := by
  unfold m_is_line
  simp only [X.bind_ok, X.b2_ok, pow59, dIs_int, X.chain_ii, dLe_i, dLt_i, X.tst_bl]
  show X.retM (X.andV (.ok (.bl true)) (X.andV (.ok (.bl true)) _)) = M.ret (.sh (.bl (decide (0 ≤ i) && decide (i < 10 ^ 59))))
  rw [X.andV_t, X.andV_t]
  cases decide (0 ≤ i) <;> rfl
/-! numbers -/
def fgs : Str := "0123456789"
def isFig (c : Nat) : Bool := decide (c ∈ fgs.cps.toList)
theorem isFig_iff {c : Nat} : isFig c = true ↔ 48 ≤ c ∧ c ≤ 57 := by
  unfold isFig
  rw [decide_eq_true_iff, show fgs.cps.toList = [48, 49, 50, 51, 52, 53, 54, 55, 56, 57] by decide +kernel]
  simp only [List.mem_cons, List.not_mem_nil, or_false]
  omega
def headZ (s : Str) : Bool := decide (s.cps.toList.head? = some 48) && decide (1 < s.length)
def figB (s : Str) : Bool := decide (1 ≤ s.length) && decide (s.length ≤ 60) && !headZ s && s.cps.toList.all isFig
def numB (s : Str) : Int := if figB s = true then ((NumText.digitsVal s.cps.toList : Nat) : Int) else -1
theorem number_turn (x : D) (c : Nat) (h : x = .str ⟨#[c]⟩) : m_number_of_b1 () x = if isFig c = true then .ok () else .ret (.sh (.int (-1))) := by
  subst h
  unfold m_number_of_b1
  rw [show (D.str "0123456789") = .str fgs from rfl, X.b2_ok]
  have e : dNin (.str ⟨#[c]⟩) (.str fgs) = .ok (.bl !(isFig c)) := Eq.trans rfl rfl
  rw [e, X.tst_bl, X.ifM_ok]
  cases isFig c <;> rfl
theorem str_one {c d : Nat} : decide ((⟨#[c]⟩ : Str) = ⟨#[d]⟩) = decide (c = d) := by
  by_cases h : c = d
  · subst h; simp
  · rw [decide_eq_false h, decide_eq_false]
    intro e
    exact h (by injection e with e; simpa using e)
theorem fig_digits {s : Str} (h : s.cps.toList.all isFig = true) : NumText.AllDigits s.cps.toList := fun c hc => isFig_iff.mp (List.all_eq_true.mp h c hc)
theorem number_ok (s : Str) (hs : s.length ≤ 1000000) : m_number_of (.str s) = .ret (.sh (.int (numB s))) := by
  unfold m_number_of
  simp only [X.bind_ok, X.cons_ok, dLen_str s hs, X.chain_ii, dLe_i, X.tst_bl]
  have h1 : decide ((1 : Int) ≤ (s.length : Nat)) = decide (1 ≤ s.length) := by simp; omega
  have h2 : decide (((s.length : Nat) : Int) ≤ 60) = decide (s.length ≤ 60) := by simp; omega
  rw [h1, h2]
  by_cases a1 : 1 ≤ s.length
  case neg =>
    have e : numB s = -1 := by unfold numB figB; rw [decide_eq_false a1]; rfl
    rw [decide_eq_false a1, e]; rfl
  by_cases a2 : s.length ≤ 60
  case neg =>
    have e : numB s = -1 := by unfold numB figB; rw [decide_eq_false a2, decide_eq_true a1]; rfl
    rw [decide_eq_false a2, decide_eq_true a1, e]; rfl
  rw [decide_eq_true a1, decide_eq_true a2]
  obtain ⟨c, r, ecr⟩ : ∃ c r, s.cps.toList = c :: r := by
    cases e : s.cps.toList with
    | nil =>
      have : s.length = s.cps.toList.length := by simp [Str.length]
      rw [e] at this
      simp at this
      omega
    | cons c r => exact ⟨c, r, rfl⟩
  have ix : dIx (.str s) (.int 0) = .ok (.str ⟨#[c]⟩) := dIx_str (k := 0) (by rw [ecr]; rfl) hs
  show M.bind (X.ifM (X.or (.ok false) _) _ _) _ = _
  rw [X.or_f, X.b2_ok, ix, X.b2_ok, dEq_d, eqB_ss, X.bind_ok, X.tst_bl, X.b2_ok, dGt_i, X.tst_bl, X.and_ok]
  have h3 : decide ((⟨#[c]⟩ : Str) = "0") = decide (c = 48) := str_one (d := 48)
  have h4 : decide ((1 : Int) < ((s.length : Nat) : Int)) = decide (1 < s.length) := by simp; omega
  have h5 : headZ s = (decide (c = 48) && decide (1 < s.length)) := by unfold headZ; rw [ecr]; simp
  rw [h3, h4, ← h5]
  cases hz : headZ s with
  | true =>
    have e : numB s = -1 := by unfold numB figB; rw [hz]; simp
    rw [e]; rfl
  | false =>
    rw [X.ifM_f, M.bind_ok]
    have e := signs_all m_number_of_b1 number_turn s
    rw [X.bind_ok] at e
    rw [e]
    cases hf : s.cps.toList.all isFig with
    | false =>
      have e : numB s = -1 := by unfold numB figB; rw [hf]; simp
      rw [e]; rfl
    | true =>
      have e : numB s = ((NumText.digitsVal s.cps.toList : Nat) : Int) := by unfold numB figB; rw [hf, hz, decide_eq_true a1, decide_eq_true a2]; rfl
      rw [if_pos rfl, M.bind_ok, e]
      have ei := intText_digits (x := s) (fig_digits hf) (by rw [ecr]; simp) (by omega)
      show X.retM (match PySem.intText? s with | some n => if s.length ≤ 640 then X.ok (D.int n) else .bad | none => .bad) = _
      rw [ei]
      dsimp only
      rw [if_pos (by omega)]
      rfl
end Py

namespace Py
open PySem L2 Wk
/-! ### words read to a deed -/
abbrev wl (ws : List Str) : D := .lst (ws.map .str)
theorem wl_at {ws : List Str} {i : Nat} (h : i < ws.length) : dIx (wl ws) (.int i) = .ok (.str (ws.getD i "")) := by
  refine dIx_l ?_
  rw [List.getElem?_map, List.getElem?_eq_getElem h, List.getD_eq_getElem?_getD, List.getElem?_eq_getElem h]
  rfl
theorem wl_len (ws : List Str) : dLen [wl ws] = .ok (.int ws.length) := by
  show X.ok (D.int ((ws.map D.str).length : Nat)) = _
  rw [List.length_map]
def Short (ws : List Str) : Prop := ∀ w ∈ ws, w.length ≤ 1000000
theorem Short.at {ws : List Str} (h : Short ws) (i : Nat) : (ws.getD i "").length ≤ 1000000 := by
  rw [List.getD_eq_getElem?_getD]
  cases e : ws[i]? with
  | none => exact Nat.zero_le _
  | some w => exact h w (List.mem_of_getElem? e)
theorem dec_int {a b : Nat} : ((a : Int) == (b : Int)) = decide (a = b) := by
  by_cases h : a = b
  · subst h; simp
  · rw [decide_eq_false h]
    exact beq_eq_false_iff_ne.mpr (by omega)
theorem key_at (ws : List Str) (h : 0 < ws.length) (key : Str) : X.tst (X.b2 (X.b2 (.ok (wl ws)) (.ok (.int 0)) dIx) (.ok (.str key)) dEq) = .ok (decide (ws.getD 0 "" = key)) := by
  have e := wl_at h
  rw [show ((0 : Nat) : Int) = 0 from rfl] at e
  rw [X.b2_ok, e, X.b2_ok, dEq_d, eqB_ss, X.bind_ok, X.tst_bl]
theorem len_is (ws : List Str) (n : Nat) : X.tst (X.b2 (X.bind (X.cons (.ok (wl ws)) (.ok [])) dLen) (.ok (.int n)) dEq) = .ok (decide (ws.length = n)) := by
  rw [X.cons_ok, X.bind_ok, wl_len, X.b2_ok, dEq_d, eqB_ii, X.bind_ok, X.tst_bl, dec_int]
def name2 (a b : Str) : Bool := nameB a && (nameB b && !decide (a = b))
theorem two_ok (a b : Str) (ha : a.length ≤ 1000000) (hb : b.length ≤ 1000000) : m_two_unlike (.lst [.str a, .str b]) = .ret (.sh (.bl (name2 a b))) := by
  have i0 : dIx (.lst [.str a, .str b]) (.int 0) = .ok (.str a) := dIx_l (k := 0) rfl
  have i1 : dIx (.lst [.str a, .str b]) (.int 1) = .ok (.str b) := dIx_l (k := 1) rfl
  unfold m_two_unlike
  simp only [X.b2_ok, i0, i1, X.cons_ok, X.call_ok, ar1_1, is_name_ok a ha, is_name_ok b hb, M.fn_ret, T.toD_sh, dNe_d, eqB_ss, X.bind_ok, X.andV_ok, X.retM_ok]
  rfl
theorem cut13 (a b c d : D) : cut [a, b, c, d] (some 1) (some 3) = [b, c] := by rfl
theorem cut2 (xs : List D) (h : 2 ≤ xs.length) : cut xs (some 2) none = xs.drop 2 := by
  unfold cut
  have e1 : HT.sIx xs.length 0 (some 2) = 2 := by unfold HT.sIx; simp; omega
  have e2 : HT.sIx xs.length xs.length none = xs.length := by unfold HT.sIx; rfl
  rw [e1, e2]
  exact List.take_of_length_le (by simp)
theorem cond2 (ws : List Str) (h0 : 0 < ws.length) (hs : Short ws) (key : Str) : (X.and (X.tst (X.b2 (X.b2 (.ok (wl ws)) (.ok (.int 0)) dIx) (.ok (.str key)) dEq)) (X.and (X.tst (X.b2 (X.bind (X.cons (.ok (wl ws)) (.ok [])) dLen) (.ok (.int 2)) dEq)) (X.tst (X.call (ar1 m_is_name) (X.cons (X.b2 (.ok (wl ws)) (.ok (.int 1)) dIx) (.ok []))))))
    = .ok (decide (ws.getD 0 "" = key) && (decide (ws.length = 2) && nameB (ws.getD 1 ""))) := by
  have e := len_is ws 2
  rw [show ((2 : Nat) : Int) = 2 from rfl] at e
  rw [key_at ws h0, e]
  by_cases a : ws.getD 0 "" = key
  case neg => rw [decide_eq_false a]; rfl
  rw [decide_eq_true a, X.and_t]
  by_cases b : ws.length = 2
  case neg => rw [decide_eq_false b]; rfl
  rw [decide_eq_true b, X.and_t]
  have e1 := wl_at (ws := ws) (i := 1) (by omega)
  rw [show ((1 : Nat) : Int) = 1 from rfl] at e1
  rw [X.b2_ok, e1, X.cons_ok, X.call_ok, ar1_1, is_name_ok _ (hs.at 1), M.fn_ret, T.toD_sh, X.tst_bl]
  rfl
theorem four {ws : List Str} (h : ws.length = 4) : ws = [ws.getD 0 "", ws.getD 1 "", ws.getD 2 "", ws.getD 3 ""] := by
  match ws, h with
  | [a, b, c, d], _ => rfl
theorem cond4 (ws : List Str) (h0 : 0 < ws.length) (hs : Short ws) (key : Str) (mp : D → M Unit) (p : Int → Bool) (hp : ∀ i, mp (.int i) = .ret (.sh (.bl (p i)))) :
    (X.and (X.tst (X.b2 (X.b2 (.ok (wl ws)) (.ok (.int 0)) dIx) (.ok (.str key)) dEq)) (X.and (X.tst (X.b2 (X.bind (X.cons (.ok (wl ws)) (.ok [])) dLen) (.ok (.int 4)) dEq)) (X.and (X.tst (X.call (ar1 m_two_unlike) (X.cons (X.cut (.ok (wl ws)) (X.bind (.ok (.int 1)) dPart) (X.bind (.ok (.int 3)) dPart)) (.ok [])))) (X.tst (X.call (ar1 mp) (X.cons (X.call (ar1 m_number_of) (X.cons (X.b2 (.ok (wl ws)) (.ok (.int 3)) dIx) (.ok []))) (.ok [])))))))
    = .ok (decide (ws.getD 0 "" = key) && (decide (ws.length = 4) && (name2 (ws.getD 1 "") (ws.getD 2 "") && p (numB (ws.getD 3 ""))))) := by
  have e := len_is ws 4
  rw [show ((4 : Nat) : Int) = 4 from rfl] at e
  rw [key_at ws h0, e]
  by_cases a : ws.getD 0 "" = key
  case neg => rw [decide_eq_false a]; rfl
  rw [decide_eq_true a, X.and_t]
  by_cases b : ws.length = 4
  case neg => rw [decide_eq_false b]; rfl
  rw [decide_eq_true b, X.and_t]
  have e3 := wl_at (ws := ws) (i := 3) (by omega)
  rw [show ((3 : Nat) : Int) = 3 from rfl] at e3
  have ec : dCut (wl ws) (some 1) (some 3) = .ok (.lst [.str (ws.getD 1 ""), .str (ws.getD 2 "")]) := by
    have q := four b
    generalize ws.getD 0 "" = w0 at q
    generalize ws.getD 1 "" = w1 at q
    generalize ws.getD 2 "" = w2 at q
    generalize ws.getD 3 "" = w3 at q
    subst q
    show X.ok (D.lst (cut [D.str w0, D.str w1, D.str w2, D.str w3] (some 1) (some 3))) = _
    rw [cut13]
  simp only [X.bind_ok, dPart_i, X.cut_ok, ec, X.b2_ok, e3, X.cons_ok, X.call_ok, ar1_1, two_ok _ _ (hs.at 1) (hs.at 2), number_ok _ (hs.at 3), M.fn_ret, T.toD_sh, hp, X.tst_bl, X.and_ok]
  rfl
theorem strsOf_map : ∀ ys : List Str, strsOf (ys.map .str) = some ys
  | [] => by unfold strsOf; rfl
  | y :: ys => by
    show strsOf (.str y :: ys.map .str) = _
    unfold strsOf
    rw [strsOf_map ys]
    rfl
def allB (ws : List Str) : Bool := ws.all fun w => nameB w && decide (ws.count w ≤ 1)
theorem all_ok (ws : List Str) (hs : Short ws) : m_all_names (wl ws) = .ret (.sh (.bl (allB ws))) := by
  unfold m_all_names
  rw [X.bind_ok, itL_l, forX_some]
  rw [forM_all (p := fun x => match x with | .str z => nameB z && decide (ws.count z ≤ 1) | _ => false) (r := .sh (.bl false))]
  · rw [List.all_map]
    show M.bind (if allB ws = true then _ else _) _ = _
    cases allB ws <;> rfl
  · intro x hx
    obtain ⟨z, hz, rfl⟩ := List.mem_map.mp hx
    unfold m_all_names_b1
    have ec : dCnt (wl ws) [.str z] = .ok (.int (ws.count z : Nat)) := by
      show (match strsOf (ws.map .str) with | some ys => X.ok (D.int (ys.count z : Nat)) | none => .bad) = _
      rw [strsOf_map]
    have el : dLs (wl ws) = .ok (wl ws) := Eq.trans rfl rfl
    simp only [X.cons_ok, X.call_ok, ar1_1, is_name_ok z (hs z hz), M.fn_ret, T.toD_sh, X.tst_bl, X.not_ok, X.bind_ok, el, X.b2_ok, ec, dGt_i]
    have h4 : decide ((1 : Int) < ((ws.count z : Nat) : Int)) = !decide (ws.count z ≤ 1) := by
      by_cases h : ws.count z ≤ 1
      · rw [decide_eq_true h]; exact decide_eq_false (by omega)
      · rw [decide_eq_false h]; exact decide_eq_true (by omega)
    rw [h4, X.or_ok, X.ifM_ok]
    show _ = (if (nameB z && decide (ws.count z ≤ 1)) = true then M.ok () else M.ret (T.sh (D.bl false)))
    cases nameB z <;> cases decide (ws.count z ≤ 1) <;> rfl
theorem Short.drop {ws : List Str} (h : Short ws) (n : Nat) : Short (ws.drop n) := fun w hw => h w (List.mem_of_mem_drop hw)
theorem condT (ws : List Str) (h0 : 0 < ws.length) (hs : Short ws) :
    (X.and (X.tst (X.b2 (X.b2 (.ok (wl ws)) (.ok (.int 0)) dIx) (.ok (.str "turn")) dEq)) (X.and (X.tst (X.chain dLe dLe (.ok (.int 5)) (X.bind (X.cons (.ok (wl ws)) (.ok [])) dLen) (.ok (.int 10)))) (X.and (X.tst (X.call (ar1 m_is_amount) (X.cons (X.call (ar1 m_number_of) (X.cons (X.b2 (.ok (wl ws)) (.ok (.int 1)) dIx) (.ok []))) (.ok [])))) (X.tst (X.call (ar1 m_all_names) (X.cons (X.cut (.ok (wl ws)) (X.bind (.ok (.int 2)) dPart) (.ok none)) (.ok [])))))))
    = .ok (decide (ws.getD 0 "" = "turn") && (decide (5 ≤ ws.length) && decide (ws.length ≤ 10) && (amountB (numB (ws.getD 1 "")) && allB (ws.drop 2)))) := by
  rw [key_at ws h0]
  by_cases a : ws.getD 0 "" = "turn"
  case neg => rw [decide_eq_false a]; rfl
  rw [decide_eq_true a, X.and_t]
  have h1 : decide ((5 : Int) ≤ (ws.length : Nat)) = decide (5 ≤ ws.length) := by simp; omega
  have h2 : decide (((ws.length : Nat) : Int) ≤ 10) = decide (ws.length ≤ 10) := by simp; omega
  have ech : X.tst (X.chain dLe dLe (.ok (.int 5)) (X.bind (X.cons (.ok (wl ws)) (.ok [])) dLen) (.ok (.int 10))) = .ok (decide (5 ≤ ws.length) && decide (ws.length ≤ 10)) := by
    simp only [X.cons_ok, X.bind_ok, wl_len, X.chain_ii, dLe_i, X.tst_bl, h1, h2]
    cases decide (5 ≤ ws.length) <;> rfl
  rw [ech]
  by_cases b : 5 ≤ ws.length
  case neg => rw [decide_eq_false b]; rfl
  by_cases c : ws.length ≤ 10
  case neg => rw [decide_eq_false c, decide_eq_true b]; rfl
  rw [decide_eq_true b, decide_eq_true c]
  show X.and (.ok true) _ = _
  rw [X.and_t]
  have e1 := wl_at (ws := ws) (i := 1) (by omega)
  rw [show ((1 : Nat) : Int) = 1 from rfl] at e1
  have ec : dCut (wl ws) (some 2) none = .ok (wl (ws.drop 2)) := by
    show X.ok (D.lst (cut (ws.map .str) (some 2) none)) = _
    rw [cut2 _ (by rw [List.length_map]; omega), ← List.map_drop]
  simp only [X.bind_ok, dPart_i, X.cut_ok, ec, X.b2_ok, e1, X.cons_ok, X.call_ok, ar1_1, number_ok _ (hs.at 1), is_amount_ok, all_ok _ (hs.drop 2), M.fn_ret, T.toD_sh, X.tst_bl, X.and_ok]
  rfl
/-- the deed that words tell, or None -/
def deedOf (ws : List Str) : D :=
  if (decide (ws.getD 0 "" = "join") && (decide (ws.length = 2) && nameB (ws.getD 1 ""))) = true then .ins .join [.str (ws.getD 1 "")] else
  if (decide (ws.getD 0 "" = "leave") && (decide (ws.length = 2) && nameB (ws.getD 1 ""))) = true then .ins .leave [.str (ws.getD 1 "")] else
  if (decide (ws.getD 0 "" = "trust") && (decide (ws.length = 4) && (name2 (ws.getD 1 "") (ws.getD 2 "") && lineB (numB (ws.getD 3 ""))))) = true then .ins .trust [.str (ws.getD 1 ""), .str (ws.getD 2 ""), .int (numB (ws.getD 3 ""))] else
  if (decide (ws.getD 0 "" = "pay") && (decide (ws.length = 4) && (name2 (ws.getD 1 "") (ws.getD 2 "") && amountB (numB (ws.getD 3 ""))))) = true then .ins .pay [.str (ws.getD 1 ""), .str (ws.getD 2 ""), .int (numB (ws.getD 3 ""))] else
  if (decide (ws.getD 0 "" = "turn") && (decide (5 ≤ ws.length) && decide (ws.length ≤ 10) && (amountB (numB (ws.getD 1 "")) && allB (ws.drop 2)))) = true then .ins .turn [wl (ws.drop 2), .int (numB (ws.getD 1 ""))] else .non
theorem deed_ok (ws : List Str) (h0 : 0 < ws.length) (hs : Short ws) : m_deed_of (wl ws) = .ret (.sh (deedOf ws)) := by
  unfold m_deed_of deedOf
  rw [cond2 ws h0 hs "join", X.ifM_ok]
  split
  · rename_i h
    simp only [Bool.and_eq_true, decide_eq_true_eq] at h
    have e1 := wl_at (ws := ws) (i := 1) (by omega)
    rw [show ((1 : Nat) : Int) = 1 from rfl] at e1
    rw [X.b2_ok, e1, X.cons_ok, X.bind_ok]
    rfl
  rw [M.bind_ok, cond2 ws h0 hs "leave", X.ifM_ok]
  split
  · rename_i h
    simp only [Bool.and_eq_true, decide_eq_true_eq] at h
    have e1 := wl_at (ws := ws) (i := 1) (by omega)
    rw [show ((1 : Nat) : Int) = 1 from rfl] at e1
    rw [X.b2_ok, e1, X.cons_ok, X.bind_ok]
    rfl
  rw [M.bind_ok, cond4 ws h0 hs "trust" m_is_line lineB is_line_ok, X.ifM_ok]
  split
  · rename_i h
    simp only [Bool.and_eq_true, decide_eq_true_eq] at h
    have e1 := wl_at (ws := ws) (i := 1) (by omega)
    rw [show ((1 : Nat) : Int) = 1 from rfl] at e1
    have e2 := wl_at (ws := ws) (i := 2) (by omega)
    rw [show ((2 : Nat) : Int) = 2 from rfl] at e2
    have e3 := wl_at (ws := ws) (i := 3) (by omega)
    rw [show ((3 : Nat) : Int) = 3 from rfl] at e3
    simp only [X.b2_ok, e1, e2, e3, X.cons_ok, X.call_ok, ar1_1, number_ok _ (hs.at 3), M.fn_ret, T.toD_sh, X.bind_ok]
    rfl
  rw [M.bind_ok, cond4 ws h0 hs "pay" m_is_amount amountB is_amount_ok, X.ifM_ok]
  split
  · rename_i h
    simp only [Bool.and_eq_true, decide_eq_true_eq] at h
    have e1 := wl_at (ws := ws) (i := 1) (by omega)
    rw [show ((1 : Nat) : Int) = 1 from rfl] at e1
    have e2 := wl_at (ws := ws) (i := 2) (by omega)
    rw [show ((2 : Nat) : Int) = 2 from rfl] at e2
    have e3 := wl_at (ws := ws) (i := 3) (by omega)
    rw [show ((3 : Nat) : Int) = 3 from rfl] at e3
    simp only [X.b2_ok, e1, e2, e3, X.cons_ok, X.call_ok, ar1_1, number_ok _ (hs.at 3), M.fn_ret, T.toD_sh, X.bind_ok]
    rfl
  rw [M.bind_ok, condT ws h0 hs, X.ifM_ok]
  split
  · rename_i h
    simp only [Bool.and_eq_true, decide_eq_true_eq] at h
    have e1 := wl_at (ws := ws) (i := 1) (by omega)
    rw [show ((1 : Nat) : Int) = 1 from rfl] at e1
    have ec : dCut (wl ws) (some 2) none = .ok (wl (ws.drop 2)) := by
      show X.ok (D.lst (cut (ws.map .str) (some 2) none)) = _
      rw [cut2 _ (by rw [List.length_map]; omega), ← List.map_drop]
    simp only [X.bind_ok, dPart_i, X.cut_ok, ec, X.b2_ok, e1, X.cons_ok, X.call_ok, ar1_1, number_ok _ (hs.at 1), M.fn_ret, T.toD_sh]
    rfl
  rfl
abbrev blank : Str := " "
theorem split_ne (x : Str) : 0 < (Txt.split x blank).length := PyProof.Rows.split_pos x blank
theorem split_weight (x : Str) : ((Txt.split x blank).map (·.length)).sum + (Txt.split x blank).length ≤ x.length + 1 := PyProof.Rows.split_weight x blank (by decide)
theorem sum_ge : ∀ {l : List Nat} {n : Nat}, n ∈ l → n ≤ l.sum
  | a :: l, n, h => by
    rw [List.sum_cons]
    rcases List.mem_cons.mp h with z | z
    · omega
    · have := sum_ge z; omega
theorem split_short {x : Str} (h : x.length ≤ 900000) : Short (Txt.split x blank) := fun w hw => by
  have a := split_weight x
  have b := sum_ge (List.mem_map_of_mem (f := (·.length)) hw)
  have b' : w.length ≤ ((Txt.split x blank).map (·.length)).sum := b
  omega
def isNon : D → Bool
  | .non => true
  | _ => false
theorem isNon_eq (d : D) : dIsN d = .bl (isNon d) := by cases d <;> rfl
theorem read_ok (x : Str) (h : x.length ≤ 900000) : m_read (.str x) = if isNon (deedOf (Txt.split x blank)) = true then .exc .noRow else .ret (.sh (deedOf (Txt.split x blank))) := by
  unfold m_read
  have es : dSplL (.str x) [.str blank] = .ok ((Txt.split x blank).map .str) := by
    show (if ((blank : Str).length == 0) = false ∧ x.length ≤ 1000000 then X.ok ((Txt.split x blank).map D.str) else .bad) = _
    rw [if_pos ⟨by decide, by omega⟩]
  have e1 : dSplS (.str x) = .ok (.str x) := Eq.trans rfl rfl
  rw [show (D.str " ") = .str blank from rfl]
  simp only [X.bind_ok, dIs_str, X.tst_bl, X.not_ok, e1, X.cons_ok, X.b2_ok, es]
  rw [show (!(Ty.str == Ty.str)) = false from rfl, X.ifM_f, M.bind_ok]
  have el : X.lst (.ok ((Txt.split x blank).map .str)) = .ok (wl (Txt.split x blank)) := Eq.trans rfl rfl
  rw [el, X.cons_ok, X.call_ok, ar1_1, deed_ok _ (split_ne x) (split_short h), M.fn_ret, T.toD_sh, X.to_ok, X.isN_ok, isNon_eq, X.tst_bl, X.ifM_ok]
  cases isNon (deedOf (Txt.split x blank)) <;> rfl
end Py

namespace Py
open PySem L2 Wk
/-! ### numbers written and read -/
theorem sI_tl (n : Nat) : TL.tl (sI (n : Int)) = TL.numL n := TL.tl_num n
theorem toNat_ofNat : ∀ c : Nat, 48 ≤ c ∧ c ≤ 57 → (Char.ofNat c).toNat = c := by
  intro c h
  have : c = 48 ∨ c = 49 ∨ c = 50 ∨ c = 51 ∨ c = 52 ∨ c = 53 ∨ c = 54 ∨ c = 55 ∨ c = 56 ∨ c = 57 := by omega
  rcases this with rfl | rfl | rfl | rfl | rfl | rfl | rfl | rfl | rfl | rfl <;> rfl
theorem map_back : ∀ {cs : List Nat}, NumText.AllDigits cs → (cs.map Char.ofNat).map Char.toNat = cs
  | [], _ => rfl
  | c :: cs, h => by
    rw [List.map_cons, List.map_cons, toNat_ofNat c h.head, map_back h.tail]
theorem figB_parts {s : Str} (h : figB s = true) : 1 ≤ s.length ∧ s.length ≤ 60 ∧ headZ s = false ∧ s.cps.toList.all isFig = true := by
  unfold figB at h
  simp only [Bool.and_eq_true, decide_eq_true_eq, Bool.not_eq_true'] at h
  exact ⟨h.1.1.1, h.1.1.2, h.1.2, h.2⟩
theorem sI_num {s : Str} (h : figB s = true) : sI (numB s) = s := by
  obtain ⟨h1, h2, h3, h4⟩ := figB_parts h
  have e : numB s = ((NumText.digitsVal s.cps.toList : Nat) : Int) := by unfold numB; rw [if_pos h]
  rw [e]
  refine TL.ext_tl ?_
  rw [sI_tl]
  have hd := fig_digits h4
  have hl : s.cps.toList.length = (s.length - 1) + 1 := by
    have : s.length = s.cps.toList.length := by simp [Str.length]
    omega
  unfold TL.numL
  rw [NumText.toDigits_digitsVal (s.length - 1) s.cps.toList hl hd ?_]
  · exact map_back hd
  · by_cases z : s.length - 1 = 0
    · exact .inl z
    · refine .inr ?_
      cases e : s.cps.toList with
      | nil => rw [e] at hl; simp at hl
      | cons c r =>
        refine ⟨c, r, rfl, ?_⟩
        rw [e] at hd
        have hc := hd.head
        unfold headZ at h3
        rw [e] at h3
        simp at h3
        have : ¬ c = 48 := fun z2 => by have := h3 z2; omega
        omega
theorem drop_le (p : Nat → Bool) : ∀ l : List Nat, (l.dropWhile p).length ≤ l.length
  | [] => Nat.le_refl _
  | c :: r => by
    rw [List.dropWhile_cons]
    split
    · exact Nat.le_trans (drop_le p r) (by simp)
    · exact Nat.le_refl _
theorem num_head (n : Nat) : ¬ ((TL.numL n).head? = some 48 ∧ 1 < (TL.numL n).length) := fun ⟨h, hl⟩ => by
  have hd := TL.numL_digits n
  have hv := TL.numL_val n
  have e := h
  cases q : TL.numL n with
  | nil => rw [q] at h; cases h
  | cons c r =>
    rw [q] at h hl hd hv
    have hc : c = 48 := by simpa using h
    subst hc
    have hr : NumText.digitsVal r = n := hv
    have ha := NumText.toDigits_all r hd.tail
    rw [hr] at ha
    have hlen : (TL.numL n).length = (Nat.toDigits 10 n).length := by unfold TL.numL; rw [List.length_map]
    have hle := drop_le (· == 48) r
    rw [q, ha] at hlen
    cases q2 : r.dropWhile (· == 48) with
    | nil =>
      rw [q2] at hlen
      simp at hlen hl
      rw [hlen] at hl
      simp at hl
    | cons c2 r2 =>
      rw [q2] at hlen hle
      simp at hlen hle
      omega
theorem num_fig {n : Nat} (h : n < 10 ^ 60) : figB (sI (n : Int)) = true := by
  have ht : (sI (n : Int)).cps.toList = TL.numL n := sI_tl n
  have hl : (sI (n : Int)).length = (TL.numL n).length := by rw [TL.len_tl, sI_tl]
  have h1 := TL.numL_ne n
  have h2 := TL.numL_len (by decide) h
  have h3 : 1 ≤ (TL.numL n).length := by
    cases q : TL.numL n with
    | nil => exact absurd q h1
    | cons c r => simp
  have h4 := num_head n
  unfold figB headZ
  rw [ht, hl, decide_eq_true h3, decide_eq_true h2]
  have h5 : (TL.numL n).all isFig = true := List.all_eq_true.mpr fun c hc => isFig_iff.mpr (TL.numL_digits n c hc)
  rw [h5]
  by_cases a : (TL.numL n).head? = some 48
  · have b : ¬ 1 < (TL.numL n).length := fun b => h4 ⟨a, b⟩
    rw [decide_eq_true a, decide_eq_false b]; rfl
  · rw [decide_eq_false a]; rfl
theorem num_back {i : Int} (h0 : 0 ≤ i) (h : i < 10 ^ 60) : numB (sI i) = i := by
  obtain ⟨n, rfl⟩ := Int.eq_ofNat_of_zero_le h0
  have hn : n < 10 ^ 60 := by
    have e : ((10 : Int) ^ 60) = ((10 ^ 60 : Nat) : Int) := by decide +kernel
    rw [e] at h
    exact Int.ofNat_lt.mp h
  show numB (sI (n : Int)) = (n : Int)
  unfold numB
  rw [if_pos (num_fig hn), show (sI (n : Int)).cps.toList = TL.numL n from sI_tl n, TL.numL_val]
theorem sI_len {i : Int} (h0 : 0 ≤ i) (h : i < 10 ^ 60) : (sI i).length ≤ 60 := by
  obtain ⟨n, rfl⟩ := Int.eq_ofNat_of_zero_le h0
  have hn : n < 10 ^ 60 := by
    have e : ((10 : Int) ^ 60) = ((10 ^ 60 : Nat) : Int) := by decide +kernel
    rw [e] at h
    exact Int.ofNat_lt.mp h
  show (sI (n : Int)).length ≤ 60
  rw [TL.len_tl, sI_tl]
  exact TL.numL_len (by decide) hn
theorem sI_free {i : Int} (h0 : 0 ≤ i) : 32 ∉ TL.tl (sI i) := by
  obtain ⟨n, rfl⟩ := Int.eq_ofNat_of_zero_le h0
  show 32 ∉ TL.tl (sI (n : Int))
  rw [sI_tl]
  exact TL.numL_free (by omega)
theorem log_ok {i : Int} (h0 : 0 ≤ i) (h : i < 10 ^ 60) : i.natAbs.log2 < 1920 := by
  by_cases z : i.natAbs = 0
  · rw [z]; decide
  · refine (Nat.log2_lt z).mpr ?_
    have e : ((10 : Int) ^ 60) = ((10 ^ 60 : Nat) : Int) := by decide +kernel
    rw [e] at h
    have : i.natAbs < 10 ^ 60 := by omega
    refine Nat.lt_trans this ?_
    refine Nat.lt_of_lt_of_le (show 10 ^ 60 < 2 ^ 200 by decide +kernel) (Nat.pow_le_pow_right (by decide) (by decide))
theorem str_ok {i : Int} (h0 : 0 ≤ i) (h : i < 10 ^ 60) : dStrI [.int i] = .ok (.str (sI i)) := by
  show (if i.natAbs.log2 < 1920 then X.ok (D.str (sI i)) else .bad) = _
  rw [if_pos (log_ok h0 h)]
theorem name_free {s : Str} (h : nameB s = true) : 32 ∉ TL.tl s := fun hm => by
  unfold nameB at h
  simp only [Bool.and_eq_true, decide_eq_true_eq] at h
  have q := List.all_eq_true.mp h.2 32 hm
  exact absurd q (by decide +kernel)
theorem name_len {s : Str} (h : nameB s = true) : 1 ≤ s.length ∧ s.length ≤ 8 := by
  unfold nameB at h
  simp only [Bool.and_eq_true, decide_eq_true_eq] at h
  exact h.1

/-! ### rows -/
theorem join_two (a b : Str) : Txt.join blank [a, b] = a ++ blank ++ b := by rw [TL.join_eq]; rfl
theorem join_cons (a b : Str) (r : List Str) : Txt.join blank (a :: b :: r) = a ++ blank ++ Txt.join blank (b :: r) := by rw [TL.join_eq, TL.join_eq]; rfl
theorem app_assoc (a b c : Str) : a ++ b ++ c = a ++ (b ++ c) := TL.ext_tl (by rw [TL.tl_append, TL.tl_append, TL.tl_append, TL.tl_append, List.append_assoc])
theorem split_back {ws : List Str} (hne : ws ≠ []) (hf : ∀ w ∈ ws, 32 ∉ TL.tl w) : Txt.split (Txt.join blank ws) blank = ws :=
  TL.split_join (s := 32) (S := []) (by decide +kernel) (by decide +kernel) hne hf
theorem join_back (x : Str) : Txt.join blank (Txt.split x blank) = x := by rw [TL.join_eq]; exact StrLaws.join_split x blank
/-- d.row(), whichever class d is of -/
def ROW (e : X D) : X D := X.alt (X.bind e (mM m_Deed_row .deed)) (X.alt (X.bind e (mM m_Join_row .join)) (X.alt (X.bind e (mM m_Leave_row .leave)) (X.alt (X.bind e (mM m_Trust_row .trust)) (X.alt (X.bind e (mM m_Pay_row .pay)) (X.bind e (mM m_Turn_row .turn))))))
theorem row_deed : ROW (.ok (.ins .deed [])) = .ok (.str "") := by
  unfold ROW
  rw [X.bind_ok]
  show X.alt (match m_Deed_row (.ins .deed []) with | .ret t => X.ok t.toD | _ => .bad) _ = _
  have e : m_Deed_row (.ins .deed []) = .ret (.sh (.str "")) := rfl
  rw [e]
  dsimp only
  rw [T.toD_sh]
  rfl
theorem row_join (h : Str) (hl : h.length ≤ 1000) : ROW (.ok (.ins .join [.str h])) = .ok (.str (Txt.join blank ["join", h])) := by
  have e : m_Join_row (.ins .join [.str h]) = .ret (.sh (.str ("join " ++ h))) := by
    unfold m_Join_row
    have f : dFld [.join, .leave] "house" (.ins .join [.str h]) = .ok (.str h) := rfl
    rw [X.bind_ok, f, X.b2_ok, dAdd_s _ _ (by show 5 + _ ≤ _; omega), X.retM_ok]
  have e2 : mM m_Join_row .join (.ins .join [.str h]) = .ok (.str ("join " ++ h)) := by
    show (match m_Join_row (.ins .join [.str h]) with | .ret t => X.ok t.toD | _ => .bad) = _
    rw [e]; dsimp only; rw [T.toD_sh]
  unfold ROW
  simp only [X.bind_ok]
  rw [e2, join_two]
  rfl
theorem row_leave (h : Str) (hl : h.length ≤ 1000) : ROW (.ok (.ins .leave [.str h])) = .ok (.str (Txt.join blank ["leave", h])) := by
  have e : m_Leave_row (.ins .leave [.str h]) = .ret (.sh (.str ("leave " ++ h))) := by
    unfold m_Leave_row
    have f : dFld [.join, .leave] "house" (.ins .leave [.str h]) = .ok (.str h) := rfl
    rw [X.bind_ok, f, X.b2_ok, dAdd_s _ _ (by show 6 + _ ≤ _; omega), X.retM_ok]
  have e2 : mM m_Leave_row .leave (.ins .leave [.str h]) = .ok (.str ("leave " ++ h)) := by
    show (match m_Leave_row (.ins .leave [.str h]) with | .ret t => X.ok t.toD | _ => .bad) = _
    rw [e]; dsimp only; rw [T.toD_sh]
  unfold ROW
  simp only [X.bind_ok]
  rw [e2, join_two]
  rfl
theorem join4 (k a b c : Str) : Txt.join blank [k, a, b, c] = k ++ blank ++ a ++ blank ++ b ++ blank ++ c := by
  rw [join_cons, join_cons, join_two]
  simp only [app_assoc]
theorem row_trust (a b : Str) (i : Int) (ha : a.length ≤ 1000) (hb : b.length ≤ 1000) (h0 : 0 ≤ i) (hi : i < 10 ^ 60) : ROW (.ok (.ins .trust [.str a, .str b, .int i])) = .ok (.str (Txt.join blank ["trust", a, b, sI i])) := by
  have hs := sI_len h0 hi
  have e : m_Trust_row (.ins .trust [.str a, .str b, .int i]) = .ret (.sh (.str ("trust " ++ a ++ blank ++ b ++ blank ++ sI i))) := by
    unfold m_Trust_row
    have f1 : dFld [.trust] "one" (.ins .trust [.str a, .str b, .int i]) = .ok (.str a) := rfl
    have f2 : dFld [.trust] "other" (.ins .trust [.str a, .str b, .int i]) = .ok (.str b) := rfl
    have f3 : dFld [.trust] "line" (.ins .trust [.str a, .str b, .int i]) = .ok (.int i) := rfl
    have l1 : (("trust " : Str)).length = 6 := rfl
    have l2 : (blank : Str).length = 1 := rfl
    rw [show (D.str " ") = .str blank from rfl]
    simp only [X.bind_ok, f1, f2, f3, X.cons_ok, str_ok h0 hi, X.b2_ok]
    rw [dAdd_s _ _ (by omega), X.b2_ok, dAdd_s _ _ (by rw [strAdd_len]; omega), X.b2_ok, dAdd_s _ _ (by rw [strAdd_len, strAdd_len]; omega), X.b2_ok, dAdd_s _ _ (by rw [strAdd_len, strAdd_len, strAdd_len]; omega), X.b2_ok,
      dAdd_s _ _ (by rw [strAdd_len, strAdd_len, strAdd_len, strAdd_len]; omega), X.retM_ok]
  have e2 : mM m_Trust_row .trust (.ins .trust [.str a, .str b, .int i]) = .ok (.str ("trust " ++ a ++ blank ++ b ++ blank ++ sI i)) := by
    show (match m_Trust_row (.ins .trust [.str a, .str b, .int i]) with | .ret t => X.ok t.toD | _ => .bad) = _
    rw [e]; dsimp only; rw [T.toD_sh]
  unfold ROW
  simp only [X.bind_ok]
  rw [e2, join4]
  rfl
theorem row_pay (a b : Str) (i : Int) (ha : a.length ≤ 1000) (hb : b.length ≤ 1000) (h0 : 0 ≤ i) (hi : i < 10 ^ 60) : ROW (.ok (.ins .pay [.str a, .str b, .int i])) = .ok (.str (Txt.join blank ["pay", a, b, sI i])) := by
  have hs := sI_len h0 hi
  have e : m_Pay_row (.ins .pay [.str a, .str b, .int i]) = .ret (.sh (.str ("pay " ++ a ++ blank ++ b ++ blank ++ sI i))) := by
    unfold m_Pay_row
    have f1 : dFld [.pay] "payer" (.ins .pay [.str a, .str b, .int i]) = .ok (.str a) := rfl
    have f2 : dFld [.pay] "taker" (.ins .pay [.str a, .str b, .int i]) = .ok (.str b) := rfl
    have f3 : dFld [.pay, .turn] "amount" (.ins .pay [.str a, .str b, .int i]) = .ok (.int i) := rfl
    have l1 : (("pay " : Str)).length = 4 := rfl
    have l2 : (blank : Str).length = 1 := rfl
    rw [show (D.str " ") = .str blank from rfl]
    simp only [X.bind_ok, f1, f2, f3, X.cons_ok, str_ok h0 hi, X.b2_ok]
    rw [dAdd_s _ _ (by omega), X.b2_ok, dAdd_s _ _ (by rw [strAdd_len]; omega), X.b2_ok, dAdd_s _ _ (by rw [strAdd_len, strAdd_len]; omega), X.b2_ok, dAdd_s _ _ (by rw [strAdd_len, strAdd_len, strAdd_len]; omega), X.b2_ok,
      dAdd_s _ _ (by rw [strAdd_len, strAdd_len, strAdd_len, strAdd_len]; omega), X.retM_ok]
  have e2 : mM m_Pay_row .pay (.ins .pay [.str a, .str b, .int i]) = .ok (.str ("pay " ++ a ++ blank ++ b ++ blank ++ sI i)) := by
    show (match m_Pay_row (.ins .pay [.str a, .str b, .int i]) with | .ret t => X.ok t.toD | _ => .bad) = _
    rw [e]; dsimp only; rw [T.toD_sh]
  unfold ROW
  simp only [X.bind_ok]
  rw [e2, join4]
  rfl
theorem join_len : ∀ ws : List Str, (Txt.join blank ws).length ≤ (ws.map (·.length)).sum + ws.length
  | [] => by rw [TL.join_eq]; exact Nat.zero_le _
  | [a] => by rw [TL.join_eq]; show a.length ≤ a.length + 0 + 1; omega
  | a :: b :: r => by
    have ih := join_len (b :: r)
    rw [join_cons, strAdd_len, strAdd_len]
    have : (blank : Str).length = 1 := rfl
    simp only [List.map_cons, List.sum_cons, List.length_cons] at ih ⊢
    omega
theorem dJoin_ok (ws : List Str) (h : (ws.map (·.length)).sum + ws.length ≤ 1000000) : dJoin (.str blank) [wl ws] = .ok (.str (Txt.join blank ws)) := by
  show (match strsOf (ws.map .str) with | some ys => if (ys.map fun (z : Str) => z.length).sum + ys.length * (blank : Str).length ≤ 1000000 then X.ok (D.str (Txt.join blank ys)) else .bad | none => .bad) = _
  rw [strsOf_map]
  dsimp only
  rw [if_pos (by rw [show (blank : Str).length = 1 from rfl, Nat.mul_one]; exact h)]
theorem row_turn (ring : List Str) (hr : ring ≠ []) (i : Int) (h : (ring.map (·.length)).sum + ring.length ≤ 1000) (h0 : 0 ≤ i) (hi : i < 10 ^ 60) : ROW (.ok (.ins .turn [wl ring, .int i])) = .ok (.str (Txt.join blank ("turn" :: sI i :: ring))) := by
  have hs := sI_len h0 hi
  have hj := join_len ring
  have e : m_Turn_row (.ins .turn [wl ring, .int i]) = .ret (.sh (.str ("turn " ++ sI i ++ blank ++ Txt.join blank ring))) := by
    unfold m_Turn_row
    have f1 : dFld [.turn] "ring" (.ins .turn [wl ring, .int i]) = .ok (wl ring) := rfl
    have f3 : dFld [.pay, .turn] "amount" (.ins .turn [wl ring, .int i]) = .ok (.int i) := rfl
    have l1 : (("turn " : Str)).length = 5 := rfl
    have l2 : (blank : Str).length = 1 := rfl
    have l3 : dStrOne (.str blank) = .ok (.str blank) := Eq.trans rfl rfl
    rw [show (D.str " ") = .str blank from rfl]
    simp only [X.bind_ok, f1, f3, X.cons_ok, str_ok h0 hi, X.b2_ok, l3, dJoin_ok ring (by omega)]
    rw [dAdd_s _ _ (by omega), X.b2_ok, dAdd_s _ _ (by rw [strAdd_len]; omega), X.b2_ok, dAdd_s _ _ (by rw [strAdd_len, strAdd_len]; omega), X.retM_ok]
  have e2 : mM m_Turn_row .turn (.ins .turn [wl ring, .int i]) = .ok (.str ("turn " ++ sI i ++ blank ++ Txt.join blank ring)) := by
    show (match m_Turn_row (.ins .turn [wl ring, .int i]) with | .ret t => X.ok t.toD | _ => .bad) = _
    rw [e]; dsimp only; rw [T.toD_sh]
  have ej : Txt.join blank ("turn" :: sI i :: ring) = "turn " ++ sI i ++ blank ++ Txt.join blank ring := by
    cases ring with
    | nil => exact absurd rfl hr
    | cons b r =>
      rw [join_cons, join_cons]
      simp only [app_assoc]
      rw [← app_assoc "turn"]
      rfl
  unfold ROW
  simp only [X.bind_ok]
  rw [e2, ej]
  rfl
end Py

namespace Py
open PySem L2 Wk
/-! ### what the laws make: names, numbers, rings -/
def allAbc (s : Str) : Bool := s.cps.toList.all inAbc
theorem nameB_of {s : Str} (h1 : 1 ≤ s.length) (h2 : s.length ≤ 8) (h3 : allAbc s = true) : nameB s = true := by
  unfold nameB
  rw [decide_eq_true h1, decide_eq_true h2]
  exact h3
theorem nameB_abc {s : Str} (h : nameB s = true) : allAbc s = true := by
  unfold nameB at h
  simp only [Bool.and_eq_true] at h
  exact h.2
theorem abc_app {x y : Str} (h1 : allAbc x = true) (h2 : allAbc y = true) : allAbc (x ++ y) = true := by
  show ((x ++ y).cps.toList).all inAbc = true
  rw [show (x ++ y).cps.toList = x.cps.toList ++ y.cps.toList from TL.tl_append x y, List.all_append, Bool.and_eq_true]
  exact ⟨h1, h2⟩
theorem abc_letter {i : Nat} (h : i < 26) : allAbc ⟨#[letter i]⟩ = true := by
  show ([letter i]).all inAbc = true
  rw [List.all_cons, letter_in h]
  rfl
theorem name_turn {n : Int} {x : Str} {i : Nat} (hn : 0 ≤ n) (hn2 : n < 2147483647) (hx : x.length = i) (ha : allAbc x = true) (hi : i < 8) :
    ∃ (m : Int) (y : Str), m_law_name_b1 (.int n, .str x) (.int i) = .ok (.int m, .str y) ∧ 0 ≤ m ∧ m < 2147483647 ∧ y.length = i + 1 ∧ allAbc y = true := by
  unfold m_law_name_b1
  dsimp only
  simp only [X.b2_ok]
  rw [dMul_s' n n (by omega), dMul_s' 48271 n (by decide)]
  simp only [X.b2_ok, dAdd_i]
  rw [dMod_p _ _ (by decide)]
  rw [X.to_ok]
  have h0 : 0 ≤ (n * n + 48271 * n + (i : Int) + 7) % 2147483647 := by omega
  have h1 : (n * n + 48271 * n + (i : Int) + 7) % 2147483647 < 2147483647 := by omega
  generalize (n * n + 48271 * n + (i : Int) + 7) % 2147483647 = m at *
  rw [dDiv_p _ _ (by decide) (by decide), X.b2_ok, dMod_p _ _ (by decide), X.b2_ok, show (D.str "abcdefghijklmnopqrstuvwxyz") = .str abc from rfl, at_abc (i := m / 64 % 26) (by omega) (by omega), X.b2_ok, dAdd_s _ _ (by show x.length + 1 ≤ _; omega), X.to_ok]
  refine ⟨m, _, rfl, h0, h1, by rw [strAdd_len, hx]; rfl, abc_app ha (abc_letter (by omega))⟩
theorem name_ok (c : Int) : ∃ s, m_law_name (.int c) = .ret (.sh (.str s)) ∧ nameB s = true := by
  unfold m_law_name
  simp only [X.cons_ok, X.bind_ok]
  rw [dLst_p _ (by decide), X.to_ok, X.b2_ok, dMod_p _ _ (by decide), X.b2_ok, dEq_d, eqB_ii, X.bind_ok, X.tst_bl]
  cases hb : (c % 5 == 1) with
  | true =>
    rw [X.ifM_t, X.b2_ok, dDiv_p _ _ (by decide) (by decide), X.b2_ok, dMod_p _ _ (by decide), X.b2_ok]
    obtain ⟨g, hg, eg⟩ := dIx_mem (xs := [.str "join", .str "trust", .str "pay", .str "turn", .str "leave", .str "owes", .str "room", .str "stands", .str "most", .str "high", .str "low", .str "bar", .str "houses"]) (i := c / 5 % 13) (by omega) (by show _ < (13 : Int); omega)
    rw [eg, X.retM_ok, M.bind_ret]
    simp only [List.mem_cons, List.not_mem_nil, or_false] at hg
    rcases hg with rfl | rfl | rfl | rfl | rfl | rfl | rfl | rfl | rfl | rfl | rfl | rfl | rfl <;> exact ⟨_, rfl, by decide +kernel⟩
  | false =>
    rw [X.ifM_f, M.bind_ok, X.b2_ok, dMod_p _ _ (by decide), X.to_ok, X.to_ok]
    have h0 : 0 ≤ c % 2147483647 := by omega
    have h1 : c % 2147483647 < 2147483647 := by omega
    generalize c % 2147483647 = n at *
    rw [X.b2_ok, dDiv_p _ _ (by decide) (by decide), X.b2_ok, dMod_p _ _ (by decide), X.b2_ok, dAdd_i, X.cons_ok, X.bind_ok]
    have hk : (1 + n / 5 % 8).toNat ≤ 8 := by omega
    have hk1 : 1 ≤ (1 + n / 5 % 8).toNat := by omega
    rw [show (1 + n / 5 % 8 : Int) = (((1 + n / 5 % 8).toNat : Nat) : Int) by omega]
    generalize (1 + n / 5 % 8).toNat = k at *
    rw [rng1_n k (by omega), forX_some]
    obtain ⟨s', e3, m, x, e4, h3, h4, e5, e6⟩ := forM_inv (xs := rng 0 1 k) (f := m_law_name_b1) (I := fun i s => ∃ (m : Int) (x : Str), s = (.int m, .str x) ∧ 0 ≤ m ∧ m < 2147483647 ∧ x.length = i ∧ allAbc x = true) (s := (D.int n, D.str "")) (fun i s d hd hI => by
      obtain ⟨m, x, rfl, h3, h4, hx, ha⟩ := hI
      have hi : i < k := by
        have := (List.getElem?_eq_some_iff.mp hd).1
        rw [rng_length] at this; exact this
      rw [rng01_get hi] at hd
      cases hd
      obtain ⟨m', y, e, a, b, c, d⟩ := name_turn h3 h4 hx ha (by omega)
      exact ⟨_, e, m', y, rfl, a, b, c, d⟩) ⟨n, "", rfl, h0, h1, rfl, rfl⟩
    rw [e3, M.bind_ok]
    rw [rng_length] at e5
    subst e4
    exact ⟨x, rfl, nameB_of (by omega) (by omega) e6⟩
/-- another first sign -/
theorem head_cut {s : Str} (h : 1 ≤ s.length) : ∃ c r, s.cps.toList = c :: r ∧ dIx (.str s) (.int 0) = (if s.length ≤ 1000000 then .ok (.str ⟨#[c]⟩) else .bad) ∧ TL.tl (cutS s (some 1) none) = r := by
  obtain ⟨c, r, ecr⟩ : ∃ c r, s.cps.toList = c :: r := by
    cases e : s.cps.toList with
    | nil =>
      have : s.length = s.cps.toList.length := by simp [Str.length]
      rw [e] at this
      simp at this
      omega
    | cons c r => exact ⟨c, r, rfl⟩
  refine ⟨c, r, ecr, ?_, ?_⟩
  · by_cases hl : s.length ≤ 1000000
    · rw [if_pos hl]
      exact dIx_str (k := 0) (by rw [ecr]; rfl) hl
    · rw [if_neg hl]
      show (if s.length ≤ 1000000 then _ else X.bad) = _
      rw [if_neg hl]
  · have hl : s.length = r.length + 1 := by
      have : s.length = s.cps.toList.length := by simp [Str.length]
      rw [this, ecr]; rfl
    show ((s.cps.toList.drop (HT.sIx s.length 0 (some ((1 : Nat) : Int)))).take (HT.sIx s.length s.length none - HT.sIx s.length 0 (some ((1 : Nat) : Int)))) = r
    rw [HT.sIx_nat, HT.sIx_none, ecr, show min 1 s.length = 1 by omega]
    show r.take (s.length - 1) = r
    exact List.take_of_length_le (by omega)
theorem tl_len (s : Str) : s.length = (TL.tl s).length := TL.len_tl s
/-- one whose first sign is another -/
theorem other_name {s : Str} (h : nameB s = true) {c r} (e : s.cps.toList = c :: r) (k : Nat) (hk : inAbc k = true) (hne : k ≠ c) : nameB ((⟨#[k]⟩ : Str) ++ cutS s (some 1) none) = true ∧ s ≠ (⟨#[k]⟩ : Str) ++ cutS s (some 1) none := by
  obtain ⟨c', r', e', _, et⟩ := head_cut (s := s) (name_len h).1
  rw [e] at e'
  cases e'
  have ht : TL.tl ((⟨#[k]⟩ : Str) ++ cutS s (some 1) none) = k :: r := by rw [TL.tl_append, et]; rfl
  have hl : s.length = r.length + 1 := by rw [tl_len]; show s.cps.toList.length = _; rw [e]; rfl
  have hl2 : ((⟨#[k]⟩ : Str) ++ cutS s (some 1) none).length = r.length + 1 := by rw [tl_len, ht]; rfl
  have b := name_len h
  refine ⟨nameB_of (by omega) (by omega) ?_, fun z => ?_⟩
  · show (TL.tl _).all inAbc = true
    rw [ht, List.all_cons, hk]
    have q := nameB_abc h
    unfold allAbc at q
    rw [e, List.all_cons, Bool.and_eq_true] at q
    rw [q.2]; rfl
  · have q : TL.tl s = k :: r := by rw [z]; exact ht
    rw [show TL.tl s = c :: r from e] at q
    exact hne (by injection q with q1 _; exact q1.symm)
theorem dTup2 (a b : D) : dTup [a, b] = .ok (.tup [a, b]) := Eq.trans rfl rfl
theorem dTup1 (a : D) : dTup [a] = .ok (.tup [a]) := Eq.trans rfl rfl
theorem dTup3 (a b c : D) : dTup [a, b, c] = .ok (.tup [a, b, c]) := Eq.trans rfl rfl
theorem two_names (c : Int) : ∃ a b, m_law_two (.int c) = .ret (.sh (.tup [.str a, .str b])) ∧ nameB a = true ∧ nameB b = true ∧ a ≠ b := by
  obtain ⟨a, ea, ha⟩ := name_ok c
  obtain ⟨b, eb, hb⟩ := name_ok (c / 5 + 3)
  unfold m_law_two
  have d5 : dDiv (.int c) (.int 5) = .ok (.int (c / 5)) := dDiv_p _ _ (by decide) (by decide)
  simp only [X.cons_ok, X.call_ok, ar1_1, ea, M.fn_ret, T.toD_sh, X.to_ok, X.b2_ok, d5, dAdd_i, eb, dEq_d, eqB_ss, X.bind_ok, X.tst_bl]
  by_cases hab : a = b
  · subst hab
    rw [decide_eq_true rfl, X.and_t, X.ifM_t]
    obtain ⟨c0, r, e0, e1, e2⟩ := head_cut (s := a) (name_len ha).1
    have l8 := name_len ha
    rw [if_pos (by omega)] at e1
    rw [e1, X.b2_ok, dEq_d, eqB_ss, X.bind_ok, X.tst_bl, show ((("a" : Str))) = ⟨#[97]⟩ from rfl, str_one]
    have lc : (cutS a (some 1) none).length ≤ a.length := cutS_length a (some 1) none
    have hc : dCut (.str a) (some 1) none = .ok (.str (cutS a (some 1) none)) := dCut_str _ _ _ (by omega)
    simp only [dPart_i, X.cut_ok, hc, X.b2_ok]
    by_cases h97 : c0 = 97
    · rw [decide_eq_true h97, X.ifM_t, show ((("b" : Str))) = ⟨#[98]⟩ from rfl, dAdd_s _ _ (by show 1 + _ ≤ _; omega), X.to_ok, M.bind_ok, dTup2]
      obtain ⟨q1, q2⟩ := other_name ha e0 98 (by decide +kernel) (by omega)
      exact ⟨a, _, rfl, ha, q1, q2⟩
    · rw [decide_eq_false h97, X.ifM_f, dAdd_s _ _ (by show 1 + _ ≤ _; omega), X.to_ok, M.bind_ok, dTup2]
      obtain ⟨q1, q2⟩ := other_name ha e0 97 (by decide +kernel) (by omega)
      exact ⟨a, _, rfl, ha, q1, q2⟩
  · rw [decide_eq_false hab, X.and_f, X.ifM_f, X.ifM_f, M.bind_ok, dTup2]
    exact ⟨a, b, rfl, ha, hb, hab⟩
theorem number_made (c top : Int) (ht : 9 ≤ top) (hl : (top + 1).natAbs < 2 ^ 1000) : ∃ v, m_law_number (.int c) (.int top) = .ret (.sh (.int v)) ∧ 0 ≤ v ∧ v ≤ top := by
  unfold m_law_number
  have d4 : dDiv (.int c) (.int 4) = .ok (.int (c / 4)) := dDiv_p _ _ (by decide) (by decide)
  have m4 : dMod (.int c) (.int 4) = .ok (.int (c % 4)) := dMod_p _ _ (by decide)
  have m9 : dMod (.int (c / 4)) (.int 9) = .ok (.int (c / 4 % 9)) := dMod_p _ _ (by decide)
  have mt : dMod (.int (c / 4)) (.int (top + 1)) = .ok (.int (c / 4 % (top + 1))) := dMod_p _ _ (by omega)
  simp only [X.b2_ok, d4, m4, m9, dAdd_i, mt, dSub_i, dEq_d, eqB_ii, X.bind_ok, X.tst_bl]
  cases h0 : (c % 4 == 0) with
  | true => exact ⟨c / 4 % 9, rfl, by omega, by omega⟩
  | false =>
    rw [X.ifM_f, M.bind_ok]
    cases h1 : (c % 4 == 1) with
    | true => exact ⟨top - c / 4 % 9, rfl, by omega, by omega⟩
    | false =>
      have a := Int.emod_nonneg (c / 4) (show top + 1 ≠ 0 by omega)
      have b := Int.emod_lt_of_pos (c / 4) (show 0 < top + 1 by omega)
      exact ⟨c / 4 % (top + 1), rfl, a, by omega⟩

/-! rings -/
theorem letter_inj : ∀ i : Nat, i < 26 → ∀ j : Nat, j < 26 → letter i = letter j → i = j := by decide +kernel
theorem str_inj {c d : Nat} (h : (⟨#[c]⟩ : Str) = ⟨#[d]⟩) : c = d := by injection h with h; simpa using h
theorem mid_inj {f b : Str} {c d : Nat} (h : f ++ (⟨#[c]⟩ : Str) ++ b = f ++ (⟨#[d]⟩ : Str) ++ b) : c = d := by
  have e := congrArg TL.tl h
  rw [TL.tl_append, TL.tl_append, TL.tl_append, TL.tl_append] at e
  have e2 := List.append_cancel_left (List.append_cancel_right e)
  exact List.head_eq_of_cons_eq e2
theorem mapX_ok {f : D → X D} {g : D → D} : ∀ {xs : List D}, (∀ x ∈ xs, f x = .ok (g x)) → mapX f xs = .ok (xs.map g)
  | [], _ => by unfold mapX; rfl
  | x :: xs, h => by
    unfold mapX
    rw [h x List.mem_cons_self, mapX_ok fun y hy => h y (List.mem_cons_of_mem _ hy)]
    rfl
theorem lc_ok {mi : X (List D)} {xs : List D} {f : D → X D} {g : D → D} (hm : mi = .ok xs) (hl : xs.length ≤ 1000000) (h : ∀ x ∈ xs, f x = .ok (g x)) : X.lc mi f = .ok (xs.map g) := by
  unfold X.lc
  rw [hm, X.bind_ok, if_pos hl, mapX_ok h]
theorem rng_map : ∀ (n : Nat) (a : Nat), rng (a : Int) 1 n = (List.range' a n).map fun k => D.int (k : Nat)
  | 0, a => rfl
  | n + 1, a => by
    show D.int (a : Nat) :: rng ((a : Int) + 1) 1 n = _
    rw [List.range'_succ, List.map_cons, show ((a : Int) + 1) = ((a + 1 : Nat) : Int) by omega, rng_map n (a + 1)]
theorem cut_words (ws : List Str) (lo hi : Option Int) : cut (ws.map D.str) lo hi = (cut ws lo hi).map D.str := by
  unfold cut
  rw [List.length_map, ← List.map_drop, ← List.map_take]
def ringNames : List Str := ["turn", "pay", "join", "leave", "trust", "owes", "low", "high"]
def RingB (ws : List Str) : Bool := ws.all nameB && allB ws && decide (3 ≤ ws.length) && decide (ws.length ≤ 8)
theorem nodup_all {ws : List Str} (h : ∀ w ∈ ws, nameB w = true) (hn : ws.Nodup) : allB ws = true := by
  unfold allB
  refine List.all_eq_true.mpr fun w hw => ?_
  rw [h w hw, decide_eq_true (List.nodup_iff_count.mp hn w)]
  rfl
theorem ringB_of {ws : List Str} (h : ∀ w ∈ ws, nameB w = true) (hn : ws.Nodup) (h3 : 3 ≤ ws.length) (h8 : ws.length ≤ 8) : RingB ws = true := by
  unfold RingB
  rw [List.all_eq_true.mpr h, nodup_all h hn, decide_eq_true h3, decide_eq_true h8]
  rfl
theorem reps_all (a : Array Nat) (h : a.toList.all inAbc = true) : ∀ (n : Nat) (z : Array Nat), z.toList.all inAbc = true → ((List.replicate n a).foldl (· ++ ·) z).toList.all inAbc = true
  | 0, z, hz => by simpa using hz
  | n + 1, z, hz => by
    rw [List.replicate_succ, List.foldl_cons]
    refine reps_all a h n _ ?_
    rw [Array.toList_append, List.all_append, hz, h]
    rfl
theorem abc_mul (x : Str) (h : allAbc x = true) (n : Nat) : allAbc (Txt.mul x n) = true := by
  unfold Txt.mul
  split
  · rfl
  · split
    · exact h
    · exact reps_all x.cps h _ #[] rfl
theorem words_ring : ∀ k : Nat, k < 8 → ∀ m : Nat, m < 9 → 3 ≤ m → RingB ((cut ringNames (some (k : Int)) none ++ cut ringNames none (some (k : Int))).take m) = true := by decide +kernel
theorem ring_ok (c : Int) (n : Nat) (h3 : 3 ≤ n) (h8 : n ≤ 8) : ∃ ws, m_law_ring (.int c) (.int n) = .ret (.sh (wl ws)) ∧ RingB ws = true := by
  unfold m_law_ring
  rw [show (D.str "abcdefghijklmnopqrstuvwxyz") = .str abc from rfl]
  have m1 : dMod (.int c) (.int 2147483647) = .ok (.int (c % 2147483647)) := dMod_p _ _ (by decide)
  have m2 : dMul (.int (c % 2147483647)) (.int 48271) = .ok (.int (c % 2147483647 * 48271)) := dMul_s _ _ (by decide)
  have m3 : dMod (.int (c % 2147483647 * 48271 + 11)) (.int 2147483647) = .ok (.int ((c % 2147483647 * 48271 + 11) % 2147483647)) := dMod_p _ _ (by decide)
  simp only [X.to_ok, X.b2_ok, m1, m2, dAdd_i, m3, X.cons_ok, X.bind_ok]
  have g0 : 0 ≤ (c % 2147483647 * 48271 + 11) % 2147483647 := by omega
  generalize (c % 2147483647 * 48271 + 11) % 2147483647 = z at *
  rw [dLst_p _ (by decide), X.to_ok]
  have m4 : dMod (.int z) (.int 3) = .ok (.int (z % 3)) := dMod_p _ _ (by decide)
  have d1 : dDiv (.int z) (.int 3) = .ok (.int (z / 3)) := dDiv_p _ _ (by decide) (by decide)
  have m5 : dMod (.int (z / 3)) (.int 8) = .ok (.int (z / 3 % 8)) := dMod_p _ _ (by decide)
  simp only [m4, d1, X.b2_ok, m5, dEq_d, eqB_ii, X.bind_ok, X.tst_bl, dPart_i, X.cut_ok, dAdd_i]
  cases hb : (z % 3 == 1) with
  | true =>
    rw [X.ifM_t]
    have hk : (z / 3 % 8).toNat < 8 := by omega
    have ek : z / 3 % 8 = (((z / 3 % 8).toNat : Nat) : Int) := by omega
    rw [ek]
    generalize (z / 3 % 8).toNat = k at *
    have ec1 : dCut (wl ringNames) (some (k : Int)) none = .ok (wl (cut ringNames (some (k : Int)) none)) := by
      show X.ok (D.lst (cut (ringNames.map D.str) (some (k : Int)) none)) = _
      rw [cut_words]
    have ec2 : dCut (wl ringNames) none (some (k : Int)) = .ok (wl (cut ringNames none (some (k : Int)))) := by
      show X.ok (D.lst (cut (ringNames.map D.str) none (some (k : Int)))) = _
      rw [cut_words]
    have hw := words_ring k hk n (by omega) h3
    have ewl : (D.lst [D.str "turn", D.str "pay", D.str "join", D.str "leave", D.str "trust", D.str "owes", D.str "low", D.str "high"]) = wl ringNames := rfl
    have lc : ∀ lo hi, (cut ringNames lo hi).length ≤ 8 := fun lo hi => by
      unfold cut
      rw [List.length_take, List.length_drop]
      have : ringNames.length = 8 := rfl
      omega
    have l1 := lc (some (k : Int)) none
    have l2 := lc none (some (k : Int))
    rw [ewl, ec1, ec2, X.b2_ok]
    generalize cut ringNames (some (k : Int)) none = A at *
    generalize cut ringNames none (some (k : Int)) = B at *
    have ea : dAdd (wl A) (wl B) = .ok (wl (A ++ B)) := by
      rw [dAdd_l _ _ (by rw [List.length_map, List.length_map]; omega), ← List.map_append]
    have e3 : dCut (wl (A ++ B)) none (some (n : Int)) = .ok (wl ((A ++ B).take n)) := by
      show X.ok (D.lst (cut ((A ++ B).map D.str) none (some (n : Int)))) = _
      rw [cut_words]
      have : cut (A ++ B) none (some (n : Int)) = (A ++ B).take n := by
        unfold cut
        rw [HT.sIx_nat, HT.sIx_none, List.drop_zero, Nat.sub_zero]
        by_cases hh : n ≤ (A ++ B).length
        · rw [Nat.min_eq_left hh]
        · rw [Nat.min_eq_right (by omega), List.take_of_length_le (Nat.le_refl _), List.take_of_length_le (by omega)]
      rw [this]
    rw [ea, X.cut_ok, e3, X.retM_ok, M.bind_ret]
    exact ⟨_, rfl, hw⟩
  | false =>
    rw [X.ifM_f, M.bind_ok, X.to_ok]
    have hs : (1 + z / 3 % 8).toNat ≤ 8 := by omega
    have hs1 : 1 ≤ (1 + z / 3 % 8).toNat := by omega
    rw [show (1 + z / 3 % 8 : Int) = (((1 + z / 3 % 8).toNat : Nat) : Int) by omega]
    generalize (1 + z / 3 % 8).toNat = sz at *
    have d2 : dDiv (.int z) (.int 24) = .ok (.int (z / 24)) := dDiv_p _ _ (by decide) (by decide)
    have m6 : dMod (.int (z / 24)) (.int (sz : Int)) = .ok (.int (z / 24 % sz)) := dMod_p _ _ (by omega)
    have p0 := Int.emod_nonneg (z / 24) (show (sz : Int) ≠ 0 by omega)
    have p1 := Int.emod_lt_of_pos (z / 24) (show (0 : Int) < sz by omega)
    have d3 : dDiv (.int z) (.int 192) = .ok (.int (z / 192)) := dDiv_p _ _ (by decide) (by decide)
    have m7 : dMod (.int (z / 192)) (.int 26) = .ok (.int (z / 192 % 26)) := dMod_p _ _ (by decide)
    have d4 : dDiv (.int z) (.int 4992) = .ok (.int (z / 4992)) := dDiv_p _ _ (by decide) (by decide)
    have m8 : dMod (.int (z / 4992)) (.int 26) = .ok (.int (z / 4992 % 26)) := dMod_p _ _ (by decide)
    have d5 : dDiv (.int z) (.int 129792) = .ok (.int (z / 129792)) := dDiv_p _ _ (by decide) (by decide)
    have m9 : dMod (.int (z / 129792)) (.int 26) = .ok (.int (z / 129792 % 26)) := dMod_p _ _ (by decide)
    have i1 := at_abc (i := z / 192 % 26) (by omega) (by omega)
    have i2 := at_abc (i := z / 4992 % 26) (by omega) (by omega)
    simp only [d2, X.b2_ok, m6, X.to_ok, d3, m7, i1, d4, m8, i2, dSub_i, d5, m9]
    rw [show (z / 24 % (sz : Int)) = (((z / 24 % (sz : Int)).toNat : Nat) : Int) by omega]
    have hp : (z / 24 % (sz : Int)).toNat < sz := by omega
    generalize (z / 24 % (sz : Int)).toNat = pl at *
    rw [show ((sz : Int) - 1 - (pl : Int)) = ((sz - 1 - pl : Nat) : Int) by omega, dMul_str _ _ (by omega) (by show 1 ≤ 1000; decide), X.to_ok, dMul_str _ _ (by omega) (by show 1 ≤ 1000; decide), X.to_ok]
    have lf : (Txt.mul (⟨#[letter (z / 192 % 26).toNat]⟩ : Str) (pl : Nat)).length = pl := by rw [strMul_len]; show pl * 1 = pl; omega
    have lb : (Txt.mul (⟨#[letter (z / 4992 % 26).toNat]⟩ : Str) ((sz - 1 - pl : Nat) : Nat)).length = sz - 1 - pl := by rw [strMul_len]; show (sz - 1 - pl) * 1 = _; omega
    have af : allAbc (Txt.mul (⟨#[letter (z / 192 % 26).toNat]⟩ : Str) (pl : Nat)) = true := abc_mul _ (abc_letter (by omega)) _
    have ab : allAbc (Txt.mul (⟨#[letter (z / 4992 % 26).toNat]⟩ : Str) ((sz - 1 - pl : Nat) : Nat)) = true := abc_mul _ (abc_letter (by omega)) _
    generalize Txt.mul (⟨#[letter (z / 192 % 26).toNat]⟩ : Str) (pl : Nat) = F at *
    generalize Txt.mul (⟨#[letter (z / 4992 % 26).toNat]⟩ : Str) ((sz - 1 - pl : Nat) : Nat) = B at *
    have hbg : 0 ≤ z / 129792 % 26 ∧ z / 129792 % 26 < 26 := by omega
    generalize z / 129792 % 26 = bg at *
    let w : Nat → Str := fun k => F ++ (⟨#[letter ((bg + 7 * (k : Int)) % 26).toNat]⟩ : Str) ++ B
    have hturn : ∀ k : Nat, k < 8 → m_law_ring_c1 (.str F) (.str abc) (.int bg) (.str B) (.int (k : Nat)) = .ok (.str (w k)) := fun k hk => by
      unfold m_law_ring_c1
      have e1 : dMul (.int 7) (.int (k : Nat)) = .ok (.int (7 * (k : Int))) := dMul_s' _ _ (by decide)
      have e2 : dMod (.int (bg + 7 * (k : Int))) (.int 26) = .ok (.int ((bg + 7 * (k : Int)) % 26)) := dMod_p _ _ (by decide)
      have e3 := at_abc (i := (bg + 7 * (k : Int)) % 26) (by omega) (by omega)
      simp only [X.b2_ok, e1, dAdd_i, e2, e3]
      rw [dAdd_s _ _ (by show _ + 1 ≤ _; omega), X.b2_ok, dAdd_s _ _ (by rw [strAdd_len]; show _ + 1 + _ ≤ _; omega)]
    have elc : X.lc (.ok (rng 0 1 n)) (m_law_ring_c1 (.str F) (.str abc) (.int bg) (.str B)) = .ok (((List.range' 0 n).map w).map D.str) := by
      rw [show rng 0 1 n = (List.range' 0 n).map fun k => D.int (k : Nat) from rng_map n 0]
      rw [lc_ok (xs := (List.range' 0 n).map fun k => D.int (k : Nat)) (g := fun d => match d with | .int i => .str (w i.toNat) | d => d) rfl (by simp; omega)]
      · rw [List.map_map, List.map_map]
        rfl
      · intro x hx
        obtain ⟨k, hk, rfl⟩ := List.mem_map.mp hx
        have hk2 := (List.mem_range'_1.mp hk).2
        rw [hturn k (by omega)]
        rfl
    rw [rng1_n n (by omega), elc]
    refine ⟨(List.range' 0 n).map w, rfl, ringB_of ?_ ?_ (by simp; omega) (by simp; omega)⟩
    · intro x hx
      obtain ⟨k, hk, rfl⟩ := List.mem_map.mp hx
      have l1 : (w k).length = sz := by show (F ++ _ ++ B).length = _; rw [strAdd_len, strAdd_len, lf, lb]; show pl + 1 + _ = _; omega
      exact nameB_of (by omega) (by omega) (abc_app (abc_app af (abc_letter (by omega))) ab)
    · refine List.pairwise_map.mpr (List.Pairwise.imp_of_mem (fun {a b} ha hb hne hw => ?_) (List.nodup_range' (s := 0) (n := n) (step := 1)))
      have a2 := (List.mem_range'_1.mp ha).2
      have b2 := (List.mem_range'_1.mp hb).2
      have q := letter_inj _ (by omega) _ (by omega) (mid_inj hw)
      refine hne ?_
      have e : (bg + 7 * (a : Int)) % 26 = (bg + 7 * (b : Int)) % 26 := by omega
      omega
end Py

namespace Py
open PySem L2 Wk
/-! ### a deed made by the law: its kind, its things, the words of its row, the deed -/
inductive Made : Int → List D → List Str → D → Prop
  | join (a : Str) (h : nameB a = true) : Made 0 [.str a] ["join", a] (.ins .join [.str a])
  | trust (a b : Str) (i : Int) (ha : nameB a = true) (hb : nameB b = true) (hn : a ≠ b) (h0 : 0 ≤ i) (h1 : i < 10 ^ 59) : Made 1 [.str a, .str b, .int i] ["trust", a, b, sI i] (.ins .trust [.str a, .str b, .int i])
  | pay (a b : Str) (i : Int) (ha : nameB a = true) (hb : nameB b = true) (hn : a ≠ b) (h0 : 1 ≤ i) (h1 : i < 10 ^ 60) : Made 2 [.str a, .str b, .int i] ["pay", a, b, sI i] (.ins .pay [.str a, .str b, .int i])
  | turn (ring : List Str) (i : Int) (hr : RingB ring = true) (h0 : 1 ≤ i) (h1 : i < 10 ^ 60) : Made 3 [wl ring, .int i] ("turn" :: sI i :: ring) (.ins .turn [wl ring, .int i])
  | leave (a : Str) (h : nameB a = true) : Made 4 [.str a] ["leave", a] (.ins .leave [.str a])
theorem lt59 {i : Int} (h : i < 10 ^ 59) : i < 10 ^ 60 := Int.lt_trans h (by decide +kernel)
theorem ringB_parts {ws : List Str} (h : RingB ws = true) : (∀ w ∈ ws, nameB w = true) ∧ allB ws = true ∧ 3 ≤ ws.length ∧ ws.length ≤ 8 := by
  unfold RingB at h
  simp only [Bool.and_eq_true, decide_eq_true_eq] at h
  exact ⟨List.all_eq_true.mp h.1.1.1, h.1.1.2, h.1.2, h.2⟩
theorem ring_sum : ∀ {ws : List Str}, (∀ w ∈ ws, nameB w = true) → (ws.map (·.length)).sum ≤ 8 * ws.length
  | [], _ => Nat.le_refl _
  | w :: ws, h => by
    have a := (name_len (h w List.mem_cons_self)).2
    have b := ring_sum fun z hz => h z (List.mem_cons_of_mem _ hz)
    rw [List.map_cons, List.sum_cons, List.length_cons]
    omega
theorem made_deed {k : Int} {th : List D} {ws : List Str} {d : D} (m : Made k th ws d) : deedOf ws = d := by
  cases m with
  | join a h =>
    unfold deedOf
    rw [if_pos (by show (true && (true && nameB a)) = true; rw [h]; rfl)]
    rfl
  | leave a h =>
    unfold deedOf
    rw [if_neg (by show ¬ ((false && _) = true); simp), if_pos (by show (true && (true && nameB a)) = true; rw [h]; rfl)]
    rfl
  | trust a b i ha hb hn h0 h1 =>
    have e : numB (sI i) = i := num_back h0 (lt59 h1)
    unfold deedOf
    rw [if_neg (by show ¬ ((false && _) = true); simp), if_neg (by show ¬ ((false && _) = true); simp), if_pos (by
      show (true && (true && (name2 a b && lineB (numB (sI i))))) = true
      unfold name2 lineB
      rw [e, ha, hb, decide_eq_false hn, decide_eq_true h0, decide_eq_true h1]; rfl)]
    show D.ins .trust [.str a, .str b, .int (numB (sI i))] = _
    rw [e]
  | pay a b i ha hb hn h0 h1 =>
    have e : numB (sI i) = i := num_back (by omega) h1
    unfold deedOf
    rw [if_neg (by show ¬ ((false && _) = true); simp), if_neg (by show ¬ ((false && _) = true); simp), if_neg (by show ¬ ((false && _) = true); simp), if_pos (by
      show (true && (true && (name2 a b && amountB (numB (sI i))))) = true
      unfold name2 amountB
      rw [e, ha, hb, decide_eq_false hn, decide_eq_true h0, decide_eq_true h1]; rfl)]
    show D.ins .pay [.str a, .str b, .int (numB (sI i))] = _
    rw [e]
  | turn ring i hr h0 h1 =>
    have e : numB (sI i) = i := num_back (by omega) h1
    obtain ⟨r1, r2, r3, r4⟩ := ringB_parts hr
    unfold deedOf
    rw [if_neg (by show ¬ ((false && _) = true); simp), if_neg (by show ¬ ((false && _) = true); simp), if_neg (by show ¬ ((false && _) = true); simp), if_neg (by show ¬ ((false && _) = true); simp), if_pos (by
      show (true && (decide (5 ≤ ring.length + 1 + 1) && decide (ring.length + 1 + 1 ≤ 10) && (amountB (numB (sI i)) && allB ring))) = true
      unfold amountB
      rw [e, r2, decide_eq_true h0, decide_eq_true h1, decide_eq_true (by omega), decide_eq_true (by omega)]; rfl)]
    show D.ins .turn [wl ring, .int (numB (sI i))] = _
    rw [e]
theorem made_free {k : Int} {th : List D} {ws : List Str} {d : D} (m : Made k th ws d) : ∀ w ∈ ws, 32 ∉ TL.tl w := by
  cases m with
  | join a h => intro w hw; simp only [List.mem_cons, List.not_mem_nil, or_false] at hw; exact hw.elim (fun z => by rw [z]; decide +kernel) (fun z => by rw [z]; exact name_free h)
  | leave a h => intro w hw; simp only [List.mem_cons, List.not_mem_nil, or_false] at hw; exact hw.elim (fun z => by rw [z]; decide +kernel) (fun z => by rw [z]; exact name_free h)
  | trust a b i ha hb hn h0 h1 => intro w hw; simp only [List.mem_cons, List.not_mem_nil, or_false] at hw; exact hw.elim (fun z => by rw [z]; decide +kernel) fun hw => hw.elim (fun z => by rw [z]; exact name_free ha) fun hw => hw.elim (fun z => by rw [z]; exact name_free hb) (fun z => by rw [z]; exact sI_free h0)
  | pay a b i ha hb hn h0 h1 => intro w hw; simp only [List.mem_cons, List.not_mem_nil, or_false] at hw; exact hw.elim (fun z => by rw [z]; decide +kernel) fun hw => hw.elim (fun z => by rw [z]; exact name_free ha) fun hw => hw.elim (fun z => by rw [z]; exact name_free hb) (fun z => by rw [z]; exact sI_free (by omega))
  | turn ring i hr h0 h1 =>
    intro w hw
    rcases List.mem_cons.mp hw with rfl | hw
    · decide +kernel
    · rcases List.mem_cons.mp hw with rfl | hw
      · exact sI_free (by omega)
      · exact name_free ((ringB_parts hr).1 w hw)
theorem made_len {k : Int} {th : List D} {ws : List Str} {d : D} (m : Made k th ws d) : (ws.map (·.length)).sum + ws.length ≤ 200 := by
  cases m with
  | join a h => have := (name_len h).2; show 4 + (a.length + 0) + 2 ≤ 200; omega
  | leave a h => have := (name_len h).2; show 5 + (a.length + 0) + 2 ≤ 200; omega
  | trust a b i ha hb hn h0 h1 => have := (name_len ha).2; have := (name_len hb).2; have := sI_len h0 (lt59 h1); show 5 + (a.length + (b.length + ((sI i).length + 0))) + 4 ≤ 200; omega
  | pay a b i ha hb hn h0 h1 => have := (name_len ha).2; have := (name_len hb).2; have := sI_len (show 0 ≤ i by omega) h1; show 3 + (a.length + (b.length + ((sI i).length + 0))) + 4 ≤ 200; omega
  | turn ring i hr h0 h1 =>
    obtain ⟨r1, r2, r3, r4⟩ := ringB_parts hr
    have := ring_sum r1
    have := sI_len (show 0 ≤ i by omega) h1
    show 4 + ((sI i).length + (ring.map (·.length)).sum) + (ring.length + 1 + 1) ≤ 200
    omega
theorem made_ne {k : Int} {th : List D} {ws : List Str} {d : D} (m : Made k th ws d) : ws ≠ [] := by
  cases m <;> simp
theorem made_split {k : Int} {th : List D} {ws : List Str} {d : D} (m : Made k th ws d) : Txt.split (Txt.join blank ws) blank = ws := split_back (made_ne m) (made_free m)
theorem made_text {k : Int} {th : List D} {ws : List Str} {d : D} (m : Made k th ws d) : (Txt.join blank ws).length ≤ 200 := Nat.le_trans (join_len ws) (made_len m)
theorem made_read {k : Int} {th : List D} {ws : List Str} {d : D} (m : Made k th ws d) : m_read (.str (Txt.join blank ws)) = .ret (.sh d) := by
  have hl := made_text m
  rw [read_ok _ (by omega), made_split m, made_deed m, if_neg]
  cases m <;> (intro z; cases z)
theorem made_row {k : Int} {th : List D} {ws : List Str} {d : D} (m : Made k th ws d) : ROW (.ok d) = .ok (.str (Txt.join blank ws)) := by
  cases m with
  | join a h => exact row_join a (by have := (name_len h).2; omega)
  | leave a h => exact row_leave a (by have := (name_len h).2; omega)
  | trust a b i ha hb hn h0 h1 => exact row_trust a b i (by have := (name_len ha).2; omega) (by have := (name_len hb).2; omega) h0 (lt59 h1)
  | pay a b i ha hb hn h0 h1 => exact row_pay a b i (by have := (name_len ha).2; omega) (by have := (name_len hb).2; omega) (by omega) h1
  | turn ring i hr h0 h1 =>
    obtain ⟨r1, r2, r3, r4⟩ := ringB_parts hr
    have := ring_sum r1
    exact row_turn ring (fun z => by rw [z] at r3; simp at r3) i (by omega) (by omega) h1
theorem tstEq (i j : Int) : X.tst (X.b2 (.ok (.int i)) (.ok (.int j)) dEq) = .ok (i == j) := by rw [X.b2_ok, dEq_d, eqB_ii, X.bind_ok, X.tst_bl]
theorem top59 : X.b2 (X.b2 (.ok (.int 10)) (.ok (.int 59)) dPow) (.ok (.int 1)) dSub = .ok (.int (10 ^ 59 - 1)) := by rw [X.b2_ok, pow59, X.b2_ok, dSub_i]
theorem top60 : X.b2 (X.b2 (.ok (.int 10)) (.ok (.int 60)) dPow) (.ok (.int 1)) dSub = .ok (.int (10 ^ 60 - 1)) := by rw [X.b2_ok, pow60, X.b2_ok, dSub_i]
theorem big59 : (9 : Int) ≤ 10 ^ 59 - 1 := by decide +kernel
theorem big60 : (9 : Int) ≤ 10 ^ 60 - 1 := by decide +kernel
theorem row4 (k a b : Str) (i : Int) (hk : k.length ≤ 10) (ha : a.length ≤ 8) (hb : b.length ≤ 8) (h0 : 0 ≤ i) (h1 : i < 10 ^ 60) :
    X.b2 (X.b2 (X.b2 (X.b2 (X.b2 (.ok (.str k)) (.ok (.str a)) dAdd) (.ok (.str blank)) dAdd) (.ok (.str b)) dAdd) (.ok (.str blank)) dAdd) (X.bind (X.cons (.ok (.int i)) (.ok [])) dStrI) dAdd = .ok (.str (k ++ a ++ blank ++ b ++ blank ++ sI i)) := by
  have hs := sI_len h0 h1
  have l0 : (blank : Str).length = 1 := rfl
  rw [X.cons_ok, X.bind_ok, str_ok h0 h1, X.b2_ok, dAdd_s _ _ (by omega), X.b2_ok, dAdd_s _ _ (by rw [strAdd_len]; omega), X.b2_ok, dAdd_s _ _ (by rw [strAdd_len, strAdd_len]; omega), X.b2_ok, dAdd_s _ _ (by rw [strAdd_len, strAdd_len, strAdd_len]; omega), X.b2_ok,
    dAdd_s _ _ (by rw [strAdd_len, strAdd_len, strAdd_len, strAdd_len]; omega)]
theorem tup3 (a b c : D) : X.bind (X.cons (.ok a) (X.cons (.ok b) (X.cons (.ok c) (.ok [])))) dTup = .ok (.tup [a, b, c]) := Eq.trans rfl rfl
theorem tup2 (a b : D) : X.bind (X.cons (.ok a) (X.cons (.ok b) (.ok []))) dTup = .ok (.tup [a, b]) := Eq.trans rfl rfl
theorem tup1 (a : D) : X.bind (X.cons (.ok a) (.ok [])) dTup = .ok (.tup [a]) := Eq.trans rfl rfl
theorem made_ok (h o t : Int) : ∃ (k : Int) (th : List D) (ws : List Str) (d : D), m_law_made (.int h) (.int o) (.int t) = .ret (.sh (.tup [.int k, .tup th, .str (Txt.join blank ws)])) ∧ Made k th ws d := by
  obtain ⟨a, b, e2, ha, hb, hn⟩ := two_names o
  have la := (name_len ha).2
  have lb := (name_len hb).2
  have l0 : (blank : Str).length = 1 := rfl
  have e2' : X.call (ar1 m_law_two) (X.cons (.ok (.int o)) (.ok [])) = .ok (.tup [.str a, .str b]) := by rw [X.cons_ok, X.call_ok, ar1_1, e2, M.fn_ret, T.toD_sh]
  obtain ⟨v, ev, v0, v1⟩ := number_made t (10 ^ 59 - 1) big59 (by decide +kernel)
  obtain ⟨u, eu, u0, u1⟩ := number_made t (10 ^ 60 - 1) big60 (by decide +kernel)
  have ev' : X.call (ar2 m_law_number) (X.cons (.ok (.int t)) (X.cons (X.b2 (X.b2 (.ok (.int 10)) (.ok (.int 59)) dPow) (.ok (.int 1)) dSub) (.ok []))) = .ok (.int v) := by rw [top59, X.cons_ok, X.cons_ok, X.call_ok, ar2_2, ev, M.fn_ret, T.toD_sh]
  have eu' : X.bind (X.cons (.ok (.int 1)) (X.cons (X.call (ar2 m_law_number) (X.cons (.ok (.int t)) (X.cons (X.b2 (X.b2 (.ok (.int 10)) (.ok (.int 60)) dPow) (.ok (.int 1)) dSub) (.ok [])))) (.ok []))) dMax2 = .ok (.int (if u > 1 then u else 1)) := by
    rw [top60, X.cons_ok, X.cons_ok, X.call_ok, ar2_2, eu, M.fn_ret, T.toD_sh, X.cons_ok, X.cons_ok, X.bind_ok]
    rfl
  have v2 : v < 10 ^ 59 := by omega
  have w0 : 1 ≤ (if u > 1 then u else 1) := by split <;> omega
  have w1 : (if u > 1 then u else 1) < 10 ^ 60 := by
    split
    · omega
    · have : (1 : Int) < 10 ^ 60 := by decide +kernel
      exact this
  generalize (if u > 1 then u else 1) = w at *
  have nn : 3 ≤ (3 + h / 5 % 6).toNat ∧ (3 + h / 5 % 6).toNat ≤ 8 := by omega
  obtain ⟨ring, er, hr⟩ := ring_ok o (3 + h / 5 % 6).toNat nn.1 nn.2
  have er' : X.call (ar2 m_law_ring) (X.cons (.ok (.int o)) (X.cons (X.b2 (.ok (.int 3)) (X.b2 (X.b2 (.ok (.int h)) (.ok (.int 5)) dDiv) (.ok (.int 6)) dMod) dAdd) (.ok []))) = .ok (wl ring) := by
    rw [X.b2_ok, dDiv_p _ _ (by decide) (by decide), X.b2_ok, dMod_p _ _ (by decide), X.b2_ok, dAdd_i, X.cons_ok, X.cons_ok, X.call_ok, ar2_2, show (3 + h / 5 % 6 : Int) = (((3 + h / 5 % 6).toNat : Nat) : Int) by omega, er, M.fn_ret, T.toD_sh]
  obtain ⟨r1, r2, r3, r4⟩ := ringB_parts hr
  have rs := ring_sum r1
  have j1 : X.b2 (.ok (.str "join ")) (.ok (.str a)) dAdd = .ok (.str ("join " ++ a)) := by rw [X.b2_ok, dAdd_s _ _ (by show 5 + _ ≤ _; omega)]
  have j2 : X.b2 (.ok (.str "leave ")) (.ok (.str a)) dAdd = .ok (.str ("leave " ++ a)) := by rw [X.b2_ok, dAdd_s _ _ (by show 6 + _ ≤ _; omega)]
  have j3 := row4 "trust " a b v (by decide) la lb v0 (lt59 v2)
  have j4 := row4 "pay " a b w (by decide) la lb (by omega) w1
  have hs := sI_len (show 0 ≤ w by omega) w1
  have j5 : X.b2 (X.b2 (X.b2 (.ok (.str "turn ")) (X.bind (X.cons (.ok (.int w)) (.ok [])) dStrI) dAdd) (.ok (.str blank)) dAdd) (X.b2 (X.bind (.ok (.str blank)) dStrOne) (X.cons (.ok (wl ring)) (.ok [])) dJoin) dAdd = .ok (.str ("turn " ++ sI w ++ blank ++ Txt.join blank ring)) := by
    have hj := join_len ring
    have l3 : dStrOne (.str blank) = .ok (.str blank) := Eq.trans rfl rfl
    have l1 : (("turn " : Str)).length = 5 := rfl
    rw [X.cons_ok, X.bind_ok, str_ok (by omega) w1, X.b2_ok, dAdd_s _ _ (by omega), X.b2_ok, dAdd_s _ _ (by rw [strAdd_len]; omega), X.bind_ok, l3, X.cons_ok, X.b2_ok, dJoin_ok ring (by omega), X.b2_ok, dAdd_s _ _ (by rw [strAdd_len, strAdd_len]; omega)]
  have m5 : X.b2 (.ok (.int h)) (.ok (.int 5)) dMod = .ok (.int (h % 5)) := by rw [X.b2_ok, dMod_p _ _ (by decide)]
  unfold m_law_made
  rw [show (D.str " ") = .str blank from rfl, m5, X.to_ok, e2', X.to_ok, unp2_t, X.of_some, X.to_ok]
  dsimp only
  rw [tstEq, tstEq, tstEq, tstEq, eu']
  have hk : h % 5 = 0 ∨ h % 5 = 1 ∨ h % 5 = 2 ∨ h % 5 = 3 ∨ h % 5 = 4 := by omega
  rcases hk with hk | hk | hk | hk | hk <;> rw [hk]
  · rw [show ((0 : Int) == 0) = true from rfl, X.ifM_t, tup1, j1, tup3, X.retM_ok, M.bind_ret]
    exact ⟨0, [.str a], ["join", a], _, by rw [join_two]; rfl, .join a ha⟩
  · rw [show ((1 : Int) == 0) = false from rfl, X.ifM_f, M.bind_ok, show ((1 : Int) == 1) = true from rfl, X.ifM_t, ev', X.to_ok, tup3, j3, tup3, X.retM_ok, M.bind_ret]
    exact ⟨1, [.str a, .str b, .int v], ["trust", a, b, sI v], _, by rw [join4]; rfl, .trust a b v ha hb hn v0 v2⟩
  · rw [show ((2 : Int) == 0) = false from rfl, X.ifM_f, M.bind_ok, show ((2 : Int) == 1) = false from rfl, X.ifM_f, M.bind_ok, X.to_ok, show ((2 : Int) == 2) = true from rfl, X.ifM_t, tup3, j4, tup3, X.retM_ok, M.bind_ret]
    exact ⟨2, [.str a, .str b, .int w], ["pay", a, b, sI w], _, by rw [join4]; rfl, .pay a b w ha hb hn w0 w1⟩
  · rw [show ((3 : Int) == 0) = false from rfl, X.ifM_f, M.bind_ok, show ((3 : Int) == 1) = false from rfl, X.ifM_f, M.bind_ok, X.to_ok, show ((3 : Int) == 2) = false from rfl, X.ifM_f, M.bind_ok, show ((3 : Int) == 3) = true from rfl, X.ifM_t, er', X.to_ok, tup2, j5, tup3, X.retM_ok, M.bind_ret]
    refine ⟨3, [wl ring, .int w], "turn" :: sI w :: ring, _, ?_, .turn ring w hr w0 w1⟩
    cases ring with
    | nil => simp at r3
    | cons x r =>
      rw [join_cons, join_cons]
      simp only [app_assoc]
      rw [← app_assoc "turn"]
      rfl
  · rw [show ((4 : Int) == 0) = false from rfl, X.ifM_f, M.bind_ok, show ((4 : Int) == 1) = false from rfl, X.ifM_f, M.bind_ok, X.to_ok, show ((4 : Int) == 2) = false from rfl, X.ifM_f, M.bind_ok, show ((4 : Int) == 3) = false from rfl, X.ifM_f, M.bind_ok, tup1, j2, tup3, X.retM_ok]
    exact ⟨4, [.str a], ["leave", a], _, by rw [join_two]; rfl, .leave a ha⟩
end Py

namespace Py
open PySem L2 Wk
/-! ### the law's own reading -/
theorem law_word_turn (x : D) (c : Nat) (h : x = .str ⟨#[c]⟩) : m_law_word_b1 () x = if inAbc c = true then .ok () else .ret (.sh (.bl false)) := by
  subst h
  unfold m_law_word_b1
  rw [show (D.str "abcdefghijklmnopqrstuvwxyz") = .str abc from rfl, X.b2_ok]
  have e : dNin (.str ⟨#[c]⟩) (.str abc) = .ok (.bl !(inAbc c)) := Eq.trans rfl rfl
  rw [e, X.tst_bl, X.ifM_ok]
  cases inAbc c <;> rfl
theorem law_word_ok (s : Str) (hs : s.length ≤ 1000000) : m_law_word (.str s) = .ret (.sh (.bl (nameB s))) := by
  unfold m_law_word
  rw [signs_all m_law_word_b1 law_word_turn s]
  have h1 : decide ((1 : Int) ≤ ((s.length : Nat) : Int)) = decide (1 ≤ s.length) := by simp; omega
  have h2 : decide (((s.length : Nat) : Int) ≤ 8) = decide (s.length ≤ 8) := by simp; omega
  have hn : nameB s = (decide (1 ≤ s.length) && decide (s.length ≤ 8) && s.cps.toList.all inAbc) := rfl
  rw [hn]
  cases ha : s.cps.toList.all inAbc with
  | false => rw [if_neg (by simp), M.bind_ret, Bool.and_false]
  | true =>
    rw [if_pos rfl, M.bind_ok, X.cons_ok, X.bind_ok, dLen_str s hs, X.b2_ok, X.b2_ok, dGe_i, dLe_i, h1, h2, X.andV_ok, X.retM_ok, Bool.and_true]
theorem law_fig_turn (x : D) (c : Nat) (h : x = .str ⟨#[c]⟩) : m_law_figures_b1 () x = if isFig c = true then .ok () else .ret (.sh (.bl false)) := by
  subst h
  unfold m_law_figures_b1
  rw [show (D.str "0123456789") = .str fgs from rfl, X.b2_ok]
  have e : dNin (.str ⟨#[c]⟩) (.str fgs) = .ok (.bl !(isFig c)) := Eq.trans rfl rfl
  rw [e, X.tst_bl, X.ifM_ok]
  cases isFig c <;> rfl
def zero : Str := "0"
def figuresB (s : Str) (bottom top : Int) : Bool :=
  if (decide (s = "") || (decide (top < (s.length : Nat)) || decide (s = zero))) = true then decide (s = zero) && decide (bottom = 0) else s.cps.toList.all isFig && !decide (s.cps.toList.head? = some 48)
theorem law_figures_ok (s : Str) (hs : s.length ≤ 1000000) (bottom top : Int) : m_law_figures (.str s) (.int bottom) (.int top) = .ret (.sh (.bl (figuresB s bottom top))) := by
  unfold m_law_figures figuresB
  rw [show (D.str "0") = .str zero from rfl]
  simp only [X.b2_ok, dEq_d, eqB_ss, eqB_ii, X.bind_ok, X.tst_bl, X.cons_ok, dLen_str s hs, dGt_i, X.or_ok, X.andV_ok, X.retM_ok]
  rw [X.ifM_ok]
  split
  · rename_i h
    rw [M.bind_ret]
    congr 4
  · rename_i h
    simp only [Bool.or_eq_true, decide_eq_true_eq, not_or] at h
    rw [M.bind_ok]
    have e := signs_all m_law_figures_b1 law_fig_turn s
    rw [X.bind_ok] at e
    rw [e]
    cases ha : s.cps.toList.all isFig with
    | false => rw [if_neg (by simp), M.bind_ret]; rfl
    | true =>
      rw [if_pos rfl, M.bind_ok]
      obtain ⟨c, r, ecr⟩ : ∃ c r, s.cps.toList = c :: r := by
        cases e : s.cps.toList with
        | nil => exact absurd (TL.ext_tl (x := s) (y := "") e) h.1
        | cons c r => exact ⟨c, r, rfl⟩
      have ix : dIx (.str s) (.int 0) = .ok (.str ⟨#[c]⟩) := dIx_str (k := 0) (by rw [ecr]; rfl) hs
      rw [ix, X.b2_ok, dNe_d, eqB_ss, X.bind_ok, X.retM_ok, show zero = ⟨#[48]⟩ from rfl, str_one, ecr]
      simp
theorem pow_le (cs : List Nat) (a : Nat) (h : NumText.AllDigits cs) : cs.foldl (fun acc c => acc * 10 + (c - 48)) a < (a + 1) * 10 ^ cs.length ∧ a * 10 ^ cs.length ≤ cs.foldl (fun acc c => acc * 10 + (c - 48)) a := by
  induction cs generalizing a with
  | nil => simp
  | cons c cs ih =>
    have hc := h.head
    obtain ⟨i1, i2⟩ := ih (a * 10 + (c - 48)) h.tail
    rw [List.foldl_cons, List.length_cons, Nat.pow_succ]
    have m1 : (a * 10 + (c - 48) + 1) * 10 ^ cs.length ≤ ((a + 1) * 10) * 10 ^ cs.length := Nat.mul_le_mul_right _ (by omega)
    have m2 : (a * 10) * 10 ^ cs.length ≤ (a * 10 + (c - 48)) * 10 ^ cs.length := Nat.mul_le_mul_right _ (by omega)
    have e1 : (a + 1) * (10 ^ cs.length * 10) = ((a + 1) * 10) * 10 ^ cs.length := by rw [Nat.mul_comm (10 ^ cs.length), ← Nat.mul_assoc]
    have e2 : a * (10 ^ cs.length * 10) = (a * 10) * 10 ^ cs.length := by rw [Nat.mul_comm (10 ^ cs.length), ← Nat.mul_assoc]
    rw [e1, e2]
    omega
theorem val_bounds {c : Nat} {r : List Nat} (h : NumText.AllDigits (c :: r)) (hc : c ≠ 48) : 10 ^ r.length ≤ NumText.digitsVal (c :: r) ∧ NumText.digitsVal (c :: r) < 10 ^ (r.length + 1) := by
  have hd := h.head
  obtain ⟨a, b⟩ := pow_le r (0 * 10 + (c - 48)) h.tail
  show 10 ^ r.length ≤ r.foldl _ (0 * 10 + (c - 48)) ∧ r.foldl _ (0 * 10 + (c - 48)) < _
  refine ⟨Nat.le_trans ?_ b, Nat.lt_of_lt_of_le a ?_⟩
  · exact Nat.le_mul_of_pos_left _ (by omega)
  · rw [Nat.pow_succ, Nat.mul_comm (10 ^ r.length)]
    exact Nat.mul_le_mul_right _ (by omega)
/-- what both readings of a number say -/
theorem fig_split (s : Str) : (s = "" ∧ s.cps.toList = []) ∨ (s = zero ∧ s.cps.toList = [48]) ∨ (∃ c r, s.cps.toList = c :: r ∧ s ≠ "" ∧ s ≠ zero ∧ s.length = r.length + 1 ∧ (c = 48 → r ≠ [])) := by
  cases e : s.cps.toList with
  | nil => exact .inl ⟨TL.ext_tl e, rfl⟩
  | cons c r =>
    refine .inr ?_
    by_cases hz : c = 48 ∧ r = []
    · rw [hz.1, hz.2] at e
      exact .inl ⟨TL.ext_tl (x := s) (y := zero) e, by rw [hz.1, hz.2]⟩
    · refine .inr ⟨c, r, rfl, fun z => ?_, fun z => ?_, ?_, fun h1 h2 => hz ⟨h1, h2⟩⟩
      · rw [z] at e; cases e
      · rw [z] at e
        have e' : [48] = c :: r := e
        injection e' with e1 e2
        exact hz ⟨e1.symm, e2.symm⟩
      · rw [TL.len_tl]; show s.cps.toList.length = _; rw [e]; rfl
theorem pow_lt_iff {v n k : Nat} (h1 : 10 ^ n ≤ v) (h2 : v < 10 ^ (n + 1)) : v < 10 ^ k ↔ n + 1 ≤ k := by
  constructor
  · intro h
    have : 10 ^ n < 10 ^ k := Nat.lt_of_le_of_lt h1 h
    exact (Nat.pow_lt_pow_iff_right (by decide)).mp this
  · intro h
    exact Nat.lt_of_lt_of_le h2 (Nat.pow_le_pow_right (by decide) h)
theorem fig_gen (s : Str) (b : Int) (k : Nat) (hk : k ≤ 60) (P : Int → Bool) (p1 : P (-1) = false) (p2 : ∀ v : Nat, 1 ≤ v → P (v : Int) = decide (v < 10 ^ k)) {c : Nat} {r : List Nat} (e : s.cps.toList = c :: r) (n1 : s ≠ "") (n2 : s ≠ zero) (hl : s.length = r.length + 1) (hc : c = 48 → r ≠ []) :
    figuresB s b (k : Nat) = P (numB s) := by
  have hz : headZ s = (decide (c = 48) && decide (1 < s.length)) := by unfold headZ; rw [e]; simp
  unfold figuresB
  rw [decide_eq_false n1, decide_eq_false n2]
  by_cases h48 : c = 48
  · have hr : 1 < s.length := by
      have := List.length_pos_iff.mpr (hc h48)
      omega
    have en : numB s = -1 := by
      unfold numB figB
      rw [hz, decide_eq_true h48, decide_eq_true hr]
      simp
    rw [en, p1, e, h48]
    split <;> simp
  · cases ha : s.cps.toList.all isFig with
    | false =>
      have en : numB s = -1 := by unfold numB figB; rw [ha]; simp
      rw [en, p1]
      split <;> simp
    | true =>
      have hd := fig_digits ha
      rw [e] at hd
      obtain ⟨v1, v2⟩ := val_bounds hd h48
      have hh : (!decide ((c :: r).head? = some 48)) = true := by simp [h48]
      by_cases h60 : s.length ≤ 60
      · have en : numB s = ((NumText.digitsVal s.cps.toList : Nat) : Int) := by
          unfold numB
          rw [if_pos]
          unfold figB
          rw [ha, hz, decide_eq_false h48, decide_eq_true h60, decide_eq_true (show 1 ≤ s.length by omega)]
          rfl
        have vp : 1 ≤ NumText.digitsVal (c :: r) := Nat.le_trans (Nat.one_le_pow _ _ (by decide)) v1
        rw [en, e, p2 _ vp, hh]
        by_cases hkk : s.length ≤ k
        · rw [if_neg (by simp; omega), decide_eq_true ((pow_lt_iff v1 v2).mpr (by omega))]
          rfl
        · have hf : decide (NumText.digitsVal (c :: r) < 10 ^ k) = false := decide_eq_false (fun z => hkk (by have := (pow_lt_iff v1 v2).mp z; omega))
          rw [if_pos (by simp; omega), hf]
          rfl
      · have en : numB s = -1 := by unfold numB figB; rw [decide_eq_false h60]; simp
        rw [en, p1, if_pos (by simp; omega)]
        rfl
theorem cast_pow (k : Nat) : ((10 : Int) ^ k) = ((10 ^ k : Nat) : Int) := (Int.natCast_pow 10 k).symm
theorem fig_line (s : Str) : figuresB s 0 59 = lineB (numB s) := by
  rcases fig_split s with ⟨rfl, e⟩ | ⟨rfl, e⟩ | ⟨c, r, e, n1, n2, hl, hc⟩
  · decide +kernel
  · decide +kernel
  · refine fig_gen s 0 59 (by decide) lineB (by decide +kernel) (fun v hv => ?_) e n1 n2 hl hc
    unfold lineB
    rw [decide_eq_true (show (0 : Int) ≤ (v : Int) by omega), Bool.true_and, cast_pow]
    exact decide_eq_decide.mpr Int.ofNat_lt
theorem fig_amount (s : Str) : figuresB s 1 60 = amountB (numB s) := by
  rcases fig_split s with ⟨rfl, e⟩ | ⟨rfl, e⟩ | ⟨c, r, e, n1, n2, hl, hc⟩
  · decide +kernel
  · decide +kernel
  · refine fig_gen s 1 60 (by decide) amountB (by decide +kernel) (fun v hv => ?_) e n1 n2 hl hc
    unfold amountB
    rw [decide_eq_true (show (1 : Int) ≤ (v : Int) by omega), Bool.true_and, cast_pow]
    exact decide_eq_decide.mpr Int.ofNat_lt
/-! houses -/
def housesB (ws : List Str) (lo hi : Nat) : Bool := decide (lo ≤ ws.length) && decide (ws.length ≤ hi) && (ws.all nameB && decide ws.Nodup)
theorem take_nodup : ∀ (ws : List Str) (i : Nat), (∀ k, i ≤ k → k < ws.length → ws.getD k "" ∉ ws.take k) → (ws.take i).Nodup → ws.Nodup := by
  intro ws i
  induction hn : ws.length - i generalizing i with
  | zero =>
    intro _ h
    rwa [List.take_of_length_le (by omega)] at h
  | succ n ih =>
    intro h hd
    refine ih (i + 1) (by omega) (fun k hk => h k (by omega)) ?_
    have hi : i < ws.length := by omega
    rw [List.take_add_one, List.getElem?_eq_getElem hi]
    have q := h i (Nat.le_refl _) hi
    rw [List.getD_eq_getElem?_getD, List.getElem?_eq_getElem hi] at q
    refine List.nodup_append.mpr ⟨hd, by simp, fun a ha b hb z => ?_⟩
    have hb' : b = ws[i] := by simpa using hb
    subst hb'
    subst z
    exact q ha
theorem nodup_take {ws : List Str} (h : ws.Nodup) {k : Nat} (hk : k < ws.length) : ws.getD k "" ∉ ws.take k := fun hm => by
  rw [List.getD_eq_getElem?_getD, List.getElem?_eq_getElem hk] at hm
  obtain ⟨j, hj, e⟩ := List.mem_iff_getElem.mp hm
  rw [List.length_take] at hj
  rw [List.getElem_take] at e
  have e' : ws[j] = ws[k] := e
  have := (List.getElem_inj h).mp e'
  omega
def houseT (ws : List Str) (k : Nat) : Bool := nameB (ws.getD k "") && !decide (ws.getD k "" ∈ ws.take k)
theorem houses_all (ws : List Str) : (List.range' 0 ws.length).all (houseT ws) = (ws.all nameB && decide ws.Nodup) := by
  rw [Bool.eq_iff_iff, Bool.and_eq_true, decide_eq_true_iff, List.all_eq_true, List.all_eq_true]
  unfold houseT
  simp only [Bool.and_eq_true, Bool.not_eq_true', decide_eq_false_iff_not]
  constructor
  · intro h
    have hk : ∀ k, k < ws.length → k ∈ List.range' 0 ws.length := fun k hk => List.mem_range'_1.mpr ⟨Nat.zero_le _, by omega⟩
    refine ⟨fun w hw => ?_, take_nodup ws 0 (fun k _ h2 => (h k (hk k h2)).2) (by simp)⟩
    obtain ⟨j, hj, rfl⟩ := List.mem_iff_getElem.mp hw
    have q := (h j (hk j hj)).1
    rw [List.getD_eq_getElem?_getD, List.getElem?_eq_getElem hj] at q
    exact q
  · rintro ⟨h1, h2⟩ k hk
    have hk' : k < ws.length := by have := (List.mem_range'_1.mp hk).2; omega
    refine ⟨?_, nodup_take h2 hk'⟩
    rw [List.getD_eq_getElem?_getD, List.getElem?_eq_getElem hk']
    exact h1 _ (List.getElem_mem hk')
end Py

namespace Py
open PySem L2 Wk
theorem fVs_strs : ∀ us : List Str, fVs (us.map .str) = some (us.map V.str)
  | [] => rfl
  | u :: us => by
    show fVs (D.str u :: us.map .str) = _
    unfold fVs
    rw [fVs_strs us]
    rfl
theorem inV_strs (w : Str) : ∀ us : List Str, inV (.str w) (us.map V.str) = decide (w ∈ us) := fun us => by
  unfold inV
  rw [List.any_map, Bool.eq_iff_iff, List.any_eq_true, decide_eq_true_iff]
  constructor
  · rintro ⟨x, hx, e⟩
    have : x = w := by
      have e' : eqV (V.str x) (V.str w) = true := e
      unfold eqV at e'
      simpa using e'
    rw [← this]; exact hx
  · intro h
    refine ⟨w, h, ?_⟩
    show eqV (V.str w) (V.str w) = true
    unfold eqV
    simp
theorem dIn_strs (w : Str) (us : List Str) : dIn (.str w) (wl us) = .ok (.bl (decide (w ∈ us))) := by
  show (dMem (.str w) (.lst (us.map .str))).bind _ = _
  have e : dMem (.str w) (.lst (us.map .str)) = .ok (decide (w ∈ us)) := by
    show (match fV (.str w), fVs (us.map .str) with | some v, some vs => X.ok (inV v vs) | _, _ => .bad) = _
    rw [fVs_strs]
    show X.ok (inV (.str w) (us.map V.str)) = _
    rw [inV_strs]
  rw [e, X.bind_ok]
theorem cutL {α : Type} (xs : List α) (k : Nat) (h : k ≤ xs.length) : cut xs none (some (k : Int)) = xs.take k := by
  unfold cut
  rw [HT.sIx_nat, HT.sIx_none, List.drop_zero, Nat.sub_zero, Nat.min_eq_left h]
theorem cutR {α : Type} (xs : List α) (k : Nat) (h : k ≤ xs.length) : cut xs (some (k : Int)) none = xs.drop k := by
  unfold cut
  rw [HT.sIx_nat, HT.sIx_none, Nat.min_eq_left h]
  exact List.take_of_length_le (by rw [List.length_drop]; omega)
theorem wcut (us : List Str) (lo hi : Option Int) : dCut (wl us) lo hi = .ok (wl (cut us lo hi)) := by
  show X.ok (D.lst (cut (us.map D.str) lo hi)) = _
  rw [cut_words]
theorem houses_ok (ws : List Str) (hs : Short ws) (hl : ws.length ≤ 1000000) (lo hi : Nat) : m_law_houses (wl ws) (.int (lo : Nat)) (.int (hi : Nat)) = .ret (.sh (.bl (housesB ws lo hi))) := by
  unfold m_law_houses
  simp only [X.cons_ok, X.bind_ok, wl_len, X.b2_ok, dLt_i, dGt_i, X.tst_bl, X.or_ok]
  have h1 : decide (((ws.length : Nat) : Int) < (lo : Nat)) = !decide (lo ≤ ws.length) := by
    by_cases h : lo ≤ ws.length
    · rw [decide_eq_true h]; exact decide_eq_false (by omega)
    · rw [decide_eq_false h]; exact decide_eq_true (by omega)
  have h2 : decide (((hi : Nat) : Int) < (ws.length : Nat)) = !decide (ws.length ≤ hi) := by
    by_cases h : ws.length ≤ hi
    · rw [decide_eq_true h]; exact decide_eq_false (by omega)
    · rw [decide_eq_false h]; exact decide_eq_true (by omega)
  rw [h1, h2]
  unfold housesB
  cases decide (lo ≤ ws.length) with
  | false => rfl
  | true =>
    cases decide (ws.length ≤ hi) with
    | false => rfl
    | true =>
      rw [show (!true || !true) = false from rfl, X.ifM_f, M.bind_ok, rng1_n _ hl, forX_some, show rng 0 1 ws.length = (List.range' 0 ws.length).map fun k => D.int (k : Nat) from rng_map ws.length 0]
      rw [forM_all (p := fun d => match d with | .int i => houseT ws i.toNat | _ => false) (r := .sh (.bl false))]
      · rw [List.all_map]
        have e : (List.range' 0 ws.length).all ((fun d => match d with | .int i => houseT ws i.toNat | _ => false) ∘ fun k => D.int (k : Nat)) = (List.range' 0 ws.length).all (houseT ws) := rfl
        rw [e, houses_all]
        show _ = M.ret (T.sh (D.bl (true && (ws.all nameB && decide ws.Nodup))))
        rw [Bool.true_and]
        cases (ws.all nameB && decide ws.Nodup) <;> rfl
      · intro x hx
        obtain ⟨k, hk, rfl⟩ := List.mem_map.mp hx
        have hk' : k < ws.length := by have := (List.mem_range'_1.mp hk).2; omega
        unfold m_law_houses_b1
        have e1 := wl_at hk'
        simp only [X.b2_ok, e1, X.cons_ok, X.call_ok, ar1_1, law_word_ok _ (hs.at k), M.fn_ret, T.toD_sh, X.tst_bl, X.not_ok, X.bind_ok, dPart_i, X.cut_ok, wcut, cutL ws k (by omega), dIn_strs, X.or_ok]
        rw [X.ifM_ok]
        show _ = if (nameB (ws.getD k "") && !decide (ws.getD k "" ∈ ws.take k)) = true then M.ok () else M.ret (T.sh (D.bl false))
        cases nameB (ws.getD k "") <;> cases decide (ws.getD k "" ∈ ws.take k) <;> rfl
/-- the law's reading of words -/
def lawB (ws : List Str) : Bool :=
  if (decide (ws.getD 0 "" = "join") || decide (ws.getD 0 "" = "leave")) = true then housesB (ws.drop 1) 1 1 else
  if (decide (ws.getD 0 "" = "trust") && decide (ws.length = 4)) = true then housesB [ws.getD 1 "", ws.getD 2 ""] 2 2 && figuresB (ws.getD 3 "") 0 59 else
  if (decide (ws.getD 0 "" = "pay") && decide (ws.length = 4)) = true then housesB [ws.getD 1 "", ws.getD 2 ""] 2 2 && figuresB (ws.getD 3 "") 1 60 else
  if (decide (ws.getD 0 "" = "turn") && decide (1 < ws.length)) = true then housesB (ws.drop 2) 3 8 && figuresB (ws.getD 1 "") 1 60 else false
theorem cut24 {ws : List Str} (h : ws.length = 4) : cut ws (some 1) (some 3) = [ws.getD 1 "", ws.getD 2 ""] := by
  match ws, h with
  | [a, b, c, d], _ => rfl
theorem andB (a b : Bool) : X.andV (.ok (.bl a)) (.ok (.bl b)) = .ok (.bl (a && b)) := X.andV_ok a b
theorem Short.pair {ws : List Str} (hs : Short ws) : Short [ws.getD 1 "", ws.getD 2 ""] := fun w hw => by
  simp only [List.mem_cons, List.not_mem_nil, or_false] at hw
  rcases hw with rfl | rfl
  · exact hs.at 1
  · exact hs.at 2
theorem good_ok (x : Str) (h : x.length ≤ 900000) : m_law_good (.str x) = .ret (.sh (.bl (lawB (Txt.split x blank)))) := by
  have h0 := split_ne x
  have hs := split_short h
  have hl : (Txt.split x blank).length ≤ 1000000 := by have := split_weight x; omega
  unfold m_law_good
  have es : dSplL (.str x) [.str blank] = .ok ((Txt.split x blank).map .str) := by
    show (if ((blank : Str).length == 0) = false ∧ x.length ≤ 1000000 then X.ok ((Txt.split x blank).map D.str) else .bad) = _
    rw [if_pos ⟨by decide, by omega⟩]
  have e1 : dSplS (.str x) = .ok (.str x) := Eq.trans rfl rfl
  rw [show (D.str " ") = .str blank from rfl]
  rw [X.bind_ok, dIs_str, X.tst_bl, X.not_ok, show (!(Ty.str == Ty.str)) = false from rfl, X.ifM_f, M.bind_ok, X.bind_ok, e1, X.cons_ok, X.b2_ok, es]
  have el : X.lst (.ok ((Txt.split x blank).map .str)) = .ok (wl (Txt.split x blank)) := Eq.trans rfl rfl
  rw [el, X.to_ok]
  generalize Txt.split x blank = ws at *
  rw [key_at ws h0, key_at ws h0, key_at ws h0, key_at ws h0, key_at ws h0, X.or_ok, X.ifM_ok]
  have len4 := len_is ws 4
  rw [show ((4 : Nat) : Int) = 4 from rfl] at len4
  have len1 : X.tst (X.b2 (X.bind (X.cons (.ok (wl ws)) (.ok [])) dLen) (.ok (.int 1)) dGt) = .ok (decide (1 < ws.length)) := by
    rw [X.cons_ok, X.bind_ok, wl_len, X.b2_ok, dGt_i, X.tst_bl]
    congr 1
    exact decide_eq_decide.mpr (by omega)
  rw [len4, len1, X.and_ok, X.and_ok, X.and_ok]
  unfold lawB
  split
  · rw [X.bind_ok, dPart_i, X.cut_ok, wcut, show (some (1 : Int)) = some (((1 : Nat) : Int)) from rfl, cutR ws 1 (by omega), X.cons_ok, X.cons_ok, X.cons_ok, X.call_ok, ar3_3, show (D.int 1) = D.int ((1 : Nat) : Int) from rfl, houses_ok _ (hs.drop 1) (by rw [List.length_drop]; omega), M.fn_ret, T.toD_sh, X.retM_ok, M.bind_ret]
  rw [M.bind_ok, X.ifM_ok]
  split
  · rename_i hc
    simp only [Bool.and_eq_true, decide_eq_true_eq] at hc
    have e3 := wl_at (ws := ws) (i := 3) (by omega)
    rw [show ((3 : Nat) : Int) = 3 from rfl] at e3
    rw [X.bind_ok, X.bind_ok, dPart_i, dPart_i, X.cut_ok, wcut, cut24 hc.2, X.b2_ok, e3, X.cons_ok, X.cons_ok, X.cons_ok, X.call_ok, ar3_3, show (D.int 2) = D.int ((2 : Nat) : Int) from rfl, houses_ok _ hs.pair (by show 2 ≤ 1000000; decide), M.fn_ret, T.toD_sh,
      X.cons_ok, X.cons_ok, X.cons_ok, X.call_ok, ar3_3, law_figures_ok _ (hs.at 3), M.fn_ret, T.toD_sh, andB, X.retM_ok, M.bind_ret]
  rw [M.bind_ok, X.ifM_ok]
  split
  · rename_i hc
    simp only [Bool.and_eq_true, decide_eq_true_eq] at hc
    have e3 := wl_at (ws := ws) (i := 3) (by omega)
    rw [show ((3 : Nat) : Int) = 3 from rfl] at e3
    rw [X.bind_ok, X.bind_ok, dPart_i, dPart_i, X.cut_ok, wcut, cut24 hc.2, X.b2_ok, e3, X.cons_ok, X.cons_ok, X.cons_ok, X.call_ok, ar3_3, show (D.int 2) = D.int ((2 : Nat) : Int) from rfl, houses_ok _ hs.pair (by show 2 ≤ 1000000; decide), M.fn_ret, T.toD_sh,
      X.cons_ok, X.cons_ok, X.cons_ok, X.call_ok, ar3_3, law_figures_ok _ (hs.at 3), M.fn_ret, T.toD_sh, andB, X.retM_ok, M.bind_ret]
  rw [M.bind_ok, X.ifM_ok]
  split
  · rename_i hc
    simp only [Bool.and_eq_true, decide_eq_true_eq] at hc
    have e1 := wl_at (ws := ws) (i := 1) (by omega)
    rw [show ((1 : Nat) : Int) = 1 from rfl] at e1
    rw [X.bind_ok, dPart_i, X.cut_ok, wcut, show (some (2 : Int)) = some (((2 : Nat) : Int)) from rfl, cutR ws 2 (by omega), X.b2_ok, e1, X.cons_ok, X.cons_ok, X.cons_ok, X.call_ok, ar3_3, show (D.int 3) = D.int ((3 : Nat) : Int) from rfl, show (D.int 8) = D.int ((8 : Nat) : Int) from rfl, houses_ok _ (hs.drop 2) (by rw [List.length_drop]; omega), M.fn_ret, T.toD_sh,
      X.cons_ok, X.cons_ok, X.cons_ok, X.call_ok, ar3_3, law_figures_ok _ (hs.at 1), M.fn_ret, T.toD_sh, andB, X.retM_ok, M.bind_ret]
  rw [M.bind_ok, X.retM_ok]
end Py

namespace Py
open PySem L2 Wk
/-! ### both readings agree; a deed's row is its words joined -/
theorem kk_join_join : decide (("join" : Str) = "join") = true := by decide +kernel
theorem kk_join_leave : decide (("join" : Str) = "leave") = false := by decide +kernel
theorem kk_join_trust : decide (("join" : Str) = "trust") = false := by decide +kernel
theorem kk_join_pay : decide (("join" : Str) = "pay") = false := by decide +kernel
theorem kk_join_turn : decide (("join" : Str) = "turn") = false := by decide +kernel
theorem kk_leave_join : decide (("leave" : Str) = "join") = false := by decide +kernel
theorem kk_leave_leave : decide (("leave" : Str) = "leave") = true := by decide +kernel
theorem kk_leave_trust : decide (("leave" : Str) = "trust") = false := by decide +kernel
theorem kk_leave_pay : decide (("leave" : Str) = "pay") = false := by decide +kernel
theorem kk_leave_turn : decide (("leave" : Str) = "turn") = false := by decide +kernel
theorem kk_trust_join : decide (("trust" : Str) = "join") = false := by decide +kernel
theorem kk_trust_leave : decide (("trust" : Str) = "leave") = false := by decide +kernel
theorem kk_trust_trust : decide (("trust" : Str) = "trust") = true := by decide +kernel
theorem kk_trust_pay : decide (("trust" : Str) = "pay") = false := by decide +kernel
theorem kk_trust_turn : decide (("trust" : Str) = "turn") = false := by decide +kernel
theorem kk_pay_join : decide (("pay" : Str) = "join") = false := by decide +kernel
theorem kk_pay_leave : decide (("pay" : Str) = "leave") = false := by decide +kernel
theorem kk_pay_trust : decide (("pay" : Str) = "trust") = false := by decide +kernel
theorem kk_pay_pay : decide (("pay" : Str) = "pay") = true := by decide +kernel
theorem kk_pay_turn : decide (("pay" : Str) = "turn") = false := by decide +kernel
theorem kk_turn_join : decide (("turn" : Str) = "join") = false := by decide +kernel
theorem kk_turn_leave : decide (("turn" : Str) = "leave") = false := by decide +kernel
theorem kk_turn_trust : decide (("turn" : Str) = "trust") = false := by decide +kernel
theorem kk_turn_pay : decide (("turn" : Str) = "pay") = false := by decide +kernel
theorem kk_turn_turn : decide (("turn" : Str) = "turn") = true := by decide +kernel
theorem ff_if {α : Type} (a b : α) : (if (false : Bool) = true then a else b) = b := if_neg Bool.false_ne_true
theorem two {ws : List Str} (h : ws.length = 2) : ws = [ws.getD 0 "", ws.getD 1 ""] := by
  match ws, h with
  | [a, b], _ => rfl
theorem lineB_parts {i : Int} (h : lineB i = true) : 0 ≤ i ∧ i < 10 ^ 59 := by
  unfold lineB at h
  simpa [Bool.and_eq_true] using h
theorem amountB_parts {i : Int} (h : amountB i = true) : 1 ≤ i ∧ i < 10 ^ 60 := by
  unfold amountB at h
  simpa [Bool.and_eq_true] using h
theorem numB_fig {s : Str} (h : 0 ≤ numB s) : figB s = true := by
  cases hf : figB s with
  | true => rfl
  | false =>
    have e : numB s = -1 := by unfold numB; rw [if_neg (by rw [hf]; exact Bool.false_ne_true)]
    rw [e] at h
    exact absurd h (by decide)
theorem house1 (w : Str) : housesB [w] 1 1 = nameB w := by
  unfold housesB
  have e : decide ([w] : List Str).Nodup = true := decide_eq_true (by simp)
  rw [e]
  show (true && true && ((nameB w && true) && true)) = nameB w
  cases nameB w <;> rfl
theorem house2 (a b : Str) : housesB [a, b] 2 2 = name2 a b := by
  unfold housesB name2
  have e : decide ([a, b] : List Str).Nodup = !decide (a = b) := by
    by_cases h : a = b
    · subst h
      rw [decide_eq_true rfl]
      exact decide_eq_false (by simp)
    · rw [decide_eq_false h]
      exact decide_eq_true (by simp [h])
  rw [e]
  show (true && true && ((nameB a && (nameB b && true)) && !decide (a = b))) = (nameB a && (nameB b && !decide (a = b)))
  cases nameB a <;> cases nameB b <;> rfl
theorem all_nodup (ws : List Str) : allB ws = (ws.all nameB && decide ws.Nodup) := by
  rw [Bool.eq_iff_iff, Bool.and_eq_true, decide_eq_true_iff]
  constructor
  · intro h
    have q : ∀ w ∈ ws, nameB w = true ∧ ws.count w ≤ 1 := fun w hw => by
      have := List.all_eq_true.mp h w hw
      simpa [Bool.and_eq_true] using this
    refine ⟨List.all_eq_true.mpr fun w hw => (q w hw).1, List.nodup_iff_count.mpr fun w => ?_⟩
    by_cases hw : w ∈ ws
    · exact (q w hw).2
    · rw [List.count_eq_zero.mpr hw]; exact Nat.zero_le _
  · rintro ⟨h1, h2⟩
    exact nodup_all (List.all_eq_true.mp h1) h2
def Agree (ws : List Str) : Prop := lawB ws = !isNon (deedOf ws) ∧ (isNon (deedOf ws) = false → ROW (.ok (deedOf ws)) = .ok (.str (Txt.join blank ws)))
theorem agree_non {ws : List Str} (h1 : lawB ws = false) (h2 : deedOf ws = .non) : Agree ws := by
  unfold Agree
  rw [h1, h2]
  exact ⟨rfl, fun z => nomatch z⟩
theorem agree_join {ws : List Str} (hk : ws.getD 0 "" = "join") : Agree ws := by
  have el : lawB ws = housesB (ws.drop 1) 1 1 := by
    unfold lawB
    rw [hk]
    simp only [decide_true, kk_join_join, kk_join_leave, kk_join_trust, kk_join_pay, kk_join_turn, kk_leave_join, kk_leave_leave, kk_leave_trust, kk_leave_pay, kk_leave_turn, kk_trust_join, kk_trust_leave, kk_trust_trust, kk_trust_pay, kk_trust_turn, kk_pay_join, kk_pay_leave, kk_pay_trust, kk_pay_pay, kk_pay_turn, kk_turn_join, kk_turn_leave, kk_turn_trust, kk_turn_pay, kk_turn_turn, Bool.true_or, if_true, ite_true, Bool.or_false, Bool.true_or]
  have ed : deedOf ws = if (decide (ws.length = 2) && nameB (ws.getD 1 "")) = true then .ins .join [.str (ws.getD 1 "")] else .non := by
    unfold deedOf
    rw [hk]
    simp only [decide_true, kk_join_join, kk_join_leave, kk_join_trust, kk_join_pay, kk_join_turn, kk_leave_join, kk_leave_leave, kk_leave_trust, kk_leave_pay, kk_leave_turn, kk_trust_join, kk_trust_leave, kk_trust_trust, kk_trust_pay, kk_trust_turn, kk_pay_join, kk_pay_leave, kk_pay_trust, kk_pay_pay, kk_pay_turn, kk_turn_join, kk_turn_leave, kk_turn_trust, kk_turn_pay, kk_turn_turn, Bool.true_and, Bool.false_and, ff_if]
  by_cases h2 : ws.length = 2
  · have q := two h2
    rw [hk] at q
    generalize ws.getD 1 "" = w at *
    subst q
    have el2 : lawB ["join", w] = nameB w := by rw [el]; exact house1 w
    rw [decide_eq_true (show (["join", w] : List Str).length = 2 from rfl), Bool.true_and] at ed
    unfold Agree
    rw [el2, ed]
    cases hn : nameB w with
    | false => exact ⟨rfl, fun z => nomatch z⟩
    | true => exact ⟨rfl, fun _ => row_join w (by have := (name_len hn).2; omega)⟩
  · refine agree_non ?_ ?_
    · rw [el]
      unfold housesB
      rw [List.length_drop]
      have e : (decide (1 ≤ ws.length - 1) && decide (ws.length - 1 ≤ 1)) = false := by
        by_cases a : 1 ≤ ws.length - 1
        · rw [decide_eq_false (show ¬ ws.length - 1 ≤ 1 by omega), Bool.and_false]
        · rw [decide_eq_false a, Bool.false_and]
      rw [e]; rfl
    · rw [ed, decide_eq_false h2, Bool.false_and, ff_if]
theorem agree_leave {ws : List Str} (hk : ws.getD 0 "" = "leave") : Agree ws := by
  have el : lawB ws = housesB (ws.drop 1) 1 1 := by
    unfold lawB
    rw [hk]
    simp only [decide_true, kk_join_join, kk_join_leave, kk_join_trust, kk_join_pay, kk_join_turn, kk_leave_join, kk_leave_leave, kk_leave_trust, kk_leave_pay, kk_leave_turn, kk_trust_join, kk_trust_leave, kk_trust_trust, kk_trust_pay, kk_trust_turn, kk_pay_join, kk_pay_leave, kk_pay_trust, kk_pay_pay, kk_pay_turn, kk_turn_join, kk_turn_leave, kk_turn_trust, kk_turn_pay, kk_turn_turn, Bool.or_true, if_true, ite_true, Bool.or_false, Bool.true_or]
  have ed : deedOf ws = if (decide (ws.length = 2) && nameB (ws.getD 1 "")) = true then .ins .leave [.str (ws.getD 1 "")] else .non := by
    unfold deedOf
    rw [hk]
    simp only [decide_true, kk_join_join, kk_join_leave, kk_join_trust, kk_join_pay, kk_join_turn, kk_leave_join, kk_leave_leave, kk_leave_trust, kk_leave_pay, kk_leave_turn, kk_trust_join, kk_trust_leave, kk_trust_trust, kk_trust_pay, kk_trust_turn, kk_pay_join, kk_pay_leave, kk_pay_trust, kk_pay_pay, kk_pay_turn, kk_turn_join, kk_turn_leave, kk_turn_trust, kk_turn_pay, kk_turn_turn, Bool.true_and, Bool.false_and, ff_if]
  by_cases h2 : ws.length = 2
  · have q := two h2
    rw [hk] at q
    generalize ws.getD 1 "" = w at *
    subst q
    have el2 : lawB ["leave", w] = nameB w := by rw [el]; exact house1 w
    rw [decide_eq_true (show (["leave", w] : List Str).length = 2 from rfl), Bool.true_and] at ed
    unfold Agree
    rw [el2, ed]
    cases hn : nameB w with
    | false => exact ⟨rfl, fun z => nomatch z⟩
    | true => exact ⟨rfl, fun _ => row_leave w (by have := (name_len hn).2; omega)⟩
  · refine agree_non ?_ ?_
    · rw [el]
      unfold housesB
      rw [List.length_drop]
      have e : (decide (1 ≤ ws.length - 1) && decide (ws.length - 1 ≤ 1)) = false := by
        by_cases a : 1 ≤ ws.length - 1
        · rw [decide_eq_false (show ¬ ws.length - 1 ≤ 1 by omega), Bool.and_false]
        · rw [decide_eq_false a, Bool.false_and]
      rw [e]; rfl
    · rw [ed, decide_eq_false h2, Bool.false_and, ff_if]
theorem agree_trust {ws : List Str} (hk : ws.getD 0 "" = "trust") : Agree ws := by
  have el : lawB ws = if decide (ws.length = 4) = true then housesB [ws.getD 1 "", ws.getD 2 ""] 2 2 && figuresB (ws.getD 3 "") 0 59 else false := by
    unfold lawB
    rw [hk]
    simp only [decide_true, kk_join_join, kk_join_leave, kk_join_trust, kk_join_pay, kk_join_turn, kk_leave_join, kk_leave_leave, kk_leave_trust, kk_leave_pay, kk_leave_turn, kk_trust_join, kk_trust_leave, kk_trust_trust, kk_trust_pay, kk_trust_turn, kk_pay_join, kk_pay_leave, kk_pay_trust, kk_pay_pay, kk_pay_turn, kk_turn_join, kk_turn_leave, kk_turn_trust, kk_turn_pay, kk_turn_turn, Bool.or_false, Bool.true_and, Bool.false_and, ff_if]
  have ed : deedOf ws = if (decide (ws.length = 4) && (name2 (ws.getD 1 "") (ws.getD 2 "") && lineB (numB (ws.getD 3 "")))) = true then .ins .trust [.str (ws.getD 1 ""), .str (ws.getD 2 ""), .int (numB (ws.getD 3 ""))] else .non := by
    unfold deedOf
    rw [hk]
    simp only [decide_true, kk_join_join, kk_join_leave, kk_join_trust, kk_join_pay, kk_join_turn, kk_leave_join, kk_leave_leave, kk_leave_trust, kk_leave_pay, kk_leave_turn, kk_trust_join, kk_trust_leave, kk_trust_trust, kk_trust_pay, kk_trust_turn, kk_pay_join, kk_pay_leave, kk_pay_trust, kk_pay_pay, kk_pay_turn, kk_turn_join, kk_turn_leave, kk_turn_trust, kk_turn_pay, kk_turn_turn, Bool.true_and, Bool.false_and, ff_if]
  by_cases h4 : ws.length = 4
  · have q := four h4
    rw [hk] at q
    rw [decide_eq_true h4, if_pos rfl, house2, fig_line] at el
    rw [decide_eq_true h4, Bool.true_and] at ed
    generalize ws.getD 1 "" = a at *
    generalize ws.getD 2 "" = b at *
    generalize ws.getD 3 "" = c at *
    unfold Agree
    rw [el, ed]
    cases hc : (name2 a b && lineB (numB c)) with
    | false => exact ⟨rfl, fun z => nomatch z⟩
    | true =>
      refine ⟨rfl, fun _ => ?_⟩
      rw [Bool.and_eq_true] at hc
      have hn := hc.1
      unfold name2 at hn
      simp only [Bool.and_eq_true] at hn
      obtain ⟨l0, l1⟩ := lineB_parts hc.2
      rw [q, if_pos rfl, row_trust a b _ (by have := (name_len hn.1).2; omega) (by have := (name_len hn.2.1).2; omega) l0 (lt59 l1), sI_num (numB_fig l0)]
  · exact agree_non (by rw [el, decide_eq_false h4, ff_if]) (by rw [ed, decide_eq_false h4, Bool.false_and, ff_if])
theorem agree_pay {ws : List Str} (hk : ws.getD 0 "" = "pay") : Agree ws := by
  have el : lawB ws = if decide (ws.length = 4) = true then housesB [ws.getD 1 "", ws.getD 2 ""] 2 2 && figuresB (ws.getD 3 "") 1 60 else false := by
    unfold lawB
    rw [hk]
    simp only [decide_true, kk_join_join, kk_join_leave, kk_join_trust, kk_join_pay, kk_join_turn, kk_leave_join, kk_leave_leave, kk_leave_trust, kk_leave_pay, kk_leave_turn, kk_trust_join, kk_trust_leave, kk_trust_trust, kk_trust_pay, kk_trust_turn, kk_pay_join, kk_pay_leave, kk_pay_trust, kk_pay_pay, kk_pay_turn, kk_turn_join, kk_turn_leave, kk_turn_trust, kk_turn_pay, kk_turn_turn, Bool.or_false, Bool.true_and, Bool.false_and, ff_if]
  have ed : deedOf ws = if (decide (ws.length = 4) && (name2 (ws.getD 1 "") (ws.getD 2 "") && amountB (numB (ws.getD 3 "")))) = true then .ins .pay [.str (ws.getD 1 ""), .str (ws.getD 2 ""), .int (numB (ws.getD 3 ""))] else .non := by
    unfold deedOf
    rw [hk]
    simp only [decide_true, kk_join_join, kk_join_leave, kk_join_trust, kk_join_pay, kk_join_turn, kk_leave_join, kk_leave_leave, kk_leave_trust, kk_leave_pay, kk_leave_turn, kk_trust_join, kk_trust_leave, kk_trust_trust, kk_trust_pay, kk_trust_turn, kk_pay_join, kk_pay_leave, kk_pay_trust, kk_pay_pay, kk_pay_turn, kk_turn_join, kk_turn_leave, kk_turn_trust, kk_turn_pay, kk_turn_turn, Bool.true_and, Bool.false_and, ff_if]
  by_cases h4 : ws.length = 4
  · have q := four h4
    rw [hk] at q
    rw [decide_eq_true h4, if_pos rfl, house2, fig_amount] at el
    rw [decide_eq_true h4, Bool.true_and] at ed
    generalize ws.getD 1 "" = a at *
    generalize ws.getD 2 "" = b at *
    generalize ws.getD 3 "" = c at *
    unfold Agree
    rw [el, ed]
    cases hc : (name2 a b && amountB (numB c)) with
    | false => exact ⟨rfl, fun z => nomatch z⟩
    | true =>
      refine ⟨rfl, fun _ => ?_⟩
      rw [Bool.and_eq_true] at hc
      have hn := hc.1
      unfold name2 at hn
      simp only [Bool.and_eq_true] at hn
      obtain ⟨l0, l1⟩ := amountB_parts hc.2
      rw [q, if_pos rfl, row_pay a b _ (by have := (name_len hn.1).2; omega) (by have := (name_len hn.2.1).2; omega) (by omega) l1, sI_num (numB_fig (by omega))]
  · exact agree_non (by rw [el, decide_eq_false h4, ff_if]) (by rw [ed, decide_eq_false h4, Bool.false_and, ff_if])
theorem agree_turn {ws : List Str} (hk : ws.getD 0 "" = "turn") : Agree ws := by
  have el : lawB ws = if decide (1 < ws.length) = true then housesB (ws.drop 2) 3 8 && figuresB (ws.getD 1 "") 1 60 else false := by
    unfold lawB
    rw [hk]
    simp only [decide_true, kk_join_join, kk_join_leave, kk_join_trust, kk_join_pay, kk_join_turn, kk_leave_join, kk_leave_leave, kk_leave_trust, kk_leave_pay, kk_leave_turn, kk_trust_join, kk_trust_leave, kk_trust_trust, kk_trust_pay, kk_trust_turn, kk_pay_join, kk_pay_leave, kk_pay_trust, kk_pay_pay, kk_pay_turn, kk_turn_join, kk_turn_leave, kk_turn_trust, kk_turn_pay, kk_turn_turn, Bool.or_false, Bool.true_and, Bool.false_and, ff_if]
  have ed : deedOf ws = if (decide (5 ≤ ws.length) && decide (ws.length ≤ 10) && (amountB (numB (ws.getD 1 "")) && allB (ws.drop 2))) = true then .ins .turn [wl (ws.drop 2), .int (numB (ws.getD 1 ""))] else .non := by
    unfold deedOf
    rw [hk]
    simp only [decide_true, kk_join_join, kk_join_leave, kk_join_trust, kk_join_pay, kk_join_turn, kk_leave_join, kk_leave_leave, kk_leave_trust, kk_leave_pay, kk_leave_turn, kk_trust_join, kk_trust_leave, kk_trust_trust, kk_trust_pay, kk_trust_turn, kk_pay_join, kk_pay_leave, kk_pay_trust, kk_pay_pay, kk_pay_turn, kk_turn_join, kk_turn_leave, kk_turn_trust, kk_turn_pay, kk_turn_turn, Bool.true_and, Bool.false_and, ff_if]
  by_cases hl : 5 ≤ ws.length ∧ ws.length ≤ 10
  · rw [decide_eq_true (show 1 < ws.length by omega), if_pos rfl, fig_amount] at el
    rw [decide_eq_true hl.1, decide_eq_true hl.2, Bool.and_self, Bool.true_and] at ed
    have eh : housesB (ws.drop 2) 3 8 = allB (ws.drop 2) := by
      rw [all_nodup]
      unfold housesB
      rw [List.length_drop, decide_eq_true (show 3 ≤ ws.length - 2 by omega), decide_eq_true (show ws.length - 2 ≤ 8 by omega)]
      rfl
    have eq : ws = ("turn" : Str) :: ws.getD 1 "" :: ws.drop 2 := by
      match ws, hl.1, hk with
      | a :: b :: r, _, hk => 
        have hk' : a = "turn" := hk
        rw [hk']; rfl
    have hd : (ws.drop 2).length = ws.length - 2 := List.length_drop
    generalize ws.getD 1 "" = c at *
    generalize ws.drop 2 = ring at *
    unfold Agree
    rw [el, ed, eh, Bool.and_comm (allB ring)]
    cases hc : (amountB (numB c) && allB ring) with
    | false => exact ⟨rfl, fun z => nomatch z⟩
    | true =>
      refine ⟨rfl, fun _ => ?_⟩
      rw [Bool.and_eq_true] at hc
      obtain ⟨l0, l1⟩ := amountB_parts hc.1
      have ha := hc.2
      rw [all_nodup, Bool.and_eq_true] at ha
      have hs := ring_sum (List.all_eq_true.mp ha.1)
      rw [eq, if_pos rfl, row_turn ring (fun z => by rw [z] at hd; simp at hd; omega) _ (by omega) (by omega) l1, sI_num (numB_fig (by omega))]
  · refine agree_non ?_ ?_
    · rw [el]
      split
      · rename_i h1
        have h1' : 1 < ws.length := of_decide_eq_true h1
        unfold housesB
        rw [List.length_drop]
        have e : (decide (3 ≤ ws.length - 2) && decide (ws.length - 2 ≤ 8)) = false := by
          by_cases a : 3 ≤ ws.length - 2
          · rw [decide_eq_false (show ¬ ws.length - 2 ≤ 8 by omega), Bool.and_false]
          · rw [decide_eq_false a, Bool.false_and]
        rw [e]; rfl
      · rfl
    · rw [ed]
      have e : (decide (5 ≤ ws.length) && decide (ws.length ≤ 10)) = false := by
        by_cases a : 5 ≤ ws.length
        · rw [decide_eq_false (show ¬ ws.length ≤ 10 by omega), Bool.and_false]
        · rw [decide_eq_false a, Bool.false_and]
      rw [e, Bool.false_and, ff_if]
theorem agree (ws : List Str) : Agree ws := by
  by_cases h1 : ws.getD 0 "" = "join"
  · exact agree_join h1
  by_cases h2 : ws.getD 0 "" = "leave"
  · exact agree_leave h2
  by_cases h3 : ws.getD 0 "" = "trust"
  · exact agree_trust h3
  by_cases h4 : ws.getD 0 "" = "pay"
  · exact agree_pay h4
  by_cases h5 : ws.getD 0 "" = "turn"
  · exact agree_turn h5
  refine agree_non ?_ ?_
  · unfold lawB
    simp only [decide_eq_false h1, decide_eq_false h2, decide_eq_false h3, decide_eq_false h4, decide_eq_false h5, Bool.or_false, Bool.false_and, ff_if]
  · unfold deedOf
    simp only [decide_eq_false h1, decide_eq_false h2, decide_eq_false h3, decide_eq_false h4, decide_eq_false h5, Bool.false_and, ff_if]
end Py

namespace Py
open PySem L2 Wk
/-! ### words spoiled: what comes is a text that is not too long -/
def Lim (us : List Str) : Prop := us.length ≤ 60 ∧ ∀ w ∈ us, w.length ≤ 200
theorem lim_sum : ∀ {us : List Str}, (∀ w ∈ us, w.length ≤ 200) → (us.map (·.length)).sum ≤ 200 * us.length
  | [], _ => Nat.le_refl _
  | w :: us, h => by
    have a := h w List.mem_cons_self
    have b := lim_sum fun z hz => h z (List.mem_cons_of_mem _ hz)
    rw [List.map_cons, List.sum_cons, List.length_cons]
    omega
theorem fin_ok {us : List Str} (h : Lim us) : (X.retM (X.b2 (X.bind (.ok (.str blank)) dStrOne) (X.cons (.ok (wl us)) (.ok [])) dJoin) : M Unit) = .ret (.sh (.str (Txt.join blank us))) ∧ (Txt.join blank us).length ≤ 900000 := by
  have a := lim_sum h.2
  have b := h.1
  have l3 : dStrOne (.str blank) = .ok (.str blank) := Eq.trans rfl rfl
  have c := join_len us
  refine ⟨?_, by omega⟩
  rw [X.bind_ok, l3, X.cons_ok, X.b2_ok, dJoin_ok us (by omega), X.retM_ok]
theorem flat_i (i : Int) : X.flat (.ok (.int i)) = .ok (.int i) := Eq.trans rfl rfl
theorem flat_s (s : Str) : X.flat (.ok (.str s)) = .ok (.str s) := Eq.trans rfl rfl
theorem cat_ok {a b : List Str} (h : a.length + b.length ≤ 1000000) : dCatL (wl a) (wl b) = .ok ((a ++ b).map .str) := by
  show (if (a.map D.str).length + (b.map D.str).length ≤ 1000000 then X.ok (a.map D.str ++ b.map D.str) else .bad) = _
  rw [List.length_map, List.length_map, if_pos h, ← List.map_append]
theorem set_ok {ws : List Str} {k : Nat} (h : k < ws.length) (w : Str) : setAt (ws.map .str) (.int (k : Nat)) (.str w) = .ok ((ws.set k w).map .str) := by
  have e : ixN (ws.map D.str).length (k : Nat) = some k := by
    unfold ixN
    rw [List.length_map, if_pos (by omega), if_pos (by omega)]
    rfl
  show (match ixN (ws.map D.str).length (k : Nat) with | some j => X.ok ((ws.map D.str).set j (.str w)) | none => .bad) = _
  rw [e]
  dsimp only
  rw [List.map_set]
theorem ix_any {ws : List Str} {i : Int} (h1 : -(ws.length : Int) ≤ i) (h2 : i < ws.length) : ∃ w, w ∈ ws ∧ dIx (wl ws) (.int i) = .ok (.str w) := by
  have hx : ∃ j, j < ws.length ∧ ixN (ws.map D.str).length i = some j := by
    unfold ixN
    rw [List.length_map]
    by_cases h : 0 ≤ i
    · rw [if_pos h, if_pos h2]; exact ⟨_, by omega, rfl⟩
    · rw [if_neg h, if_pos h1]; exact ⟨_, by omega, rfl⟩
  obtain ⟨j, hj, e⟩ := hx
  refine ⟨ws[j], List.getElem_mem hj, ?_⟩
  show X.of ((ixN (ws.map D.str).length i).bind fun j => (ws.map D.str)[j]?) = _
  rw [e]
  show X.of ((ws.map D.str)[j]?) = _
  rw [List.getElem?_map, List.getElem?_eq_getElem hj]
  rfl
theorem mem_set_lim {us : List Str} {k : Nat} {w : Str} (h : Lim us) (hw : w.length ≤ 200) : Lim (us.set k w) := ⟨by rw [List.length_set]; exact h.1, fun z hz => by
  rcases List.mem_or_eq_of_mem_set hz with q | q
  · exact h.2 z q
  · rw [q]; exact hw⟩
theorem words_ok (x : Str) (ws : List Str) (h2 : 2 ≤ ws.length) (hn : ws.length ≤ 20) (hw : ∀ w ∈ ws, w.length ≤ 200) (hx : Txt.split x blank = ws) (hx2 : x.length ≤ 900000) (place rest way : Int) (h0 : 0 ≤ rest) (hway : 3 ≤ way ∧ way < 8) :
    ∃ s, m_law_words (.str x) (.int place) (.int rest) (.int way) = .ret (.sh (.str s)) ∧ s.length ≤ 900000 := by
  have es : dSplL (.str x) [.str blank] = .ok (ws.map .str) := by
    show (if ((blank : Str).length == 0) = false ∧ x.length ≤ 1000000 then X.ok ((Txt.split x blank).map D.str) else .bad) = _
    rw [if_pos ⟨by decide, by omega⟩, hx]
  have e1 : dSplS (.str x) = .ok (.str x) := Eq.trans rfl rfl
  have el : X.bind (X.cons (.ok (wl ws)) (.ok [])) dLen = .ok (.int (ws.length : Nat)) := by rw [X.cons_ok, X.bind_ok, wl_len]
  have ek : X.flat (X.b2 (.ok (.int place)) (X.bind (X.cons (.ok (wl ws)) (.ok [])) dLen) dMod) = .ok (.int (place % (ws.length : Nat))) := by rw [el, X.b2_ok, dMod_p _ _ (by omega), flat_i]
  have k0 := Int.emod_nonneg place (show ((ws.length : Nat) : Int) ≠ 0 by omega)
  have k1 := Int.emod_lt_of_pos place (show (0 : Int) < (ws.length : Nat) by omega)
  unfold m_law_words
  rw [show (D.str " ") = .str blank from rfl, X.bind_ok, e1, X.cons_ok, X.b2_ok, es, X.to_ok, ek, X.to_ok]
  rw [show (place % ((ws.length : Nat) : Int)) = (((place % ((ws.length : Nat) : Int)).toNat : Nat) : Int) by omega]
  have hk : (place % ((ws.length : Nat) : Int)).toNat < ws.length := by omega
  generalize (place % ((ws.length : Nat) : Int)).toNat = k at *
  have c1 : X.cut (.ok (wl ws)) (.ok none) (X.bind (.ok (.int (k : Nat))) dPart) = .ok (wl (ws.take k)) := by rw [X.bind_ok, dPart_i, X.cut_ok, wcut, cutL ws k (by omega)]
  have c2 : X.cut (.ok (wl ws)) (X.bind (X.b2 (.ok (.int (k : Nat))) (.ok (.int 1)) dAdd) dPart) (.ok none) = .ok (wl (ws.drop (k + 1))) := by
    rw [X.b2_ok, dAdd_i, X.bind_ok, dPart_i, X.cut_ok, wcut, show ((k : Int) + 1) = ((k + 1 : Nat) : Int) by omega, cutR ws (k + 1) (by omega)]
  have c3 : X.cut (.ok (wl ws)) (X.bind (.ok (.int (k : Nat))) dPart) (.ok none) = .ok (wl (ws.drop k)) := by rw [X.bind_ok, dPart_i, X.cut_ok, wcut, cutR ws k (by omega)]
  rw [tstEq, tstEq, tstEq, tstEq, tstEq]
  have lw : Lim ws := ⟨by omega, hw⟩
  have hc : way = 3 ∨ way = 4 ∨ way = 5 ∨ way = 6 ∨ way = 7 := by omega
  rcases hc with rfl | rfl | rfl | rfl | rfl
  · have e : dCatL (wl (ws.take k)) (wl (ws.drop (k + 1))) = .ok ((ws.take k ++ ws.drop (k + 1)).map .str) := cat_ok (by rw [List.length_take, List.length_drop]; omega)
    have l : Lim (ws.take k ++ ws.drop (k + 1)) := ⟨by rw [List.length_append, List.length_take, List.length_drop]; omega, fun w h => by
      rcases List.mem_append.mp h with q | q
      · exact hw w (List.mem_of_mem_take q)
      · exact hw w (List.mem_of_mem_drop q)⟩
    obtain ⟨f1, f2⟩ := fin_ok l
    rw [show ((3 : Int) == 3) = true from rfl, X.ifM_t, c1, c2, X.b2_ok, e, X.to_ok, M.bind_ok, show ((3 : Int) == 4) = false from rfl, X.ifM_f, M.bind_ok, show ((3 : Int) == 5) = false from rfl, X.ifM_f, M.bind_ok, show ((3 : Int) == 6) = false from rfl, X.ifM_f, M.bind_ok, show ((3 : Int) == 7) = false from rfl, X.ifM_f, M.bind_ok, f1]
    exact ⟨_, rfl, f2⟩
  · have e3 := wl_at hk
    have ed : dLst [.str (ws.getD k "")] = .ok (wl [ws.getD k ""]) := Eq.trans rfl rfl
    have ea : dAdd (wl (ws.take k)) (wl [ws.getD k ""]) = .ok (wl (ws.take k ++ [ws.getD k ""])) := by
      rw [dAdd_l _ _ (by rw [List.length_map, List.length_map, List.length_take]; show _ + 1 ≤ _; omega), ← List.map_append]
    have e : dCatL (wl (ws.take k ++ [ws.getD k ""])) (wl (ws.drop k)) = .ok ((ws.take k ++ [ws.getD k ""] ++ ws.drop k).map .str) := cat_ok (by rw [List.length_append, List.length_take, List.length_drop]; show _ + 1 + _ ≤ _; omega)
    have hg : (ws.getD k "").length ≤ 200 := by
      rw [List.getD_eq_getElem?_getD, List.getElem?_eq_getElem hk]
      exact hw _ (List.getElem_mem hk)
    have l : Lim (ws.take k ++ [ws.getD k ""] ++ ws.drop k) := ⟨by rw [List.length_append, List.length_append, List.length_take, List.length_drop]; show _ + 1 + _ ≤ _; omega, fun w h => by
      rcases List.mem_append.mp h with q | q
      · rcases List.mem_append.mp q with q | q
        · exact hw w (List.mem_of_mem_take q)
        · rw [List.mem_singleton.mp q]; exact hg
      · exact hw w (List.mem_of_mem_drop q)⟩
    obtain ⟨f1, f2⟩ := fin_ok l
    rw [show ((4 : Int) == 3) = false from rfl, X.ifM_f, M.bind_ok, show ((4 : Int) == 4) = true from rfl, X.ifM_t, c1, X.b2_ok, e3, X.cons_ok, X.bind_ok, ed, X.b2_ok, ea, c3, X.b2_ok, e, X.to_ok, M.bind_ok, show ((4 : Int) == 5) = false from rfl, X.ifM_f, M.bind_ok, show ((4 : Int) == 6) = false from rfl, X.ifM_f, M.bind_ok, show ((4 : Int) == 7) = false from rfl, X.ifM_f, M.bind_ok, f1]
    exact ⟨_, rfl, f2⟩
  · obtain ⟨w, hm, ew⟩ := ix_any (ws := ws) (i := (k : Int) - 1) (by omega) (by omega)
    obtain ⟨f1, f2⟩ := fin_ok (mem_set_lim (k := k) lw (hw w hm))
    rw [show ((5 : Int) == 3) = false from rfl, X.ifM_f, M.bind_ok, show ((5 : Int) == 4) = false from rfl, X.ifM_f, M.bind_ok, show ((5 : Int) == 5) = true from rfl, X.ifM_t, X.b2_ok, dSub_i, X.b2_ok, ew, flat_s, X.to_ok, X.to_ok, set_ok hk, X.to_ok, M.bind_ok, show ((5 : Int) == 6) = false from rfl, X.ifM_f, M.bind_ok, show ((5 : Int) == 7) = false from rfl, X.ifM_f, M.bind_ok, f1]
    exact ⟨_, rfl, f2⟩
  · have ml : ∀ (z : Str) (n : Nat), z.length = 1 → n ≤ 61 → dMul (.str z) (.int (n : Nat)) = .ok (.str (Txt.mul z n)) ∧ (Txt.mul z (n : Nat)).length = n := fun z n h hn => ⟨dMul_str _ _ (by omega) (by omega), by rw [strMul_len, h, Nat.mul_one]⟩
    obtain ⟨z1, m1, g1⟩ : ∃ z : Str, dMul (.str "0") (.int 59) = .ok (.str z) ∧ z.length = 59 := ⟨_, ml "0" 59 rfl (by decide)⟩
    obtain ⟨z2, m2, g2⟩ : ∃ z : Str, dMul (.str "9") (.int 60) = .ok (.str z) ∧ z.length = 60 := ⟨_, ml "9" 60 rfl (by decide)⟩
    obtain ⟨z3, m3, g3⟩ : ∃ z : Str, dMul (.str "0") (.int 60) = .ok (.str z) ∧ z.length = 60 := ⟨_, ml "0" 60 rfl (by decide)⟩
    obtain ⟨z4, m4, g4⟩ : ∃ z : Str, dMul (.str "9") (.int 59) = .ok (.str z) ∧ z.length = 59 := ⟨_, ml "9" 59 rfl (by decide)⟩
    obtain ⟨z5, m5, g5⟩ : ∃ z : Str, dMul (.str "9") (.int 61) = .ok (.str z) ∧ z.length = 61 := ⟨_, ml "9" 61 rfl (by decide)⟩
    have a1 : dAdd (.str "1") (.str z1) = .ok (.str ("1" ++ z1)) := dAdd_s _ _ (by show 1 + _ ≤ _; omega)
    have a3 : dAdd (.str "1") (.str z3) = .ok (.str ("1" ++ z3)) := dAdd_s _ _ (by show 1 + _ ≤ _; omega)
    have b1 : (("1" : Str) ++ z1).length ≤ 61 := by rw [strAdd_len]; show 1 + _ ≤ _; omega
    have b3 : (("1" : Str) ++ z3).length ≤ 61 := by rw [strAdd_len]; show 1 + _ ≤ _; omega
    generalize hy1 : (("1" : Str) ++ z1) = y1 at *
    generalize hy3 : (("1" : Str) ++ z3) = y3 at *
    have p1 : X.bind (X.cons (.ok (.str "0")) (X.cons (.ok (.str "00")) (X.cons (.ok (.str "07")) (X.cons (.ok (.str "+1")) (X.cons (.ok (.str "-1")) (X.cons (.ok (.str "1_0")) (X.cons (.ok (.str "")) (X.cons (.ok (.str "1.0")) (X.cons (X.b2 (.ok (.str "1")) (X.b2 (.ok (.str "0")) (.ok (.int 59)) dMul) dAdd) (X.cons (X.b2 (.ok (.str "9")) (.ok (.int 60)) dMul) (X.cons (X.b2 (.ok (.str "1")) (X.b2 (.ok (.str "0")) (.ok (.int 60)) dMul) dAdd) (.ok [])))))))))))) dLst = .ok (wl ["0", "00", "07", "+1", "-1", "1_0", "", "1.0", y1, z2, y3]) := by
      rw [X.b2_ok, m1, X.b2_ok, a1, X.b2_ok, m2, X.b2_ok, m3, X.b2_ok, a3]
      exact Eq.trans rfl rfl
    have p2 : X.b2 (.ok (wl ["0", "00", "07", "+1", "-1", "1_0", "", "1.0", y1, z2, y3])) (X.bind (X.cons (X.b2 (.ok (.str "9")) (.ok (.int 59)) dMul) (X.cons (X.b2 (.ok (.str "9")) (.ok (.int 61)) dMul) (X.cons (.ok (.str "1\n")) (X.cons (.ok (.str "x1")) (.ok []))))) dLst) dAdd = .ok (wl ["0", "00", "07", "+1", "-1", "1_0", "", "1.0", y1, z2, y3, z4, z5, "1\n", "x1"]) := by
      have n1 : X.b2 (.ok (.str "9")) (.ok (.int 59)) dMul = .ok (.str z4) := by rw [X.b2_ok, m4]
      have n2 : X.b2 (.ok (.str "9")) (.ok (.int 61)) dMul = .ok (.str z5) := by rw [X.b2_ok, m5]
      rw [n1, n2]
      exact Eq.trans rfl rfl
    have d15 : X.b2 (.ok (.int rest)) (.ok (.int 15)) dDiv = .ok (.int (rest / 15)) := by rw [X.b2_ok, dDiv_p _ _ (by decide) (by decide)]
    have r2 : X.b2 (.ok (.int (rest / 15))) (.ok (.int 2)) dMod = .ok (.int (rest / 15 % 2)) := by rw [X.b2_ok, dMod_p _ _ (by decide)]
    have r15 : X.b2 (.ok (.int rest)) (.ok (.int 15)) dMod = .ok (.int (rest % 15)) := by rw [X.b2_ok, dMod_p _ _ (by decide)]
    obtain ⟨z, hz, ez⟩ := ix_any (ws := (["0", "00", "07", "+1", "-1", "1_0", "", "1.0", y1, z2, y3, z4, z5, "1\n", "x1"] : List Str)) (i := rest % 15) (by show (-15 : Int) ≤ _; omega) (by show _ < (15 : Int); omega)
    have lz : z.length ≤ 200 := by
      simp only [List.mem_cons, List.not_mem_nil, or_false] at hz
      rcases hz with rfl | rfl | rfl | rfl | rfl | rfl | rfl | rfl | rfl | rfl | rfl | rfl | rfl | rfl | rfl <;> first
        | omega
        | decide +kernel
    have q1 : X.b2 (.ok (wl ["0", "00", "07", "+1", "-1", "1_0", "", "1.0", y1, z2, y3, z4, z5, "1\n", "x1"])) (X.b2 (.ok (.int rest)) (.ok (.int 15)) dMod) dIx = .ok (.str z) := by rw [r15, X.b2_ok, ez]
    have hj : ∃ j : Nat, j < ws.length ∧ dIx (.lst [.int 1, .int ((ws.length : Nat) - 1)]) (.int (rest / 15 % 2)) = .ok (.int (j : Nat)) := by
      have hh : rest / 15 % 2 = 0 ∨ rest / 15 % 2 = 1 := by omega
      rcases hh with hh | hh <;> rw [hh]
      · exact ⟨1, by omega, dIx_l (k := 0) rfl⟩
      · refine ⟨ws.length - 1, by omega, ?_⟩
        rw [show (((ws.length - 1 : Nat)) : Int) = (ws.length : Nat) - 1 by omega]
        exact dIx_l (k := 1) rfl
    obtain ⟨j, hj1, hj2⟩ := hj
    have s1 : X.b2 (.ok (.int (ws.length : Nat))) (.ok (.int 1)) dSub = .ok (.int ((ws.length : Nat) - 1)) := by rw [X.b2_ok, dSub_i]
    have dl : X.bind (X.cons (.ok (.int 1)) (X.cons (.ok (.int ((ws.length : Nat) - 1))) (.ok []))) dLst = .ok (.lst [.int 1, .int ((ws.length : Nat) - 1)]) := Eq.trans rfl rfl
    have q2 : X.flat (X.b2 (X.bind (X.cons (.ok (.int 1)) (X.cons (X.b2 (X.bind (X.cons (.ok (wl ws)) (.ok [])) dLen) (.ok (.int 1)) dSub) (.ok []))) dLst) (X.b2 (X.b2 (.ok (.int rest)) (.ok (.int 15)) dDiv) (.ok (.int 2)) dMod) dIx) = .ok (.int (j : Nat)) := by
      rw [el, s1, dl, d15, r2, X.b2_ok, hj2, flat_i]
    obtain ⟨f1, f2⟩ := fin_ok (mem_set_lim (k := j) lw lz)
    rw [show ((6 : Int) == 3) = false from rfl, X.ifM_f, M.bind_ok, show ((6 : Int) == 4) = false from rfl, X.ifM_f, M.bind_ok, show ((6 : Int) == 5) = false from rfl, X.ifM_f, M.bind_ok, show ((6 : Int) == 6) = true from rfl, X.ifM_t]
    rw [p1, X.to_ok, p2, X.to_ok, q1, X.to_ok, q2, X.to_ok, set_ok hj1, X.to_ok, M.bind_ok, show ((6 : Int) == 7) = false from rfl, X.ifM_f, M.bind_ok, f1]
    exact ⟨_, rfl, f2⟩
  · have r9 : X.b2 (.ok (.int rest)) (.ok (.int 9)) dMod = .ok (.int (rest % 9)) := by rw [X.b2_ok, dMod_p _ _ (by decide)]
    have nine : X.bind (X.cons (.ok (.str "a")) (X.cons (.ok (.str "b")) (X.cons (.ok (.str "c")) (X.cons (.ok (.str "d")) (X.cons (.ok (.str "e")) (X.cons (.ok (.str "f")) (X.cons (.ok (.str "g")) (X.cons (.ok (.str "h")) (X.cons (.ok (.str "i")) (.ok [])))))))))) dLst = .ok (wl ["a", "b", "c", "d", "e", "f", "g", "h", "i"]) := Eq.trans rfl rfl
    have part : X.bind (X.b2 (.ok (.int 1)) (X.b2 (.ok (.int rest)) (.ok (.int 9)) dMod) dAdd) dPart = X.ok (some (1 + rest % 9)) := by rw [r9, X.b2_ok, dAdd_i, X.bind_ok, dPart_i]
    have p : X.cut (.ok (wl ["a", "b", "c", "d", "e", "f", "g", "h", "i"])) (.ok none) (X.ok (some (1 + rest % 9))) = .ok (wl ((["a", "b", "c", "d", "e", "f", "g", "h", "i"] : List Str).take (1 + rest % 9).toNat)) := by
      rw [X.cut_ok, wcut, show (1 + rest % 9 : Int) = (((1 + rest % 9).toNat : Nat) : Int) by omega, cutL _ _ (by show _ ≤ 9; omega), Int.toNat_natCast]
    have ll : (((["a", "b", "c", "d", "e", "f", "g", "h", "i"] : List Str).take (1 + rest % 9).toNat)).length ≤ 9 := by rw [List.length_take]; show min _ 9 ≤ 9; omega
    have lq : ∀ w ∈ ((["a", "b", "c", "d", "e", "f", "g", "h", "i"] : List Str).take (1 + rest % 9).toNat), w.length ≤ 200 := fun w h => by
      have h' := List.mem_of_mem_take h
      simp only [List.mem_cons, List.not_mem_nil, or_false] at h'
      rcases h' with rfl | rfl | rfl | rfl | rfl | rfl | rfl | rfl | rfl <;> decide +kernel
    generalize ((["a", "b", "c", "d", "e", "f", "g", "h", "i"] : List Str).take (1 + rest % 9).toNat) = q at *
    have ea : dAdd (wl ws) (wl q) = .ok (wl (ws ++ q)) := by rw [dAdd_l _ _ (by rw [List.length_map, List.length_map]; omega), ← List.map_append]
    obtain ⟨f1, f2⟩ := fin_ok (us := ws ++ q) ⟨by rw [List.length_append]; omega, fun w h => by
      rcases List.mem_append.mp h with z | z
      · exact hw w z
      · exact lq w z⟩
    rw [show ((7 : Int) == 3) = false from rfl, X.ifM_f, M.bind_ok, show ((7 : Int) == 4) = false from rfl, X.ifM_f, M.bind_ok, show ((7 : Int) == 5) = false from rfl, X.ifM_f, M.bind_ok, show ((7 : Int) == 6) = false from rfl, X.ifM_f, M.bind_ok, show ((7 : Int) == 7) = true from rfl, X.ifM_t]
    rw [nine, part, p, X.b2_ok, ea, X.to_ok, M.bind_ok, f1]
    exact ⟨_, rfl, f2⟩
end Py

namespace Py
open PySem L2 Wk
/-! ### the row spoiled, and what the law and the reading tell of it -/
def RowOk (row : D) : Prop := (∃ s, row = .str s ∧ s.length ≤ 900000) ∨ dIs .str row = .ok (.bl false)
theorem ix_str {s : Str} {i : Int} (h0 : 0 ≤ i) (h1 : i < (s.length : Nat)) (h2 : s.length ≤ 1000000) : ∃ c, dIx (.str s) (.int i) = .ok (.str ⟨#[c]⟩) := by
  have hl : i.toNat < s.cps.toList.length := by
    rw [Array.length_toList]
    show i.toNat < s.length
    omega
  exact ⟨_, dIx_int h0 (dIx_str (List.getElem?_eq_getElem hl) h2)⟩
theorem cut_ok' {t : Str} (h : t.length ≤ 200) (lo hi : Option Int) : ∃ u, dCut (.str t) lo hi = .ok (.str u) ∧ u.length ≤ 200 := ⟨_, dCut_str t lo hi (by omega), Nat.le_trans (cutS_length t lo hi) h⟩
def sg1 : Str := " !\"#$&'()*+,-./0123456789:;<=>?@ABCDEFGHIJKLMNOPQRSTUVWXYZ[\\]^_`"
def sg2 : Str := "abcdefghijklmnopqrstuvwxyz{|}~\n"
theorem sg1_len : sg1.length = 64 := by decide +kernel
theorem sg2_len : sg2.length = 31 := by decide +kernel
theorem tstLt (i j : Int) : X.tst (X.b2 (.ok (.int i)) (.ok (.int j)) dLt) = .ok (decide (i < j)) := by rw [X.b2_ok, dLt_i, X.tst_bl]
theorem spoiled_ok (t : Str) (ws : List Str) (ht : t.length ≤ 200) (h2 : 2 ≤ ws.length) (hn : ws.length ≤ 20) (hw : ∀ w ∈ ws, w.length ≤ 200) (hx : Txt.split t blank = ws) (cell : Int) :
    ∃ row, m_law_spoiled (.str t) (.int cell) = .ret (.sh row) ∧ RowOk row := by
  have e1 : X.b2 (.ok (.str sg1)) (.ok (.str sg2)) dAdd = .ok (.str (sg1 ++ sg2)) := by rw [X.b2_ok, dAdd_s _ _ (by rw [sg1_len, sg2_len]; decide)]
  have l1 : (sg1 ++ sg2).length = 95 := by rw [strAdd_len, sg1_len, sg2_len]
  generalize hs : sg1 ++ sg2 = sg at *
  have e2 : X.b2 (X.b2 (X.b2 (X.b2 (.ok (.int cell)) (.ok (.int 2147483629)) dMod) (.ok (.int 44021)) dMul) (.ok (.int 5)) dAdd) (.ok (.int 2147483629)) dMod = .ok (.int ((cell % 2147483629 * 44021 + 5) % 2147483629)) := by
    rw [X.b2_ok, dMod_p _ _ (by decide), X.b2_ok, dMul_s _ _ (by decide), X.b2_ok, dAdd_i, X.b2_ok, dMod_p _ _ (by decide)]
  have n0 : 0 ≤ (cell % 2147483629 * 44021 + 5) % 2147483629 := Int.emod_nonneg _ (by decide)
  generalize (cell % 2147483629 * 44021 + 5) % 2147483629 = n at *
  have e3 : X.b2 (.ok (.int n)) (.ok (.int 9)) dMod = .ok (.int (n % 9)) := by rw [X.b2_ok, dMod_p _ _ (by decide)]
  have lt : X.bind (X.cons (.ok (.str t)) (.ok [])) dLen = .ok (.int (t.length : Nat)) := by rw [X.cons_ok, X.bind_ok, dLen_str t (by omega)]
  have ls : X.bind (X.cons (.ok (.str sg)) (.ok [])) dLen = .ok (.int 95) := by rw [X.cons_ok, X.bind_ok, dLen_str sg (by omega), l1]; rfl
  have d9 : X.b2 (.ok (.int n)) (.ok (.int 9)) dDiv = .ok (.int (n / 9)) := by rw [X.b2_ok, dDiv_p _ _ (by decide) (by decide)]
  have t1 : X.b2 (.ok (.int (t.length : Nat))) (.ok (.int 1)) dAdd = .ok (.int ((t.length : Nat) + 1)) := by rw [X.b2_ok, dAdd_i]
  have e4 : X.b2 (X.b2 (.ok (.int n)) (.ok (.int 9)) dDiv) (X.b2 (X.bind (X.cons (.ok (.str t)) (.ok [])) dLen) (.ok (.int 1)) dAdd) dMod = .ok (.int (n / 9 % ((t.length : Nat) + 1))) := by
    rw [lt, d9, t1, X.b2_ok, dMod_p _ _ (by omega)]
  have e5 : X.b2 (.ok (.int n)) (.ok (.int 7919)) dDiv = .ok (.int (n / 7919)) := by rw [X.b2_ok, dDiv_p _ _ (by decide) (by decide)]
  have r0 : 0 ≤ n / 7919 := Int.ediv_nonneg n0 (by decide)
  have w0 : 0 ≤ n % 9 := Int.emod_nonneg _ (by decide)
  have w1 : n % 9 < 9 := Int.emod_lt_of_pos _ (by decide)
  generalize n / 9 % ((t.length : Nat) + 1) = place at *
  generalize n / 7919 = rest at *
  generalize n % 9 = way at *
  obtain ⟨c, ec⟩ := ix_str (s := sg) (i := rest % 95) (Int.emod_nonneg _ (by decide)) (by rw [l1]; exact Int.emod_lt_of_pos _ (by decide)) (by omega)
  have q0 : X.b2 (.ok (.int rest)) (.ok (.int 95)) dMod = .ok (.int (rest % 95)) := by rw [X.b2_ok, dMod_p _ _ (by decide)]
  have q1 : X.b2 (.ok (.str sg)) (X.b2 (.ok (.int rest)) (X.bind (X.cons (.ok (.str sg)) (.ok [])) dLen) dMod) dIx = .ok (.str ⟨#[c]⟩) := by rw [ls, q0, X.b2_ok, ec]
  have lc : (⟨#[c]⟩ : Str).length = 1 := rfl
  obtain ⟨u1, c1, k1⟩ := cut_ok' ht none (some place)
  obtain ⟨u2, c2, k2⟩ := cut_ok' ht (some place) none
  obtain ⟨u3, c3, k3⟩ := cut_ok' ht (some (place + 1)) none
  have f1 : X.cut (.ok (.str t)) (.ok none) (X.bind (.ok (.int place)) dPart) = .ok (.str u1) := by rw [X.bind_ok, dPart_i, X.cut_ok, c1]
  have f2 : X.cut (.ok (.str t)) (X.bind (.ok (.int place)) dPart) (.ok none) = .ok (.str u2) := by rw [X.bind_ok, dPart_i, X.cut_ok, c2]
  have f3 : X.cut (.ok (.str t)) (X.bind (X.b2 (.ok (.int place)) (.ok (.int 1)) dAdd) dPart) (.ok none) = .ok (.str u3) := by rw [X.b2_ok, dAdd_i, X.bind_ok, dPart_i, X.cut_ok, c3]
  have g1 : X.b2 (.ok (.str u1)) (.ok (.str ⟨#[c]⟩)) dAdd = .ok (.str (u1 ++ ⟨#[c]⟩)) := by rw [X.b2_ok, dAdd_s _ _ (by omega)]
  have g1l : (u1 ++ (⟨#[c]⟩ : Str)).length ≤ 201 := by rw [strAdd_len]; omega
  generalize u1 ++ (⟨#[c]⟩ : Str) = v1 at *
  have g2 : X.b2 (.ok (.str v1)) (.ok (.str u2)) dAdd = .ok (.str (v1 ++ u2)) := by rw [X.b2_ok, dAdd_s _ _ (by omega)]
  have g3 : X.b2 (.ok (.str v1)) (.ok (.str u3)) dAdd = .ok (.str (v1 ++ u3)) := by rw [X.b2_ok, dAdd_s _ _ (by omega)]
  have g4 : X.b2 (.ok (.str u1)) (.ok (.str u3)) dAdd = .ok (.str (u1 ++ u3)) := by rw [X.b2_ok, dAdd_s _ _ (by omega)]
  unfold m_law_spoiled
  rw [X.to_ok, show (D.str " !\"#$&'()*+,-./0123456789:;<=>?@ABCDEFGHIJKLMNOPQRSTUVWXYZ[\\]^_`") = .str sg1 from rfl, show (D.str "abcdefghijklmnopqrstuvwxyz{|}~\n") = .str sg2 from rfl, e1, X.to_ok, e2, X.to_ok, e3, X.to_ok, e4, X.to_ok, e5, X.to_ok, tstEq, tstEq, tstEq, tstLt, f1, f2, f3, q1, g1, g2, g3, g4, X.retM_ok, X.retM_ok, X.retM_ok]
  have hc : way = 0 ∨ way = 1 ∨ way = 2 ∨ (3 ≤ way ∧ way < 8) ∨ way = 8 := by omega
  rcases hc with rfl | rfl | rfl | hc | rfl
  · rw [show ((0 : Int) == 0) = true from rfl, X.ifM_t, M.bind_ret]
    exact ⟨_, rfl, .inl ⟨_, rfl, by rw [strAdd_len]; omega⟩⟩
  · rw [show ((1 : Int) == 0) = false from rfl, X.ifM_f, M.bind_ok, show ((1 : Int) == 1) = true from rfl, X.ifM_t, M.bind_ret]
    exact ⟨_, rfl, .inl ⟨_, rfl, by rw [strAdd_len]; omega⟩⟩
  · rw [show ((2 : Int) == 0) = false from rfl, X.ifM_f, M.bind_ok, show ((2 : Int) == 1) = false from rfl, X.ifM_f, M.bind_ok, show ((2 : Int) == 2) = true from rfl, X.ifM_t, M.bind_ret]
    exact ⟨_, rfl, .inl ⟨_, rfl, by rw [strAdd_len]; omega⟩⟩
  · obtain ⟨s, es, hs'⟩ := words_ok t ws h2 hn hw hx (by omega) place rest way r0 hc
    have ew : X.call (ar4 m_law_words) (X.cons (.ok (.str t)) (X.cons (.ok (.int place)) (X.cons (.ok (.int rest)) (X.cons (.ok (.int way)) (.ok []))))) = .ok (.str s) := by
      rw [X.cons_ok, X.cons_ok, X.cons_ok, X.cons_ok, X.call_ok]
      show (m_law_words (.str t) (.int place) (.int rest) (.int way)).fn = _
      rw [es, M.fn_ret, T.toD_sh]
    have z0 : (way == 0) = false := beq_false_of_ne (by omega)
    have z1 : (way == 1) = false := beq_false_of_ne (by omega)
    have z2 : (way == 2) = false := beq_false_of_ne (by omega)
    rw [z0, X.ifM_f, M.bind_ok, z1, X.ifM_f, M.bind_ok, z2, X.ifM_f, M.bind_ok, decide_eq_true hc.2, X.ifM_t, ew, X.retM_ok, M.bind_ret]
    exact ⟨_, rfl, .inl ⟨_, rfl, hs'⟩⟩
  · have r14 : X.b2 (.ok (.int rest)) (.ok (.int 14)) dMod = .ok (.int (rest % 14)) := by rw [X.b2_ok, dMod_p _ _ (by decide)]
    have el : X.bind (X.cons (.ok .non) (X.cons (.ok (.int 5)) (X.cons (.ok (.bl true)) (X.cons (X.bind (X.cons (.ok (.str t)) (.ok [])) dLst) (X.cons (X.bind (X.cons (.ok (.str t)) (.ok [])) dTup) (X.cons (.ok (.dct false [])) (X.cons (.ok (.str "")) (X.cons (.ok (.str " ")) (X.cons (.ok (.str "join")) (X.cons (.ok (.str "join ")) (X.cons (.ok (.str "Join a")) (X.cons (.ok (.str "turn")) (X.cons (.ok (.str "turn 1")) (X.cons (.ok (.str "pay a b")) (.ok []))))))))))))))) dLst = .ok (.lst [.non, .int 5, .bl true, .lst [.str t], .tup [.str t], .dct false [], .str "", .str " ", .str "join", .str "join ", .str "Join a", .str "turn", .str "turn 1", .str "pay a b"]) := Eq.trans rfl rfl
    obtain ⟨d, hd, ed⟩ := dIx_mem (xs := [.non, .int 5, .bl true, .lst [.str t], .tup [.str t], .dct false [], .str "", .str " ", .str "join", .str "join ", .str "Join a", .str "turn", .str "turn 1", .str "pay a b"]) (i := rest % 14) (Int.emod_nonneg _ (by decide)) (by show _ < (14 : Int); exact Int.emod_lt_of_pos _ (by decide))
    rw [show ((8 : Int) == 0) = false from rfl, X.ifM_f, M.bind_ok, show ((8 : Int) == 1) = false from rfl, X.ifM_f, M.bind_ok, show ((8 : Int) == 2) = false from rfl, X.ifM_f, M.bind_ok, decide_eq_false (show ¬ ((8 : Int) < 8) by decide), X.ifM_f, M.bind_ok, el, X.to_ok, r14, X.b2_ok, ed, X.retM_ok]
    refine ⟨d, rfl, ?_⟩
    simp only [List.mem_cons, List.not_mem_nil, or_false] at hd
    rcases hd with rfl | rfl | rfl | rfl | rfl | rfl | rfl | rfl | rfl | rfl | rfl | rfl | rfl | rfl <;> first
      | (exact .inr rfl)
      | (exact .inl ⟨_, rfl, by decide +kernel⟩)
end Py

namespace Py
open PySem L2 Wk
/-! ### what the law hears of a row -/
def kinds : D := .lst [.bl true, .bl true, .bl false, .bl false]
theorem kinds_ok : X.bind (X.cons (.ok (.bl true)) (X.cons (.ok (.bl true)) (X.cons (.ok (.bl false)) (X.cons (.ok (.bl false)) (.ok []))))) dLst = .ok kinds := Eq.trans rfl rfl
theorem eq_kinds : eqB kinds kinds = .ok true := by
  have e : toPy kinds = some (.list [.bool true, .bool true, .bool false, .bool false]) := by
    unfold kinds
    simp [toPy, toPys]
  have s : SeqAt.shaped (.list [.bool true, .bool true, .bool false, .bool false]) = true := by decide +kernel
  rw [eqv_ok rfl e e s s, SeqAt.eqv_refl _ (SeqAt.canLay_of_shaped s)]
theorem tryE_exc {S : Type} {c : Ex} (mh : Ex → M S) : M.tryE [c] (.exc c) mh = mh c := by
  show (if c ∈ [c] then mh c else .bad) = _
  rw [if_pos List.mem_cons_self]
theorem tryE_ok {S : Type} {cs : List Ex} (s : S) (mh : Ex → M S) : M.tryE cs (.ok s) mh = .ok s := Eq.trans rfl rfl
theorem told_exc {row : D} (h : m_read row = .exc .noRow) : m_law_told row = .ret (.sh (.tup [.non, kinds])) := by
  unfold m_law_told
  rw [X.to_ok, X.to_ok, X.cons_ok, X.call_ok, ar1_1, h, M.fn_exc, X.to_exc, tryE_exc, kinds_ok, X.to_ok, M.bind_ok]
  dsimp only
  rw [tup2, X.retM_ok]
theorem told_ret {row d : D} (h : m_read row = .ret (.sh d)) : m_law_told row = .ret (.sh (.tup [d, .non])) := by
  unfold m_law_told
  rw [X.to_ok, X.to_ok, X.cons_ok, X.call_ok, ar1_1, h, M.fn_ret, T.toD_sh, X.to_ok, tryE_ok, M.bind_ok]
  dsimp only
  rw [tup2, X.retM_ok]
theorem good_no {row : D} (h : dIs .str row = .ok (.bl false)) : m_law_good row = .ret (.sh (.bl false)) := by
  unfold m_law_good
  rw [X.bind_ok, h, X.tst_bl, X.not_ok, show (!false) = true from rfl, X.ifM_t, X.retM_ok, M.bind_ret]
theorem read_no {row : D} (h : dIs .str row = .ok (.bl false)) : m_read row = .exc .noRow := by
  unfold m_read
  rw [X.bind_ok, h, X.tst_bl, X.not_ok, show (!false) = true from rfl, X.ifM_t, M.bind_exc]
theorem tell {row : D} (h : RowOk row) : (m_law_good row = .ret (.sh (.bl false)) ∧ m_law_told row = .ret (.sh (.tup [.non, kinds]))) ∨
    (∃ d, m_law_good row = .ret (.sh (.bl true)) ∧ m_law_told row = .ret (.sh (.tup [d, .non])) ∧ ROW (.ok d) = .ok row) := by
  rcases h with ⟨s, rfl, hs⟩ | h
  · have a := agree (Txt.split s blank)
    have g := good_ok s hs
    have r := read_ok s hs
    unfold Agree at a
    rw [a.1] at g
    cases e : isNon (deedOf (Txt.split s blank)) with
    | true =>
      rw [e] at g
      rw [e, if_pos rfl] at r
      exact .inl ⟨g, told_exc r⟩
    | false =>
      rw [e] at g
      rw [e, if_neg Bool.false_ne_true] at r
      have w := a.2 e
      rw [join_back] at w
      exact .inr ⟨_, g, told_ret r, w⟩
  · exact .inl ⟨good_no h, told_exc (read_no h)⟩
theorem made_count {k : Int} {th : List D} {ws : List Str} {d : D} (m : Made k th ws d) : 2 ≤ ws.length ∧ ws.length ≤ 20 := by
  cases m with
  | join a h => exact ⟨by show 2 ≤ 2; omega, by show 2 ≤ 20; omega⟩
  | leave a h => exact ⟨by show 2 ≤ 2; omega, by show 2 ≤ 20; omega⟩
  | trust a b i ha hb hn h0 h1 => exact ⟨by show 2 ≤ 4; omega, by show 4 ≤ 20; omega⟩
  | pay a b i ha hb hn h0 h1 => exact ⟨by show 2 ≤ 4; omega, by show 4 ≤ 20; omega⟩
  | turn ring i hr h0 h1 =>
    obtain ⟨r1, r2, r3, r4⟩ := ringB_parts hr
    exact ⟨by show 2 ≤ ring.length + 1 + 1; omega, by show ring.length + 1 + 1 ≤ 20; omega⟩
theorem made_each {k : Int} {th : List D} {ws : List Str} {d : D} (m : Made k th ws d) : ∀ w ∈ ws, w.length ≤ 200 := fun w hw => by
  have a := made_len m
  have b : w.length ≤ (ws.map (·.length)).sum := sum_ge (List.mem_map_of_mem (f := (·.length)) hw)
  omega
/-! ### the law -/
theorem cell_mod (ns : List Int) (k j : Nat) : m_law_c1 (.scr ns) (.int (k : Nat)) (.int (j : Nat)) = .ok (.int (ns.getD (k + j) 0 % 10 ^ 62)) := by
  unfold m_law_c1
  have e : dAdd (.int (k : Nat)) (.int (j : Nat)) = .ok (.int ((k + j : Nat) : Nat)) := by rw [dAdd_i, show ((k : Int) + (j : Int)) = ((k + j : Nat) : Int) by omega]
  rw [X.b2_ok, e, X.cons_ok, X.cons_ok, X.call_ok, ar2_2, cell_at, M.fn_ret, T.toD_sh, X.b2_ok, pow62, X.b2_ok, dMod_p _ _ (by decide +kernel)]
theorem cells_ok (ns : List Int) (k : Nat) : ∃ a b c e : Int, X.lst (X.lc (X.bind (X.cons (.ok (.int 4)) (.ok [])) rng1) (m_law_c1 (.scr ns) (.int (k : Nat)))) = .ok (.lst [.int a, .int b, .int c, .int e]) := by
  refine ⟨ns.getD (k + 0) 0 % 10 ^ 62, ns.getD (k + 1) 0 % 10 ^ 62, ns.getD (k + 2) 0 % 10 ^ 62, ns.getD (k + 3) 0 % 10 ^ 62, ?_⟩
  rw [X.cons_ok, X.bind_ok, show (D.int 4) = D.int ((4 : Nat) : Int) from rfl, rng1_n 4 (by decide), lc_ok (xs := rng 0 1 4) (g := fun d => match d with | .int j => .int (ns.getD (k + j.toNat) 0 % 10 ^ 62) | d => d) rfl (by decide)]
  · rfl
  · intro x hx
    have hx' : x ∈ [D.int ((0 : Nat) : Int), D.int ((1 : Nat) : Int), D.int ((2 : Nat) : Int), D.int ((3 : Nat) : Int)] := hx
    simp only [List.mem_cons, List.not_mem_nil, or_false] at hx'
    rcases hx' with rfl | rfl | rfl | rfl <;> exact cell_mod ns k _
theorem turn_ok (ns : List Int) (k : Nat) : m_law_b2 (.scr ns) () (.int (k : Nat)) = .ok () := by
  obtain ⟨a, b, c, e, ec⟩ := cells_ok ns k
  obtain ⟨kd, th, ws, d, em, m⟩ := made_ok a b c
  have i0 : X.b2 (.ok (.lst [.int a, .int b, .int c, .int e])) (.ok (.int 0)) dIx = .ok (.int a) := by rw [X.b2_ok]; exact dIx_l (k := 0) rfl
  have i1 : X.b2 (.ok (.lst [.int a, .int b, .int c, .int e])) (.ok (.int 1)) dIx = .ok (.int b) := by rw [X.b2_ok]; exact dIx_l (k := 1) rfl
  have i2 : X.b2 (.ok (.lst [.int a, .int b, .int c, .int e])) (.ok (.int 2)) dIx = .ok (.int c) := by rw [X.b2_ok]; exact dIx_l (k := 2) rfl
  have i3 : X.b2 (.ok (.lst [.int a, .int b, .int c, .int e])) (.ok (.int 3)) dIx = .ok (.int e) := by rw [X.b2_ok]; exact dIx_l (k := 3) rfl
  have j2 : X.b2 (.ok (.tup [.int kd, .tup th, .str (Txt.join blank ws)])) (.ok (.int 2)) dIx = .ok (.str (Txt.join blank ws)) := by rw [X.b2_ok]; exact dIx_t (k := 2) rfl
  have em' : X.call (ar3 m_law_made) (X.cons (.ok (.int a)) (X.cons (.ok (.int b)) (X.cons (.ok (.int c)) (.ok [])))) = .ok (.tup [.int kd, .tup th, .str (Txt.join blank ws)]) := by
    rw [X.cons_ok, X.cons_ok, X.cons_ok, X.call_ok, ar3_3, em, M.fn_ret, T.toD_sh]
  obtain ⟨row, er, hr⟩ := spoiled_ok (Txt.join blank ws) ws (made_text m) (made_count m).1 (made_count m).2 (made_each m) (made_split m) e
  have er' : X.call (ar2 m_law_spoiled) (X.cons (.ok (.str (Txt.join blank ws))) (X.cons (.ok (.int e)) (.ok []))) = .ok row := by rw [X.cons_ok, X.cons_ok, X.call_ok, ar2_2, er, M.fn_ret, T.toD_sh]
  unfold m_law_b2
  rw [ec, X.to_ok, i0, i1, i2, i3, em', j2, er', X.to_ok]
  have cg : ∀ z : D, m_law_good row = .ret (.sh z) → X.call (ar1 m_law_good) (X.cons (.ok row) (.ok [])) = .ok z := fun z h => by rw [X.cons_ok, X.call_ok, ar1_1, h, M.fn_ret, T.toD_sh]
  have ct : ∀ z : D, m_law_told row = .ret (.sh z) → X.call (ar1 m_law_told) (X.cons (.ok row) (.ok [])) = .ok z := fun z h => by rw [X.cons_ok, X.call_ok, ar1_1, h, M.fn_ret, T.toD_sh]
  rcases tell hr with ⟨g, t⟩ | ⟨d', g, t, w⟩
  · rw [cg _ g, ct _ t, X.to_ok, unp2_t, X.of_some, X.to_ok]
    dsimp only
    rw [X.tst_bl, X.not_ok, show (!false) = true from rfl, X.ifM_t, kinds_ok, X.b2_ok, dNe_d, eq_kinds, X.bind_ok, X.tst_bl, show (!true) = false from rfl, X.ifM_f]
  · rw [cg _ g, ct _ t, X.to_ok, unp2_t, X.of_some, X.to_ok]
    unfold ROW at w
    have en : X.tst (X.notN (.ok .non)) = .ok false := Eq.trans rfl rfl
    have eq : X.tst (X.b2 (.ok row) (.ok row) dNe) = .ok false := by
      rcases hr with ⟨s, rfl, hs⟩ | h
      · rw [X.b2_ok, dNe_d, eqB_ss, decide_eq_true rfl, X.bind_ok, X.tst_bl]; rfl
      · have := good_no h
        rw [g] at this
        cases this
    dsimp only
    rw [X.tst_bl, X.not_ok, show (!true) = false from rfl, X.ifM_f, en, X.or_f, w, eq, X.ifM_f]
theorem rng_mem : ∀ {n : Nat} {a : Nat} {c : Nat} {x : D}, x ∈ rng (a : Int) (c : Int) n → ∃ j : Nat, x = .int (j : Nat)
  | 0, a, c, x, h => by cases h
  | n + 1, a, c, x, h => by
    have h' : x ∈ D.int (a : Int) :: rng ((a : Int) + (c : Int)) (c : Int) n := h
    rcases List.mem_cons.mp h' with z | z
    · exact ⟨a, z⟩
    · rw [show ((a : Int) + (c : Int)) = ((a + c : Nat) : Int) by omega] at z
      exact rng_mem z
theorem law_true (ns : List Int) (hl : ns.length ≤ 63) : m_law (.scr ns) = .ret (.sh (.bl true)) := by
  unfold m_law
  have e1 : dMin2 [.int (ns.length : Nat), .int 63] = .ok (.int (ns.length : Nat)) := by
    show X.ok (D.int (if (63 : Int) < (ns.length : Nat) then 63 else (ns.length : Nat))) = _
    rw [if_neg (by omega)]
  have e2 : rng3 [.int 0, .int (ns.length : Nat), .int 4] = .ok (rng ((0 : Nat) : Int) ((4 : Nat) : Int) (Builtin.Range.rangeSize 0 (ns.length : Nat) 4).toNat) := by
    unfold rng3
    dsimp only
    rw [if_pos (by omega)]
    rfl
  rw [X.cons_ok, X.bind_ok, dLen_s, X.cons_ok, X.cons_ok, X.bind_ok, e1, X.cons_ok, X.cons_ok, X.cons_ok, X.bind_ok, e2, forX_some, forM_fold (g := fun s _ => s)]
  · rfl
  · intro s x hx
    obtain ⟨j, rfl⟩ := rng_mem hx
    exact turn_ok ns j
end Py

open PySem PySem.Spec PyProof.Rows L2 Wk
namespace Py
def topS (i : Nat) : Stmt := PySem.Challenge.pw_trustways_k81_rows_refused.main.body.getD i (.Pass ⟨0, 0, 0, 0⟩)
structure Cxx (mg : PySem.Str → Option Value) (Z : Zs) : Prop where
  b_ValueError : mg "ValueError" = none
  b_bool : mg "bool" = none
  b_int : mg "int" = none
  b_isinstance : mg "isinstance" = none
  b_len : mg "len" = none
  b_list : mg "list" = none
  b_max : mg "max" = none
  b_min : mg "min" = none
  b_range : mg "range" = none
  b_str : mg "str" = none
  gl_FIGURES : ∃ t, mg "FIGURES" = some (.str "0123456789" t)
  gl_LETTERS : ∃ t, mg "LETTERS" = some (.str "abcdefghijklmnopqrstuvwxyz" t)
  x_NoRow : ExF Z.K mg "NoRow" (Z.ce .noRow)
  gx_NoHouse : mg "NoHouse" = some (.ref (Z.ce .noHouse))
  gx_Twice : mg "Twice" = some (.ref (Z.ce .twice))
  gx_NoAmount : mg "NoAmount" = some (.ref (Z.ce .noAmount))
  gx_TooLow : mg "TooLow" = some (.ref (Z.ce .tooLow))
  gx_NoChain : mg "NoChain" = some (.ref (Z.ce .noChain))
  gx_NoRoom : mg "NoRoom" = some (.ref (Z.ce .noRoom))
  gx_TooMuch : mg "TooMuch" = some (.ref (Z.ce .tooMuch))
  gx_NoWish : mg "NoWish" = some (.ref (Z.ce .noWish))
  gx_StillOwes : mg "StillOwes" = some (.ref (Z.ce .stillOwes))
  gx_TooMany : mg "TooMany" = some (.ref (Z.ce .tooMany))
  gx_NoRow : mg "NoRow" = some (.ref (Z.ce .noRow))
  ec_NoRow : ExcC Z.K (Z.ce .noRow)
  way : ∃ a, mg "WayError" = some (.ref a) ∧ PySem.W.exmOne Z.K (.ref (Z.ce .noRow)) (.ref a) = some true
  xk_NoAmount_NoChain_NoHouse : PySem.W.kitAny Z.K (.ref (Z.ce .noRow)) [(.ref (Z.ce .noAmount)), (.ref (Z.ce .noChain)), (.ref (Z.ce .noHouse))] = some false
  xk_NoRoom_NoWish_StillOwes_TooLow_TooMany_TooMuch_Twice : PySem.W.kitAny Z.K (.ref (Z.ce .noRow)) [(.ref (Z.ce .noRoom)), (.ref (Z.ce .noWish)), (.ref (Z.ce .stillOwes)), (.ref (Z.ce .tooLow)), (.ref (Z.ce .tooMany)), (.ref (Z.ce .tooMuch)), (.ref (Z.ce .twice))] = some false
  xk_NoRow : PySem.W.kitOne Z.K (.ref (Z.ce .noRow)) (.ref (Z.ce .noRow)) = some true
  xk_ValueError : PySem.W.kitOne Z.K (.ref (Z.ce .noRow)) (.type "ValueError") = some true
  cf_Deed : CF Z .deed
  is_Deed : InsF Z .deed
  gc_Deed : mg "Deed" = some (.ref (Z.cc .deed))
  cf_Join : CF Z .join
  is_Join : InsF Z .join
  gc_Join : mg "Join" = some (.ref (Z.cc .join))
  cf_Leave : CF Z .leave
  is_Leave : InsF Z .leave
  gc_Leave : mg "Leave" = some (.ref (Z.cc .leave))
  cf_Trust : CF Z .trust
  is_Trust : InsF Z .trust
  gc_Trust : mg "Trust" = some (.ref (Z.cc .trust))
  cf_Pay : CF Z .pay
  is_Pay : InsF Z .pay
  gc_Pay : mg "Pay" = some (.ref (Z.cc .pay))
  cf_Turn : CF Z .turn
  is_Turn : InsF Z .turn
  gc_Turn : mg "Turn" = some (.ref (Z.cc .turn))
section
variable {P : Program} {w : World} {Z : Zs} {mg : PySem.Str → Option Value} {base : Heap}
abbrev s_law_cell_at : Stmt := topS 34
theorem sc_law_cell_at : FnScope ["script", "k"] ["script", "k"] (defScope s_law_cell_at) := ⟨rfl, rfl, rfl, by decide +kernel, rfl, by decide +kernel, by decide +kernel⟩
theorem ok_law_cell_at {f : Addr} {fd : FuncData} (C : Cxx mg Z) (F : Fun Z.K "_law_cell_at" "_law_cell_at" s_law_cell_at f fd) : FnOk P w Z.K mg base (L2.CX P w) 1 f fd ["script", "k"] (spM Z (ar2 m_law_cell_at)) := by
  refine fn_ok (k := 0) F sc_law_cell_at (fun ds hd => by obtain ⟨script1, k1, rfl⟩ := ar2_inv hd; rfl) (fun cdv A outer s H E hr tk po ds hd => ?_)
  obtain ⟨script1, k1, rfl⟩ := ar2_inv hd
  have lt := lets_of tk
  have hu64 := hr.units
  have hu1 := hu_of hr
  refine ⟨_, (pss_cons (ps_if (pt_cmpR op_lt3 (pv 1) (pe_callB call_len3 rfl C.b_len (by decide +kernel) (pa_cons (pv 0) pa_nil)) (nomark _))
  (pss_cons (ps_ret (pe_or2 (pe_ix (ix_seqK (K := Z.K) rfl) (pv 0) (pv 1) (fun _ _ => rfl)) (pe_dget hu1 (pv 0) (pv 1) (fun _ _ => rfl)))) pss_nil)
  pss_nil)
  (pss_cons (ps_ret pe_int) pss_nil)), ?_⟩
  exact ((ss_seq (env1 := fun s1 : Unit => [none, none]) (xs_if (xt_test (xe_op od_lt3 (ee_var (i := 1) rfl) (ee_cb cd_len3 (xa_cons (ee_var (i := 0) rfl) ea_nil))))
  (xs_ret (xe_ix (ee_var (i := 0) rfl) (ee_var (i := 1) rfl)))
  (ss_nil (SubL.d (SubL.d SubL.n)))) fun s1 =>
  (xs_ret ee_int)) :
    SS Z (wE E) _ [some (.sh script1), some (.sh k1)] (m_law_cell_at script1 k1) (fun _ => fil 2))
abbrev s_law_name : Stmt := topS 35
theorem sc_law_name : FnScope ["cell", "some", "number", "text", "k"] ["cell"] (defScope s_law_name) := ⟨rfl, rfl, rfl, by decide +kernel, rfl, by decide +kernel, by decide +kernel⟩
theorem ok_law_name {f : Addr} {fd : FuncData} (C : Cxx mg Z) (F : Fun Z.K "_law_name" "_law_name" s_law_name f fd) : FnOk P w Z.K mg base (L2.CX P w) 1 f fd ["cell"] (spM Z (ar1 m_law_name)) := by
  refine fn_ok (k := 0) F sc_law_name (fun ds hd => by obtain ⟨cell1, rfl⟩ := ar1_inv hd; rfl) (fun cdv A outer s H E hr tk po ds hd => ?_)
  obtain ⟨cell1, rfl⟩ := ar1_inv hd
  have lt := lets_of tk
  have hu64 := hr.units
  have hu1 := hu_of hr
  refine ⟨_, (pss_cons (ps_set (i := 1) sc_law_name.nd rfl (Or.inl rfl) (pe_lst (pa_cons pe_str (pa_cons pe_str (pa_cons pe_str (pa_cons pe_str (pa_cons pe_str (pa_cons pe_str (pa_cons pe_str (pa_cons pe_str (pa_cons pe_str (pa_cons pe_str (pa_cons pe_str (pa_cons pe_str (pa_cons pe_str pa_nil)))))))))))))))
  (pss_cons (ps_if (pt_cmpR (op_eq3K (K := Z.K) rfl hu64) (pe_op op_mod (pv 0) pe_int) pe_int (nomark _))
  (pss_cons (ps_ret (pe_or2 (pe_ix (ix_seqK (K := Z.K) rfl) (pv 1) (pe_op op_mod (pe_op op_div2 (pv 0) pe_int) pe_int) (fun _ _ => rfl)) (pe_dget hu1 (pv 1) (pe_op op_mod (pe_op op_div2 (pv 0) pe_int) pe_int) (fun _ _ => rfl)))) pss_nil)
  pss_nil)
  (pss_cons (ps_set (i := 2) sc_law_name.nd rfl (Or.inl rfl) (pe_op op_mod (pv 0) pe_int))
  (pss_cons (ps_set (i := 3) sc_law_name.nd rfl (Or.inl rfl) pe_str)
  (pss_cons (ps_for po rfl (pi_range1 rfl C.b_range (pa_cons (pe_op op_add3 pe_int (pe_op op_mod (pe_op op_div2 (pv 2) pe_int) pe_int)) pa_nil)) (pg_name (i := 4) sc_law_name.nd rfl (Or.inl rfl))
  (pss_cons (ps_set (i := 2) sc_law_name.nd rfl (Or.inl rfl) (pe_op op_mod (pe_op op_add3 (pe_op op_add3 (pe_op op_add3 (pe_op op_mul3 (pv 2) (pv 2)) (pe_op op_mul3 pe_int (pv 2))) (pv 4)) pe_int) pe_int))
  (pss_cons (ps_set (i := 3) sc_law_name.nd rfl (Or.inl rfl) (pe_op op_add3 (pv 3) (pe_or2 (pe_ix (ix_seqK (K := Z.K) rfl) pe_str (pe_op op_mod (pe_op op_div2 (pv 2) pe_int) pe_int) (fun _ _ => rfl)) (pe_dget hu1 pe_str (pe_op op_mod (pe_op op_div2 (pv 2) pe_int) pe_int) (fun _ _ => rfl)))))
  pss_nil)))
  (pss_cons (ps_ret (pv 3)) pss_nil)))))), ?_⟩
  exact ((xs_asg (i := 1) (ee_lst (xa_cons ee_str (xa_cons ee_str (xa_cons ee_str (xa_cons ee_str (xa_cons ee_str (xa_cons ee_str (xa_cons ee_str (xa_cons ee_str (xa_cons ee_str (xa_cons ee_str (xa_cons ee_str (xa_cons ee_str (xa_cons ee_str ea_nil)))))))))))))) fun somex1 =>
  (ss_seq (env1 := fun s1 : Unit => [some (.sh cell1), none, none, none, none]) (xs_if (xt_test (xe_op od_eq3 (xe_op od_mod (ee_var (i := 0) rfl) ee_int) ee_int))
  (xs_ret (xe_ix (ee_var (i := 1) rfl) (xe_op od_mod (xe_op od_div (ee_var (i := 0) rfl) ee_int) ee_int)))
  (ss_nil (SubL.s (SubL.d (SubL.s (SubL.s (SubL.s SubL.n))))))) fun s1 =>
  (xs_asg (i := 2) (xe_op od_mod (ee_var (i := 0) rfl) ee_int) fun number1 =>
  (xs_asg (i := 3) ee_str fun text1 =>
  (ss_seq (env1 := fun s2 : D × D => [none, none, some (.sh s2.1), some (.sh s2.2), none]) (xs_for (ei_rng1 (xa_cons (xe_op od_add ee_int (xe_op od_mod (xe_op od_div (ee_var (i := 2) rfl) ee_int) ee_int)) ea_nil)) (SubL.d (SubL.s (SubL.s (SubL.s (SubL.s SubL.n))))) (gj_name (i := 4)) fun s2 k1 =>
  (xs_asg (i := 2) (xe_op od_mod (xe_op od_add (xe_op od_add (xe_op od_add (xe_op od_mul (ee_var (i := 2) rfl) (ee_var (i := 2) rfl)) (xe_op od_mul ee_int (ee_var (i := 2) rfl))) (ee_var (i := 4) rfl)) ee_int) ee_int) fun number2 =>
  (xs_asg (i := 3) (xe_op od_add (ee_var (i := 3) rfl) (xe_ix ee_str (xe_op od_mod (xe_op od_div (ee_var (i := 2) rfl) ee_int) ee_int))) fun text2 =>
  (ss_nil (SubL.s (SubL.s (SubL.s (SubL.s (SubL.d SubL.n))))))))) fun s2 =>
  (xs_ret (ee_var (i := 3) rfl))))))) :
    SS Z (wE E) _ [some (.sh cell1), none, none, none, none] (m_law_name cell1) (fun _ => fil 5))
abbrev s_law_two : Stmt := topS 36
theorem sc_law_two : FnScope ["cell", "one", "other"] ["cell"] (defScope s_law_two) := ⟨rfl, rfl, rfl, by decide +kernel, rfl, by decide +kernel, by decide +kernel⟩
theorem ok_law_two {f : Addr} {fd : FuncData} (C : Cxx mg Z) (F : Fun Z.K "_law_two" "_law_two" s_law_two f fd) (F_law_name : Fn P w Z.K mg base "_law_name" 1 ["cell"] [] (spM Z (ar1 m_law_name))) : FnOk P w Z.K mg base (L2.CX P w) 2 f fd ["cell"] (spM Z (ar1 m_law_two)) := by
  refine fn_ok (k := 1) F sc_law_two (fun ds hd => by obtain ⟨cell1, rfl⟩ := ar1_inv hd; rfl) (fun cdv A outer s H E hr tk po ds hd => ?_)
  obtain ⟨cell1, rfl⟩ := ar1_inv hd
  have lt := lets_of tk
  have hu64 := hr.units
  have hu1 := hu_of hr
  refine ⟨_, (pss_cons (ps_set (i := 1) sc_law_two.nd rfl (Or.inl rfl) (pe_fn F_law_name (hr.mono (by decide)) lt rfl (pa_cons (pv 0) pa_nil)))
  (pss_cons (ps_set (i := 2) sc_law_two.nd rfl (Or.inl rfl) (pe_fn F_law_name (hr.mono (by decide)) lt rfl (pa_cons (pe_op op_add3 (pe_op op_div2 (pv 0) pe_int) pe_int) pa_nil)))
  (pss_cons (ps_if (PW.pt (pw_and (pt_cmpR (op_eq3K (K := Z.K) rfl hu64) (pv 1) (pv 2) (nomark _)) (pw_and1 (pt_cmpR (op_eq3K (K := Z.K) rfl hu64) (pe_or2 (pe_ix (ix_seqK (K := Z.K) rfl) (pv 1) pe_int (fun _ _ => rfl)) (pe_dget hu1 (pv 1) pe_int (fun _ _ => rfl))) pe_str (nomark _)))))
  (pss_cons (ps_set (i := 2) sc_law_two.nd rfl (Or.inl rfl) (pe_op op_add3 pe_str (pe_slice sl2 (pv 1) (po_some pe_int) po_none)))
  pss_nil)
  (pss_cons (ps_if (pt_cmpR (op_eq3K (K := Z.K) rfl hu64) (pv 1) (pv 2) (nomark _))
  (pss_cons (ps_set (i := 2) sc_law_two.nd rfl (Or.inl rfl) (pe_op op_add3 pe_str (pe_slice sl2 (pv 1) (po_some pe_int) po_none)))
  pss_nil)
  pss_nil) pss_nil))
  (pss_cons (ps_ret (pe_tup (pa_cons (pv 1) (pa_cons (pv 2) pa_nil)))) pss_nil)))), ?_⟩
  exact ((xs_asg (i := 1) (xe_fn (xa_cons (ee_var (i := 0) rfl) ea_nil)) fun one1 =>
  (xs_asg (i := 2) (xe_fn (xa_cons (xe_op od_add (xe_op od_div (ee_var (i := 0) rfl) ee_int) ee_int) ea_nil)) fun other1 =>
  (ss_seq (env1 := fun s1 : D => [none, some (.sh one1), some (.sh s1)]) (xs_if (xt_and (xt_test (xe_op od_eq3 (ee_var (i := 1) rfl) (ee_var (i := 2) rfl))) (xt_test (xe_op od_eq3 (xe_ix (ee_var (i := 1) rfl) ee_int) ee_str)))
  (xs_asg (i := 2) (xe_op od_add ee_str (xe_cut (ee_var (i := 1) rfl) (eo_some ee_int) eo_none)) fun other2 =>
  (ss_nil (SubL.d (SubL.s (SubL.s SubL.n)))))
  (xs_ifT (xt_test (xe_op od_eq3 (ee_var (i := 1) rfl) (ee_var (i := 2) rfl)))
  (xs_asg (i := 2) (xe_op od_add ee_str (xe_cut (ee_var (i := 1) rfl) (eo_some ee_int) eo_none)) fun other3 =>
  (ss_nil (SubL.d (SubL.s (SubL.s SubL.n)))))
  (ss_nil (SubL.d (SubL.s (SubL.s SubL.n)))))) fun s1 =>
  (xs_ret (ee_tup (xa_cons (ee_var (i := 1) rfl) (xa_cons (ee_var (i := 2) rfl) ea_nil))))))) :
    SS Z (wE E) _ [some (.sh cell1), none, none] (m_law_two cell1) (fun _ => fil 3))
abbrev s_law_number : Stmt := topS 37
theorem sc_law_number : FnScope ["cell", "top"] ["cell", "top"] (defScope s_law_number) := ⟨rfl, rfl, rfl, by decide +kernel, rfl, by decide +kernel, by decide +kernel⟩
theorem ok_law_number {f : Addr} {fd : FuncData} (C : Cxx mg Z) (F : Fun Z.K "_law_number" "_law_number" s_law_number f fd) : FnOk P w Z.K mg base (L2.CX P w) 1 f fd ["cell", "top"] (spM Z (ar2 m_law_number)) := by
  refine fn_ok (k := 0) F sc_law_number (fun ds hd => by obtain ⟨cell1, top1, rfl⟩ := ar2_inv hd; rfl) (fun cdv A outer s H E hr tk po ds hd => ?_)
  obtain ⟨cell1, top1, rfl⟩ := ar2_inv hd
  have lt := lets_of tk
  have hu64 := hr.units
  have hu1 := hu_of hr
  refine ⟨_, (pss_cons (ps_if (pt_cmpR (op_eq3K (K := Z.K) rfl hu64) (pe_op op_mod (pv 0) pe_int) pe_int (nomark _))
  (pss_cons (ps_ret (pe_op op_mod (pe_op op_div2 (pv 0) pe_int) pe_int)) pss_nil)
  pss_nil)
  (pss_cons (ps_if (pt_cmpR (op_eq3K (K := Z.K) rfl hu64) (pe_op op_mod (pv 0) pe_int) pe_int (nomark _))
  (pss_cons (ps_ret (pe_op op_sub (pv 1) (pe_op op_mod (pe_op op_div2 (pv 0) pe_int) pe_int))) pss_nil)
  pss_nil)
  (pss_cons (ps_ret (pe_op op_mod (pe_op op_div2 (pv 0) pe_int) (pe_op op_add3 (pv 1) pe_int))) pss_nil))), ?_⟩
  exact ((ss_seq (env1 := fun s1 : Unit => [some (.sh cell1), some (.sh top1)]) (xs_if (xt_test (xe_op od_eq3 (xe_op od_mod (ee_var (i := 0) rfl) ee_int) ee_int))
  (xs_ret (xe_op od_mod (xe_op od_div (ee_var (i := 0) rfl) ee_int) ee_int))
  (ss_nil (SubL.s (SubL.s SubL.n)))) fun s1 =>
  (ss_seq (env1 := fun s2 : Unit => [some (.sh cell1), some (.sh top1)]) (xs_if (xt_test (xe_op od_eq3 (xe_op od_mod (ee_var (i := 0) rfl) ee_int) ee_int))
  (xs_ret (xe_op od_sub (ee_var (i := 1) rfl) (xe_op od_mod (xe_op od_div (ee_var (i := 0) rfl) ee_int) ee_int)))
  (ss_nil (SubL.s (SubL.s SubL.n)))) fun s2 =>
  (xs_ret (xe_op od_mod (xe_op od_div (ee_var (i := 0) rfl) ee_int) (xe_op od_add (ee_var (i := 1) rfl) ee_int))))) :
    SS Z (wE E) _ [some (.sh cell1), some (.sh top1)] (m_law_number cell1 top1) (fun _ => fil 2))
abbrev s_law_ring : Stmt := topS 38
theorem sc_law_ring : FnScope ["cell", "many", "letters", "number", "some", "size", "place", "front", "back", "begin", "k"] ["cell", "many"] (defScope s_law_ring) := ⟨rfl, rfl, rfl, by decide +kernel, rfl, by decide +kernel, by decide +kernel⟩
theorem ok_law_ring {f : Addr} {fd : FuncData} (C : Cxx mg Z) (F : Fun Z.K "_law_ring" "_law_ring" s_law_ring f fd) : FnOk P w Z.K mg base (L2.CX P w) 1 f fd ["cell", "many"] (spM Z (ar2 m_law_ring)) := by
  refine fn_ok (k := 0) F sc_law_ring (fun ds hd => by obtain ⟨cell1, many1, rfl⟩ := ar2_inv hd; rfl) (fun cdv A outer s H E hr tk po ds hd => ?_)
  obtain ⟨cell1, many1, rfl⟩ := ar2_inv hd
  have lt := lets_of tk
  have hu64 := hr.units
  have hu1 := hu_of hr
  refine ⟨_, (pss_cons (ps_set (i := 2) sc_law_ring.nd rfl (Or.inr rfl) pe_str)
  (pss_cons (ps_set (i := 3) sc_law_ring.nd rfl (Or.inl rfl) (pe_op op_mod (pe_op op_add3 (pe_op op_mul3 (pe_op op_mod (pv 0) pe_int) pe_int) pe_int) pe_int))
  (pss_cons (ps_set (i := 4) sc_law_ring.nd rfl (Or.inl rfl) (pe_lst (pa_cons pe_str (pa_cons pe_str (pa_cons pe_str (pa_cons pe_str (pa_cons pe_str (pa_cons pe_str (pa_cons pe_str (pa_cons pe_str pa_nil))))))))))
  (pss_cons (ps_if (pt_cmpR (op_eq3K (K := Z.K) rfl hu64) (pe_op op_mod (pv 3) pe_int) pe_int (nomark _))
  (pss_cons (ps_ret (pe_slice sl2 (pe_op op_add3 (pe_slice sl2 (pv 4) (po_some (pe_op op_mod (pe_op op_div2 (pv 3) pe_int) pe_int)) po_none) (pe_slice sl2 (pv 4) po_none (po_some (pe_op op_mod (pe_op op_div2 (pv 3) pe_int) pe_int)))) po_none (po_some (pv 1)))) pss_nil)
  pss_nil)
  (pss_cons (ps_set (i := 5) sc_law_ring.nd rfl (Or.inl rfl) (pe_op op_add3 pe_int (pe_op op_mod (pe_op op_div2 (pv 3) pe_int) pe_int)))
  (pss_cons (ps_set (i := 6) sc_law_ring.nd rfl (Or.inl rfl) (pe_op op_mod (pe_op op_div2 (pv 3) pe_int) (pv 5)))
  (pss_cons (ps_set (i := 7) sc_law_ring.nd rfl (Or.inr rfl) (pe_op op_mul3 (pe_or2 (pe_ix (ix_seqK (K := Z.K) rfl) (pv 2) (pe_op op_mod (pe_op op_div2 (pv 3) pe_int) pe_int) (fun _ _ => rfl)) (pe_dget hu1 (pv 2) (pe_op op_mod (pe_op op_div2 (pv 3) pe_int) pe_int) (fun _ _ => rfl))) (pv 6)))
  (pss_cons (ps_set (i := 8) sc_law_ring.nd rfl (Or.inr rfl) (pe_op op_mul3 (pe_or2 (pe_ix (ix_seqK (K := Z.K) rfl) (pv 2) (pe_op op_mod (pe_op op_div2 (pv 3) pe_int) pe_int) (fun _ _ => rfl)) (pe_dget hu1 (pv 2) (pe_op op_mod (pe_op op_div2 (pv 3) pe_int) pe_int) (fun _ _ => rfl))) (pe_op op_sub (pe_op op_sub (pv 5) pe_int) (pv 6))))
  (pss_cons (ps_set (i := 9) sc_law_ring.nd rfl (Or.inr rfl) (pe_op op_mod (pe_op op_div2 (pv 3) pe_int) pe_int))
  (pss_cons (ps_ret (pe_lc (own := [("k", 10)]) (g := gName 10) (tt := tYes) rfl sc_law_ring.nd (pi_range1 rfl C.b_range (pa_cons (pv 1) pa_nil)) (blkOk_by (N := ["cell", "many", "letters", "number", "some", "size", "place", "front", "back", "begin", "k"]) (sc := defScope s_law_ring) (by decide +kernel)) (fun _ _ _ _ _ => pg_name (i := 10) sc_law_ring.nd rfl (Or.inl rfl)) (fun _ _ _ _ _ => pts_nil) (fun _ _ _ _ _ => (pe_op op_add3 (pe_op op_add3 (pv 7) (pe_or2 (pe_ix (ix_seqK (K := Z.K) rfl) (pv 2) (pe_op op_mod (pe_op op_add3 (pv 9) (pe_op op_mul3 pe_int (pv 10))) pe_int) (fun _ _ => rfl)) (pe_dget hu1 (pv 2) (pe_op op_mod (pe_op op_add3 (pv 9) (pe_op op_mul3 pe_int (pv 10))) pe_int) (fun _ _ => rfl)))) (pv 8))))) pss_nil)))))))))), ?_⟩
  exact ((xs_asg (i := 2) ee_str fun letters1 =>
  (xs_asg (i := 3) (xe_op od_mod (xe_op od_add (xe_op od_mul (xe_op od_mod (ee_var (i := 0) rfl) ee_int) ee_int) ee_int) ee_int) fun number1 =>
  (xs_asg (i := 4) (ee_lst (xa_cons ee_str (xa_cons ee_str (xa_cons ee_str (xa_cons ee_str (xa_cons ee_str (xa_cons ee_str (xa_cons ee_str (xa_cons ee_str ea_nil))))))))) fun somex1 =>
  (ss_seq (env1 := fun s1 : Unit => [none, some (.sh many1), some (.sh letters1), some (.sh number1), none, none, none, none, none, none, none]) (xs_if (xt_test (xe_op od_eq3 (xe_op od_mod (ee_var (i := 3) rfl) ee_int) ee_int))
  (xs_ret (xe_cut (xe_op od_add (xe_cut (ee_var (i := 4) rfl) (eo_some (xe_op od_mod (xe_op od_div (ee_var (i := 3) rfl) ee_int) ee_int)) eo_none) (xe_cut (ee_var (i := 4) rfl) eo_none (eo_some (xe_op od_mod (xe_op od_div (ee_var (i := 3) rfl) ee_int) ee_int)))) eo_none (eo_some (ee_var (i := 1) rfl))))
  (ss_nil (SubL.d (SubL.s (SubL.s (SubL.s (SubL.d (SubL.s (SubL.s (SubL.s (SubL.s (SubL.s (SubL.s SubL.n))))))))))))) fun s1 =>
  (xs_asg (i := 5) (xe_op od_add ee_int (xe_op od_mod (xe_op od_div (ee_var (i := 3) rfl) ee_int) ee_int)) fun size1 =>
  (xs_asg (i := 6) (xe_op od_mod (xe_op od_div (ee_var (i := 3) rfl) ee_int) (ee_var (i := 5) rfl)) fun place1 =>
  (xs_asg (i := 7) (xe_op od_mul (xe_ix (ee_var (i := 2) rfl) (xe_op od_mod (xe_op od_div (ee_var (i := 3) rfl) ee_int) ee_int)) (ee_var (i := 6) rfl)) fun front1 =>
  (xs_asg (i := 8) (xe_op od_mul (xe_ix (ee_var (i := 2) rfl) (xe_op od_mod (xe_op od_div (ee_var (i := 3) rfl) ee_int) ee_int)) (xe_op od_sub (xe_op od_sub (ee_var (i := 5) rfl) ee_int) (ee_var (i := 6) rfl))) fun back1 =>
  (xs_asg (i := 9) (xe_op od_mod (xe_op od_div (ee_var (i := 3) rfl) ee_int) ee_int) fun begin1 =>
  (xs_ret (xe_efl (xl_lc (i0 := 10) (ei_rng1 (xa_cons (ee_var (i := 1) rfl) ea_nil)) fun k1 => (xe_op od_add (xe_op od_add (ee_var (i := 7) rfl) (xe_ix (ee_var (i := 2) rfl) (xe_op od_mod (xe_op od_add (ee_var (i := 9) rfl) (xe_op od_mul ee_int (ee_var (i := 10) rfl))) ee_int))) (ee_var (i := 8) rfl)))))))))))))) :
    SS Z (wE E) _ [some (.sh cell1), some (.sh many1), none, none, none, none, none, none, none, none, none] (m_law_ring cell1 many1) (fun _ => fil 11))
abbrev s_law_made : Stmt := topS 39
theorem sc_law_made : FnScope ["head", "one", "two", "kind", "amount", "first", "second", "line", "ring"] ["head", "one", "two"] (defScope s_law_made) := ⟨rfl, rfl, rfl, by decide +kernel, rfl, by decide +kernel, by decide +kernel⟩
theorem ok_law_made {f : Addr} {fd : FuncData} (C : Cxx mg Z) (F : Fun Z.K "_law_made" "_law_made" s_law_made f fd) (F_law_two : Fn P w Z.K mg base "_law_two" 2 ["cell"] [] (spM Z (ar1 m_law_two))) (F_law_number : Fn P w Z.K mg base "_law_number" 1 ["cell", "top"] [] (spM Z (ar2 m_law_number))) (F_law_ring : Fn P w Z.K mg base "_law_ring" 1 ["cell", "many"] [] (spM Z (ar2 m_law_ring))) : FnOk P w Z.K mg base (L2.CX P w) 3 f fd ["head", "one", "two"] (spM Z (ar3 m_law_made)) := by
  refine fn_ok (k := 2) F sc_law_made (fun ds hd => by obtain ⟨head1, one1, two1, rfl⟩ := ar3_inv hd; rfl) (fun cdv A outer s H E hr tk po ds hd => ?_)
  obtain ⟨head1, one1, two1, rfl⟩ := ar3_inv hd
  have lt := lets_of tk
  have hu64 := hr.units
  have hu1 := hu_of hr
  refine ⟨_, (pss_cons (ps_set (i := 3) sc_law_made.nd rfl (Or.inl rfl) (pe_op op_mod (pv 0) pe_int))
  (pss_cons (ps_asg (pe_fn F_law_two (hr.mono (by decide)) lt rfl (pa_cons (pv 1) pa_nil)) (pg_tup rfl (pgs_cons (pg_name (i := 5) sc_law_made.nd rfl (Or.inl rfl)) (pgs_cons (pg_name (i := 6) sc_law_made.nd rfl (Or.inl rfl)) pgs_nil))))
  (pss_cons (ps_if (pt_cmpR (op_eq3K (K := Z.K) rfl hu64) (pv 3) pe_int (nomark _))
  (pss_cons (ps_ret (pe_tup (pa_cons (pv 3) (pa_cons (pe_tup (pa_cons (pv 5) pa_nil)) (pa_cons (pe_op op_add3 pe_str (pv 5)) pa_nil))))) pss_nil)
  pss_nil)
  (pss_cons (ps_if (pt_cmpR (op_eq3K (K := Z.K) rfl hu64) (pv 3) pe_int (nomark _))
  (pss_cons (ps_set (i := 7) sc_law_made.nd rfl (Or.inl rfl) (pe_fn F_law_number (hr.mono (by decide)) lt rfl (pa_cons (pv 2) (pa_cons (pe_op op_sub (pe_op op_pow pe_int pe_int) pe_int) pa_nil))))
  (pss_cons (ps_ret (pe_tup (pa_cons (pv 3) (pa_cons (pe_tup (pa_cons (pv 5) (pa_cons (pv 6) (pa_cons (pv 7) pa_nil)))) (pa_cons (pe_op op_add3 (pe_op op_add3 (pe_op op_add3 (pe_op op_add3 (pe_op op_add3 pe_str (pv 5)) pe_str) (pv 6)) pe_str) (pe_callTy call_strI rfl C.b_str (by decide +kernel) (pa_cons (pv 7) pa_nil))) pa_nil))))) pss_nil))
  pss_nil)
  (pss_cons (ps_set (i := 4) sc_law_made.nd rfl (Or.inl rfl) (pe_callB (call_max2' rfl) rfl C.b_max (by decide +kernel) (pa_cons pe_int (pa_cons (pe_fn F_law_number (hr.mono (by decide)) lt rfl (pa_cons (pv 2) (pa_cons (pe_op op_sub (pe_op op_pow pe_int pe_int) pe_int) pa_nil))) pa_nil))))
  (pss_cons (ps_if (pt_cmpR (op_eq3K (K := Z.K) rfl hu64) (pv 3) pe_int (nomark _))
  (pss_cons (ps_ret (pe_tup (pa_cons (pv 3) (pa_cons (pe_tup (pa_cons (pv 5) (pa_cons (pv 6) (pa_cons (pv 4) pa_nil)))) (pa_cons (pe_op op_add3 (pe_op op_add3 (pe_op op_add3 (pe_op op_add3 (pe_op op_add3 pe_str (pv 5)) pe_str) (pv 6)) pe_str) (pe_callTy call_strI rfl C.b_str (by decide +kernel) (pa_cons (pv 4) pa_nil))) pa_nil))))) pss_nil)
  pss_nil)
  (pss_cons (ps_if (pt_cmpR (op_eq3K (K := Z.K) rfl hu64) (pv 3) pe_int (nomark _))
  (pss_cons (ps_set (i := 8) sc_law_made.nd rfl (Or.inl rfl) (pe_fn F_law_ring (hr.mono (by decide)) lt rfl (pa_cons (pv 1) (pa_cons (pe_op op_add3 pe_int (pe_op op_mod (pe_op op_div2 (pv 0) pe_int) pe_int)) pa_nil))))
  (pss_cons (ps_ret (pe_tup (pa_cons (pv 3) (pa_cons (pe_tup (pa_cons (pv 8) (pa_cons (pv 4) pa_nil))) (pa_cons (pe_op op_add3 (pe_op op_add3 (pe_op op_add3 pe_str (pe_callTy call_strI rfl C.b_str (by decide +kernel) (pa_cons (pv 4) pa_nil))) pe_str) (pe_bm PySem.F.plainAttrs_str PySem.F.slot_str_join PySem.F.type_str_join mt_joi pe_str (pa_cons (pv 8) pa_nil))) pa_nil))))) pss_nil))
  pss_nil)
  (pss_cons (ps_ret (pe_tup (pa_cons (pv 3) (pa_cons (pe_tup (pa_cons (pv 5) pa_nil)) (pa_cons (pe_op op_add3 pe_str (pv 5)) pa_nil))))) pss_nil)))))))), ?_⟩
  exact ((xs_asg (i := 3) (xe_op od_mod (ee_var (i := 0) rfl) ee_int) fun kind1 =>
  (ss_asgG (gj_tup2 (i := 5) (j := 6)) (xe_fn (xa_cons (ee_var (i := 1) rfl) ea_nil)) fun c1 =>
  (ss_seq (env1 := fun s1 : Unit => [some (.sh head1), some (.sh one1), some (.sh two1), some (.sh kind1), none, some (.sh c1.1), some (.sh c1.2), none, none]) (xs_if (xt_test (xe_op od_eq3 (ee_var (i := 3) rfl) ee_int))
  (xs_ret (ee_tup (xa_cons (ee_var (i := 3) rfl) (xa_cons (ee_tup (xa_cons (ee_var (i := 5) rfl) ea_nil)) (xa_cons (xe_op od_add ee_str (ee_var (i := 5) rfl)) ea_nil)))))
  (ss_nil (SubL.s (SubL.s (SubL.s (SubL.s (SubL.s (SubL.s (SubL.s (SubL.s (SubL.s SubL.n))))))))))) fun s1 =>
  (ss_seq (env1 := fun s2 : Unit => [some (.sh head1), some (.sh one1), some (.sh two1), some (.sh kind1), none, some (.sh c1.1), some (.sh c1.2), none, none]) (xs_if (xt_test (xe_op od_eq3 (ee_var (i := 3) rfl) ee_int))
  (xs_asg (i := 7) (xe_fn (xa_cons (ee_var (i := 2) rfl) (xa_cons (xe_op od_sub (xe_op od_pow ee_int ee_int) ee_int) ea_nil))) fun line1 =>
  (xs_ret (ee_tup (xa_cons (ee_var (i := 3) rfl) (xa_cons (ee_tup (xa_cons (ee_var (i := 5) rfl) (xa_cons (ee_var (i := 6) rfl) (xa_cons (ee_var (i := 7) rfl) ea_nil)))) (xa_cons (xe_op od_add (xe_op od_add (xe_op od_add (xe_op od_add (xe_op od_add ee_str (ee_var (i := 5) rfl)) ee_str) (ee_var (i := 6) rfl)) ee_str) (ee_cb cd_strI (xa_cons (ee_var (i := 7) rfl) ea_nil))) ea_nil))))))
  (ss_nil (SubL.s (SubL.s (SubL.s (SubL.s (SubL.s (SubL.s (SubL.s (SubL.s (SubL.s SubL.n))))))))))) fun s2 =>
  (xs_asg (i := 4) (ee_cb cd_max2 (xa_cons ee_int (xa_cons (xe_fn (xa_cons (ee_var (i := 2) rfl) (xa_cons (xe_op od_sub (xe_op od_pow ee_int ee_int) ee_int) ea_nil))) ea_nil))) fun amount1 =>
  (ss_seq (env1 := fun s3 : Unit => [some (.sh head1), some (.sh one1), none, some (.sh kind1), some (.sh amount1), some (.sh c1.1), none, none, none]) (xs_if (xt_test (xe_op od_eq3 (ee_var (i := 3) rfl) ee_int))
  (xs_ret (ee_tup (xa_cons (ee_var (i := 3) rfl) (xa_cons (ee_tup (xa_cons (ee_var (i := 5) rfl) (xa_cons (ee_var (i := 6) rfl) (xa_cons (ee_var (i := 4) rfl) ea_nil)))) (xa_cons (xe_op od_add (xe_op od_add (xe_op od_add (xe_op od_add (xe_op od_add ee_str (ee_var (i := 5) rfl)) ee_str) (ee_var (i := 6) rfl)) ee_str) (ee_cb cd_strI (xa_cons (ee_var (i := 4) rfl) ea_nil))) ea_nil)))))
  (ss_nil (SubL.s (SubL.s (SubL.d (SubL.s (SubL.s (SubL.s (SubL.d (SubL.s (SubL.s SubL.n))))))))))) fun s3 =>
  (ss_seq (env1 := fun s4 : Unit => [none, none, none, some (.sh kind1), none, some (.sh c1.1), none, none, none]) (xs_if (xt_test (xe_op od_eq3 (ee_var (i := 3) rfl) ee_int))
  (xs_asg (i := 8) (xe_fn (xa_cons (ee_var (i := 1) rfl) (xa_cons (xe_op od_add ee_int (xe_op od_mod (xe_op od_div (ee_var (i := 0) rfl) ee_int) ee_int)) ea_nil))) fun ring1 =>
  (xs_ret (ee_tup (xa_cons (ee_var (i := 3) rfl) (xa_cons (ee_tup (xa_cons (ee_var (i := 8) rfl) (xa_cons (ee_var (i := 4) rfl) ea_nil))) (xa_cons (xe_op od_add (xe_op od_add (xe_op od_add ee_str (ee_cb cd_strI (xa_cons (ee_var (i := 4) rfl) ea_nil))) ee_str) (xe_join ee_str (xa_cons (ee_var (i := 8) rfl) ea_nil))) ea_nil))))))
  (ss_nil (SubL.d (SubL.d (SubL.s (SubL.s (SubL.d (SubL.s (SubL.s (SubL.s (SubL.s SubL.n))))))))))) fun s4 =>
  (xs_ret (ee_tup (xa_cons (ee_var (i := 3) rfl) (xa_cons (ee_tup (xa_cons (ee_var (i := 5) rfl) ea_nil)) (xa_cons (xe_op od_add ee_str (ee_var (i := 5) rfl)) ea_nil)))))))))))) :
    SS Z (wE E) _ [some (.sh head1), some (.sh one1), some (.sh two1), none, none, none, none, none, none] (m_law_made head1 one1 two1) (fun _ => fil 9))
abbrev s_law_words : Stmt := topS 44
theorem sc_law_words : FnScope ["text", "place", "rest", "way", "words", "k", "some"] ["text", "place", "rest", "way"] (defScope s_law_words) := ⟨rfl, rfl, rfl, by decide +kernel, rfl, by decide +kernel, by decide +kernel⟩
theorem ok_law_words {f : Addr} {fd : FuncData} (C : Cxx mg Z) (F : Fun Z.K "_law_words" "_law_words" s_law_words f fd) : FnOk P w Z.K mg base (L2.CX P w) 1 f fd ["text", "place", "rest", "way"] (spM Z (ar4 m_law_words)) := by
  refine fn_ok (k := 0) F sc_law_words (fun ds hd => by obtain ⟨text1, place1, rest1, way1, rfl⟩ := ar4_inv hd; rfl) (fun cdv A outer s H E hr tk po ds hd => ?_)
  obtain ⟨text1, place1, rest1, way1, rfl⟩ := ar4_inv hd
  have lt := lets_of tk
  have hu64 := hr.units
  have hu1 := hu_of hr
  refine ⟨_, (pss_cons (ps_set (i := 4) sc_law_words.nd rfl (Or.inl rfl) (pe_bm PySem.F.plainAttrs_str PySem.F.slot_str_split PySem.F.type_str_split mt_spl (pv 0) (pa_cons pe_str pa_nil)))
  (pss_cons (ps_set (i := 5) sc_law_words.nd rfl (Or.inl rfl) (pe_op op_mod (pv 1) (pe_callB call_len3 rfl C.b_len (by decide +kernel) (pa_cons (pv 4) pa_nil))))
  (pss_cons (ps_if (pt_cmpR (op_eq3K (K := Z.K) rfl hu64) (pv 3) pe_int (nomark _))
  (pss_cons (ps_set (i := 4) sc_law_words.nd rfl (Or.inl rfl) (pe_op op_add3 (pe_slice sl2 (pv 4) po_none (po_some (pv 5))) (pe_slice sl2 (pv 4) (po_some (pe_op op_add3 (pv 5) pe_int)) po_none)))
  pss_nil)
  pss_nil)
  (pss_cons (ps_if (pt_cmpR (op_eq3K (K := Z.K) rfl hu64) (pv 3) pe_int (nomark _))
  (pss_cons (ps_set (i := 4) sc_law_words.nd rfl (Or.inl rfl) (pe_op op_add3 (pe_op op_add3 (pe_slice sl2 (pv 4) po_none (po_some (pv 5))) (pe_lst (pa_cons (pe_or2 (pe_ix (ix_seqK (K := Z.K) rfl) (pv 4) (pv 5) (fun _ _ => rfl)) (pe_dget hu1 (pv 4) (pv 5) (fun _ _ => rfl))) pa_nil))) (pe_slice sl2 (pv 4) (po_some (pv 5)) po_none)))
  pss_nil)
  pss_nil)
  (pss_cons (ps_if (pt_cmpR (op_eq3K (K := Z.K) rfl hu64) (pv 3) pe_int (nomark _))
  (pss_cons (ps_asg (pe_or2 (pe_ix (ix_seqK (K := Z.K) rfl) (pv 4) (pe_op op_sub (pv 5) pe_int) (fun _ _ => rfl)) (pe_dget hu1 (pv 4) (pe_op op_sub (pv 5) pe_int) (fun _ _ => rfl))) (pg_sub (pv 4) (pv 5) set_list))
  pss_nil)
  pss_nil)
  (pss_cons (ps_if (pt_cmpR (op_eq3K (K := Z.K) rfl hu64) (pv 3) pe_int (nomark _))
  (pss_cons (ps_set (i := 6) sc_law_words.nd rfl (Or.inl rfl) (pe_lst (pa_cons pe_str (pa_cons pe_str (pa_cons pe_str (pa_cons pe_str (pa_cons pe_str (pa_cons pe_str (pa_cons pe_str (pa_cons pe_str (pa_cons (pe_op op_add3 pe_str (pe_op op_mul3 pe_str pe_int)) (pa_cons (pe_op op_mul3 pe_str pe_int) (pa_cons (pe_op op_add3 pe_str (pe_op op_mul3 pe_str pe_int)) pa_nil)))))))))))))
  (pss_cons (ps_set (i := 6) sc_law_words.nd rfl (Or.inl rfl) (pe_op op_add3 (pv 6) (pe_lst (pa_cons (pe_op op_mul3 pe_str pe_int) (pa_cons (pe_op op_mul3 pe_str pe_int) (pa_cons pe_str (pa_cons pe_str pa_nil)))))))
  (pss_cons (ps_asg (pe_or2 (pe_ix (ix_seqK (K := Z.K) rfl) (pv 6) (pe_op op_mod (pv 2) pe_int) (fun _ _ => rfl)) (pe_dget hu1 (pv 6) (pe_op op_mod (pv 2) pe_int) (fun _ _ => rfl))) (pg_sub (pv 4) (pe_or2 (pe_ix (ix_seqK (K := Z.K) rfl) (pe_lst (pa_cons pe_int (pa_cons (pe_op op_sub (pe_callB call_len3 rfl C.b_len (by decide +kernel) (pa_cons (pv 4) pa_nil)) pe_int) pa_nil))) (pe_op op_mod (pe_op op_div2 (pv 2) pe_int) pe_int) (fun _ _ => rfl)) (pe_dget hu1 (pe_lst (pa_cons pe_int (pa_cons (pe_op op_sub (pe_callB call_len3 rfl C.b_len (by decide +kernel) (pa_cons (pv 4) pa_nil)) pe_int) pa_nil))) (pe_op op_mod (pe_op op_div2 (pv 2) pe_int) pe_int) (fun _ _ => rfl))) set_list))
  pss_nil)))
  pss_nil)
  (pss_cons (ps_if (pt_cmpR (op_eq3K (K := Z.K) rfl hu64) (pv 3) pe_int (nomark _))
  (pss_cons (ps_set (i := 4) sc_law_words.nd rfl (Or.inl rfl) (pe_op op_add3 (pv 4) (pe_slice sl2 (pe_lst (pa_cons pe_str (pa_cons pe_str (pa_cons pe_str (pa_cons pe_str (pa_cons pe_str (pa_cons pe_str (pa_cons pe_str (pa_cons pe_str (pa_cons pe_str pa_nil)))))))))) po_none (po_some (pe_op op_add3 pe_int (pe_op op_mod (pv 2) pe_int))))))
  pss_nil)
  pss_nil)
  (pss_cons (ps_ret (pe_bm PySem.F.plainAttrs_str PySem.F.slot_str_join PySem.F.type_str_join mt_joi pe_str (pa_cons (pv 4) pa_nil))) pss_nil)))))))), ?_⟩
  exact ((xs_asgL (i := 4) (xl_split (ee_var (i := 0) rfl) (xa_cons ee_str ea_nil)) fun words1 =>
  (xs_asg (i := 5) (ee_bor (xe_op od_mod (ee_varS (i := 1) rfl) (ee_cb cd_len3 (xa_cons (ee_varF (i := 4) rfl) ea_nil)))) fun k1 =>
  (ss_seq (env1 := fun s1 : List D => [none, none, some (.sh rest1), some (.sh way1), some (oLs s1), some (.sh k1), none]) (xs_if (xt_test (xe_op od_eq3 (ee_var (i := 3) rfl) ee_int))
  (xs_fz (τ' := [some (.sh text1), some (.sh place1), some (.sh rest1), some (.sh way1), some (.sh (.lst words1)), some (.sh k1), none]) (SubL.s (SubL.s (SubL.s (SubL.s (SubL.f (SubL.s (SubL.s SubL.n)) (by simp only [oLs_toD])))))) (xs_asgL (i := 4) (xl_cat (xe_cut (ee_var (i := 4) rfl) eo_none (eo_some (ee_var (i := 5) rfl))) (xe_cut (ee_var (i := 4) rfl) (eo_some (xe_op od_add (ee_var (i := 5) rfl) ee_int)) eo_none)) fun words2 =>
  (ss_nil (SubL.d (SubL.d (SubL.s (SubL.s (SubL.s (SubL.s (SubL.s SubL.n))))))))))
  (ss_nil (SubL.d (SubL.d (SubL.s (SubL.s (SubL.s (SubL.s (SubL.s SubL.n))))))))) fun s1 =>
  (ss_seq (env1 := fun s2 : List D => [none, none, some (.sh rest1), some (.sh way1), some (oLs s2), some (.sh k1), none]) (xs_if (xt_test (xe_op od_eq3 (ee_var (i := 3) rfl) ee_int))
  (xs_fz (τ' := [none, none, some (.sh rest1), some (.sh way1), some (.sh (.lst s1)), some (.sh k1), none]) (SubL.s (SubL.s (SubL.s (SubL.s (SubL.f (SubL.s (SubL.s SubL.n)) (by simp only [oLs_toD])))))) (xs_asgL (i := 4) (xl_cat (xe_op od_add (xe_cut (ee_var (i := 4) rfl) eo_none (eo_some (ee_var (i := 5) rfl))) (ee_lst (xa_cons (xe_ix (ee_var (i := 4) rfl) (ee_var (i := 5) rfl)) ea_nil))) (xe_cut (ee_var (i := 4) rfl) (eo_some (ee_var (i := 5) rfl)) eo_none)) fun words3 =>
  (ss_nil (SubL.s (SubL.s (SubL.s (SubL.s (SubL.s (SubL.s (SubL.s SubL.n))))))))))
  (ss_nil (SubL.s (SubL.s (SubL.s (SubL.s (SubL.s (SubL.s (SubL.s SubL.n))))))))) fun s2 =>
  (ss_seq (env1 := fun s3 : List D => [none, none, some (.sh rest1), some (.sh way1), some (oLs s3), none, none]) (xs_if (xt_test (xe_op od_eq3 (ee_var (i := 3) rfl) ee_int))
  (xs_setL (i := 4) rfl (ee_bor (xe_ix (ee_varF (i := 4) rfl) (xe_op od_sub (ee_varS (i := 5) rfl) ee_int))) (ee_var (i := 5) rfl) fun words4 =>
  (ss_nil (SubL.s (SubL.s (SubL.s (SubL.s (SubL.s (SubL.d (SubL.s SubL.n)))))))))
  (ss_nil (SubL.s (SubL.s (SubL.s (SubL.s (SubL.s (SubL.d (SubL.s SubL.n))))))))) fun s3 =>
  (ss_seq (env1 := fun s4 : D => [none, none, some (.sh rest1), some (.sh way1), some (.sh s4), none, none]) (xs_if (xt_test (xe_op od_eq3 (ee_var (i := 3) rfl) ee_int))
  (xs_asg (i := 6) (ee_lst (xa_cons ee_str (xa_cons ee_str (xa_cons ee_str (xa_cons ee_str (xa_cons ee_str (xa_cons ee_str (xa_cons ee_str (xa_cons ee_str (xa_cons (xe_op od_add ee_str (xe_op od_mul ee_str ee_int)) (xa_cons (xe_op od_mul ee_str ee_int) (xa_cons (xe_op od_add ee_str (xe_op od_mul ee_str ee_int)) ea_nil)))))))))))) fun somex1 =>
  (xs_asg (i := 6) (xe_op od_add (ee_var (i := 6) rfl) (ee_lst (xa_cons (xe_op od_mul ee_str ee_int) (xa_cons (xe_op od_mul ee_str ee_int) (xa_cons ee_str (xa_cons ee_str ea_nil)))))) fun somex2 =>
  (xs_setL (i := 4) rfl (xe_ix (ee_var (i := 6) rfl) (xe_op od_mod (ee_var (i := 2) rfl) ee_int)) (ee_bor (xe_ix (ee_lst (xa_cons ee_int (xa_cons (xe_op od_sub (ee_cb cd_len3 (xa_cons (ee_varF (i := 4) rfl) ea_nil)) ee_int) ea_nil))) (xe_op od_mod (xe_op od_div (ee_varS (i := 2) rfl) ee_int) ee_int))) fun words5 =>
  (ss_nil (SubL.s (SubL.s (SubL.s (SubL.s (SubL.f (SubL.s (SubL.d SubL.n)) (by simp only [oLs_toD]))))))))))
  (ss_nil (SubL.s (SubL.s (SubL.s (SubL.s (SubL.f (SubL.s (SubL.s SubL.n)) (by simp only [oLs_toD])))))))) fun s4 =>
  (ss_seq (env1 := fun s5 : D => [none, none, none, none, some (.sh s5), none, none]) (xs_if (xt_test (xe_op od_eq3 (ee_var (i := 3) rfl) ee_int))
  (xs_asg (i := 4) (xe_op od_add (ee_var (i := 4) rfl) (xe_cut (ee_lst (xa_cons ee_str (xa_cons ee_str (xa_cons ee_str (xa_cons ee_str (xa_cons ee_str (xa_cons ee_str (xa_cons ee_str (xa_cons ee_str (xa_cons ee_str ea_nil)))))))))) eo_none (eo_some (xe_op od_add ee_int (xe_op od_mod (ee_var (i := 2) rfl) ee_int))))) fun words6 =>
  (ss_nil (SubL.s (SubL.s (SubL.d (SubL.d (SubL.s (SubL.s (SubL.s SubL.n)))))))))
  (ss_nil (SubL.s (SubL.s (SubL.d (SubL.d (SubL.s (SubL.s (SubL.s SubL.n))))))))) fun s5 =>
  (xs_ret (xe_join ee_str (xa_cons (ee_var (i := 4) rfl) ea_nil)))))))))) :
    SS Z (wE E) _ [some (.sh text1), some (.sh place1), some (.sh rest1), some (.sh way1), none, none, none] (m_law_words text1 place1 rest1 way1) (fun _ => fil 7))
abbrev s_law_spoiled : Stmt := topS 45
theorem sc_law_spoiled : FnScope ["text", "cell", "signs", "number", "way", "place", "rest", "some"] ["text", "cell"] (defScope s_law_spoiled) := ⟨rfl, rfl, rfl, by decide +kernel, rfl, by decide +kernel, by decide +kernel⟩
theorem ok_law_spoiled {f : Addr} {fd : FuncData} (C : Cxx mg Z) (F : Fun Z.K "_law_spoiled" "_law_spoiled" s_law_spoiled f fd) (F_law_words : Fn P w Z.K mg base "_law_words" 1 ["text", "place", "rest", "way"] [] (spM Z (ar4 m_law_words))) : FnOk P w Z.K mg base (L2.CX P w) 2 f fd ["text", "cell"] (spM Z (ar2 m_law_spoiled)) := by
  refine fn_ok (k := 1) F sc_law_spoiled (fun ds hd => by obtain ⟨text1, cell1, rfl⟩ := ar2_inv hd; rfl) (fun cdv A outer s H E hr tk po ds hd => ?_)
  obtain ⟨text1, cell1, rfl⟩ := ar2_inv hd
  have lt := lets_of tk
  have hu64 := hr.units
  have hu1 := hu_of hr
  refine ⟨_, (pss_cons (ps_set (i := 2) sc_law_spoiled.nd rfl (Or.inl rfl) pe_str)
  (pss_cons (ps_set (i := 2) sc_law_spoiled.nd rfl (Or.inl rfl) (pe_op op_add3 (pv 2) pe_str))
  (pss_cons (ps_set (i := 3) sc_law_spoiled.nd rfl (Or.inl rfl) (pe_op op_mod (pe_op op_add3 (pe_op op_mul3 (pe_op op_mod (pv 1) pe_int) pe_int) pe_int) pe_int))
  (pss_cons (ps_set (i := 4) sc_law_spoiled.nd rfl (Or.inl rfl) (pe_op op_mod (pv 3) pe_int))
  (pss_cons (ps_set (i := 5) sc_law_spoiled.nd rfl (Or.inl rfl) (pe_op op_mod (pe_op op_div2 (pv 3) pe_int) (pe_op op_add3 (pe_callB call_len3 rfl C.b_len (by decide +kernel) (pa_cons (pv 0) pa_nil)) pe_int)))
  (pss_cons (ps_set (i := 6) sc_law_spoiled.nd rfl (Or.inl rfl) (pe_op op_div2 (pv 3) pe_int))
  (pss_cons (ps_if (pt_cmpR (op_eq3K (K := Z.K) rfl hu64) (pv 4) pe_int (nomark _))
  (pss_cons (ps_ret (pe_op op_add3 (pe_op op_add3 (pe_slice sl2 (pv 0) po_none (po_some (pv 5))) (pe_or2 (pe_ix (ix_seqK (K := Z.K) rfl) (pv 2) (pe_op op_mod (pv 6) (pe_callB call_len3 rfl C.b_len (by decide +kernel) (pa_cons (pv 2) pa_nil))) (fun _ _ => rfl)) (pe_dget hu1 (pv 2) (pe_op op_mod (pv 6) (pe_callB call_len3 rfl C.b_len (by decide +kernel) (pa_cons (pv 2) pa_nil))) (fun _ _ => rfl)))) (pe_slice sl2 (pv 0) (po_some (pv 5)) po_none))) pss_nil)
  pss_nil)
  (pss_cons (ps_if (pt_cmpR (op_eq3K (K := Z.K) rfl hu64) (pv 4) pe_int (nomark _))
  (pss_cons (ps_ret (pe_op op_add3 (pe_slice sl2 (pv 0) po_none (po_some (pv 5))) (pe_slice sl2 (pv 0) (po_some (pe_op op_add3 (pv 5) pe_int)) po_none))) pss_nil)
  pss_nil)
  (pss_cons (ps_if (pt_cmpR (op_eq3K (K := Z.K) rfl hu64) (pv 4) pe_int (nomark _))
  (pss_cons (ps_ret (pe_op op_add3 (pe_op op_add3 (pe_slice sl2 (pv 0) po_none (po_some (pv 5))) (pe_or2 (pe_ix (ix_seqK (K := Z.K) rfl) (pv 2) (pe_op op_mod (pv 6) (pe_callB call_len3 rfl C.b_len (by decide +kernel) (pa_cons (pv 2) pa_nil))) (fun _ _ => rfl)) (pe_dget hu1 (pv 2) (pe_op op_mod (pv 6) (pe_callB call_len3 rfl C.b_len (by decide +kernel) (pa_cons (pv 2) pa_nil))) (fun _ _ => rfl)))) (pe_slice sl2 (pv 0) (po_some (pe_op op_add3 (pv 5) pe_int)) po_none))) pss_nil)
  pss_nil)
  (pss_cons (ps_if (pt_cmpR op_lt3 (pv 4) pe_int (nomark _))
  (pss_cons (ps_ret (pe_fn F_law_words (hr.mono (by decide)) lt rfl (pa_cons (pv 0) (pa_cons (pv 5) (pa_cons (pv 6) (pa_cons (pv 4) pa_nil)))))) pss_nil)
  pss_nil)
  (pss_cons (ps_set (i := 7) sc_law_spoiled.nd rfl (Or.inl rfl) (pe_lst (pa_cons pe_non (pa_cons pe_int (pa_cons pe_bl (pa_cons (pe_lst (pa_cons (pv 0) pa_nil)) (pa_cons (pe_tup (pa_cons (pv 0) pa_nil)) (pa_cons pe_dnewK (pa_cons pe_str (pa_cons pe_str (pa_cons pe_str (pa_cons pe_str (pa_cons pe_str (pa_cons pe_str (pa_cons pe_str (pa_cons pe_str pa_nil))))))))))))))))
  (pss_cons (ps_ret (pe_or2 (pe_ix (ix_seqK (K := Z.K) rfl) (pv 7) (pe_op op_mod (pv 6) pe_int) (fun _ _ => rfl)) (pe_dget hu1 (pv 7) (pe_op op_mod (pv 6) pe_int) (fun _ _ => rfl)))) pss_nil)))))))))))), ?_⟩
  exact ((xs_asg (i := 2) ee_str fun signs1 =>
  (xs_asg (i := 2) (xe_op od_add (ee_var (i := 2) rfl) ee_str) fun signs2 =>
  (xs_asg (i := 3) (xe_op od_mod (xe_op od_add (xe_op od_mul (xe_op od_mod (ee_var (i := 1) rfl) ee_int) ee_int) ee_int) ee_int) fun number1 =>
  (xs_asg (i := 4) (xe_op od_mod (ee_var (i := 3) rfl) ee_int) fun way1 =>
  (xs_asg (i := 5) (xe_op od_mod (xe_op od_div (ee_var (i := 3) rfl) ee_int) (xe_op od_add (ee_cb cd_len3 (xa_cons (ee_var (i := 0) rfl) ea_nil)) ee_int)) fun place1 =>
  (xs_asg (i := 6) (xe_op od_div (ee_var (i := 3) rfl) ee_int) fun rest1 =>
  (ss_seq (env1 := fun s1 : Unit => [some (.sh text1), none, some (.sh signs2), none, some (.sh way1), some (.sh place1), some (.sh rest1), none]) (xs_if (xt_test (xe_op od_eq3 (ee_var (i := 4) rfl) ee_int))
  (xs_ret (xe_op od_add (xe_op od_add (xe_cut (ee_var (i := 0) rfl) eo_none (eo_some (ee_var (i := 5) rfl))) (xe_ix (ee_var (i := 2) rfl) (xe_op od_mod (ee_var (i := 6) rfl) (ee_cb cd_len3 (xa_cons (ee_var (i := 2) rfl) ea_nil))))) (xe_cut (ee_var (i := 0) rfl) (eo_some (ee_var (i := 5) rfl)) eo_none)))
  (ss_nil (SubL.s (SubL.d (SubL.s (SubL.d (SubL.s (SubL.s (SubL.s (SubL.s SubL.n)))))))))) fun s1 =>
  (ss_seq (env1 := fun s2 : Unit => [some (.sh text1), none, some (.sh signs2), none, some (.sh way1), some (.sh place1), some (.sh rest1), none]) (xs_if (xt_test (xe_op od_eq3 (ee_var (i := 4) rfl) ee_int))
  (xs_ret (xe_op od_add (xe_cut (ee_var (i := 0) rfl) eo_none (eo_some (ee_var (i := 5) rfl))) (xe_cut (ee_var (i := 0) rfl) (eo_some (xe_op od_add (ee_var (i := 5) rfl) ee_int)) eo_none)))
  (ss_nil (SubL.s (SubL.s (SubL.s (SubL.s (SubL.s (SubL.s (SubL.s (SubL.s SubL.n)))))))))) fun s2 =>
  (ss_seq (env1 := fun s3 : Unit => [some (.sh text1), none, none, none, some (.sh way1), some (.sh place1), some (.sh rest1), none]) (xs_if (xt_test (xe_op od_eq3 (ee_var (i := 4) rfl) ee_int))
  (xs_ret (xe_op od_add (xe_op od_add (xe_cut (ee_var (i := 0) rfl) eo_none (eo_some (ee_var (i := 5) rfl))) (xe_ix (ee_var (i := 2) rfl) (xe_op od_mod (ee_var (i := 6) rfl) (ee_cb cd_len3 (xa_cons (ee_var (i := 2) rfl) ea_nil))))) (xe_cut (ee_var (i := 0) rfl) (eo_some (xe_op od_add (ee_var (i := 5) rfl) ee_int)) eo_none)))
  (ss_nil (SubL.s (SubL.s (SubL.d (SubL.s (SubL.s (SubL.s (SubL.s (SubL.s SubL.n)))))))))) fun s3 =>
  (ss_seq (env1 := fun s4 : Unit => [some (.sh text1), none, none, none, none, none, some (.sh rest1), none]) (xs_if (xt_test (xe_op od_lt3 (ee_var (i := 4) rfl) ee_int))
  (xs_ret (xe_fn (xa_cons (ee_var (i := 0) rfl) (xa_cons (ee_var (i := 5) rfl) (xa_cons (ee_var (i := 6) rfl) (xa_cons (ee_var (i := 4) rfl) ea_nil))))))
  (ss_nil (SubL.s (SubL.s (SubL.s (SubL.s (SubL.d (SubL.d (SubL.s (SubL.s SubL.n)))))))))) fun s4 =>
  (xs_asg (i := 7) (ee_lst (xa_cons ee_non (xa_cons ee_int (xa_cons ee_bl (xa_cons (ee_lst (xa_cons (ee_var (i := 0) rfl) ea_nil)) (xa_cons (ee_tup (xa_cons (ee_var (i := 0) rfl) ea_nil)) (xa_cons xe_newK (xa_cons ee_str (xa_cons ee_str (xa_cons ee_str (xa_cons ee_str (xa_cons ee_str (xa_cons ee_str (xa_cons ee_str (xa_cons ee_str ea_nil))))))))))))))) fun somex1 =>
  (xs_ret (xe_ix (ee_var (i := 7) rfl) (xe_op od_mod (ee_var (i := 6) rfl) ee_int)))))))))))))) :
    SS Z (wE E) _ [some (.sh text1), some (.sh cell1), none, none, none, none, none, none] (m_law_spoiled text1 cell1) (fun _ => fil 8))
abbrev s_is_name : Stmt := topS 16
theorem sc_is_name : FnScope ["thing", "sign"] ["thing"] (defScope s_is_name) := ⟨rfl, rfl, rfl, by decide +kernel, rfl, by decide +kernel, by decide +kernel⟩
theorem ok_is_name {f : Addr} {fd : FuncData} (C : Cxx mg Z) (F : Fun Z.K "is_name" "is_name" s_is_name f fd) : FnOk P w Z.K mg base (L2.CX P w) 1 f fd ["thing"] (spM Z (ar1 m_is_name)) := by
  refine fn_ok (k := 0) F sc_is_name (fun ds hd => by obtain ⟨thing1, rfl⟩ := ar1_inv hd; rfl) (fun cdv A outer s H E hr tk po ds hd => ?_)
  obtain ⟨thing1, rfl⟩ := ar1_inv hd
  have lt := lets_of tk
  have hu64 := hr.units
  have hu1 := hu_of hr
  refine ⟨_, (pss_cons (ps_if (PW.pt (pw_or (pt_not (pt_val (pe_callB call_isY rfl C.b_isinstance (by decide +kernel) (pa_cons (pv 0) (pa_cons (pe_bltn (v := .ty "str") (u := .type "str") rfl C.b_str (by decide +kernel) rfl) pa_nil))))) (pw_or1 (pt_not (pt_chain op_le op_le pe_int (pe_callB call_len3 rfl C.b_len (by decide +kernel) (pa_cons (pv 0) pa_nil)) pe_int)))))
  (pss_cons (ps_ret pe_bl) pss_nil)
  pss_nil)
  (pss_cons (ps_for po rfl (pi_str (pv 0)) (pg_name (i := 1) sc_is_name.nd rfl (Or.inl rfl))
  (pss_cons (ps_if (pt_or2 (pt_cmpR op_nin2 (pv 1) (pe_globS rfl C.gl_LETTERS) (by rfl)) (pt_cmp (pc_dnotin hu1 (pv 1) (pe_globS rfl C.gl_LETTERS)) (by rfl)))
  (pss_cons (ps_ret pe_bl) pss_nil)
  pss_nil) pss_nil))
  (pss_cons (ps_ret pe_bl) pss_nil))), ?_⟩
  exact ((ss_seq (env1 := fun s1 : Unit => [some (.sh thing1), none]) (xs_if (xt_or (xt_not (xt_B (ee_is (n := .str) (ee_var (i := 0) rfl)))) (xt_not (xt_test (xe_chain od_le od_le ee_int (ee_cb cd_len3 (xa_cons (ee_var (i := 0) rfl) ea_nil)) ee_int))))
  (xs_ret ee_bl)
  (ss_nil (SubL.s (SubL.s SubL.n)))) fun s1 =>
  (ss_seq (env1 := fun s2 : Unit => [none, none]) (xs_for (ei_str (ee_var (i := 0) rfl)) (SubL.d (SubL.s SubL.n)) (gj_name (i := 1)) fun s2 sign1 =>
  (xs_ifT (xe_or2 (xe_nin (ee_var (i := 1) rfl) ee_str))
  (xs_ret ee_bl)
  (ss_nil (SubL.s (SubL.d SubL.n))))) fun s2 =>
  (xs_ret ee_bl))) :
    SS Z (wE E) _ [some (.sh thing1), none] (m_is_name thing1) (fun _ => fil 2))
abbrev s_two_unlike : Stmt := topS 29
theorem sc_two_unlike : FnScope ["words"] ["words"] (defScope s_two_unlike) := ⟨rfl, rfl, rfl, by decide +kernel, rfl, by decide +kernel, by decide +kernel⟩
theorem ok_two_unlike {f : Addr} {fd : FuncData} (C : Cxx mg Z) (F : Fun Z.K "two_unlike" "two_unlike" s_two_unlike f fd) (F_is_name : Fn P w Z.K mg base "is_name" 1 ["thing"] [] (spM Z (ar1 m_is_name))) : FnOk P w Z.K mg base (L2.CX P w) 2 f fd ["words"] (spM Z (ar1 m_two_unlike)) := by
  refine fn_ok (k := 1) F sc_two_unlike (fun ds hd => by obtain ⟨words1, rfl⟩ := ar1_inv hd; rfl) (fun cdv A outer s H E hr tk po ds hd => ?_)
  obtain ⟨words1, rfl⟩ := ar1_inv hd
  have lt := lets_of tk
  have hu64 := hr.units
  have hu1 := hu_of hr
  refine ⟨_, (pss_cons (ps_ret (pe_and (pe_fn F_is_name (hr.mono (by decide)) lt rfl (pa_cons (pe_or2 (pe_ix (ix_seqK (K := Z.K) rfl) (pv 0) pe_int (fun _ _ => rfl)) (pe_dget hu1 (pv 0) pe_int (fun _ _ => rfl))) pa_nil)) (pe_and (pe_fn F_is_name (hr.mono (by decide)) lt rfl (pa_cons (pe_or2 (pe_ix (ix_seqK (K := Z.K) rfl) (pv 0) pe_int (fun _ _ => rfl)) (pe_dget hu1 (pv 0) pe_int (fun _ _ => rfl))) pa_nil)) (pe_one (pe_cmpR (op_ne3K (K := Z.K) rfl hu64) (pe_or2 (pe_ix (ix_seqK (K := Z.K) rfl) (pv 0) pe_int (fun _ _ => rfl)) (pe_dget hu1 (pv 0) pe_int (fun _ _ => rfl))) (pe_or2 (pe_ix (ix_seqK (K := Z.K) rfl) (pv 0) pe_int (fun _ _ => rfl)) (pe_dget hu1 (pv 0) pe_int (fun _ _ => rfl))) (nomark _)))))) pss_nil), ?_⟩
  exact ((xs_ret (xe_andV (xe_fn (xa_cons (xe_ix (ee_var (i := 0) rfl) ee_int) ea_nil)) (xe_andV (xe_fn (xa_cons (xe_ix (ee_var (i := 0) rfl) ee_int) ea_nil)) (xe_op od_ne3 (xe_ix (ee_var (i := 0) rfl) ee_int) (xe_ix (ee_var (i := 0) rfl) ee_int))))) :
    SS Z (wE E) _ [some (.sh words1)] (m_two_unlike words1) (fun _ => fil 1))
abbrev s_number_of : Stmt := topS 28
theorem sc_number_of : FnScope ["word", "sign"] ["word"] (defScope s_number_of) := ⟨rfl, rfl, rfl, by decide +kernel, rfl, by decide +kernel, by decide +kernel⟩
theorem ok_number_of {f : Addr} {fd : FuncData} (C : Cxx mg Z) (F : Fun Z.K "number_of" "number_of" s_number_of f fd) : FnOk P w Z.K mg base (L2.CX P w) 1 f fd ["word"] (spM Z (ar1 m_number_of)) := by
  refine fn_ok (k := 0) F sc_number_of (fun ds hd => by obtain ⟨word1, rfl⟩ := ar1_inv hd; rfl) (fun cdv A outer s H E hr tk po ds hd => ?_)
  obtain ⟨word1, rfl⟩ := ar1_inv hd
  have lt := lets_of tk
  have hu64 := hr.units
  have hu1 := hu_of hr
  refine ⟨_, (pss_cons (ps_if (PW.pt (pw_or (pt_not (pt_chain op_le op_le pe_int (pe_callB call_len3 rfl C.b_len (by decide +kernel) (pa_cons (pv 0) pa_nil)) pe_int)) (pw_or1 (PW.pt (pw_and (pt_cmpR (op_eq3K (K := Z.K) rfl hu64) (pe_or2 (pe_ix (ix_seqK (K := Z.K) rfl) (pv 0) pe_int (fun _ _ => rfl)) (pe_dget hu1 (pv 0) pe_int (fun _ _ => rfl))) pe_str (nomark _)) (pw_and1 (pt_cmpR op_gt (pe_callB call_len3 rfl C.b_len (by decide +kernel) (pa_cons (pv 0) pa_nil)) pe_int (nomark _))))))))
  (pss_cons (ps_ret (pe_un un_neg pe_int)) pss_nil)
  pss_nil)
  (pss_cons (ps_for po rfl (pi_str (pv 0)) (pg_name (i := 1) sc_number_of.nd rfl (Or.inl rfl))
  (pss_cons (ps_if (pt_or2 (pt_cmpR op_nin2 (pv 1) (pe_globS rfl C.gl_FIGURES) (by rfl)) (pt_cmp (pc_dnotin hu1 (pv 1) (pe_globS rfl C.gl_FIGURES)) (by rfl)))
  (pss_cons (ps_ret (pe_un un_neg pe_int)) pss_nil)
  pss_nil) pss_nil))
  (pss_cons (ps_ret (pe_callTy call_int4 rfl C.b_int (by decide +kernel) (pa_cons (pv 0) pa_nil))) pss_nil))), ?_⟩
  exact ((ss_seq (env1 := fun s1 : Unit => [some (.sh word1), none]) (xs_if (xt_or (xt_not (xt_test (xe_chain od_le od_le ee_int (ee_cb cd_len3 (xa_cons (ee_var (i := 0) rfl) ea_nil)) ee_int))) (xt_and (xt_test (xe_op od_eq3 (xe_ix (ee_var (i := 0) rfl) ee_int) ee_str)) (xt_test (xe_op od_gt (ee_cb cd_len3 (xa_cons (ee_var (i := 0) rfl) ea_nil)) ee_int))))
  (xs_ret (ee_un ud_neg ee_int))
  (ss_nil (SubL.s (SubL.s SubL.n)))) fun s1 =>
  (ss_seq (env1 := fun s2 : Unit => [some (.sh word1), none]) (xs_for (ei_str (ee_var (i := 0) rfl)) (SubL.s (SubL.s SubL.n)) (gj_name (i := 1)) fun s2 sign1 =>
  (xs_ifT (xe_or2 (xe_nin (ee_var (i := 1) rfl) ee_str))
  (xs_ret (ee_un ud_neg ee_int))
  (ss_nil (SubL.s (SubL.d SubL.n))))) fun s2 =>
  (xs_ret (ee_cb cd_int4 (xa_cons (ee_var (i := 0) rfl) ea_nil))))) :
    SS Z (wE E) _ [some (.sh word1), none] (m_number_of word1) (fun _ => fil 2))
abbrev s_is_line : Stmt := topS 18
theorem sc_is_line : FnScope ["thing"] ["thing"] (defScope s_is_line) := ⟨rfl, rfl, rfl, by decide +kernel, rfl, by decide +kernel, by decide +kernel⟩
theorem ok_is_line {f : Addr} {fd : FuncData} (C : Cxx mg Z) (F : Fun Z.K "is_line" "is_line" s_is_line f fd) : FnOk P w Z.K mg base (L2.CX P w) 1 f fd ["thing"] (spM Z (ar1 m_is_line)) := by
  refine fn_ok (k := 0) F sc_is_line (fun ds hd => by obtain ⟨thing1, rfl⟩ := ar1_inv hd; rfl) (fun cdv A outer s H E hr tk po ds hd => ?_)
  obtain ⟨thing1, rfl⟩ := ar1_inv hd
  have lt := lets_of tk
  have hu64 := hr.units
  have hu1 := hu_of hr
  refine ⟨_, (pss_cons (ps_ret (pe_and (pe_callB call_isY rfl C.b_isinstance (by decide +kernel) (pa_cons (pv 0) (pa_cons (pe_bltn (v := .ty "int") (u := .type "int") rfl C.b_int (by decide +kernel) rfl) pa_nil))) (pe_and (pe_not (pe_callB call_isY rfl C.b_isinstance (by decide +kernel) (pa_cons (pv 0) (pa_cons (pe_bltn (v := .ty "bool") (u := .type "bool") rfl C.b_bool (by decide +kernel) rfl) pa_nil)))) (pe_one (pe_chain op_le op_lt3 pe_int (pv 0) (pe_op op_pow pe_int pe_int)))))) pss_nil), ?_⟩
  exact ((xs_ret (xe_andV (ee_is (n := .int) (ee_var (i := 0) rfl)) (xe_andV (xe_notV (ee_is (n := .bool) (ee_var (i := 0) rfl))) (xe_chain od_le od_lt3 ee_int (ee_var (i := 0) rfl) (xe_op od_pow ee_int ee_int))))) :
    SS Z (wE E) _ [some (.sh thing1)] (m_is_line thing1) (fun _ => fil 1))
abbrev s_is_amount : Stmt := topS 17
theorem sc_is_amount : FnScope ["thing"] ["thing"] (defScope s_is_amount) := ⟨rfl, rfl, rfl, by decide +kernel, rfl, by decide +kernel, by decide +kernel⟩
theorem ok_is_amount {f : Addr} {fd : FuncData} (C : Cxx mg Z) (F : Fun Z.K "is_amount" "is_amount" s_is_amount f fd) : FnOk P w Z.K mg base (L2.CX P w) 1 f fd ["thing"] (spM Z (ar1 m_is_amount)) := by
  refine fn_ok (k := 0) F sc_is_amount (fun ds hd => by obtain ⟨thing1, rfl⟩ := ar1_inv hd; rfl) (fun cdv A outer s H E hr tk po ds hd => ?_)
  obtain ⟨thing1, rfl⟩ := ar1_inv hd
  have lt := lets_of tk
  have hu64 := hr.units
  have hu1 := hu_of hr
  refine ⟨_, (pss_cons (ps_ret (pe_and (pe_callB call_isY rfl C.b_isinstance (by decide +kernel) (pa_cons (pv 0) (pa_cons (pe_bltn (v := .ty "int") (u := .type "int") rfl C.b_int (by decide +kernel) rfl) pa_nil))) (pe_and (pe_not (pe_callB call_isY rfl C.b_isinstance (by decide +kernel) (pa_cons (pv 0) (pa_cons (pe_bltn (v := .ty "bool") (u := .type "bool") rfl C.b_bool (by decide +kernel) rfl) pa_nil)))) (pe_one (pe_chain op_le op_lt3 pe_int (pv 0) (pe_op op_pow pe_int pe_int)))))) pss_nil), ?_⟩
  exact ((xs_ret (xe_andV (ee_is (n := .int) (ee_var (i := 0) rfl)) (xe_andV (xe_notV (ee_is (n := .bool) (ee_var (i := 0) rfl))) (xe_chain od_le od_lt3 ee_int (ee_var (i := 0) rfl) (xe_op od_pow ee_int ee_int))))) :
    SS Z (wE E) _ [some (.sh thing1)] (m_is_amount thing1) (fun _ => fil 1))
abbrev s_all_names : Stmt := topS 30
theorem sc_all_names : FnScope ["words", "word"] ["words"] (defScope s_all_names) := ⟨rfl, rfl, rfl, by decide +kernel, rfl, by decide +kernel, by decide +kernel⟩
theorem ok_all_names {f : Addr} {fd : FuncData} (C : Cxx mg Z) (F : Fun Z.K "all_names" "all_names" s_all_names f fd) (F_is_name : Fn P w Z.K mg base "is_name" 1 ["thing"] [] (spM Z (ar1 m_is_name))) : FnOk P w Z.K mg base (L2.CX P w) 2 f fd ["words"] (spM Z (ar1 m_all_names)) := by
  refine fn_ok (k := 1) F sc_all_names (fun ds hd => by obtain ⟨words1, rfl⟩ := ar1_inv hd; rfl) (fun cdv A outer s H E hr tk po ds hd => ?_)
  obtain ⟨words1, rfl⟩ := ar1_inv hd
  have lt := lets_of tk
  have hu64 := hr.units
  have hu1 := hu_of hr
  refine ⟨_, (pss_cons (ps_for po rfl (pi_list (pv 0)) (pg_name (i := 1) sc_all_names.nd rfl (Or.inl rfl))
  (pss_cons (ps_if (PW.pt (pw_or (pt_not (pt_val (pe_fn F_is_name (hr.mono (by decide)) lt rfl (pa_cons (pv 1) pa_nil)))) (pw_or1 (pt_cmpR op_gt (pe_bm PySem.F.plainAttrs_list PySem.F.slot_list_count PySem.F.type_list_count mt_lcountS (pv 0) (pa_cons (pv 1) pa_nil)) pe_int (nomark _)))))
  (pss_cons (ps_ret pe_bl) pss_nil)
  pss_nil) pss_nil))
  (pss_cons (ps_ret pe_bl) pss_nil)), ?_⟩
  exact ((ss_seq (env1 := fun s1 : Unit => [some (.sh words1), none]) (xs_for (ei_list (ee_var (i := 0) rfl)) (SubL.s (SubL.s SubL.n)) (gj_name (i := 1)) fun s1 word1 =>
  (xs_ifT (xt_or (xt_not (xt_B (xe_fn (xa_cons (ee_var (i := 1) rfl) ea_nil)))) (xt_test (xe_op od_gt (xe_cnt (ee_var (i := 0) rfl) (xa_cons (ee_var (i := 1) rfl) ea_nil)) ee_int)))
  (xs_ret ee_bl)
  (ss_nil (SubL.s (SubL.d SubL.n))))) fun s1 =>
  (xs_ret ee_bl)) :
    SS Z (wE E) _ [some (.sh words1), none] (m_all_names words1) (fun _ => fil 2))
abbrev s_Join_init : Stmt := inClass (topS 21) 0
theorem sc_Join_init : FnScope ["self", "house"] ["self", "house"] (defScope s_Join_init) := ⟨rfl, rfl, rfl, by decide +kernel, rfl, by decide +kernel, by decide +kernel⟩
theorem ok_Join_init {f : Addr} {fd : FuncData} (C : Cxx mg Z) (F : Fun Z.K "__init__" "Join.__init__" s_Join_init f fd) : FnOk P w Z.K mg base CX0 1 f fd ["self", "house"] (spI Z .join) := by
  refine F.ok sc_Join_init (fun vs H Q E h => ?_) (fun cdv A outer s H vs Q E hr h => ?_)
  · obtain ⟨x, dx, us, rfl, hl, _⟩ := h
    rw [List.length_cons, hl]
    rfl
  · obtain ⟨x, dx, us, rfl, hl, hx, k⟩ := h
    obtain ⟨v1, rfl⟩ : ∃ v1, us = [v1] := by
      match us, hl with
      | [v1], _ => exact ⟨v1, rfl⟩
    refine ⟨_, pss_one (ps_fld (pv 0) (pv 1) rfl), ?_⟩
    refine sfld_go (C := Z.cc .join) (fs := []) C.cf_Join.cl (C.cf_Join.na _ (by decide +kernel)) hx (show ("house" : PySem.Str) ∉ ([] : List PySem.Str) by decide +kernel) (show 0 < 1000 by decide) rfl rfl ?_
    exact k
abbrev s_Leave_init : Stmt := inClass (topS 25) 0
theorem sc_Leave_init : FnScope ["self", "house"] ["self", "house"] (defScope s_Leave_init) := ⟨rfl, rfl, rfl, by decide +kernel, rfl, by decide +kernel, by decide +kernel⟩
theorem ok_Leave_init {f : Addr} {fd : FuncData} (C : Cxx mg Z) (F : Fun Z.K "__init__" "Leave.__init__" s_Leave_init f fd) : FnOk P w Z.K mg base CX0 1 f fd ["self", "house"] (spI Z .leave) := by
  refine F.ok sc_Leave_init (fun vs H Q E h => ?_) (fun cdv A outer s H vs Q E hr h => ?_)
  · obtain ⟨x, dx, us, rfl, hl, _⟩ := h
    rw [List.length_cons, hl]
    rfl
  · obtain ⟨x, dx, us, rfl, hl, hx, k⟩ := h
    obtain ⟨v1, rfl⟩ : ∃ v1, us = [v1] := by
      match us, hl with
      | [v1], _ => exact ⟨v1, rfl⟩
    refine ⟨_, pss_one (ps_fld (pv 0) (pv 1) rfl), ?_⟩
    refine sfld_go (C := Z.cc .leave) (fs := []) C.cf_Leave.cl (C.cf_Leave.na _ (by decide +kernel)) hx (show ("house" : PySem.Str) ∉ ([] : List PySem.Str) by decide +kernel) (show 0 < 1000 by decide) rfl rfl ?_
    exact k
abbrev s_Pay_init : Stmt := inClass (topS 23) 0
theorem sc_Pay_init : FnScope ["self", "payer", "taker", "amount"] ["self", "payer", "taker", "amount"] (defScope s_Pay_init) := ⟨rfl, rfl, rfl, by decide +kernel, rfl, by decide +kernel, by decide +kernel⟩
theorem ok_Pay_init {f : Addr} {fd : FuncData} (C : Cxx mg Z) (F : Fun Z.K "__init__" "Pay.__init__" s_Pay_init f fd) : FnOk P w Z.K mg base CX0 1 f fd ["self", "payer", "taker", "amount"] (spI Z .pay) := by
  refine F.ok sc_Pay_init (fun vs H Q E h => ?_) (fun cdv A outer s H vs Q E hr h => ?_)
  · obtain ⟨x, dx, us, rfl, hl, _⟩ := h
    rw [List.length_cons, hl]
    rfl
  · obtain ⟨x, dx, us, rfl, hl, hx, k⟩ := h
    obtain ⟨v1, v2, v3, rfl⟩ : ∃ v1 v2 v3, us = [v1, v2, v3] := by
      match us, hl with
      | [v1, v2, v3], _ => exact ⟨v1, v2, v3, rfl⟩
    refine ⟨_, pss_cons (ps_fld (pv 0) (pv 1) rfl) (pss_cons (ps_fld (pv 0) (pv 2) rfl) (pss_one (ps_fld (pv 0) (pv 3) rfl))), ?_⟩
    refine sfld_go (C := Z.cc .pay) (fs := []) C.cf_Pay.cl (C.cf_Pay.na _ (by decide +kernel)) hx (show ("payer" : PySem.Str) ∉ ([] : List PySem.Str) by decide +kernel) (show 0 < 1000 by decide) rfl rfl ?_
    refine sfld_go (C := Z.cc .pay) (fs := [("payer", v1)]) C.cf_Pay.cl (C.cf_Pay.na _ (by decide +kernel)) upd_same (show ("taker" : PySem.Str) ∉ (["payer"] : List PySem.Str) by decide +kernel) (show 1 < 1000 by decide) rfl rfl ?_
    refine sfld_go (C := Z.cc .pay) (fs := [("payer", v1), ("taker", v2)]) C.cf_Pay.cl (C.cf_Pay.na _ (by decide +kernel)) upd_same (show ("amount" : PySem.Str) ∉ (["payer", "taker"] : List PySem.Str) by decide +kernel) (show 2 < 1000 by decide) rfl rfl ?_
    rw [upd_upd, upd_upd]
    exact k
abbrev s_Trust_init : Stmt := inClass (topS 22) 0
theorem sc_Trust_init : FnScope ["self", "one", "other", "line"] ["self", "one", "other", "line"] (defScope s_Trust_init) := ⟨rfl, rfl, rfl, by decide +kernel, rfl, by decide +kernel, by decide +kernel⟩
theorem ok_Trust_init {f : Addr} {fd : FuncData} (C : Cxx mg Z) (F : Fun Z.K "__init__" "Trust.__init__" s_Trust_init f fd) : FnOk P w Z.K mg base CX0 1 f fd ["self", "one", "other", "line"] (spI Z .trust) := by
  refine F.ok sc_Trust_init (fun vs H Q E h => ?_) (fun cdv A outer s H vs Q E hr h => ?_)
  · obtain ⟨x, dx, us, rfl, hl, _⟩ := h
    rw [List.length_cons, hl]
    rfl
  · obtain ⟨x, dx, us, rfl, hl, hx, k⟩ := h
    obtain ⟨v1, v2, v3, rfl⟩ : ∃ v1 v2 v3, us = [v1, v2, v3] := by
      match us, hl with
      | [v1, v2, v3], _ => exact ⟨v1, v2, v3, rfl⟩
    refine ⟨_, pss_cons (ps_fld (pv 0) (pv 1) rfl) (pss_cons (ps_fld (pv 0) (pv 2) rfl) (pss_one (ps_fld (pv 0) (pv 3) rfl))), ?_⟩
    refine sfld_go (C := Z.cc .trust) (fs := []) C.cf_Trust.cl (C.cf_Trust.na _ (by decide +kernel)) hx (show ("one" : PySem.Str) ∉ ([] : List PySem.Str) by decide +kernel) (show 0 < 1000 by decide) rfl rfl ?_
    refine sfld_go (C := Z.cc .trust) (fs := [("one", v1)]) C.cf_Trust.cl (C.cf_Trust.na _ (by decide +kernel)) upd_same (show ("other" : PySem.Str) ∉ (["one"] : List PySem.Str) by decide +kernel) (show 1 < 1000 by decide) rfl rfl ?_
    refine sfld_go (C := Z.cc .trust) (fs := [("one", v1), ("other", v2)]) C.cf_Trust.cl (C.cf_Trust.na _ (by decide +kernel)) upd_same (show ("line" : PySem.Str) ∉ (["one", "other"] : List PySem.Str) by decide +kernel) (show 2 < 1000 by decide) rfl rfl ?_
    rw [upd_upd, upd_upd]
    exact k
abbrev s_Turn_init : Stmt := inClass (topS 24) 0
theorem sc_Turn_init : FnScope ["self", "ring", "amount"] ["self", "ring", "amount"] (defScope s_Turn_init) := ⟨rfl, rfl, rfl, by decide +kernel, rfl, by decide +kernel, by decide +kernel⟩
theorem ok_Turn_init {f : Addr} {fd : FuncData} (C : Cxx mg Z) (F : Fun Z.K "__init__" "Turn.__init__" s_Turn_init f fd) : FnOk P w Z.K mg base CX0 1 f fd ["self", "ring", "amount"] (spIT Z) := by
  refine F.ok sc_Turn_init (fun vs H Q E h => ?_) (fun cdv A outer s H vs Q E hr h => ?_)
  · obtain ⟨x, dx, r, a, ys, rfl, _⟩ := h
    rfl
  · obtain ⟨x, dx, r, a, ys, rfl, hs, hx, k⟩ := h
    refine ⟨_, pss_cons (ps_fld (pv 0) (pe_callTy call_lis rfl C.b_list (by decide +kernel) (pa_cons (pv 1) pa_nil)) rfl) (pss_one (ps_fld (pv 0) (pv 2) rfl)), ?_⟩
    refine ⟨_, rfl, r, ys, rfl, hs, fun p hp => ?_⟩
    have px : p ≠ x := fun z => by rw [z, hx] at hp; cases hp
    refine ⟨_, rfl, x, Z.cc .turn, dx, [], rfl, by rw [upd_ne (Ne.symm px)]; exact hx, C.cf_Turn.cl, C.cf_Turn.na _ (by decide +kernel), by decide, ?_⟩
    refine sfld_go (C := Z.cc .turn) (fs := [("ring", .ref p)]) C.cf_Turn.cl (C.cf_Turn.na _ (by decide +kernel)) upd_same (show ("amount" : PySem.Str) ∉ (["ring"] : List PySem.Str) by decide +kernel) (show 1 < 1000 by decide) rfl rfl ?_
    rw [upd_upd]
    exact k p hp
abbrev s_deed_of : Stmt := topS 31
theorem sc_deed_of : FnScope ["words"] ["words"] (defScope s_deed_of) := ⟨rfl, rfl, rfl, by decide +kernel, rfl, by decide +kernel, by decide +kernel⟩
theorem ok_deed_of {f : Addr} {fd : FuncData} (C : Cxx mg Z) (F : Fun Z.K "deed_of" "deed_of" s_deed_of f fd) (F_is_name : Fn P w Z.K mg base "is_name" 1 ["thing"] [] (spM Z (ar1 m_is_name))) (I_Join : MkF P w Z.K mg base "Join" 1 (Z.cc .join) (spI Z .join)) (I_Leave : MkF P w Z.K mg base "Leave" 1 (Z.cc .leave) (spI Z .leave)) (F_two_unlike : Fn P w Z.K mg base "two_unlike" 2 ["words"] [] (spM Z (ar1 m_two_unlike))) (F_is_line : Fn P w Z.K mg base "is_line" 1 ["thing"] [] (spM Z (ar1 m_is_line))) (F_number_of : Fn P w Z.K mg base "number_of" 1 ["word"] [] (spM Z (ar1 m_number_of))) (I_Trust : MkF P w Z.K mg base "Trust" 1 (Z.cc .trust) (spI Z .trust)) (F_is_amount : Fn P w Z.K mg base "is_amount" 1 ["thing"] [] (spM Z (ar1 m_is_amount))) (I_Pay : MkF P w Z.K mg base "Pay" 1 (Z.cc .pay) (spI Z .pay)) (F_all_names : Fn P w Z.K mg base "all_names" 2 ["words"] [] (spM Z (ar1 m_all_names))) (I_Turn : MkF P w Z.K mg base "Turn" 1 (Z.cc .turn) (spIT Z)) : FnOk P w Z.K mg base (L2.CX P w) 3 f fd ["words"] (spM Z (ar1 m_deed_of)) := by
  refine fn_ok (k := 2) F sc_deed_of (fun ds hd => by obtain ⟨words1, rfl⟩ := ar1_inv hd; rfl) (fun cdv A outer s H E hr tk po ds hd => ?_)
  obtain ⟨words1, rfl⟩ := ar1_inv hd
  have lt := lets_of tk
  have hu64 := hr.units
  have hu1 := hu_of hr
  refine ⟨_, (pss_cons (ps_if (PW.pt (pw_and (pt_cmpR (op_eq3K (K := Z.K) rfl hu64) (pe_or2 (pe_ix (ix_seqK (K := Z.K) rfl) (pv 0) pe_int (fun _ _ => rfl)) (pe_dget hu1 (pv 0) pe_int (fun _ _ => rfl))) pe_str (nomark _)) (pw_and (pt_cmpR (op_eq3K (K := Z.K) rfl hu64) (pe_callB call_len3 rfl C.b_len (by decide +kernel) (pa_cons (pv 0) pa_nil)) pe_int (nomark _)) (pw_and1 (pt_val (pe_fn F_is_name (hr.mono (by decide)) lt rfl (pa_cons (pe_or2 (pe_ix (ix_seqK (K := Z.K) rfl) (pv 0) pe_int (fun _ _ => rfl)) (pe_dget hu1 (pv 0) pe_int (fun _ _ => rfl))) pa_nil)))))))
  (pss_cons (ps_ret (pe_mkF I_Join (hr.mono (by decide)) rfl (pa_cons (pe_or2 (pe_ix (ix_seqK (K := Z.K) rfl) (pv 0) pe_int (fun _ _ => rfl)) (pe_dget hu1 (pv 0) pe_int (fun _ _ => rfl))) pa_nil))) pss_nil)
  pss_nil)
  (pss_cons (ps_if (PW.pt (pw_and (pt_cmpR (op_eq3K (K := Z.K) rfl hu64) (pe_or2 (pe_ix (ix_seqK (K := Z.K) rfl) (pv 0) pe_int (fun _ _ => rfl)) (pe_dget hu1 (pv 0) pe_int (fun _ _ => rfl))) pe_str (nomark _)) (pw_and (pt_cmpR (op_eq3K (K := Z.K) rfl hu64) (pe_callB call_len3 rfl C.b_len (by decide +kernel) (pa_cons (pv 0) pa_nil)) pe_int (nomark _)) (pw_and1 (pt_val (pe_fn F_is_name (hr.mono (by decide)) lt rfl (pa_cons (pe_or2 (pe_ix (ix_seqK (K := Z.K) rfl) (pv 0) pe_int (fun _ _ => rfl)) (pe_dget hu1 (pv 0) pe_int (fun _ _ => rfl))) pa_nil)))))))
  (pss_cons (ps_ret (pe_mkF I_Leave (hr.mono (by decide)) rfl (pa_cons (pe_or2 (pe_ix (ix_seqK (K := Z.K) rfl) (pv 0) pe_int (fun _ _ => rfl)) (pe_dget hu1 (pv 0) pe_int (fun _ _ => rfl))) pa_nil))) pss_nil)
  pss_nil)
  (pss_cons (ps_if (PW.pt (pw_and (pt_cmpR (op_eq3K (K := Z.K) rfl hu64) (pe_or2 (pe_ix (ix_seqK (K := Z.K) rfl) (pv 0) pe_int (fun _ _ => rfl)) (pe_dget hu1 (pv 0) pe_int (fun _ _ => rfl))) pe_str (nomark _)) (pw_and (pt_cmpR (op_eq3K (K := Z.K) rfl hu64) (pe_callB call_len3 rfl C.b_len (by decide +kernel) (pa_cons (pv 0) pa_nil)) pe_int (nomark _)) (pw_and (pt_val (pe_fn F_two_unlike (hr.mono (by decide)) lt rfl (pa_cons (pe_slice sl2 (pv 0) (po_some pe_int) (po_some pe_int)) pa_nil))) (pw_and1 (pt_val (pe_fn F_is_line (hr.mono (by decide)) lt rfl (pa_cons (pe_fn F_number_of (hr.mono (by decide)) lt rfl (pa_cons (pe_or2 (pe_ix (ix_seqK (K := Z.K) rfl) (pv 0) pe_int (fun _ _ => rfl)) (pe_dget hu1 (pv 0) pe_int (fun _ _ => rfl))) pa_nil)) pa_nil))))))))
  (pss_cons (ps_ret (pe_mkF I_Trust (hr.mono (by decide)) rfl (pa_cons (pe_or2 (pe_ix (ix_seqK (K := Z.K) rfl) (pv 0) pe_int (fun _ _ => rfl)) (pe_dget hu1 (pv 0) pe_int (fun _ _ => rfl))) (pa_cons (pe_or2 (pe_ix (ix_seqK (K := Z.K) rfl) (pv 0) pe_int (fun _ _ => rfl)) (pe_dget hu1 (pv 0) pe_int (fun _ _ => rfl))) (pa_cons (pe_fn F_number_of (hr.mono (by decide)) lt rfl (pa_cons (pe_or2 (pe_ix (ix_seqK (K := Z.K) rfl) (pv 0) pe_int (fun _ _ => rfl)) (pe_dget hu1 (pv 0) pe_int (fun _ _ => rfl))) pa_nil)) pa_nil))))) pss_nil)
  pss_nil)
  (pss_cons (ps_if (PW.pt (pw_and (pt_cmpR (op_eq3K (K := Z.K) rfl hu64) (pe_or2 (pe_ix (ix_seqK (K := Z.K) rfl) (pv 0) pe_int (fun _ _ => rfl)) (pe_dget hu1 (pv 0) pe_int (fun _ _ => rfl))) pe_str (nomark _)) (pw_and (pt_cmpR (op_eq3K (K := Z.K) rfl hu64) (pe_callB call_len3 rfl C.b_len (by decide +kernel) (pa_cons (pv 0) pa_nil)) pe_int (nomark _)) (pw_and (pt_val (pe_fn F_two_unlike (hr.mono (by decide)) lt rfl (pa_cons (pe_slice sl2 (pv 0) (po_some pe_int) (po_some pe_int)) pa_nil))) (pw_and1 (pt_val (pe_fn F_is_amount (hr.mono (by decide)) lt rfl (pa_cons (pe_fn F_number_of (hr.mono (by decide)) lt rfl (pa_cons (pe_or2 (pe_ix (ix_seqK (K := Z.K) rfl) (pv 0) pe_int (fun _ _ => rfl)) (pe_dget hu1 (pv 0) pe_int (fun _ _ => rfl))) pa_nil)) pa_nil))))))))
  (pss_cons (ps_ret (pe_mkF I_Pay (hr.mono (by decide)) rfl (pa_cons (pe_or2 (pe_ix (ix_seqK (K := Z.K) rfl) (pv 0) pe_int (fun _ _ => rfl)) (pe_dget hu1 (pv 0) pe_int (fun _ _ => rfl))) (pa_cons (pe_or2 (pe_ix (ix_seqK (K := Z.K) rfl) (pv 0) pe_int (fun _ _ => rfl)) (pe_dget hu1 (pv 0) pe_int (fun _ _ => rfl))) (pa_cons (pe_fn F_number_of (hr.mono (by decide)) lt rfl (pa_cons (pe_or2 (pe_ix (ix_seqK (K := Z.K) rfl) (pv 0) pe_int (fun _ _ => rfl)) (pe_dget hu1 (pv 0) pe_int (fun _ _ => rfl))) pa_nil)) pa_nil))))) pss_nil)
  pss_nil)
  (pss_cons (ps_if (PW.pt (pw_and (pt_cmpR (op_eq3K (K := Z.K) rfl hu64) (pe_or2 (pe_ix (ix_seqK (K := Z.K) rfl) (pv 0) pe_int (fun _ _ => rfl)) (pe_dget hu1 (pv 0) pe_int (fun _ _ => rfl))) pe_str (nomark _)) (pw_and (pt_chain op_le op_le pe_int (pe_callB call_len3 rfl C.b_len (by decide +kernel) (pa_cons (pv 0) pa_nil)) pe_int) (pw_and (pt_val (pe_fn F_is_amount (hr.mono (by decide)) lt rfl (pa_cons (pe_fn F_number_of (hr.mono (by decide)) lt rfl (pa_cons (pe_or2 (pe_ix (ix_seqK (K := Z.K) rfl) (pv 0) pe_int (fun _ _ => rfl)) (pe_dget hu1 (pv 0) pe_int (fun _ _ => rfl))) pa_nil)) pa_nil))) (pw_and1 (pt_val (pe_fn F_all_names (hr.mono (by decide)) lt rfl (pa_cons (pe_slice sl2 (pv 0) (po_some pe_int) po_none) pa_nil))))))))
  (pss_cons (ps_ret (pe_mkF I_Turn (hr.mono (by decide)) rfl (pa_cons (pe_slice sl2 (pv 0) (po_some pe_int) po_none) (pa_cons (pe_fn F_number_of (hr.mono (by decide)) lt rfl (pa_cons (pe_or2 (pe_ix (ix_seqK (K := Z.K) rfl) (pv 0) pe_int (fun _ _ => rfl)) (pe_dget hu1 (pv 0) pe_int (fun _ _ => rfl))) pa_nil)) pa_nil)))) pss_nil)
  pss_nil)
  (pss_cons (ps_ret pe_non) pss_nil)))))), ?_⟩
  exact ((ss_seq (env1 := fun s1 : Unit => [some (.sh words1)]) (xs_if (xt_and (xt_test (xe_op od_eq3 (xe_ix (ee_var (i := 0) rfl) ee_int) ee_str)) (xt_and (xt_test (xe_op od_eq3 (ee_cb cd_len3 (xa_cons (ee_var (i := 0) rfl) ea_nil)) ee_int)) (xt_B (xe_fn (xa_cons (xe_ix (ee_var (i := 0) rfl) ee_int) ea_nil)))))
  (xs_ret (xe_make (xa_cons (xe_ix (ee_var (i := 0) rfl) ee_int) ea_nil)))
  (ss_nil (SubL.s SubL.n))) fun s1 =>
  (ss_seq (env1 := fun s2 : Unit => [some (.sh words1)]) (xs_if (xt_and (xt_test (xe_op od_eq3 (xe_ix (ee_var (i := 0) rfl) ee_int) ee_str)) (xt_and (xt_test (xe_op od_eq3 (ee_cb cd_len3 (xa_cons (ee_var (i := 0) rfl) ea_nil)) ee_int)) (xt_B (xe_fn (xa_cons (xe_ix (ee_var (i := 0) rfl) ee_int) ea_nil)))))
  (xs_ret (xe_make (xa_cons (xe_ix (ee_var (i := 0) rfl) ee_int) ea_nil)))
  (ss_nil (SubL.s SubL.n))) fun s2 =>
  (ss_seq (env1 := fun s3 : Unit => [some (.sh words1)]) (xs_if (xt_and (xt_test (xe_op od_eq3 (xe_ix (ee_var (i := 0) rfl) ee_int) ee_str)) (xt_and (xt_test (xe_op od_eq3 (ee_cb cd_len3 (xa_cons (ee_var (i := 0) rfl) ea_nil)) ee_int)) (xt_and (xt_B (xe_fn (xa_cons (xe_cut (ee_var (i := 0) rfl) (eo_some ee_int) (eo_some ee_int)) ea_nil))) (xt_B (xe_fn (xa_cons (xe_fn (xa_cons (xe_ix (ee_var (i := 0) rfl) ee_int) ea_nil)) ea_nil))))))
  (xs_ret (xe_make (xa_cons (xe_ix (ee_var (i := 0) rfl) ee_int) (xa_cons (xe_ix (ee_var (i := 0) rfl) ee_int) (xa_cons (xe_fn (xa_cons (xe_ix (ee_var (i := 0) rfl) ee_int) ea_nil)) ea_nil)))))
  (ss_nil (SubL.s SubL.n))) fun s3 =>
  (ss_seq (env1 := fun s4 : Unit => [some (.sh words1)]) (xs_if (xt_and (xt_test (xe_op od_eq3 (xe_ix (ee_var (i := 0) rfl) ee_int) ee_str)) (xt_and (xt_test (xe_op od_eq3 (ee_cb cd_len3 (xa_cons (ee_var (i := 0) rfl) ea_nil)) ee_int)) (xt_and (xt_B (xe_fn (xa_cons (xe_cut (ee_var (i := 0) rfl) (eo_some ee_int) (eo_some ee_int)) ea_nil))) (xt_B (xe_fn (xa_cons (xe_fn (xa_cons (xe_ix (ee_var (i := 0) rfl) ee_int) ea_nil)) ea_nil))))))
  (xs_ret (xe_make (xa_cons (xe_ix (ee_var (i := 0) rfl) ee_int) (xa_cons (xe_ix (ee_var (i := 0) rfl) ee_int) (xa_cons (xe_fn (xa_cons (xe_ix (ee_var (i := 0) rfl) ee_int) ea_nil)) ea_nil)))))
  (ss_nil (SubL.s SubL.n))) fun s4 =>
  (ss_seq (env1 := fun s5 : Unit => [none]) (xs_if (xt_and (xt_test (xe_op od_eq3 (xe_ix (ee_var (i := 0) rfl) ee_int) ee_str)) (xt_and (xt_test (xe_chain od_le od_le ee_int (ee_cb cd_len3 (xa_cons (ee_var (i := 0) rfl) ea_nil)) ee_int)) (xt_and (xt_B (xe_fn (xa_cons (xe_fn (xa_cons (xe_ix (ee_var (i := 0) rfl) ee_int) ea_nil)) ea_nil))) (xt_B (xe_fn (xa_cons (xe_cut (ee_var (i := 0) rfl) (eo_some ee_int) eo_none) ea_nil))))))
  (xs_ret (xe_makeT (xa_cons (xe_cut (ee_var (i := 0) rfl) (eo_some ee_int) eo_none) (xa_cons (xe_fn (xa_cons (xe_ix (ee_var (i := 0) rfl) ee_int) ea_nil)) ea_nil))))
  (ss_nil (SubL.d SubL.n))) fun s5 =>
  (xs_ret ee_non)))))) :
    SS Z (wE E) _ [some (.sh words1)] (m_deed_of words1) (fun _ => fil 1))
abbrev s_read : Stmt := topS 32
theorem sc_read : FnScope ["row", "deed"] ["row"] (defScope s_read) := ⟨rfl, rfl, rfl, by decide +kernel, rfl, by decide +kernel, by decide +kernel⟩
theorem ok_read {f : Addr} {fd : FuncData} (C : Cxx mg Z) (F : Fun Z.K "read" "read" s_read f fd) (F_deed_of : Fn P w Z.K mg base "deed_of" 3 ["words"] [] (spM Z (ar1 m_deed_of))) : FnOk P w Z.K mg base (L2.CX P w) 4 f fd ["row"] (spM Z (ar1 m_read)) := by
  refine fn_ok (k := 3) F sc_read (fun ds hd => by obtain ⟨row1, rfl⟩ := ar1_inv hd; rfl) (fun cdv A outer s H E hr tk po ds hd => ?_)
  obtain ⟨row1, rfl⟩ := ar1_inv hd
  have lt := lets_of tk
  have hu64 := hr.units
  have hu1 := hu_of hr
  refine ⟨_, (pss_cons (ps_if (pt_not (pt_val (pe_callB call_isY rfl C.b_isinstance (by decide +kernel) (pa_cons (pv 0) (pa_cons (pe_bltn (v := .ty "str") (u := .type "str") rfl C.b_str (by decide +kernel) rfl) pa_nil)))))
  (pss_cons (ps_rz rfl tk C.x_NoRow rfl) pss_nil)
  pss_nil)
  (pss_cons (ps_set (i := 1) sc_read.nd rfl (Or.inl rfl) (pe_fn F_deed_of (hr.mono (by decide)) lt rfl (pa_cons (pe_bm PySem.F.plainAttrs_str PySem.F.slot_str_split PySem.F.type_str_split mt_spl (pv 0) (pa_cons pe_str pa_nil)) pa_nil)))
  (pss_cons (ps_if (pt_cmp (pc_isN (pv 1)))
  (pss_cons (ps_rz rfl tk C.x_NoRow rfl) pss_nil)
  pss_nil)
  (pss_cons (ps_ret (pv 1)) pss_nil)))), ?_⟩
  exact ((ss_seq (env1 := fun s1 : Unit => [some (.sh row1), none]) (xs_if (xt_not (xt_B (ee_is (n := .str) (ee_var (i := 0) rfl))))
  xs_raise
  (ss_nil (SubL.s (SubL.s SubL.n)))) fun s1 =>
  (xs_asg (i := 1) (xe_fn (xa_cons (xe_efl (xl_split (ee_var (i := 0) rfl) (xa_cons ee_str ea_nil))) ea_nil)) fun deed1 =>
  (ss_seq (env1 := fun s2 : Unit => [none, some (.sh deed1)]) (xs_if (xt_B (xe_isN (ee_var (i := 1) rfl)))
  xs_raise
  (ss_nil (SubL.d (SubL.s SubL.n)))) fun s2 =>
  (xs_ret (ee_var (i := 1) rfl))))) :
    SS Z (wE E) _ [some (.sh row1), none] (m_read row1) (fun _ => fil 2))
abbrev s_law_told : Stmt := topS 46
theorem sc_law_told : FnScope ["row", "found", "kinds", "e"] ["row"] (defScope s_law_told) := ⟨rfl, rfl, rfl, by decide +kernel, rfl, by decide +kernel, by decide +kernel⟩
theorem ok_law_told {f : Addr} {fd : FuncData} (C : Cxx mg Z) (F : Fun Z.K "_law_told" "_law_told" s_law_told f fd) (F_read : Fn P w Z.K mg base "read" 4 ["row"] [] (spM Z (ar1 m_read))) : FnOk P w Z.K mg base (L2.CX P w) 5 f fd ["row"] (spM Z (ar1 m_law_told)) := by
  refine fn_ok (k := 4) F sc_law_told (fun ds hd => by obtain ⟨row1, rfl⟩ := ar1_inv hd; rfl) (fun cdv A outer s H E hr tk po ds hd => ?_)
  obtain ⟨row1, rfl⟩ := ar1_inv hd
  have lt := lets_of tk
  have hu64 := hr.units
  have hu1 := hu_of hr
  obtain ⟨cway, gway, hway⟩ := C.way
  refine ⟨_, (pss_cons (ps_set (i := 1) sc_law_told.nd rfl (Or.inl rfl) pe_non)
  (pss_cons (ps_set (i := 2) sc_law_told.nd rfl (Or.inl rfl) pe_non)
  (pss_cons (ps_tryN (i := 3) rfl rfl sc_law_told.nd rfl rfl ⟨rfl, by decide, .inl gway⟩ tk (fun W pn xe tk2 _ => have lt2 := lets_of tk2; (pss_cons (ps_set (i := 1) sc_law_told.nd rfl (Or.inl rfl) (pe_fn F_read (hr.mono (by decide)) lt2 rfl (pa_cons (pv 0) pa_nil)))
  pss_nil)) (fun a oe cls d pn hz hf => (pss_cons (ps_set (i := 2) sc_law_told.nd rfl (Or.inl rfl) (pe_lst (pa_cons (pe_callB (call_isEx hz hf) rfl C.b_isinstance (by decide +kernel) (pa_cons (pv 3) (pa_cons (pe_glob (v := .ref (Z.ce .noRow)) rfl C.gx_NoRow rfl) pa_nil))) (pa_cons (pe_callB (call_isEx hz hf) rfl C.b_isinstance (by decide +kernel) (pa_cons (pv 3) (pa_cons (pe_bltn (v := .ty "ValueError") (u := .type "ValueError") rfl C.b_ValueError (by decide +kernel) rfl) pa_nil))) (pa_cons (pe_callB (call_isExT hz hf) rfl C.b_isinstance (by decide +kernel) (pa_cons (pv 3) (pa_cons (pe_tup (pa_cons (pe_glob (v := .ref (Z.ce .noAmount)) rfl C.gx_NoAmount rfl) (pa_cons (pe_glob (v := .ref (Z.ce .noChain)) rfl C.gx_NoChain rfl) (pa_cons (pe_glob (v := .ref (Z.ce .noHouse)) rfl C.gx_NoHouse rfl) pa_nil)))) pa_nil))) (pa_cons (pe_callB (call_isExT hz hf) rfl C.b_isinstance (by decide +kernel) (pa_cons (pv 3) (pa_cons (pe_tup (pa_cons (pe_glob (v := .ref (Z.ce .noRoom)) rfl C.gx_NoRoom rfl) (pa_cons (pe_glob (v := .ref (Z.ce .noWish)) rfl C.gx_NoWish rfl) (pa_cons (pe_glob (v := .ref (Z.ce .stillOwes)) rfl C.gx_StillOwes rfl) (pa_cons (pe_glob (v := .ref (Z.ce .tooLow)) rfl C.gx_TooLow rfl) (pa_cons (pe_glob (v := .ref (Z.ce .tooMany)) rfl C.gx_TooMany rfl) (pa_cons (pe_glob (v := .ref (Z.ce .tooMuch)) rfl C.gx_TooMuch rfl) (pa_cons (pe_glob (v := .ref (Z.ce .twice)) rfl C.gx_Twice rfl) pa_nil)))))))) pa_nil))) pa_nil))))))
  pss_nil)))
  (pss_cons (ps_ret (pe_tup (pa_cons (pv 1) (pa_cons (pv 2) pa_nil)))) pss_nil)))), ?_⟩
  change SS Z (wE E) _ [some (.sh row1), none, none, none] (m_law_told row1) (fun _ => fil 4)
  exact (xs_asg (i := 1) ee_non fun found1 =>
  (xs_asg (i := 2) ee_non fun kinds1 =>
  (ss_seq (env1 := (fun s1 : D × D => [none, some (.sh s1.1), some (.sh s1.2), none])) (xs_try (mh := fun _ =>
  (X.to (X.bind (X.cons (.ok (.bl true)) (X.cons (.ok (.bl true)) (X.cons (.ok (.bl false)) (X.cons (.ok (.bl false)) (.ok []))))) dLst) fun kinds2 =>
  (.ok (found1, kinds2)))) (env := (fun s1 : D × D => [none, some (.sh s1.1), some (.sh s1.2), none])) (τx := [none, some (.sh found1), none, none]) (fun c hc => by rw [List.mem_singleton.mp hc]; exact hway) (fun W => (xs_asg (hx := (SubL.d (SubL.s (SubL.d (SubL.s SubL.n))))) (i := 1) (xe_fn (xa_cons (ee_var (i := 0) rfl) ea_nil)) fun found2 =>
  (ss_nil (SubL.d (SubL.s (SubL.s (SubL.s SubL.n))))))) (fun c a hc => by cases List.mem_singleton.mp hc; exact (xs_asg (i := 2) (ee_lst (xa_cons (xe_isEx (i := 3) C.ec_NoRow rfl (.own (Z.ce .noRow)) C.xk_NoRow) (xa_cons (xe_isEx (i := 3) C.ec_NoRow rfl (.ty "ValueError") C.xk_ValueError) (xa_cons (xe_isExT (i := 3) C.ec_NoRow rfl (fun _ _ _ h => h) (.cons (.own (Z.ce .noAmount)) (.cons (.own (Z.ce .noChain)) (.cons (.own (Z.ce .noHouse)) .nil))) (show 3 ≤ 100 by decide) C.xk_NoAmount_NoChain_NoHouse) (xa_cons (xe_isExT (i := 3) C.ec_NoRow rfl (fun _ _ _ h => h) (.cons (.own (Z.ce .noRoom)) (.cons (.own (Z.ce .noWish)) (.cons (.own (Z.ce .stillOwes)) (.cons (.own (Z.ce .tooLow)) (.cons (.own (Z.ce .tooMany)) (.cons (.own (Z.ce .tooMuch)) (.cons (.own (Z.ce .twice)) .nil))))))) (show 7 ≤ 100 by decide) C.xk_NoRoom_NoWish_StillOwes_TooLow_TooMany_TooMuch_Twice) ea_nil))))) fun kinds2 =>
  (ss_nil (SubL.s (SubL.s (SubL.s (SubL.d SubL.n))))))) (fun s1 => rfl)) fun s1 =>
  (xs_ret (ee_tup (xa_cons (ee_var (i := 1) rfl) (xa_cons (ee_var (i := 2) rfl) ea_nil)))))))
abbrev s_law_word : Stmt := topS 40
theorem sc_law_word : FnScope ["word", "sign"] ["word"] (defScope s_law_word) := ⟨rfl, rfl, rfl, by decide +kernel, rfl, by decide +kernel, by decide +kernel⟩
theorem ok_law_word {f : Addr} {fd : FuncData} (C : Cxx mg Z) (F : Fun Z.K "_law_word" "_law_word" s_law_word f fd) : FnOk P w Z.K mg base (L2.CX P w) 1 f fd ["word"] (spM Z (ar1 m_law_word)) := by
  refine fn_ok (k := 0) F sc_law_word (fun ds hd => by obtain ⟨word1, rfl⟩ := ar1_inv hd; rfl) (fun cdv A outer s H E hr tk po ds hd => ?_)
  obtain ⟨word1, rfl⟩ := ar1_inv hd
  have lt := lets_of tk
  have hu64 := hr.units
  have hu1 := hu_of hr
  refine ⟨_, (pss_cons (ps_for po rfl (pi_str (pv 0)) (pg_name (i := 1) sc_law_word.nd rfl (Or.inl rfl))
  (pss_cons (ps_if (pt_or2 (pt_cmpR op_nin2 (pv 1) pe_str (by rfl)) (pt_cmp (pc_dnotin hu1 (pv 1) pe_str) (by rfl)))
  (pss_cons (ps_ret pe_bl) pss_nil)
  pss_nil) pss_nil))
  (pss_cons (ps_ret (pe_and (pe_cmpR op_ge (pe_callB call_len3 rfl C.b_len (by decide +kernel) (pa_cons (pv 0) pa_nil)) pe_int (nomark _)) (pe_one (pe_cmpR op_le (pe_callB call_len3 rfl C.b_len (by decide +kernel) (pa_cons (pv 0) pa_nil)) pe_int (nomark _))))) pss_nil)), ?_⟩
  exact ((ss_seq (env1 := fun s1 : Unit => [some (.sh word1), none]) (xs_for (ei_str (ee_var (i := 0) rfl)) (SubL.s (SubL.s SubL.n)) (gj_name (i := 1)) fun s1 sign1 =>
  (xs_ifT (xe_or2 (xe_nin (ee_var (i := 1) rfl) ee_str))
  (xs_ret ee_bl)
  (ss_nil (SubL.s (SubL.d SubL.n))))) fun s1 =>
  (xs_ret (xe_andV (xe_op od_ge (ee_cb cd_len3 (xa_cons (ee_var (i := 0) rfl) ea_nil)) ee_int) (xe_op od_le (ee_cb cd_len3 (xa_cons (ee_var (i := 0) rfl) ea_nil)) ee_int)))) :
    SS Z (wE E) _ [some (.sh word1), none] (m_law_word word1) (fun _ => fil 2))
abbrev s_law_houses : Stmt := topS 42
theorem sc_law_houses : FnScope ["words", "fewest", "many", "k"] ["words", "fewest", "many"] (defScope s_law_houses) := ⟨rfl, rfl, rfl, by decide +kernel, rfl, by decide +kernel, by decide +kernel⟩
theorem ok_law_houses {f : Addr} {fd : FuncData} (C : Cxx mg Z) (F : Fun Z.K "_law_houses" "_law_houses" s_law_houses f fd) (F_law_word : Fn P w Z.K mg base "_law_word" 1 ["word"] [] (spM Z (ar1 m_law_word))) : FnOk P w Z.K mg base (L2.CX P w) 2 f fd ["words", "fewest", "many"] (spM Z (ar3 m_law_houses)) := by
  refine fn_ok (k := 1) F sc_law_houses (fun ds hd => by obtain ⟨words1, fewest1, many1, rfl⟩ := ar3_inv hd; rfl) (fun cdv A outer s H E hr tk po ds hd => ?_)
  obtain ⟨words1, fewest1, many1, rfl⟩ := ar3_inv hd
  have lt := lets_of tk
  have hu64 := hr.units
  have hu1 := hu_of hr
  refine ⟨_, (pss_cons (ps_if (PW.pt (pw_or (pt_cmpR op_lt3 (pe_callB call_len3 rfl C.b_len (by decide +kernel) (pa_cons (pv 0) pa_nil)) (pv 1) (nomark _)) (pw_or1 (pt_cmpR op_gt (pe_callB call_len3 rfl C.b_len (by decide +kernel) (pa_cons (pv 0) pa_nil)) (pv 2) (nomark _)))))
  (pss_cons (ps_ret pe_bl) pss_nil)
  pss_nil)
  (pss_cons (ps_for po rfl (pi_range1 rfl C.b_range (pa_cons (pe_callB call_len3 rfl C.b_len (by decide +kernel) (pa_cons (pv 0) pa_nil)) pa_nil)) (pg_name (i := 3) sc_law_houses.nd rfl (Or.inl rfl))
  (pss_cons (ps_if (PW.pt (pw_or (pt_not (pt_val (pe_fn F_law_word (hr.mono (by decide)) lt rfl (pa_cons (pe_or2 (pe_ix (ix_seqK (K := Z.K) rfl) (pv 0) (pv 3) (fun _ _ => rfl)) (pe_dget hu1 (pv 0) (pv 3) (fun _ _ => rfl))) pa_nil)))) (pw_or1 (pt_or2 (pt_cmpR op_in2 (pe_or2 (pe_ix (ix_seqK (K := Z.K) rfl) (pv 0) (pv 3) (fun _ _ => rfl)) (pe_dget hu1 (pv 0) (pv 3) (fun _ _ => rfl))) (pe_slice sl2 (pv 0) po_none (po_some (pv 3))) (by rfl)) (pt_cmp (pc_din hu1 (pe_or2 (pe_ix (ix_seqK (K := Z.K) rfl) (pv 0) (pv 3) (fun _ _ => rfl)) (pe_dget hu1 (pv 0) (pv 3) (fun _ _ => rfl))) (pe_slice sl2 (pv 0) po_none (po_some (pv 3)))) (by rfl))))))
  (pss_cons (ps_ret pe_bl) pss_nil)
  pss_nil) pss_nil))
  (pss_cons (ps_ret pe_bl) pss_nil))), ?_⟩
  exact ((ss_seq (env1 := fun s1 : Unit => [some (.sh words1), none, none, none]) (xs_if (xt_or (xt_test (xe_op od_lt3 (ee_cb cd_len3 (xa_cons (ee_var (i := 0) rfl) ea_nil)) (ee_var (i := 1) rfl))) (xt_test (xe_op od_gt (ee_cb cd_len3 (xa_cons (ee_var (i := 0) rfl) ea_nil)) (ee_var (i := 2) rfl))))
  (xs_ret ee_bl)
  (ss_nil (SubL.s (SubL.d (SubL.d (SubL.s SubL.n)))))) fun s1 =>
  (ss_seq (env1 := fun s2 : Unit => [some (.sh words1), none, none, none]) (xs_for (ei_rng1 (xa_cons (ee_cb cd_len3 (xa_cons (ee_var (i := 0) rfl) ea_nil)) ea_nil)) (SubL.s (SubL.s (SubL.s (SubL.s SubL.n)))) (gj_name (i := 3)) fun s2 k1 =>
  (xs_ifT (xt_or (xt_not (xt_B (xe_fn (xa_cons (xe_ix (ee_var (i := 0) rfl) (ee_var (i := 3) rfl)) ea_nil)))) (xe_or2 (xe_in (xe_ix (ee_var (i := 0) rfl) (ee_var (i := 3) rfl)) (xe_cut (ee_var (i := 0) rfl) eo_none (eo_some (ee_var (i := 3) rfl))))))
  (xs_ret ee_bl)
  (ss_nil (SubL.s (SubL.s (SubL.s (SubL.d SubL.n))))))) fun s2 =>
  (xs_ret ee_bl))) :
    SS Z (wE E) _ [some (.sh words1), some (.sh fewest1), some (.sh many1), none] (m_law_houses words1 fewest1 many1) (fun _ => fil 4))
abbrev s_law_figures : Stmt := topS 41
theorem sc_law_figures : FnScope ["word", "bottom", "top", "sign"] ["word", "bottom", "top"] (defScope s_law_figures) := ⟨rfl, rfl, rfl, by decide +kernel, rfl, by decide +kernel, by decide +kernel⟩
theorem ok_law_figures {f : Addr} {fd : FuncData} (C : Cxx mg Z) (F : Fun Z.K "_law_figures" "_law_figures" s_law_figures f fd) : FnOk P w Z.K mg base (L2.CX P w) 1 f fd ["word", "bottom", "top"] (spM Z (ar3 m_law_figures)) := by
  refine fn_ok (k := 0) F sc_law_figures (fun ds hd => by obtain ⟨word1, bottom1, top1, rfl⟩ := ar3_inv hd; rfl) (fun cdv A outer s H E hr tk po ds hd => ?_)
  obtain ⟨word1, bottom1, top1, rfl⟩ := ar3_inv hd
  have lt := lets_of tk
  have hu64 := hr.units
  have hu1 := hu_of hr
  refine ⟨_, (pss_cons (ps_if (PW.pt (pw_or (pt_cmpR (op_eq3K (K := Z.K) rfl hu64) (pv 0) pe_str (nomark _)) (pw_or (pt_cmpR op_gt (pe_callB call_len3 rfl C.b_len (by decide +kernel) (pa_cons (pv 0) pa_nil)) (pv 2) (nomark _)) (pw_or1 (pt_cmpR (op_eq3K (K := Z.K) rfl hu64) (pv 0) pe_str (nomark _))))))
  (pss_cons (ps_ret (pe_and (pe_cmpR (op_eq3K (K := Z.K) rfl hu64) (pv 0) pe_str (nomark _)) (pe_one (pe_cmpR (op_eq3K (K := Z.K) rfl hu64) (pv 1) pe_int (nomark _))))) pss_nil)
  pss_nil)
  (pss_cons (ps_for po rfl (pi_str (pv 0)) (pg_name (i := 3) sc_law_figures.nd rfl (Or.inl rfl))
  (pss_cons (ps_if (pt_or2 (pt_cmpR op_nin2 (pv 3) pe_str (by rfl)) (pt_cmp (pc_dnotin hu1 (pv 3) pe_str) (by rfl)))
  (pss_cons (ps_ret pe_bl) pss_nil)
  pss_nil) pss_nil))
  (pss_cons (ps_ret (pe_cmpR (op_ne3K (K := Z.K) rfl hu64) (pe_or2 (pe_ix (ix_seqK (K := Z.K) rfl) (pv 0) pe_int (fun _ _ => rfl)) (pe_dget hu1 (pv 0) pe_int (fun _ _ => rfl))) pe_str (nomark _))) pss_nil))), ?_⟩
  exact ((ss_seq (env1 := fun s1 : Unit => [some (.sh word1), none, none, none]) (xs_if (xt_or (xt_test (xe_op od_eq3 (ee_var (i := 0) rfl) ee_str)) (xt_or (xt_test (xe_op od_gt (ee_cb cd_len3 (xa_cons (ee_var (i := 0) rfl) ea_nil)) (ee_var (i := 2) rfl))) (xt_test (xe_op od_eq3 (ee_var (i := 0) rfl) ee_str))))
  (xs_ret (xe_andV (xe_op od_eq3 (ee_var (i := 0) rfl) ee_str) (xe_op od_eq3 (ee_var (i := 1) rfl) ee_int)))
  (ss_nil (SubL.s (SubL.d (SubL.d (SubL.s SubL.n)))))) fun s1 =>
  (ss_seq (env1 := fun s2 : Unit => [some (.sh word1), none, none, none]) (xs_for (ei_str (ee_var (i := 0) rfl)) (SubL.s (SubL.s (SubL.s (SubL.s SubL.n)))) (gj_name (i := 3)) fun s2 sign1 =>
  (xs_ifT (xe_or2 (xe_nin (ee_var (i := 3) rfl) ee_str))
  (xs_ret ee_bl)
  (ss_nil (SubL.s (SubL.s (SubL.s (SubL.d SubL.n))))))) fun s2 =>
  (xs_ret (xe_op od_ne3 (xe_ix (ee_var (i := 0) rfl) ee_int) ee_str)))) :
    SS Z (wE E) _ [some (.sh word1), some (.sh bottom1), some (.sh top1), none] (m_law_figures word1 bottom1 top1) (fun _ => fil 4))
abbrev s_law_good : Stmt := topS 43
theorem sc_law_good : FnScope ["row", "words"] ["row"] (defScope s_law_good) := ⟨rfl, rfl, rfl, by decide +kernel, rfl, by decide +kernel, by decide +kernel⟩
theorem ok_law_good {f : Addr} {fd : FuncData} (C : Cxx mg Z) (F : Fun Z.K "_law_good" "_law_good" s_law_good f fd) (F_law_houses : Fn P w Z.K mg base "_law_houses" 2 ["words", "fewest", "many"] [] (spM Z (ar3 m_law_houses))) (F_law_figures : Fn P w Z.K mg base "_law_figures" 1 ["word", "bottom", "top"] [] (spM Z (ar3 m_law_figures))) : FnOk P w Z.K mg base (L2.CX P w) 3 f fd ["row"] (spM Z (ar1 m_law_good)) := by
  refine fn_ok (k := 2) F sc_law_good (fun ds hd => by obtain ⟨row1, rfl⟩ := ar1_inv hd; rfl) (fun cdv A outer s H E hr tk po ds hd => ?_)
  obtain ⟨row1, rfl⟩ := ar1_inv hd
  have lt := lets_of tk
  have hu64 := hr.units
  have hu1 := hu_of hr
  refine ⟨_, (pss_cons (ps_if (pt_not (pt_val (pe_callB call_isY rfl C.b_isinstance (by decide +kernel) (pa_cons (pv 0) (pa_cons (pe_bltn (v := .ty "str") (u := .type "str") rfl C.b_str (by decide +kernel) rfl) pa_nil)))))
  (pss_cons (ps_ret pe_bl) pss_nil)
  pss_nil)
  (pss_cons (ps_set (i := 1) sc_law_good.nd rfl (Or.inl rfl) (pe_bm PySem.F.plainAttrs_str PySem.F.slot_str_split PySem.F.type_str_split mt_spl (pv 0) (pa_cons pe_str pa_nil)))
  (pss_cons (ps_if (PW.pt (pw_or (pt_cmpR (op_eq3K (K := Z.K) rfl hu64) (pe_or2 (pe_ix (ix_seqK (K := Z.K) rfl) (pv 1) pe_int (fun _ _ => rfl)) (pe_dget hu1 (pv 1) pe_int (fun _ _ => rfl))) pe_str (nomark _)) (pw_or1 (pt_cmpR (op_eq3K (K := Z.K) rfl hu64) (pe_or2 (pe_ix (ix_seqK (K := Z.K) rfl) (pv 1) pe_int (fun _ _ => rfl)) (pe_dget hu1 (pv 1) pe_int (fun _ _ => rfl))) pe_str (nomark _)))))
  (pss_cons (ps_ret (pe_fn F_law_houses (hr.mono (by decide)) lt rfl (pa_cons (pe_slice sl2 (pv 1) (po_some pe_int) po_none) (pa_cons pe_int (pa_cons pe_int pa_nil))))) pss_nil)
  pss_nil)
  (pss_cons (ps_if (PW.pt (pw_and (pt_cmpR (op_eq3K (K := Z.K) rfl hu64) (pe_or2 (pe_ix (ix_seqK (K := Z.K) rfl) (pv 1) pe_int (fun _ _ => rfl)) (pe_dget hu1 (pv 1) pe_int (fun _ _ => rfl))) pe_str (nomark _)) (pw_and1 (pt_cmpR (op_eq3K (K := Z.K) rfl hu64) (pe_callB call_len3 rfl C.b_len (by decide +kernel) (pa_cons (pv 1) pa_nil)) pe_int (nomark _)))))
  (pss_cons (ps_ret (pe_and (pe_fn F_law_houses (hr.mono (by decide)) lt rfl (pa_cons (pe_slice sl2 (pv 1) (po_some pe_int) (po_some pe_int)) (pa_cons pe_int (pa_cons pe_int pa_nil)))) (pe_one (pe_fn F_law_figures (hr.mono (by decide)) lt rfl (pa_cons (pe_or2 (pe_ix (ix_seqK (K := Z.K) rfl) (pv 1) pe_int (fun _ _ => rfl)) (pe_dget hu1 (pv 1) pe_int (fun _ _ => rfl))) (pa_cons pe_int (pa_cons pe_int pa_nil))))))) pss_nil)
  pss_nil)
  (pss_cons (ps_if (PW.pt (pw_and (pt_cmpR (op_eq3K (K := Z.K) rfl hu64) (pe_or2 (pe_ix (ix_seqK (K := Z.K) rfl) (pv 1) pe_int (fun _ _ => rfl)) (pe_dget hu1 (pv 1) pe_int (fun _ _ => rfl))) pe_str (nomark _)) (pw_and1 (pt_cmpR (op_eq3K (K := Z.K) rfl hu64) (pe_callB call_len3 rfl C.b_len (by decide +kernel) (pa_cons (pv 1) pa_nil)) pe_int (nomark _)))))
  (pss_cons (ps_ret (pe_and (pe_fn F_law_houses (hr.mono (by decide)) lt rfl (pa_cons (pe_slice sl2 (pv 1) (po_some pe_int) (po_some pe_int)) (pa_cons pe_int (pa_cons pe_int pa_nil)))) (pe_one (pe_fn F_law_figures (hr.mono (by decide)) lt rfl (pa_cons (pe_or2 (pe_ix (ix_seqK (K := Z.K) rfl) (pv 1) pe_int (fun _ _ => rfl)) (pe_dget hu1 (pv 1) pe_int (fun _ _ => rfl))) (pa_cons pe_int (pa_cons pe_int pa_nil))))))) pss_nil)
  pss_nil)
  (pss_cons (ps_if (PW.pt (pw_and (pt_cmpR (op_eq3K (K := Z.K) rfl hu64) (pe_or2 (pe_ix (ix_seqK (K := Z.K) rfl) (pv 1) pe_int (fun _ _ => rfl)) (pe_dget hu1 (pv 1) pe_int (fun _ _ => rfl))) pe_str (nomark _)) (pw_and1 (pt_cmpR op_gt (pe_callB call_len3 rfl C.b_len (by decide +kernel) (pa_cons (pv 1) pa_nil)) pe_int (nomark _)))))
  (pss_cons (ps_ret (pe_and (pe_fn F_law_houses (hr.mono (by decide)) lt rfl (pa_cons (pe_slice sl2 (pv 1) (po_some pe_int) po_none) (pa_cons pe_int (pa_cons pe_int pa_nil)))) (pe_one (pe_fn F_law_figures (hr.mono (by decide)) lt rfl (pa_cons (pe_or2 (pe_ix (ix_seqK (K := Z.K) rfl) (pv 1) pe_int (fun _ _ => rfl)) (pe_dget hu1 (pv 1) pe_int (fun _ _ => rfl))) (pa_cons pe_int (pa_cons pe_int pa_nil))))))) pss_nil)
  pss_nil)
  (pss_cons (ps_ret pe_bl) pss_nil))))))), ?_⟩
  exact ((ss_seq (env1 := fun s1 : Unit => [some (.sh row1), none]) (xs_if (xt_not (xt_B (ee_is (n := .str) (ee_var (i := 0) rfl))))
  (xs_ret ee_bl)
  (ss_nil (SubL.s (SubL.s SubL.n)))) fun s1 =>
  (xs_asg (i := 1) (xe_efl (xl_split (ee_var (i := 0) rfl) (xa_cons ee_str ea_nil))) fun words1 =>
  (ss_seq (env1 := fun s2 : Unit => [none, some (.sh words1)]) (xs_if (xt_or (xt_test (xe_op od_eq3 (xe_ix (ee_var (i := 1) rfl) ee_int) ee_str)) (xt_test (xe_op od_eq3 (xe_ix (ee_var (i := 1) rfl) ee_int) ee_str)))
  (xs_ret (xe_fn (xa_cons (xe_cut (ee_var (i := 1) rfl) (eo_some ee_int) eo_none) (xa_cons ee_int (xa_cons ee_int ea_nil)))))
  (ss_nil (SubL.d (SubL.s SubL.n)))) fun s2 =>
  (ss_seq (env1 := fun s3 : Unit => [none, some (.sh words1)]) (xs_if (xt_and (xt_test (xe_op od_eq3 (xe_ix (ee_var (i := 1) rfl) ee_int) ee_str)) (xt_test (xe_op od_eq3 (ee_cb cd_len3 (xa_cons (ee_var (i := 1) rfl) ea_nil)) ee_int)))
  (xs_ret (xe_andV (xe_fn (xa_cons (xe_cut (ee_var (i := 1) rfl) (eo_some ee_int) (eo_some ee_int)) (xa_cons ee_int (xa_cons ee_int ea_nil)))) (xe_fn (xa_cons (xe_ix (ee_var (i := 1) rfl) ee_int) (xa_cons ee_int (xa_cons ee_int ea_nil))))))
  (ss_nil (SubL.s (SubL.s SubL.n)))) fun s3 =>
  (ss_seq (env1 := fun s4 : Unit => [none, some (.sh words1)]) (xs_if (xt_and (xt_test (xe_op od_eq3 (xe_ix (ee_var (i := 1) rfl) ee_int) ee_str)) (xt_test (xe_op od_eq3 (ee_cb cd_len3 (xa_cons (ee_var (i := 1) rfl) ea_nil)) ee_int)))
  (xs_ret (xe_andV (xe_fn (xa_cons (xe_cut (ee_var (i := 1) rfl) (eo_some ee_int) (eo_some ee_int)) (xa_cons ee_int (xa_cons ee_int ea_nil)))) (xe_fn (xa_cons (xe_ix (ee_var (i := 1) rfl) ee_int) (xa_cons ee_int (xa_cons ee_int ea_nil))))))
  (ss_nil (SubL.s (SubL.s SubL.n)))) fun s4 =>
  (ss_seq (env1 := fun s5 : Unit => [none, none]) (xs_if (xt_and (xt_test (xe_op od_eq3 (xe_ix (ee_var (i := 1) rfl) ee_int) ee_str)) (xt_test (xe_op od_gt (ee_cb cd_len3 (xa_cons (ee_var (i := 1) rfl) ea_nil)) ee_int)))
  (xs_ret (xe_andV (xe_fn (xa_cons (xe_cut (ee_var (i := 1) rfl) (eo_some ee_int) eo_none) (xa_cons ee_int (xa_cons ee_int ea_nil)))) (xe_fn (xa_cons (xe_ix (ee_var (i := 1) rfl) ee_int) (xa_cons ee_int (xa_cons ee_int ea_nil))))))
  (ss_nil (SubL.s (SubL.d SubL.n)))) fun s5 =>
  (xs_ret ee_bl))))))) :
    SS Z (wE E) _ [some (.sh row1), none] (m_law_good row1) (fun _ => fil 2))
abbrev s_Turn_row : Stmt := inClass (topS 24) 2
theorem sc_Turn_row : FnScope ["self"] ["self"] (defScope s_Turn_row) := ⟨rfl, rfl, rfl, by decide +kernel, rfl, by decide +kernel, by decide +kernel⟩
theorem ok_Turn_row {f : Addr} {fd : FuncData} (C : Cxx mg Z) (F : Fun Z.K "row" "Turn.row" s_Turn_row f fd) : FnOk P w Z.K mg base (L2.CX P w) 1 f fd ["self"] (spM Z (ar1 m_Turn_row)) := by
  refine fn_ok (k := 0) F sc_Turn_row (fun ds hd => by obtain ⟨self1, rfl⟩ := ar1_inv hd; rfl) (fun cdv A outer s H E hr tk po ds hd => ?_)
  obtain ⟨self1, rfl⟩ := ar1_inv hd
  have lt := lets_of tk
  have hu64 := hr.units
  have hu1 := hu_of hr
  refine ⟨_, (pss_cons (ps_ret (pe_op op_add3 (pe_op op_add3 (pe_op op_add3 pe_str (pe_callTy call_strI rfl C.b_str (by decide +kernel) (pa_cons (pe_fld (pv 0) rfl) pa_nil))) pe_str) (pe_bm PySem.F.plainAttrs_str PySem.F.slot_str_join PySem.F.type_str_join mt_joi pe_str (pa_cons (pe_fld (pv 0) rfl) pa_nil)))) pss_nil), ?_⟩
  exact ((xs_ret (xe_op od_add (xe_op od_add (xe_op od_add ee_str (ee_cb cd_strI (xa_cons (xe_fld (cf_cons C.cf_Pay (cf_cons C.cf_Turn cf_nil)) (ee_var (i := 0) rfl)) ea_nil))) ee_str) (xe_join ee_str (xa_cons (xe_fld (cf_cons C.cf_Turn cf_nil) (ee_var (i := 0) rfl)) ea_nil)))) :
    SS Z (wE E) _ [some (.sh self1)] (m_Turn_row self1) (fun _ => fil 1))
abbrev s_Pay_row : Stmt := inClass (topS 23) 2
theorem sc_Pay_row : FnScope ["self"] ["self"] (defScope s_Pay_row) := ⟨rfl, rfl, rfl, by decide +kernel, rfl, by decide +kernel, by decide +kernel⟩
theorem ok_Pay_row {f : Addr} {fd : FuncData} (C : Cxx mg Z) (F : Fun Z.K "row" "Pay.row" s_Pay_row f fd) : FnOk P w Z.K mg base (L2.CX P w) 1 f fd ["self"] (spM Z (ar1 m_Pay_row)) := by
  refine fn_ok (k := 0) F sc_Pay_row (fun ds hd => by obtain ⟨self1, rfl⟩ := ar1_inv hd; rfl) (fun cdv A outer s H E hr tk po ds hd => ?_)
  obtain ⟨self1, rfl⟩ := ar1_inv hd
  have lt := lets_of tk
  have hu64 := hr.units
  have hu1 := hu_of hr
  refine ⟨_, (pss_cons (ps_ret (pe_op op_add3 (pe_op op_add3 (pe_op op_add3 (pe_op op_add3 (pe_op op_add3 pe_str (pe_fld (pv 0) rfl)) pe_str) (pe_fld (pv 0) rfl)) pe_str) (pe_callTy call_strI rfl C.b_str (by decide +kernel) (pa_cons (pe_fld (pv 0) rfl) pa_nil)))) pss_nil), ?_⟩
  exact ((xs_ret (xe_op od_add (xe_op od_add (xe_op od_add (xe_op od_add (xe_op od_add ee_str (xe_fld (cf_cons C.cf_Pay cf_nil) (ee_var (i := 0) rfl))) ee_str) (xe_fld (cf_cons C.cf_Pay cf_nil) (ee_var (i := 0) rfl))) ee_str) (ee_cb cd_strI (xa_cons (xe_fld (cf_cons C.cf_Pay (cf_cons C.cf_Turn cf_nil)) (ee_var (i := 0) rfl)) ea_nil)))) :
    SS Z (wE E) _ [some (.sh self1)] (m_Pay_row self1) (fun _ => fil 1))
abbrev s_Trust_row : Stmt := inClass (topS 22) 2
theorem sc_Trust_row : FnScope ["self"] ["self"] (defScope s_Trust_row) := ⟨rfl, rfl, rfl, by decide +kernel, rfl, by decide +kernel, by decide +kernel⟩
theorem ok_Trust_row {f : Addr} {fd : FuncData} (C : Cxx mg Z) (F : Fun Z.K "row" "Trust.row" s_Trust_row f fd) : FnOk P w Z.K mg base (L2.CX P w) 1 f fd ["self"] (spM Z (ar1 m_Trust_row)) := by
  refine fn_ok (k := 0) F sc_Trust_row (fun ds hd => by obtain ⟨self1, rfl⟩ := ar1_inv hd; rfl) (fun cdv A outer s H E hr tk po ds hd => ?_)
  obtain ⟨self1, rfl⟩ := ar1_inv hd
  have lt := lets_of tk
  have hu64 := hr.units
  have hu1 := hu_of hr
  refine ⟨_, (pss_cons (ps_ret (pe_op op_add3 (pe_op op_add3 (pe_op op_add3 (pe_op op_add3 (pe_op op_add3 pe_str (pe_fld (pv 0) rfl)) pe_str) (pe_fld (pv 0) rfl)) pe_str) (pe_callTy call_strI rfl C.b_str (by decide +kernel) (pa_cons (pe_fld (pv 0) rfl) pa_nil)))) pss_nil), ?_⟩
  exact ((xs_ret (xe_op od_add (xe_op od_add (xe_op od_add (xe_op od_add (xe_op od_add ee_str (xe_fld (cf_cons C.cf_Trust cf_nil) (ee_var (i := 0) rfl))) ee_str) (xe_fld (cf_cons C.cf_Trust cf_nil) (ee_var (i := 0) rfl))) ee_str) (ee_cb cd_strI (xa_cons (xe_fld (cf_cons C.cf_Trust cf_nil) (ee_var (i := 0) rfl)) ea_nil)))) :
    SS Z (wE E) _ [some (.sh self1)] (m_Trust_row self1) (fun _ => fil 1))
abbrev s_Leave_row : Stmt := inClass (topS 25) 2
theorem sc_Leave_row : FnScope ["self"] ["self"] (defScope s_Leave_row) := ⟨rfl, rfl, rfl, by decide +kernel, rfl, by decide +kernel, by decide +kernel⟩
theorem ok_Leave_row {f : Addr} {fd : FuncData} (C : Cxx mg Z) (F : Fun Z.K "row" "Leave.row" s_Leave_row f fd) : FnOk P w Z.K mg base (L2.CX P w) 1 f fd ["self"] (spM Z (ar1 m_Leave_row)) := by
  refine fn_ok (k := 0) F sc_Leave_row (fun ds hd => by obtain ⟨self1, rfl⟩ := ar1_inv hd; rfl) (fun cdv A outer s H E hr tk po ds hd => ?_)
  obtain ⟨self1, rfl⟩ := ar1_inv hd
  have lt := lets_of tk
  have hu64 := hr.units
  have hu1 := hu_of hr
  refine ⟨_, (pss_cons (ps_ret (pe_op op_add3 pe_str (pe_fld (pv 0) rfl))) pss_nil), ?_⟩
  exact ((xs_ret (xe_op od_add ee_str (xe_fld (cf_cons C.cf_Join (cf_cons C.cf_Leave cf_nil)) (ee_var (i := 0) rfl)))) :
    SS Z (wE E) _ [some (.sh self1)] (m_Leave_row self1) (fun _ => fil 1))
abbrev s_Join_row : Stmt := inClass (topS 21) 2
theorem sc_Join_row : FnScope ["self"] ["self"] (defScope s_Join_row) := ⟨rfl, rfl, rfl, by decide +kernel, rfl, by decide +kernel, by decide +kernel⟩
theorem ok_Join_row {f : Addr} {fd : FuncData} (C : Cxx mg Z) (F : Fun Z.K "row" "Join.row" s_Join_row f fd) : FnOk P w Z.K mg base (L2.CX P w) 1 f fd ["self"] (spM Z (ar1 m_Join_row)) := by
  refine fn_ok (k := 0) F sc_Join_row (fun ds hd => by obtain ⟨self1, rfl⟩ := ar1_inv hd; rfl) (fun cdv A outer s H E hr tk po ds hd => ?_)
  obtain ⟨self1, rfl⟩ := ar1_inv hd
  have lt := lets_of tk
  have hu64 := hr.units
  have hu1 := hu_of hr
  refine ⟨_, (pss_cons (ps_ret (pe_op op_add3 pe_str (pe_fld (pv 0) rfl))) pss_nil), ?_⟩
  exact ((xs_ret (xe_op od_add ee_str (xe_fld (cf_cons C.cf_Join (cf_cons C.cf_Leave cf_nil)) (ee_var (i := 0) rfl)))) :
    SS Z (wE E) _ [some (.sh self1)] (m_Join_row self1) (fun _ => fil 1))
abbrev s_Deed_row : Stmt := inClass (topS 20) 1
theorem sc_Deed_row : FnScope ["self"] ["self"] (defScope s_Deed_row) := ⟨rfl, rfl, rfl, by decide +kernel, rfl, by decide +kernel, by decide +kernel⟩
theorem ok_Deed_row {f : Addr} {fd : FuncData} (C : Cxx mg Z) (F : Fun Z.K "row" "Deed.row" s_Deed_row f fd) : FnOk P w Z.K mg base (L2.CX P w) 1 f fd ["self"] (spM Z (ar1 m_Deed_row)) := by
  refine fn_ok (k := 0) F sc_Deed_row (fun ds hd => by obtain ⟨self1, rfl⟩ := ar1_inv hd; rfl) (fun cdv A outer s H E hr tk po ds hd => ?_)
  obtain ⟨self1, rfl⟩ := ar1_inv hd
  have lt := lets_of tk
  have hu64 := hr.units
  have hu1 := hu_of hr
  refine ⟨_, (pss_cons (ps_ret pe_str) pss_nil), ?_⟩
  exact ((xs_ret ee_str) :
    SS Z (wE E) _ [some (.sh self1)] (m_Deed_row self1) (fun _ => fil 1))
abbrev s_law : Stmt := topS 47
theorem sc_law : FnScope ["script", "k", "cells", "row", "found", "kinds", "j"] ["script"] (defScope s_law) := ⟨rfl, rfl, rfl, by decide +kernel, rfl, by decide +kernel, by decide +kernel⟩
theorem ok_law {f : Addr} {fd : FuncData} (C : Cxx mg Z) (F : Fun Z.K "law" "law" s_law f fd) (F_law_cell_at : Fn P w Z.K mg base "_law_cell_at" 1 ["script", "k"] [] (spM Z (ar2 m_law_cell_at))) (F_law_spoiled : Fn P w Z.K mg base "_law_spoiled" 2 ["text", "cell"] [] (spM Z (ar2 m_law_spoiled))) (F_law_made : Fn P w Z.K mg base "_law_made" 3 ["head", "one", "two"] [] (spM Z (ar3 m_law_made))) (F_law_told : Fn P w Z.K mg base "_law_told" 5 ["row"] [] (spM Z (ar1 m_law_told))) (F_law_good : Fn P w Z.K mg base "_law_good" 3 ["row"] [] (spM Z (ar1 m_law_good))) (M_Turn_row : MtF P w Z.K mg base "row" 1 (Z.cc .turn) (spM Z (ar1 m_Turn_row))) (M_Pay_row : MtF P w Z.K mg base "row" 1 (Z.cc .pay) (spM Z (ar1 m_Pay_row))) (M_Trust_row : MtF P w Z.K mg base "row" 1 (Z.cc .trust) (spM Z (ar1 m_Trust_row))) (M_Leave_row : MtF P w Z.K mg base "row" 1 (Z.cc .leave) (spM Z (ar1 m_Leave_row))) (M_Join_row : MtF P w Z.K mg base "row" 1 (Z.cc .join) (spM Z (ar1 m_Join_row))) (M_Deed_row : MtF P w Z.K mg base "row" 1 (Z.cc .deed) (spM Z (ar1 m_Deed_row))) : FnOk P w Z.K mg base (L2.CX P w) 6 f fd ["script"] (spM Z (ar1 m_law)) := by
  refine fn_ok (k := 5) F sc_law (fun ds hd => by obtain ⟨script1, rfl⟩ := ar1_inv hd; rfl) (fun cdv A outer s H E hr tk po ds hd => ?_)
  obtain ⟨script1, rfl⟩ := ar1_inv hd
  have lt := lets_of tk
  have hu64 := hr.units
  have hu1 := hu_of hr
  refine ⟨_, (pss_cons (ps_for po rfl (pi_range3 rfl C.b_range (pa_cons pe_int (pa_cons (pe_callB (call_min2' rfl) rfl C.b_min (by decide +kernel) (pa_cons (pe_callB call_len3 rfl C.b_len (by decide +kernel) (pa_cons (pv 0) pa_nil)) (pa_cons pe_int pa_nil))) (pa_cons pe_int pa_nil)))) (pg_name (i := 1) sc_law.nd rfl (Or.inr rfl))
  (pss_cons (ps_setLc (i := 2) (own := [("j", 6)]) (g := gName 6) (tt := tYes) rfl sc_law.nd rfl rfl rfl (pi_range1 rfl C.b_range (pa_cons pe_int pa_nil)) (blkOk_by (N := ["script", "k", "cells", "row", "found", "kinds", "j"]) (sc := defScope s_law) (by decide +kernel)) (fun _ _ _ _ _ => pg_name (i := 6) sc_law.nd rfl (Or.inl rfl)) (fun _ _ _ _ _ => pts_nil) (fun _ _ _ _ _ => (pe_op op_mod (pe_fn F_law_cell_at (hr.mono (by decide)) lets0 rfl (pa_cons (pv 0) (pa_cons (pe_op op_add3 (pv 1) (pv 6)) pa_nil))) (pe_op op_pow pe_int pe_int))))
  (pss_cons (ps_set (i := 3) sc_law.nd rfl (Or.inl rfl) (pe_fn F_law_spoiled (hr.mono (by decide)) lt rfl (pa_cons (pe_or2 (pe_ix (ix_seqK (K := Z.K) rfl) (pe_fn F_law_made (hr.mono (by decide)) lt rfl (pa_cons (pe_or2 (pe_ix (ix_seqK (K := Z.K) rfl) (pv 2) pe_int (fun _ _ => rfl)) (pe_dget hu1 (pv 2) pe_int (fun _ _ => rfl))) (pa_cons (pe_or2 (pe_ix (ix_seqK (K := Z.K) rfl) (pv 2) pe_int (fun _ _ => rfl)) (pe_dget hu1 (pv 2) pe_int (fun _ _ => rfl))) (pa_cons (pe_or2 (pe_ix (ix_seqK (K := Z.K) rfl) (pv 2) pe_int (fun _ _ => rfl)) (pe_dget hu1 (pv 2) pe_int (fun _ _ => rfl))) pa_nil)))) pe_int (fun _ _ => rfl)) (pe_dget hu1 (pe_fn F_law_made (hr.mono (by decide)) lt rfl (pa_cons (pe_or2 (pe_ix (ix_seqK (K := Z.K) rfl) (pv 2) pe_int (fun _ _ => rfl)) (pe_dget hu1 (pv 2) pe_int (fun _ _ => rfl))) (pa_cons (pe_or2 (pe_ix (ix_seqK (K := Z.K) rfl) (pv 2) pe_int (fun _ _ => rfl)) (pe_dget hu1 (pv 2) pe_int (fun _ _ => rfl))) (pa_cons (pe_or2 (pe_ix (ix_seqK (K := Z.K) rfl) (pv 2) pe_int (fun _ _ => rfl)) (pe_dget hu1 (pv 2) pe_int (fun _ _ => rfl))) pa_nil)))) pe_int (fun _ _ => rfl))) (pa_cons (pe_or2 (pe_ix (ix_seqK (K := Z.K) rfl) (pv 2) pe_int (fun _ _ => rfl)) (pe_dget hu1 (pv 2) pe_int (fun _ _ => rfl))) pa_nil))))
  (pss_cons (ps_asg (pe_fn F_law_told (hr.mono (by decide)) lt rfl (pa_cons (pv 3) pa_nil)) (pg_tup rfl (pgs_cons (pg_name (i := 4) sc_law.nd rfl (Or.inl rfl)) (pgs_cons (pg_name (i := 5) sc_law.nd rfl (Or.inl rfl)) pgs_nil))))
  (pss_cons (ps_if (pt_not (pt_val (pe_fn F_law_good (hr.mono (by decide)) lt rfl (pa_cons (pv 3) pa_nil))))
  (pss_cons (ps_if (pt_cmpR (op_ne3K (K := Z.K) rfl hu64) (pv 5) (pe_lst (pa_cons pe_bl (pa_cons pe_bl (pa_cons pe_bl (pa_cons pe_bl pa_nil))))) (nomark _))
  (pss_cons (ps_ret pe_bl) pss_nil)
  pss_nil) pss_nil)
  (pss_cons (ps_if (PW.pt (pw_or (pt_cmp (pc_notN (pv 5))) (pw_or1 (pt_cmpR (op_ne3K (K := Z.K) rfl hu64) (pe_or2 (pe_mtF (pv 4) M_Deed_row (hr.mono (by decide))) (pe_or2 (pe_mtF (pv 4) M_Join_row (hr.mono (by decide))) (pe_or2 (pe_mtF (pv 4) M_Leave_row (hr.mono (by decide))) (pe_or2 (pe_mtF (pv 4) M_Trust_row (hr.mono (by decide))) (pe_or2 (pe_mtF (pv 4) M_Pay_row (hr.mono (by decide))) (pe_mtF (pv 4) M_Turn_row (hr.mono (by decide)))))))) (pv 3) (nomark _)))))
  (pss_cons (ps_ret pe_bl) pss_nil)
  pss_nil) pss_nil)) pss_nil)))))
  (pss_cons (ps_ret pe_bl) pss_nil)), ?_⟩
  exact ((ss_seq (env1 := fun s1 : Unit => [some (.sh script1), none, none, none, none, none, none]) (xs_for (ei_rng3 (xa_cons ee_int (xa_cons (ee_cb cd_min2 (xa_cons (ee_cb cd_len3 (xa_cons (ee_var (i := 0) rfl) ea_nil)) (xa_cons ee_int ea_nil))) (xa_cons ee_int ea_nil)))) (SubL.s (SubL.s (SubL.s (SubL.s (SubL.s (SubL.s (SubL.s SubL.n))))))) (gj_name (i := 1)) fun s1 k1 =>
  (xs_asg (i := 2) (xe_efl (xl_lc (i0 := 6) (ei_rng1 (xa_cons ee_int ea_nil)) fun j1 => (xe_op od_mod (xe_fn (xa_cons (ee_var (i := 0) rfl) (xa_cons (xe_op od_add (ee_var (i := 1) rfl) (ee_var (i := 6) rfl)) ea_nil))) (xe_op od_pow ee_int ee_int)))) fun cells1 =>
  (xs_asg (i := 3) (xe_fn (xa_cons (xe_ix (xe_fn (xa_cons (xe_ix (ee_var (i := 2) rfl) ee_int) (xa_cons (xe_ix (ee_var (i := 2) rfl) ee_int) (xa_cons (xe_ix (ee_var (i := 2) rfl) ee_int) ea_nil)))) ee_int) (xa_cons (xe_ix (ee_var (i := 2) rfl) ee_int) ea_nil))) fun row1 =>
  (ss_asgG (gj_tup2 (i := 4) (j := 5)) (xe_fn (xa_cons (ee_var (i := 3) rfl) ea_nil)) fun c1 =>
  (xs_ifT (xt_not (xt_B (xe_fn (xa_cons (ee_var (i := 3) rfl) ea_nil))))
  (xs_ifT (xt_test (xe_op od_ne3 (ee_var (i := 5) rfl) (ee_lst (xa_cons ee_bl (xa_cons ee_bl (xa_cons ee_bl (xa_cons ee_bl ea_nil)))))))
  (xs_ret ee_bl)
  (ss_nil (SubL.s (SubL.d (SubL.d (SubL.d (SubL.d (SubL.d (SubL.s SubL.n)))))))))
  (xs_ifT (xt_or (xt_B (xe_notN (ee_var (i := 5) rfl))) (xt_test (xe_op od_ne3 (xe_alt (xe_mt (c := .deed) (m := "row") (by decide +kernel) (ee_var (i := 4) rfl)) (xe_alt (xe_mt (c := .join) (m := "row") (by decide +kernel) (ee_var (i := 4) rfl)) (xe_alt (xe_mt (c := .leave) (m := "row") (by decide +kernel) (ee_var (i := 4) rfl)) (xe_alt (xe_mt (c := .trust) (m := "row") (by decide +kernel) (ee_var (i := 4) rfl)) (xe_alt (xe_mt (c := .pay) (m := "row") (by decide +kernel) (ee_var (i := 4) rfl)) (xe_mt (c := .turn) (m := "row") (by decide +kernel) (ee_var (i := 4) rfl))))))) (ee_var (i := 3) rfl))))
  (xs_ret ee_bl)
  (ss_nil (SubL.s (SubL.d (SubL.d (SubL.d (SubL.d (SubL.d (SubL.s SubL.n)))))))))))))) fun s1 =>
  (xs_ret ee_bl)) :
    SS Z (wE E) _ [some (.sh script1), none, none, none, none, none, none] (m_law script1) (fun _ => fil 7))
end

open PySem.W in
theorem all_mk {l : PySem.W.OpenLaw} {w : World} {K : PySem.W.Frag} {h : Heap} {mg : PySem.Str → Option Value} {fa : Addr} (X : K.In h) (G : h.Ns mainGlobals mg) (hfa : mg "law" = some (.ref fa))
    (b_ValueError : PySem.W.nsIn K mainGlobals "ValueError" = some none)
    (b_bool : PySem.W.nsIn K mainGlobals "bool" = some none)
    (b_int : PySem.W.nsIn K mainGlobals "int" = some none)
    (b_isinstance : PySem.W.nsIn K mainGlobals "isinstance" = some none)
    (b_len : PySem.W.nsIn K mainGlobals "len" = some none)
    (b_list : PySem.W.nsIn K mainGlobals "list" = some none)
    (b_max : PySem.W.nsIn K mainGlobals "max" = some none)
    (b_min : PySem.W.nsIn K mainGlobals "min" = some none)
    (b_range : PySem.W.nsIn K mainGlobals "range" = some none)
    (b_str : PySem.W.nsIn K mainGlobals "str" = some none)
    {t_FIGURES : Tok} (g_FIGURES : PySem.W.nsIn K mainGlobals "FIGURES" = some (some (.str "0123456789" t_FIGURES)))
    {t_LETTERS : Tok} (g_LETTERS : PySem.W.nsIn K mainGlobals "LETTERS" = some (some (.str "abcdefghijklmnopqrstuvwxyz" t_LETTERS)))
    {c_NoRow : Addr} (e_NoRow : ExIn K "NoRow" c_NoRow)
    {c_NoHouse : Addr} (gx_NoHouse : PySem.W.nsIn K mainGlobals "NoHouse" = some (some (.ref c_NoHouse)))
    {c_Twice : Addr} (gx_Twice : PySem.W.nsIn K mainGlobals "Twice" = some (some (.ref c_Twice)))
    {c_NoAmount : Addr} (gx_NoAmount : PySem.W.nsIn K mainGlobals "NoAmount" = some (some (.ref c_NoAmount)))
    {c_TooLow : Addr} (gx_TooLow : PySem.W.nsIn K mainGlobals "TooLow" = some (some (.ref c_TooLow)))
    {c_NoChain : Addr} (gx_NoChain : PySem.W.nsIn K mainGlobals "NoChain" = some (some (.ref c_NoChain)))
    {c_NoRoom : Addr} (gx_NoRoom : PySem.W.nsIn K mainGlobals "NoRoom" = some (some (.ref c_NoRoom)))
    {c_TooMuch : Addr} (gx_TooMuch : PySem.W.nsIn K mainGlobals "TooMuch" = some (some (.ref c_TooMuch)))
    {c_NoWish : Addr} (gx_NoWish : PySem.W.nsIn K mainGlobals "NoWish" = some (some (.ref c_NoWish)))
    {c_StillOwes : Addr} (gx_StillOwes : PySem.W.nsIn K mainGlobals "StillOwes" = some (some (.ref c_StillOwes)))
    {c_TooMany : Addr} (gx_TooMany : PySem.W.nsIn K mainGlobals "TooMany" = some (some (.ref c_TooMany)))
    (gx_NoRow : PySem.W.nsIn K mainGlobals "NoRow" = some (some (.ref c_NoRow)))
    (ec_NoRow : ExcC K c_NoRow)
    {c_Way : Addr} (wg : PySem.W.nsIn K mainGlobals "WayError" = some (some (.ref c_Way)))
    (wb : PySem.W.subIn K (.ref c_Way) (.type "BaseException") = some true)
    (wt : ExT K c_Way)
    (ws : PySem.W.subIn K (.ref c_NoRow) (.ref c_Way) = some true)
    (xt_NoAmount : ExT K c_NoAmount)
    (xs_NoRow_NoAmount : PySem.W.subIn K (.ref c_NoRow) (.ref c_NoAmount) = some false)
    (xt_NoChain : ExT K c_NoChain)
    (xs_NoRow_NoChain : PySem.W.subIn K (.ref c_NoRow) (.ref c_NoChain) = some false)
    (xt_NoHouse : ExT K c_NoHouse)
    (xs_NoRow_NoHouse : PySem.W.subIn K (.ref c_NoRow) (.ref c_NoHouse) = some false)
    (xt_NoRoom : ExT K c_NoRoom)
    (xs_NoRow_NoRoom : PySem.W.subIn K (.ref c_NoRow) (.ref c_NoRoom) = some false)
    (xt_NoRow : ExT K c_NoRow)
    (xt_NoWish : ExT K c_NoWish)
    (xs_NoRow_NoWish : PySem.W.subIn K (.ref c_NoRow) (.ref c_NoWish) = some false)
    (xt_StillOwes : ExT K c_StillOwes)
    (xs_NoRow_StillOwes : PySem.W.subIn K (.ref c_NoRow) (.ref c_StillOwes) = some false)
    (xt_TooLow : ExT K c_TooLow)
    (xs_NoRow_TooLow : PySem.W.subIn K (.ref c_NoRow) (.ref c_TooLow) = some false)
    (xt_TooMany : ExT K c_TooMany)
    (xs_NoRow_TooMany : PySem.W.subIn K (.ref c_NoRow) (.ref c_TooMany) = some false)
    (xt_TooMuch : ExT K c_TooMuch)
    (xs_NoRow_TooMuch : PySem.W.subIn K (.ref c_NoRow) (.ref c_TooMuch) = some false)
    (xt_Twice : ExT K c_Twice)
    (xs_NoRow_Twice : PySem.W.subIn K (.ref c_NoRow) (.ref c_Twice) = some false)
    (xs_NoRow_ValueError : PySem.W.subIn K (.ref c_NoRow) (.type "ValueError") = some true)
    {k_Deed : Addr} (gc_Deed : PySem.W.nsIn K mainGlobals "Deed" = some (some (.ref k_Deed)))
    (ci_Deed : ClsIn K k_Deed)
    {k_Join : Addr} (gc_Join : PySem.W.nsIn K mainGlobals "Join" = some (some (.ref k_Join)))
    (ci_Join : ClsIn K k_Join)
    (na_Join : ∀ f, f ∈ flds .join → NoAttr K k_Join f)
    {k_Leave : Addr} (gc_Leave : PySem.W.nsIn K mainGlobals "Leave" = some (some (.ref k_Leave)))
    (ci_Leave : ClsIn K k_Leave)
    (na_Leave : ∀ f, f ∈ flds .leave → NoAttr K k_Leave f)
    {k_Trust : Addr} (gc_Trust : PySem.W.nsIn K mainGlobals "Trust" = some (some (.ref k_Trust)))
    (ci_Trust : ClsIn K k_Trust)
    (na_Trust : ∀ f, f ∈ flds .trust → NoAttr K k_Trust f)
    {k_Pay : Addr} (gc_Pay : PySem.W.nsIn K mainGlobals "Pay" = some (some (.ref k_Pay)))
    (ci_Pay : ClsIn K k_Pay)
    (na_Pay : ∀ f, f ∈ flds .pay → NoAttr K k_Pay f)
    {k_Turn : Addr} (gc_Turn : PySem.W.nsIn K mainGlobals "Turn" = some (some (.ref k_Turn)))
    (ci_Turn : ClsIn K k_Turn)
    (na_Turn : ∀ f, f ∈ flds .turn → NoAttr K k_Turn f)
    (i_Join : MetIn K k_Join "__init__" "Join.__init__" s_Join_init)
    (i_Leave : MetIn K k_Leave "__init__" "Leave.__init__" s_Leave_init)
    (i_Trust : MetIn K k_Trust "__init__" "Trust.__init__" s_Trust_init)
    (i_Pay : MetIn K k_Pay "__init__" "Pay.__init__" s_Pay_init)
    (i_Turn : MetIn K k_Turn "__init__" "Turn.__init__" s_Turn_init)
    (d_law_cell_at : DefIn K "_law_cell_at" s_law_cell_at)
    (d_law_name : DefIn K "_law_name" s_law_name)
    (d_law_two : DefIn K "_law_two" s_law_two)
    (d_law_number : DefIn K "_law_number" s_law_number)
    (d_law_ring : DefIn K "_law_ring" s_law_ring)
    (d_law_made : DefIn K "_law_made" s_law_made)
    (d_law_words : DefIn K "_law_words" s_law_words)
    (d_law_spoiled : DefIn K "_law_spoiled" s_law_spoiled)
    (d_is_name : DefIn K "is_name" s_is_name)
    (d_two_unlike : DefIn K "two_unlike" s_two_unlike)
    (d_number_of : DefIn K "number_of" s_number_of)
    (d_is_line : DefIn K "is_line" s_is_line)
    (d_is_amount : DefIn K "is_amount" s_is_amount)
    (d_all_names : DefIn K "all_names" s_all_names)
    (d_deed_of : DefIn K "deed_of" s_deed_of)
    (d_read : DefIn K "read" s_read)
    (d_law_told : DefIn K "_law_told" s_law_told)
    (d_law_word : DefIn K "_law_word" s_law_word)
    (d_law_houses : DefIn K "_law_houses" s_law_houses)
    (d_law_figures : DefIn K "_law_figures" s_law_figures)
    (d_law_good : DefIn K "_law_good" s_law_good)
    (t_Turn_row : MetIn K k_Turn "row" "Turn.row" s_Turn_row)
    (t_Pay_row : MetIn K k_Pay "row" "Pay.row" s_Pay_row)
    (t_Trust_row : MetIn K k_Trust "row" "Trust.row" s_Trust_row)
    (t_Leave_row : MetIn K k_Leave "row" "Leave.row" s_Leave_row)
    (t_Join_row : MetIn K k_Join "row" "Join.row" s_Join_row)
    (t_Deed_row : MetIn K k_Deed "row" "Deed.row" s_Deed_row)
    (d_law : DefIn K "law" s_law) :
    ∃ fd : FuncData, (∀ (s : Shared) (v : Value), BindsTo s fd ⟨[v], []⟩ [("script", v)]) ∧ ∃ Z : Zs, Z.K = K ∧ ∀ base : Heap, K.In base → base.Ns mainGlobals mg → FnOk l.prog w K mg base (L2.CX l.prog w) 6 fa fd ["script"] (spM Z (ar1 m_law)) := by
  obtain ⟨f, fd, a, D⟩ := d_law.ex
  have e := hfa.symm.trans (PySem.W.mg_of X G a)
  cases e
  obtain ⟨oc, od, kV, doc, pm, an, cdv, ct, osl, efd, lk, hcd⟩ := D.ex
  subst efd
  refine ⟨PySem.W.fnOf "law" "law" (defArgs s_law) (defBody s_law) (defScope s_law) .none kV doc pm an cdv ct, fun s v => .of_eq rfl, ?_⟩
  let Z : Zs := ⟨K, fun x => match x with | .deed => k_Deed | .join => k_Join | .leave => k_Leave | .trust => k_Trust | .pay => k_Pay | .turn => k_Turn | _ => 0, fun x => match x with | .noHouse => c_NoHouse | .twice => c_Twice | .noAmount => c_NoAmount | .tooLow => c_TooLow | .noChain => c_NoChain | .noRoom => c_NoRoom | .tooMuch => c_TooMuch | .noWish => c_NoWish | .stillOwes => c_StillOwes | .tooMany => c_TooMany | .noRow => c_NoRow⟩
  have C : Cxx mg Z := ⟨mg_none_of X G b_ValueError, mg_none_of X G b_bool, mg_none_of X G b_int, mg_none_of X G b_isinstance, mg_none_of X G b_len, mg_none_of X G b_list, mg_none_of X G b_max, mg_none_of X G b_min, mg_none_of X G b_range, mg_none_of X G b_str, ⟨_, mg_of X G g_FIGURES⟩, ⟨_, mg_of X G g_LETTERS⟩, e_NoRow.f X G, mg_of X G gx_NoHouse, mg_of X G gx_Twice, mg_of X G gx_NoAmount, mg_of X G gx_TooLow, mg_of X G gx_NoChain, mg_of X G gx_NoRoom, mg_of X G gx_TooMuch, mg_of X G gx_NoWish, mg_of X G gx_StillOwes, mg_of X G gx_TooMany, mg_of X G gx_NoRow, ec_NoRow, ⟨_, mg_of X G wg, PySem.W.exm_ref wb wt.hd wt.ht ws⟩, (kitN (kitO xt_NoAmount.hd xt_NoAmount.ht xt_NoAmount.hr xs_NoRow_NoAmount) (kitN (kitO xt_NoChain.hd xt_NoChain.ht xt_NoChain.hr xs_NoRow_NoChain) (kitN (kitO xt_NoHouse.hd xt_NoHouse.ht xt_NoHouse.hr xs_NoRow_NoHouse) kit0))), (kitN (kitO xt_NoRoom.hd xt_NoRoom.ht xt_NoRoom.hr xs_NoRow_NoRoom) (kitN (kitO xt_NoWish.hd xt_NoWish.ht xt_NoWish.hr xs_NoRow_NoWish) (kitN (kitO xt_StillOwes.hd xt_StillOwes.ht xt_StillOwes.hr xs_NoRow_StillOwes) (kitN (kitO xt_TooLow.hd xt_TooLow.ht xt_TooLow.hr xs_NoRow_TooLow) (kitN (kitO xt_TooMany.hd xt_TooMany.ht xt_TooMany.hr xs_NoRow_TooMany) (kitN (kitO xt_TooMuch.hd xt_TooMuch.ht xt_TooMuch.hr xs_NoRow_TooMuch) (kitN (kitO xt_Twice.hd xt_Twice.ht xt_Twice.hr xs_NoRow_Twice) kit0))))))), (kitO xt_NoRow.hd xt_NoRow.ht xt_NoRow.hr xt_NoRow.hr), (kitT (by decide +kernel) xs_NoRow_ValueError), ⟨ci_Deed.cl, fun _ h => by cases h⟩, ClsIn.ins (Z := Z) (c := .deed) ci_Deed, mg_of X G gc_Deed, ⟨ci_Join.cl, na_Join⟩, ClsIn.ins (Z := Z) (c := .join) ci_Join, mg_of X G gc_Join, ⟨ci_Leave.cl, na_Leave⟩, ClsIn.ins (Z := Z) (c := .leave) ci_Leave, mg_of X G gc_Leave, ⟨ci_Trust.cl, na_Trust⟩, ClsIn.ins (Z := Z) (c := .trust) ci_Trust, mg_of X G gc_Trust, ⟨ci_Pay.cl, na_Pay⟩, ClsIn.ins (Z := Z) (c := .pay) ci_Pay, mg_of X G gc_Pay, ⟨ci_Turn.cl, na_Turn⟩, ClsIn.ins (Z := Z) (c := .turn) ci_Turn, mg_of X G gc_Turn⟩
  exact ⟨Z, rfl, fun base _ _ => by
    have F_law_cell_at : Fn l.prog w Z.K mg base "_law_cell_at" 1 ["script", "k"] [] (spM Z (ar2 m_law_cell_at)) := Fn.of d_law_cell_at X G (fun f fd F => ok_law_cell_at C F) fun _ _ _ _ _ _ us hl => match us, hl with | [_, _], _ => rfl
    have F_law_name : Fn l.prog w Z.K mg base "_law_name" 1 ["cell"] [] (spM Z (ar1 m_law_name)) := Fn.of d_law_name X G (fun f fd F => ok_law_name C F) fun _ _ _ _ _ _ us hl => match us, hl with | [_], _ => rfl
    have F_law_two : Fn l.prog w Z.K mg base "_law_two" 2 ["cell"] [] (spM Z (ar1 m_law_two)) := Fn.of d_law_two X G (fun f fd F => ok_law_two C F F_law_name) fun _ _ _ _ _ _ us hl => match us, hl with | [_], _ => rfl
    have F_law_number : Fn l.prog w Z.K mg base "_law_number" 1 ["cell", "top"] [] (spM Z (ar2 m_law_number)) := Fn.of d_law_number X G (fun f fd F => ok_law_number C F) fun _ _ _ _ _ _ us hl => match us, hl with | [_, _], _ => rfl
    have F_law_ring : Fn l.prog w Z.K mg base "_law_ring" 1 ["cell", "many"] [] (spM Z (ar2 m_law_ring)) := Fn.of d_law_ring X G (fun f fd F => ok_law_ring C F) fun _ _ _ _ _ _ us hl => match us, hl with | [_, _], _ => rfl
    have F_law_made : Fn l.prog w Z.K mg base "_law_made" 3 ["head", "one", "two"] [] (spM Z (ar3 m_law_made)) := Fn.of d_law_made X G (fun f fd F => ok_law_made C F F_law_two F_law_number F_law_ring) fun _ _ _ _ _ _ us hl => match us, hl with | [_, _, _], _ => rfl
    have F_law_words : Fn l.prog w Z.K mg base "_law_words" 1 ["text", "place", "rest", "way"] [] (spM Z (ar4 m_law_words)) := Fn.of d_law_words X G (fun f fd F => ok_law_words C F) fun _ _ _ _ _ _ us hl => match us, hl with | [_, _, _, _], _ => rfl
    have F_law_spoiled : Fn l.prog w Z.K mg base "_law_spoiled" 2 ["text", "cell"] [] (spM Z (ar2 m_law_spoiled)) := Fn.of d_law_spoiled X G (fun f fd F => ok_law_spoiled C F F_law_words) fun _ _ _ _ _ _ us hl => match us, hl with | [_, _], _ => rfl
    have F_is_name : Fn l.prog w Z.K mg base "is_name" 1 ["thing"] [] (spM Z (ar1 m_is_name)) := Fn.of d_is_name X G (fun f fd F => ok_is_name C F) fun _ _ _ _ _ _ us hl => match us, hl with | [_], _ => rfl
    have F_two_unlike : Fn l.prog w Z.K mg base "two_unlike" 2 ["words"] [] (spM Z (ar1 m_two_unlike)) := Fn.of d_two_unlike X G (fun f fd F => ok_two_unlike C F F_is_name) fun _ _ _ _ _ _ us hl => match us, hl with | [_], _ => rfl
    have F_number_of : Fn l.prog w Z.K mg base "number_of" 1 ["word"] [] (spM Z (ar1 m_number_of)) := Fn.of d_number_of X G (fun f fd F => ok_number_of C F) fun _ _ _ _ _ _ us hl => match us, hl with | [_], _ => rfl
    have F_is_line : Fn l.prog w Z.K mg base "is_line" 1 ["thing"] [] (spM Z (ar1 m_is_line)) := Fn.of d_is_line X G (fun f fd F => ok_is_line C F) fun _ _ _ _ _ _ us hl => match us, hl with | [_], _ => rfl
    have F_is_amount : Fn l.prog w Z.K mg base "is_amount" 1 ["thing"] [] (spM Z (ar1 m_is_amount)) := Fn.of d_is_amount X G (fun f fd F => ok_is_amount C F) fun _ _ _ _ _ _ us hl => match us, hl with | [_], _ => rfl
    have F_all_names : Fn l.prog w Z.K mg base "all_names" 2 ["words"] [] (spM Z (ar1 m_all_names)) := Fn.of d_all_names X G (fun f fd F => ok_all_names C F F_is_name) fun _ _ _ _ _ _ us hl => match us, hl with | [_], _ => rfl
    have I_Join : MkF l.prog w Z.K mg base "Join" 1 (Z.cc .join) (spI Z .join) := MkF.of (ps := ["self", "house"]) i_Join ci_Join X G gc_Join (fun f fd F => ok_Join_init C F) fun _ _ _ _ _ _ us hl => match us, hl with | [_, _], _ => rfl
    have I_Leave : MkF l.prog w Z.K mg base "Leave" 1 (Z.cc .leave) (spI Z .leave) := MkF.of (ps := ["self", "house"]) i_Leave ci_Leave X G gc_Leave (fun f fd F => ok_Leave_init C F) fun _ _ _ _ _ _ us hl => match us, hl with | [_, _], _ => rfl
    have I_Trust : MkF l.prog w Z.K mg base "Trust" 1 (Z.cc .trust) (spI Z .trust) := MkF.of (ps := ["self", "one", "other", "line"]) i_Trust ci_Trust X G gc_Trust (fun f fd F => ok_Trust_init C F) fun _ _ _ _ _ _ us hl => match us, hl with | [_, _, _, _], _ => rfl
    have I_Pay : MkF l.prog w Z.K mg base "Pay" 1 (Z.cc .pay) (spI Z .pay) := MkF.of (ps := ["self", "payer", "taker", "amount"]) i_Pay ci_Pay X G gc_Pay (fun f fd F => ok_Pay_init C F) fun _ _ _ _ _ _ us hl => match us, hl with | [_, _, _, _], _ => rfl
    have I_Turn : MkF l.prog w Z.K mg base "Turn" 1 (Z.cc .turn) (spIT Z) := MkF.of (ps := ["self", "ring", "amount"]) i_Turn ci_Turn X G gc_Turn (fun f fd F => ok_Turn_init C F) fun _ _ _ _ _ _ us hl => match us, hl with | [_, _, _], _ => rfl
    have F_deed_of : Fn l.prog w Z.K mg base "deed_of" 3 ["words"] [] (spM Z (ar1 m_deed_of)) := Fn.of d_deed_of X G (fun f fd F => ok_deed_of C F F_is_name I_Join I_Leave F_two_unlike F_is_line F_number_of I_Trust F_is_amount I_Pay F_all_names I_Turn) fun _ _ _ _ _ _ us hl => match us, hl with | [_], _ => rfl
    have F_read : Fn l.prog w Z.K mg base "read" 4 ["row"] [] (spM Z (ar1 m_read)) := Fn.of d_read X G (fun f fd F => ok_read C F F_deed_of) fun _ _ _ _ _ _ us hl => match us, hl with | [_], _ => rfl
    have F_law_told : Fn l.prog w Z.K mg base "_law_told" 5 ["row"] [] (spM Z (ar1 m_law_told)) := Fn.of d_law_told X G (fun f fd F => ok_law_told C F F_read) fun _ _ _ _ _ _ us hl => match us, hl with | [_], _ => rfl
    have F_law_word : Fn l.prog w Z.K mg base "_law_word" 1 ["word"] [] (spM Z (ar1 m_law_word)) := Fn.of d_law_word X G (fun f fd F => ok_law_word C F) fun _ _ _ _ _ _ us hl => match us, hl with | [_], _ => rfl
    have F_law_houses : Fn l.prog w Z.K mg base "_law_houses" 2 ["words", "fewest", "many"] [] (spM Z (ar3 m_law_houses)) := Fn.of d_law_houses X G (fun f fd F => ok_law_houses C F F_law_word) fun _ _ _ _ _ _ us hl => match us, hl with | [_, _, _], _ => rfl
    have F_law_figures : Fn l.prog w Z.K mg base "_law_figures" 1 ["word", "bottom", "top"] [] (spM Z (ar3 m_law_figures)) := Fn.of d_law_figures X G (fun f fd F => ok_law_figures C F) fun _ _ _ _ _ _ us hl => match us, hl with | [_, _, _], _ => rfl
    have F_law_good : Fn l.prog w Z.K mg base "_law_good" 3 ["row"] [] (spM Z (ar1 m_law_good)) := Fn.of d_law_good X G (fun f fd F => ok_law_good C F F_law_houses F_law_figures) fun _ _ _ _ _ _ us hl => match us, hl with | [_], _ => rfl
    have M_Turn_row : MtF l.prog w Z.K mg base "row" 1 (Z.cc .turn) (spM Z (ar1 m_Turn_row)) := MtF.of t_Turn_row ci_Turn.cl (fun f fd F => ok_Turn_row C F) fun _ _ _ _ _ _ us hl => match us, hl with | [_], _ => rfl
    have M_Pay_row : MtF l.prog w Z.K mg base "row" 1 (Z.cc .pay) (spM Z (ar1 m_Pay_row)) := MtF.of t_Pay_row ci_Pay.cl (fun f fd F => ok_Pay_row C F) fun _ _ _ _ _ _ us hl => match us, hl with | [_], _ => rfl
    have M_Trust_row : MtF l.prog w Z.K mg base "row" 1 (Z.cc .trust) (spM Z (ar1 m_Trust_row)) := MtF.of t_Trust_row ci_Trust.cl (fun f fd F => ok_Trust_row C F) fun _ _ _ _ _ _ us hl => match us, hl with | [_], _ => rfl
    have M_Leave_row : MtF l.prog w Z.K mg base "row" 1 (Z.cc .leave) (spM Z (ar1 m_Leave_row)) := MtF.of t_Leave_row ci_Leave.cl (fun f fd F => ok_Leave_row C F) fun _ _ _ _ _ _ us hl => match us, hl with | [_], _ => rfl
    have M_Join_row : MtF l.prog w Z.K mg base "row" 1 (Z.cc .join) (spM Z (ar1 m_Join_row)) := MtF.of t_Join_row ci_Join.cl (fun f fd F => ok_Join_row C F) fun _ _ _ _ _ _ us hl => match us, hl with | [_], _ => rfl
    have M_Deed_row : MtF l.prog w Z.K mg base "row" 1 (Z.cc .deed) (spM Z (ar1 m_Deed_row)) := MtF.of t_Deed_row ci_Deed.cl (fun f fd F => ok_Deed_row C F) fun _ _ _ _ _ _ us hl => match us, hl with | [_], _ => rfl
    exact ok_law C D F_law_cell_at F_law_spoiled F_law_made F_law_told F_law_good M_Turn_row M_Pay_row M_Trust_row M_Leave_row M_Join_row M_Deed_row⟩
theorem sp_eq (Z : Zs) (vs : List V) (H : Hp) : True := trivial
theorem walk {l : PySem.W.OpenLaw} {q : Program} {loose : List PySem.Str} {XP : (PySem.Str → Option Value) → Heap → Prop} {YP : World → Heap → Prop} {d : DefRec} {K : Params → PySem.W.Frag} (hn : l.most = some 63) (hdf : d.params.defaults = [])
    (hY : ∀ (w : World) (h : Heap), YP w h → (K w.params).In h)
    (F : ∀ (w : World) (mg : PySem.Str → Option Value) (fa : Addr) (h : Heap), (K w.params).In h → h.Ns mainGlobals mg → mg d.name = some (.ref fa) →
      ∃ fd : FuncData, (∀ (s : Shared) (u : Value), BindsTo s fd ⟨[u], []⟩ [("script", u)]) ∧ ∃ Z : Zs, Z.K = K w.params ∧ ∀ base : Heap, (K w.params).In base → base.Ns mainGlobals mg → FnOk l.prog w (K w.params) mg base (L2.CX l.prog w) 6 fa fd ["script"] (spM Z (ar1 m_law)))
    (hm : ∀ ns : List Int, ns.length ≤ 63 → m_law (.scr ns) = .ret (.sh (.bl true))) :
    PySem.W.WalkO q loose XP YP l.row.toRowW d [] (fun f vs => PySem.call f vs) :=
  L2.walk_of (n := 63) (k := 6) (x := "script") (CX := fun w => L2.CX l.prog w) (sp := fun w => lawSp (K w.params) m_law) hn (by decide) hdf ⟨rfl, by decide, by decide⟩ hY
    (fun w mg fa h X G e => by
      obtain ⟨fd, hb, Z, eZ, f⟩ := F w mg fa h X G e
      exact ⟨fd, hb, fun base k g => (f base k g).imp fun vs H Q E s => s.to eZ⟩)
    (fun w H a ns hl _ hS => lawSp_of hm hl hS) fun _ _ _ _ _ z => noCX z
end Py

namespace Py
end Py

open PySem PySem.W PyProof.Rows in
set_option maxRecDepth 100000 in
set_option maxHeartbeats 0 in
theorem PySem.Challenge.cw_trustways_k81_rows_refused_holds : PySem.Challenge.rw_trustways_k81_rows_refused.Holds := by
  w_on; o_law; k_head; (case hw => w_witness2)
  k_fill
  refine Py.walk (l := PySem.Challenge.rw_trustways_k81_rows_refused) rfl rfl (fun w h Y => PySem.W.kIn_of Y) ?F Py.law_true
  case F =>
    intro w mg fa h KX G hmg
    refine' Py.all_mk KX G hmg ?b_ValueError ?b_bool ?b_int ?b_isinstance ?b_len ?b_list ?b_max ?b_min ?b_range ?b_str ?g_FIGURES ?g_LETTERS ?e_NoRow ?gx_NoHouse ?gx_Twice ?gx_NoAmount ?gx_TooLow ?gx_NoChain ?gx_NoRoom ?gx_TooMuch ?gx_NoWish ?gx_StillOwes ?gx_TooMany ?gx_NoRow ?ec_NoRow ?wg ?wb ?wt ?ws ?xt_NoAmount ?xs_NoRow_NoAmount ?xt_NoChain ?xs_NoRow_NoChain ?xt_NoHouse ?xs_NoRow_NoHouse ?xt_NoRoom ?xs_NoRow_NoRoom ?xt_NoRow ?xt_NoWish ?xs_NoRow_NoWish ?xt_StillOwes ?xs_NoRow_StillOwes ?xt_TooLow ?xs_NoRow_TooLow ?xt_TooMany ?xs_NoRow_TooMany ?xt_TooMuch ?xs_NoRow_TooMuch ?xt_Twice ?xs_NoRow_Twice ?xs_NoRow_ValueError ?gc_Deed ?ci_Deed ?gc_Join ?ci_Join ?na_Join ?gc_Leave ?ci_Leave ?na_Leave ?gc_Trust ?ci_Trust ?na_Trust ?gc_Pay ?ci_Pay ?na_Pay ?gc_Turn ?ci_Turn ?na_Turn ?i_Join ?i_Leave ?i_Trust ?i_Pay ?i_Turn ?d_law_cell_at ?d_law_name ?d_law_two ?d_law_number ?d_law_ring ?d_law_made ?d_law_words ?d_law_spoiled ?d_is_name ?d_two_unlike ?d_number_of ?d_is_line ?d_is_amount ?d_all_names ?d_deed_of ?d_read ?d_law_told ?d_law_word ?d_law_houses ?d_law_figures ?d_law_good ?t_Turn_row ?t_Pay_row ?t_Trust_row ?t_Leave_row ?t_Join_row ?t_Deed_row ?d_law
    (case b_ValueError => k_is)
    (case b_bool => k_is)
    (case b_int => k_is)
    (case b_isinstance => k_is)
    (case b_len => k_is)
    (case b_list => k_is)
    (case b_max => k_is)
    (case b_min => k_is)
    (case b_range => k_is)
    (case b_str => k_is)
    (case g_FIGURES => k_is)
    (case g_LETTERS => k_is)
    (case e_NoRow => refine' ⟨?a, ?x, ?k, ?b, ?t⟩; (case a => k_is); (case x => k_exc); (case k => k_is); (case b => k_is); (case t => k_is))
    (case gx_NoHouse => k_is)
    (case gx_Twice => k_is)
    (case gx_NoAmount => k_is)
    (case gx_TooLow => k_is)
    (case gx_NoChain => k_is)
    (case gx_NoRoom => k_is)
    (case gx_TooMuch => k_is)
    (case gx_NoWish => k_is)
    (case gx_StillOwes => k_is)
    (case gx_TooMany => k_is)
    (case gx_NoRow => k_is)
    (case ec_NoRow => refine' ⟨?g, ?k, ?s, ?d, ?a, ?n, ?t, ?m⟩; (case g => k_is); (case k => k_is); (case s => k_is); (case d => k_is); (case a => k_is); (case n => k_is); (case t => k_is); (case m => k_is))
    (case wg => k_is)
    (case wb => k_is)
    (case wt => refine' ⟨?d, ?t, ?r⟩; (case d => k_is); (case t => k_is); (case r => k_is))
    (case ws => k_is)
    (case xt_NoAmount => refine' ⟨?d, ?t, ?r⟩; (case d => k_is); (case t => k_is); (case r => k_is))
    (case xs_NoRow_NoAmount => k_is)
    (case xt_NoChain => refine' ⟨?d, ?t, ?r⟩; (case d => k_is); (case t => k_is); (case r => k_is))
    (case xs_NoRow_NoChain => k_is)
    (case xt_NoHouse => refine' ⟨?d, ?t, ?r⟩; (case d => k_is); (case t => k_is); (case r => k_is))
    (case xs_NoRow_NoHouse => k_is)
    (case xt_NoRoom => refine' ⟨?d, ?t, ?r⟩; (case d => k_is); (case t => k_is); (case r => k_is))
    (case xs_NoRow_NoRoom => k_is)
    (case xt_NoRow => refine' ⟨?d, ?t, ?r⟩; (case d => k_is); (case t => k_is); (case r => k_is))
    (case xt_NoWish => refine' ⟨?d, ?t, ?r⟩; (case d => k_is); (case t => k_is); (case r => k_is))
    (case xs_NoRow_NoWish => k_is)
    (case xt_StillOwes => refine' ⟨?d, ?t, ?r⟩; (case d => k_is); (case t => k_is); (case r => k_is))
    (case xs_NoRow_StillOwes => k_is)
    (case xt_TooLow => refine' ⟨?d, ?t, ?r⟩; (case d => k_is); (case t => k_is); (case r => k_is))
    (case xs_NoRow_TooLow => k_is)
    (case xt_TooMany => refine' ⟨?d, ?t, ?r⟩; (case d => k_is); (case t => k_is); (case r => k_is))
    (case xs_NoRow_TooMany => k_is)
    (case xt_TooMuch => refine' ⟨?d, ?t, ?r⟩; (case d => k_is); (case t => k_is); (case r => k_is))
    (case xs_NoRow_TooMuch => k_is)
    (case xt_Twice => refine' ⟨?d, ?t, ?r⟩; (case d => k_is); (case t => k_is); (case r => k_is))
    (case xs_NoRow_Twice => k_is)
    (case xs_NoRow_ValueError => k_is)
    (case gc_Deed => k_is)
    (case ci_Deed => refine' ⟨?pg, ?hd, ?po, ?sa, ?ha, ?hn, ?ht, ?hm, ?mk, ?kc⟩; (case pg => k_is); (case hd => k_is); (case po => k_is); (case sa => k_is); (case ha => k_is); (case hn => k_is); (case ht => k_is); (case hm => k_is); (case mk => k_is); (case kc => k_is))
    (case gc_Join => k_is)
    (case ci_Join => refine' ⟨?pg, ?hd, ?po, ?sa, ?ha, ?hn, ?ht, ?hm, ?mk, ?kc⟩; (case pg => k_is); (case hd => k_is); (case po => k_is); (case sa => k_is); (case ha => k_is); (case hn => k_is); (case ht => k_is); (case hm => k_is); (case mk => k_is); (case kc => k_is))
    (case na_Join => intro f hf; simp only [Wk.flds, List.mem_cons, List.not_mem_nil, or_false] at hf; subst hf; unfold L2.NoAttr; k_is)
    (case gc_Leave => k_is)
    (case ci_Leave => refine' ⟨?pg, ?hd, ?po, ?sa, ?ha, ?hn, ?ht, ?hm, ?mk, ?kc⟩; (case pg => k_is); (case hd => k_is); (case po => k_is); (case sa => k_is); (case ha => k_is); (case hn => k_is); (case ht => k_is); (case hm => k_is); (case mk => k_is); (case kc => k_is))
    (case na_Leave => intro f hf; simp only [Wk.flds, List.mem_cons, List.not_mem_nil, or_false] at hf; subst hf; unfold L2.NoAttr; k_is)
    (case gc_Trust => k_is)
    (case ci_Trust => refine' ⟨?pg, ?hd, ?po, ?sa, ?ha, ?hn, ?ht, ?hm, ?mk, ?kc⟩; (case pg => k_is); (case hd => k_is); (case po => k_is); (case sa => k_is); (case ha => k_is); (case hn => k_is); (case ht => k_is); (case hm => k_is); (case mk => k_is); (case kc => k_is))
    (case na_Trust => intro f hf; simp only [Wk.flds, List.mem_cons, List.not_mem_nil, or_false] at hf; rcases hf with rfl | rfl | rfl <;> (unfold L2.NoAttr; k_is))
    (case gc_Pay => k_is)
    (case ci_Pay => refine' ⟨?pg, ?hd, ?po, ?sa, ?ha, ?hn, ?ht, ?hm, ?mk, ?kc⟩; (case pg => k_is); (case hd => k_is); (case po => k_is); (case sa => k_is); (case ha => k_is); (case hn => k_is); (case ht => k_is); (case hm => k_is); (case mk => k_is); (case kc => k_is))
    (case na_Pay => intro f hf; simp only [Wk.flds, List.mem_cons, List.not_mem_nil, or_false] at hf; rcases hf with rfl | rfl | rfl <;> (unfold L2.NoAttr; k_is))
    (case gc_Turn => k_is)
    (case ci_Turn => refine' ⟨?pg, ?hd, ?po, ?sa, ?ha, ?hn, ?ht, ?hm, ?mk, ?kc⟩; (case pg => k_is); (case hd => k_is); (case po => k_is); (case sa => k_is); (case ha => k_is); (case hn => k_is); (case ht => k_is); (case hm => k_is); (case mk => k_is); (case kc => k_is))
    (case na_Turn => intro f hf; simp only [Wk.flds, List.mem_cons, List.not_mem_nil, or_false] at hf; rcases hf with rfl | rfl <;> (unfold L2.NoAttr; k_is))
    (case i_Join => refine' Wk.metIn ?a ?i ?l ?c ?k; (case a => k_is); (case i => k_is); (case l => k_is); (case c => k_is); (case k => k_is))
    (case i_Leave => refine' Wk.metIn ?a ?i ?l ?c ?k; (case a => k_is); (case i => k_is); (case l => k_is); (case c => k_is); (case k => k_is))
    (case i_Trust => refine' Wk.metIn ?a ?i ?l ?c ?k; (case a => k_is); (case i => k_is); (case l => k_is); (case c => k_is); (case k => k_is))
    (case i_Pay => refine' Wk.metIn ?a ?i ?l ?c ?k; (case a => k_is); (case i => k_is); (case l => k_is); (case c => k_is); (case k => k_is))
    (case i_Turn => refine' Wk.metIn ?a ?i ?l ?c ?k; (case a => k_is); (case i => k_is); (case l => k_is); (case c => k_is); (case k => k_is))
    (case d_law_cell_at => refine' Wk.defIn ?a ?l ?c ?k; (case a => k_is); (case l => k_is); (case c => k_is); (case k => k_is))
    (case d_law_name => refine' Wk.defIn ?a ?l ?c ?k; (case a => k_is); (case l => k_is); (case c => k_is); (case k => k_is))
    (case d_law_two => refine' Wk.defIn ?a ?l ?c ?k; (case a => k_is); (case l => k_is); (case c => k_is); (case k => k_is))
    (case d_law_number => refine' Wk.defIn ?a ?l ?c ?k; (case a => k_is); (case l => k_is); (case c => k_is); (case k => k_is))
    (case d_law_ring => refine' Wk.defIn ?a ?l ?c ?k; (case a => k_is); (case l => k_is); (case c => k_is); (case k => k_is))
    (case d_law_made => refine' Wk.defIn ?a ?l ?c ?k; (case a => k_is); (case l => k_is); (case c => k_is); (case k => k_is))
    (case d_law_words => refine' Wk.defIn ?a ?l ?c ?k; (case a => k_is); (case l => k_is); (case c => k_is); (case k => k_is))
    (case d_law_spoiled => refine' Wk.defIn ?a ?l ?c ?k; (case a => k_is); (case l => k_is); (case c => k_is); (case k => k_is))
    (case d_is_name => refine' Wk.defIn ?a ?l ?c ?k; (case a => k_is); (case l => k_is); (case c => k_is); (case k => k_is))
    (case d_two_unlike => refine' Wk.defIn ?a ?l ?c ?k; (case a => k_is); (case l => k_is); (case c => k_is); (case k => k_is))
    (case d_number_of => refine' Wk.defIn ?a ?l ?c ?k; (case a => k_is); (case l => k_is); (case c => k_is); (case k => k_is))
    (case d_is_line => refine' Wk.defIn ?a ?l ?c ?k; (case a => k_is); (case l => k_is); (case c => k_is); (case k => k_is))
    (case d_is_amount => refine' Wk.defIn ?a ?l ?c ?k; (case a => k_is); (case l => k_is); (case c => k_is); (case k => k_is))
    (case d_all_names => refine' Wk.defIn ?a ?l ?c ?k; (case a => k_is); (case l => k_is); (case c => k_is); (case k => k_is))
    (case d_deed_of => refine' Wk.defIn ?a ?l ?c ?k; (case a => k_is); (case l => k_is); (case c => k_is); (case k => k_is))
    (case d_read => refine' Wk.defIn ?a ?l ?c ?k; (case a => k_is); (case l => k_is); (case c => k_is); (case k => k_is))
    (case d_law_told => refine' Wk.defIn ?a ?l ?c ?k; (case a => k_is); (case l => k_is); (case c => k_is); (case k => k_is))
    (case d_law_word => refine' Wk.defIn ?a ?l ?c ?k; (case a => k_is); (case l => k_is); (case c => k_is); (case k => k_is))
    (case d_law_houses => refine' Wk.defIn ?a ?l ?c ?k; (case a => k_is); (case l => k_is); (case c => k_is); (case k => k_is))
    (case d_law_figures => refine' Wk.defIn ?a ?l ?c ?k; (case a => k_is); (case l => k_is); (case c => k_is); (case k => k_is))
    (case d_law_good => refine' Wk.defIn ?a ?l ?c ?k; (case a => k_is); (case l => k_is); (case c => k_is); (case k => k_is))
    (case t_Turn_row => refine' Wk.metIn ?a ?i ?l ?c ?k; (case a => k_is); (case i => k_is); (case l => k_is); (case c => k_is); (case k => k_is))
    (case t_Pay_row => refine' Wk.metIn ?a ?i ?l ?c ?k; (case a => k_is); (case i => k_is); (case l => k_is); (case c => k_is); (case k => k_is))
    (case t_Trust_row => refine' Wk.metIn ?a ?i ?l ?c ?k; (case a => k_is); (case i => k_is); (case l => k_is); (case c => k_is); (case k => k_is))
    (case t_Leave_row => refine' Wk.metIn ?a ?i ?l ?c ?k; (case a => k_is); (case i => k_is); (case l => k_is); (case c => k_is); (case k => k_is))
    (case t_Join_row => refine' Wk.metIn ?a ?i ?l ?c ?k; (case a => k_is); (case i => k_is); (case l => k_is); (case c => k_is); (case k => k_is))
    (case t_Deed_row => refine' Wk.metIn ?a ?i ?l ?c ?k; (case a => k_is); (case i => k_is); (case l => k_is); (case c => k_is); (case k => k_is))
    (case d_law => refine' Wk.defIn ?a ?l ?c ?k; (case a => k_is); (case l => k_is); (case c => k_is); (case k => k_is))
#print axioms PySem.Challenge.cw_trustways_k81_rows_refused_holds
