import PyProof.Rows.All
import Wide.All
import OpenK.AllK
import Wide.FinOn
import HandS.ForMost
import HandS.Exc
import HandS.TryOnly
import HandS.ExcOwn
import HandS.WordsExc
import HandS.CallSlots
import HandS.Wide
import HandS.IsInst
import PyProof.StrBlock2
import HandS.TupLen
import PySem.Challenge.RW_trustways_k01_names_amounts_lines
set_option Elab.async false
set_option linter.all false
set_option maxRecDepth 100000
set_option maxHeartbeats 4000000
/-! Pure values, their representation over the abstract heap, the mirror's monad, the judgements. -/
namespace Wk
open PySem PySem.Spec PyProof.Rows L2

/-! ### classes of the program -/
inductive Cl where
  | book | deed | join | leave | trust | pay | turn | desk
  deriving DecidableEq, Repr
inductive Ex where
  | noHouse | twice | noAmount | tooLow | noChain | noRoom | tooMuch | noWish | stillOwes | tooMany | noRow
  deriving DecidableEq, Repr
def flds : Cl → List Str
  | .book => ["houses", "lines", "owed"]
  | .deed => []
  | .join => ["house"]
  | .leave => ["house"]
  | .trust => ["one", "other", "line"]
  | .pay => ["payer", "taker", "amount"]
  | .turn => ["ring", "amount"]
  | .desk => ["book"]

/-! ### pure values -/
inductive D where
  | non | bl (b : Bool) | int (i : Int) | str (x : Str)
  | lst (xs : List D) | tup (xs : List D)
  /-- t: keys are tuples; else each key is the one item of its list -/
  | dct (t : Bool) (kvs : List (List Key × D))
  | ins (c : Cl) (xs : List D)
  /-- the script -/
  | scr (ns : List Int)
instance : Inhabited D := ⟨.non⟩

/-- what stands at a program point in a slot: a value that is not written to, or an object of the def's own -/
inductive T where
  | sh (d : D)
  | oL (ts : List T)
  | oD (t : Bool) (kvs : List (List Key × D))
mutual
def T.toD : T → D
  | .sh d => d
  | .oL ts => .lst (T.toDs ts)
  | .oD t kvs => .dct t kvs
def T.toDs : List T → List D
  | [] => []
  | t :: ts => t.toD :: T.toDs ts
end

/-! ### the mirror's monads: of expressions, of statements -/
inductive X (α : Type) where
  | ok (a : α) | exc (c : Ex) | bad
inductive M (α : Type) where
  | ok (a : α) | ret (t : T) | exc (c : Ex) | bad
def X.bind {α β : Type} (m : X α) (f : α → X β) : X β :=
  match m with
  | .ok a => f a
  | .exc c => .exc c
  | .bad => .bad
/-- an expression, then what a statement does with it -/
def X.to {α β : Type} (m : X α) (f : α → M β) : M β :=
  match m with
  | .ok a => f a
  | .exc c => .exc c
  | .bad => .bad
def M.bind {α β : Type} (m : M α) (f : α → M β) : M β :=
  match m with
  | .ok a => f a
  | .ret t => .ret t
  | .exc c => .exc c
  | .bad => .bad
def X.of {α : Type} : Option α → X α
  | some a => .ok a
  | none => .bad
/-- what a call hands back -/
def M.fn (m : M Unit) : X D :=
  match m with
  | .ok _ => .ok .non
  | .ret t => .ok t.toD
  | .exc c => .exc c
  | .bad => .bad
def M.fnT (m : M Unit) : X T :=
  match m with
  | .ok _ => .ok (.sh .non)
  | .ret t => .ok t
  | .exc c => .exc c
  | .bad => .bad

/-! ### heaps -/
def isDct : HO → Bool
  | .dK _ => true
  | .dT _ => true
  | _ => false
def isTup : HO → Bool
  | .tup _ => true
  | _ => false
/-- all that G knows is in H (a dict may be locked) -/
def Le (G H : Hp) : Prop := ∀ a o, G a = some o → H a = some o ∨ (isDct o = true ∧ ∃ ob, H a = some (.frz ob o))
theorem Le.refl (G : Hp) : Le G G := fun _ _ h => .inl h
theorem Le.trans {A B C : Hp} (x : Le A B) (y : Le B C) : Le A C := fun a o h => by
  rcases x a o h with h1 | ⟨d, ob, h1⟩
  · exact y a o h1
  · rcases y a _ h1 with h2 | ⟨d2, _⟩
    · exact .inr ⟨d, ob, h2⟩
    · exact absurd (show false = true from d2) Bool.false_ne_true
theorem Le.of_same {A B : Hp} (x : Same A B) : Le A B := fun a o h => .inl (x a o h)
theorem Le.at {G H : Hp} (x : Le G H) {a : Addr} {o : HO} (h : G a = some o) (hd : isDct o = false) : H a = some o := by
  rcases x a o h with h1 | ⟨d, _⟩
  · exact h1
  · rw [hd] at d; cases d
theorem Le.rd {G H : Hp} (x : Le G H) {a : Addr} {o : HO} (h : Rd G a o) : Rd H a o := by
  rcases h with h | ⟨ob, h⟩
  · rcases x a o h with h1 | ⟨_, ob, h1⟩
    · exact .inl h1
    · exact .inr ⟨ob, h1⟩
  · exact .inr ⟨ob, x.at h rfl⟩
theorem Le.sqL {K : PySem.W.Frag} {G H : Hp} (x : Le G H) {a : Addr} {vs : List V} (h : SqL K G a vs) : SqL K H a vs := by
  rcases h with h | h
  · exact .inl (x.rd h)
  · exact .inr h
theorem Le.none {G H : Hp} (x : Le G H) {a : Addr} (h : H a = none) : G a = none := by
  cases e : G a with
  | none => rfl
  | some o =>
    rcases x a o e with h1 | ⟨_, ob, h1⟩ <;> · rw [h] at h1; cases h1

/-- neither a dict nor a locked one -/
def plain : HO → Bool
  | .dK _ => false
  | .dT _ => false
  | .frz _ u => plain u
  | _ => true
/-- what G tells of values holds in H -/
structure Lq (G H : Hp) : Prop where
  x : ∀ a o, G a = some o → plain o = true → H a = some o
  d : ∀ a u, isDct u = true → Rd G a u → Rd H a u
theorem Le.lq {G H : Hp} (x : Le G H) : Lq G H where
  x := fun a o h p => by
    rcases x a o h with h1 | ⟨d, _⟩
    · exact h1
    · cases o <;> first
        | exact absurd (show false = true from p) Bool.false_ne_true
        | exact absurd (show false = true from d) Bool.false_ne_true
  d := fun a u _ h => x.rd h
theorem Lq.at {G H : Hp} (x : Lq G H) {a : Addr} {o : HO} (h : G a = some o) (hd : plain o = true) : H a = some o := x.x a o h hd
theorem Lq.sqL {K : PySem.W.Frag} {G H : Hp} (x : Lq G H) {a : Addr} {vs : List V} (h : SqL K G a vs) : SqL K H a vs := by
  rcases h with (h | ⟨ob, h⟩) | h
  · exact .inl (.inl (x.at h rfl))
  · exact .inl (.inr ⟨ob, x.at h rfl⟩)
  · exact .inr h
theorem Lq.refl (G : Hp) : Lq G G := (Le.refl G).lq

/-- from (G, H) on: nothing in H is changed, G grows by what is new in H, or by tuples -/
structure Nxt (G H G2 H2 : Hp) : Prop where
  g : Le G G2
  gh : Le G2 H2
  h : Same H H2
  nw : ∀ p o, G p = none → H p = some o → isTup o = false → G2 p = none
theorem Nxt.refl {G H : Hp} (x : Le G H) : Nxt G H G H := ⟨Le.refl _, x, Same.refl _, fun _ _ h _ _ => h⟩
theorem Nxt.trans {G H G2 H2 G3 H3 : Hp} (x : Nxt G H G2 H2) (y : Nxt G2 H2 G3 H3) : Nxt G H G3 H3 :=
  ⟨x.g.trans y.g, y.gh, x.h.trans y.h, fun p o a b c => y.nw p o (x.nw p o a b c) (x.h p o b) c⟩
/-- a new object that is known -/
theorem Nxt.new {G H G2 H2 : Hp} (x : Nxt G H G2 H2) {p : Addr} {o : HO} (hp : H2 p = none) : Nxt G H (upd G2 p o) (upd H2 p o) := by
  have gp : G2 p = none := x.gh.none hp
  refine ⟨fun a u e => ?_, fun a u e => ?_, fun a u e => ?_, fun q u a b c => ?_⟩
  · rcases x.g a u e with h1 | ⟨d, ob, h1⟩
    · exact .inl (by rw [upd_ne (ne_of_none h1 gp)]; exact h1)
    · exact .inr ⟨d, ob, by rw [upd_ne (ne_of_none h1 gp)]; exact h1⟩
  · by_cases z : a = p
    · subst z; rw [upd_same] at e; cases e; exact .inl upd_same
    · rw [upd_ne z] at e
      rw [upd_ne z]
      exact x.gh a u e
  · rw [upd_ne (ne_of_none (x.h a u e) hp)]; exact x.h a u e
  · have hq : H2 q = some u := x.h q u b
    rw [upd_ne (ne_of_none hq hp)]
    exact x.nw q u a b c
/-- a new object that is not known -/
theorem Nxt.newO {G H G2 H2 : Hp} (x : Nxt G H G2 H2) {p : Addr} {o : HO} (hp : H2 p = none) : Nxt G H G2 (upd H2 p o) :=
  ⟨x.g, fun a u e => by
    have z : G2 p = none := x.gh.none hp
    rw [upd_ne (ne_of_none e z)]; exact x.gh a u e,
   fun a u e => by rw [upd_ne (ne_of_none (x.h a u e) hp)]; exact x.h a u e, x.nw⟩

/-! ### what represents what -/
structure Zs where
  K : PySem.W.Frag
  cc : Cl → Addr
  ce : Ex → Addr
/-- a dict of the pairs ws at a -/
def RdD (G : Hp) (a : Addr) (t : Bool) (ws : List (List Key × V)) : Prop :=
  match t with
  | true => Rd G a (.dT ws)
  | false => ∃ us : List (Key × V), ws = us.map (fun p => ([p.1], p.2)) ∧ Rd G a (.dK us)
theorem RdD.mono {G H : Hp} (x : Lq G H) {a : Addr} {t : Bool} {ws : List (List Key × V)} (h : RdD G a t ws) : RdD H a t ws := by
  cases t with
  | true => exact x.d _ _ rfl h
  | false => obtain ⟨us, e, r⟩ := h; exact ⟨us, e, x.d _ _ rfl r⟩
mutual
def Rp (Z : Zs) (G : Hp) : D → V → Prop
  | .non, v => v = .non
  | .bl b, v => v = .bl b
  | .int i, v => v = .int i
  | .str x, v => v = .str x
  | .lst xs, v => ∃ a vs, v = .ref a ∧ G a = some (.lst vs) ∧ RpL Z G xs vs
  | .tup xs, v => ∃ a vs, v = .ref a ∧ G a = some (.tup vs) ∧ RpL Z G xs vs
  | .dct t kvs, v => ∃ a ws, v = .ref a ∧ RdD G a t ws ∧ RpK Z G kvs ws
  | .ins c xs, v => ∃ a dx vs, v = .ref a ∧ G a = some (.ins (Z.cc c) dx ((flds c).zip vs)) ∧ xs.length = (flds c).length ∧ RpL Z G xs vs
  | .scr ns, v => ∃ a, v = .ref a ∧ SqL Z.K G a (ns.map V.int)
def RpL (Z : Zs) (G : Hp) : List D → List V → Prop
  | [], vs => vs = []
  | x :: xs, vs => ∃ v r, vs = v :: r ∧ Rp Z G x v ∧ RpL Z G xs r
def RpK (Z : Zs) (G : Hp) : List (List Key × D) → List (List Key × V) → Prop
  | [], ws => ws = []
  | p :: xs, ws => ∃ v r, ws = (p.1, v) :: r ∧ RpP Z G p v ∧ RpK Z G xs r
def RpP (Z : Zs) (G : Hp) : List Key × D → V → Prop
  | (_, d), v => Rp Z G d v
end
mutual
theorem Rp.mono {Z : Zs} {G H : Hp} (e : Lq G H) : ∀ {d : D} {v : V}, Rp Z G d v → Rp Z H d v
  | .non, _, h => h
  | .bl _, _, h => h
  | .int _, _, h => h
  | .str _, _, h => h
  | .lst xs, _, h => by
    unfold Rp at h ⊢
    obtain ⟨a, vs, r, g, l⟩ := h
    exact ⟨a, vs, r, e.at g rfl, RpL.mono e l⟩
  | .tup xs, _, h => by
    unfold Rp at h ⊢
    obtain ⟨a, vs, r, g, l⟩ := h
    exact ⟨a, vs, r, e.at g rfl, RpL.mono e l⟩
  | .dct t kvs, _, h => by
    unfold Rp at h ⊢
    obtain ⟨a, vs, r, g, l⟩ := h
    exact ⟨a, vs, r, g.mono e, RpK.mono e l⟩
  | .ins c xs, _, h => by
    unfold Rp at h ⊢
    obtain ⟨a, dx, vs, r, g, n, l⟩ := h
    exact ⟨a, dx, vs, r, e.at g rfl, n, RpL.mono e l⟩
  | .scr ns, _, h => by
    unfold Rp at h ⊢
    obtain ⟨a, r, g⟩ := h
    exact ⟨a, r, e.sqL g⟩
theorem RpL.mono {Z : Zs} {G H : Hp} (e : Lq G H) : ∀ {ds : List D} {vs : List V}, RpL Z G ds vs → RpL Z H ds vs
  | [], _, h => h
  | d :: ds, _, h => by
    unfold RpL at h ⊢
    obtain ⟨v, r, q, a, b⟩ := h
    exact ⟨v, r, q, Rp.mono e a, RpL.mono e b⟩
theorem RpK.mono {Z : Zs} {G H : Hp} (e : Lq G H) : ∀ {ds : List (List Key × D)} {vs : List (List Key × V)}, RpK Z G ds vs → RpK Z H ds vs
  | [], _, h => h
  | p :: ds, _, h => by
    unfold RpK at h ⊢
    obtain ⟨v, r, q, a, b⟩ := h
    exact ⟨v, r, q, RpP.mono e a, RpK.mono e b⟩
theorem RpP.mono {Z : Zs} {G H : Hp} (e : Lq G H) : ∀ {p : List Key × D} {v : V}, RpP Z G p v → RpP Z H p v
  | (_, d), _, h => by
    unfold RpP at h ⊢
    exact Rp.mono e h
end
end Wk

namespace Wk
open PySem PySem.Spec PyProof.Rows L2

/-! ### slots -/
def ExD (H : Hp) (a : Addr) (t : Bool) (ws : List (List Key × V)) : Prop :=
  match t with
  | true => H a = some (.dT ws)
  | false => ∃ us : List (Key × V), ws = us.map (fun p => ([p.1], p.2)) ∧ H a = some (.dK us)
theorem ExD.rd {H : Hp} {a : Addr} {t : Bool} {ws : List (List Key × V)} (h : ExD H a t ws) : RdD H a t ws := by
  cases t with
  | true => exact .inl h
  | false => obtain ⟨us, e, r⟩ := h; exact ⟨us, e, .inl r⟩
theorem ExD.some {H : Hp} {a : Addr} {t : Bool} {ws : List (List Key × V)} (h : ExD H a t ws) : ∃ o, H a = some o ∧ isTup o = false := by
  cases t with
  | true => exact ⟨_, h, rfl⟩
  | false => obtain ⟨us, e, r⟩ := h; exact ⟨_, r, rfl⟩
theorem ExD.keep {H H' : Hp} {a : Addr} {t : Bool} {ws : List (List Key × V)} (h : ExD H a t ws) (k : ∀ o, H a = Option.some o → H' a = Option.some o) : ExD H' a t ws := by
  cases t with
  | true => exact k _ h
  | false => obtain ⟨us, e, r⟩ := h; exact ⟨us, e, k _ r⟩
mutual
def Tv (Z : Zs) (G H : Hp) : T → V → List Addr → Prop
  | .sh d, v, fp => Rp Z G d v ∧ fp = []
  | .oL ts, v, fp => ∃ p vs r, v = .ref p ∧ G p = none ∧ H p = some (.lst vs) ∧ fp = p :: r ∧ TvL Z G H ts vs r
  | .oD t kvs, v, fp => ∃ p ws, v = .ref p ∧ G p = none ∧ ExD H p t ws ∧ RpK Z G kvs ws ∧ fp = [p]
def TvL (Z : Zs) (G H : Hp) : List T → List V → List Addr → Prop
  | [], vs, fp => vs = [] ∧ fp = []
  | t :: ts, vs, fp => ∃ v r f g, vs = v :: r ∧ fp = f ++ g ∧ Tv Z G H t v f ∧ TvL Z G H ts r g
end
abbrev Env := List (Option T)
def EnvR (Z : Zs) (G H : Hp) : Env → L2.St → List Addr → Prop
  | [], σ, fp => σ = [] ∧ fp = []
  | none :: τ, σ, fp => ∃ v r, σ = v :: r ∧ EnvR Z G H τ r fp
  | some t :: τ, σ, fp => ∃ v r f g, σ = some v :: r ∧ fp = f ++ g ∧ Tv Z G H t v f ∧ EnvR Z G H τ r g

mutual
/-- G grows off the footprint, H keeps it -/
theorem Tv.keep {Z : Zs} {G H G' H' : Hp} (g : Lq G G') : ∀ {t : T} {v : V} {fp : List Addr}, Tv Z G H t v fp → (∀ p ∈ fp, G p = none → G' p = none) → (∀ p ∈ fp, ∀ o, H p = some o → H' p = some o) → Tv Z G' H' t v fp
  | .sh d, v, fp, h, _, _ => by
    unfold Tv at h ⊢
    exact ⟨Rp.mono g h.1, h.2⟩
  | .oL ts, v, fp, h, a, b => by
    unfold Tv at h ⊢
    obtain ⟨p, vs, r, e1, e2, e3, e4, l⟩ := h
    subst e4
    exact ⟨p, vs, r, e1, a p List.mem_cons_self e2, b p List.mem_cons_self _ e3, rfl, TvL.keep g l (fun q hq => a q (List.mem_cons_of_mem _ hq)) fun q hq => b q (List.mem_cons_of_mem _ hq)⟩
  | .oD t kvs, v, fp, h, a, b => by
    unfold Tv at h ⊢
    obtain ⟨p, ws, e1, e2, e3, e4, e5⟩ := h
    subst e5
    exact ⟨p, ws, e1, a p List.mem_cons_self e2, e3.keep (b p List.mem_cons_self), RpK.mono g e4, rfl⟩
theorem TvL.keep {Z : Zs} {G H G' H' : Hp} (g : Lq G G') : ∀ {ts : List T} {vs : List V} {fp : List Addr}, TvL Z G H ts vs fp → (∀ p ∈ fp, G p = none → G' p = none) → (∀ p ∈ fp, ∀ o, H p = some o → H' p = some o) → TvL Z G' H' ts vs fp
  | [], vs, fp, h, _, _ => by unfold TvL at h ⊢; exact h
  | t :: ts, vs, fp, h, a, b => by
    unfold TvL at h ⊢
    obtain ⟨v, r, f, q, e1, e2, e3, e4⟩ := h
    subst e2
    exact ⟨v, r, f, q, e1, rfl, Tv.keep g e3 (fun p hp => a p (List.mem_append_left _ hp)) (fun p hp => b p (List.mem_append_left _ hp)),
      TvL.keep g e4 (fun p hp => a p (List.mem_append_right _ hp)) (fun p hp => b p (List.mem_append_right _ hp))⟩
end
mutual
/-- what is owned is not known, and stands -/
theorem Tv.own {Z : Zs} {G H : Hp} : ∀ {t : T} {v : V} {fp : List Addr}, Tv Z G H t v fp → ∀ p ∈ fp, G p = none ∧ ∃ o, H p = some o ∧ isTup o = false
  | .sh d, v, fp, h => by
    unfold Tv at h
    intro p hp; rw [h.2] at hp; cases hp
  | .oL ts, v, fp, h => by
    unfold Tv at h
    obtain ⟨p, vs, r, e1, e2, e3, e4, l⟩ := h
    subst e4
    intro q hq
    rcases List.mem_cons.mp hq with z | z
    · subst z; exact ⟨e2, _, e3, rfl⟩
    · exact TvL.own l q z
  | .oD t kvs, v, fp, h => by
    unfold Tv at h
    obtain ⟨p, ws, e1, e2, e3, e4, e5⟩ := h
    subst e5
    intro q hq
    have z : q = p := List.mem_singleton.mp hq
    subst z
    exact ⟨e2, e3.some⟩
theorem TvL.own {Z : Zs} {G H : Hp} : ∀ {ts : List T} {vs : List V} {fp : List Addr}, TvL Z G H ts vs fp → ∀ p ∈ fp, G p = none ∧ ∃ o, H p = some o ∧ isTup o = false
  | [], vs, fp, h => by
    unfold TvL at h
    intro p hp; rw [h.2] at hp; cases hp
  | t :: ts, vs, fp, h => by
    unfold TvL at h
    obtain ⟨v, r, f, q, e1, e2, e3, e4⟩ := h
    subst e2
    intro p hp
    rcases List.mem_append.mp hp with z | z
    · exact Tv.own e3 p z
    · exact TvL.own e4 p z
end
/-- the owned objects are laid open: G with those of fp as they stand in H -/
def opn (G H : Hp) (fp : List Addr) : Hp := fun a => if a ∈ fp then H a else G a
theorem opn_in {G H : Hp} {fp : List Addr} {a : Addr} (h : a ∈ fp) : opn G H fp a = H a := by unfold opn; rw [if_pos h]
theorem opn_out {G H : Hp} {fp : List Addr} {a : Addr} (h : a ∉ fp) : opn G H fp a = G a := by unfold opn; rw [if_neg h]
theorem opn_le {G H : Hp} {fp : List Addr} (h : ∀ p ∈ fp, G p = none) : Le G (opn G H fp) := fun a o e => by
  by_cases z : a ∈ fp
  · rw [h a z] at e; cases e
  · exact .inl (by rw [opn_out z]; exact e)
theorem le_opn {G H : Hp} {fp : List Addr} (l : Le G H) : Le (opn G H fp) H := fun a o e => by
  by_cases z : a ∈ fp
  · rw [opn_in z] at e; exact .inl e
  · rw [opn_out z] at e; exact l a o e
mutual
theorem Tv.freeze {Z : Zs} {G H : Hp} {fs : List Addr} (hf : ∀ p ∈ fs, G p = none) : ∀ {t : T} {v : V} {fp : List Addr}, Tv Z G H t v fp → (∀ p ∈ fp, p ∈ fs) → Rp Z (opn G H fs) t.toD v
  | .sh d, v, fp, h, _ => by
    unfold Tv at h
    unfold T.toD
    exact Rp.mono (opn_le hf).lq h.1
  | .oL ts, v, fp, h, a => by
    unfold Tv at h
    obtain ⟨p, vs, r, e1, e2, e3, e4, l⟩ := h
    subst e4
    unfold T.toD Rp
    exact ⟨p, vs, e1, by rw [opn_in (a p List.mem_cons_self)]; exact e3, TvL.freeze hf l fun q hq => a q (List.mem_cons_of_mem _ hq)⟩
  | .oD t kvs, v, fp, h, a => by
    unfold Tv at h
    obtain ⟨p, ws, e1, e2, e3, e4, e5⟩ := h
    subst e5
    unfold T.toD Rp
    exact ⟨p, ws, e1, (e3.keep (H' := opn G H fs) fun o z => by rw [opn_in (a p List.mem_cons_self)]; exact z).rd, RpK.mono (opn_le hf).lq e4⟩
theorem TvL.freeze {Z : Zs} {G H : Hp} {fs : List Addr} (hf : ∀ p ∈ fs, G p = none) : ∀ {ts : List T} {vs : List V} {fp : List Addr}, TvL Z G H ts vs fp → (∀ p ∈ fp, p ∈ fs) → RpL Z (opn G H fs) (T.toDs ts) vs
  | [], vs, fp, h, _ => by
    unfold TvL at h
    unfold T.toDs RpL
    exact h.1
  | t :: ts, vs, fp, h, a => by
    unfold TvL at h
    obtain ⟨v, r, f, q, e1, e2, e3, e4⟩ := h
    subst e2
    unfold T.toDs RpL
    exact ⟨v, r, e1, Tv.freeze hf e3 fun p hp => a p (List.mem_append_left _ hp), TvL.freeze hf e4 fun p hp => a p (List.mem_append_right _ hp)⟩
end

theorem EnvR.keep {Z : Zs} {G H G' H' : Hp} (g : Lq G G') : ∀ {τ : Env} {σ : L2.St} {fp : List Addr}, EnvR Z G H τ σ fp → (∀ p ∈ fp, G p = none → G' p = none) → (∀ p ∈ fp, ∀ o, H p = some o → H' p = some o) → EnvR Z G' H' τ σ fp
  | [], σ, fp, h, _, _ => h
  | none :: τ, σ, fp, h, a, b => by
    unfold EnvR at h ⊢
    obtain ⟨v, r, e, q⟩ := h
    exact ⟨v, r, e, EnvR.keep g q a b⟩
  | some t :: τ, σ, fp, h, a, b => by
    unfold EnvR at h ⊢
    obtain ⟨v, r, f, q, e1, e2, e3, e4⟩ := h
    subst e2
    exact ⟨v, r, f, q, e1, rfl, e3.keep g (fun p hp => a p (List.mem_append_left _ hp)) (fun p hp => b p (List.mem_append_left _ hp)),
      EnvR.keep g e4 (fun p hp => a p (List.mem_append_right _ hp)) (fun p hp => b p (List.mem_append_right _ hp))⟩
theorem EnvR.own {Z : Zs} {G H : Hp} : ∀ {τ : Env} {σ : L2.St} {fp : List Addr}, EnvR Z G H τ σ fp → ∀ p ∈ fp, G p = none ∧ ∃ o, H p = some o ∧ isTup o = false
  | [], σ, fp, h => by
    unfold EnvR at h
    intro p hp; rw [h.2] at hp; cases hp
  | none :: τ, σ, fp, h => by
    unfold EnvR at h
    obtain ⟨v, r, e, q⟩ := h
    exact q.own
  | some t :: τ, σ, fp, h => by
    unfold EnvR at h
    obtain ⟨v, r, f, q, e1, e2, e3, e4⟩ := h
    subst e2
    intro p hp
    rcases List.mem_append.mp hp with z | z
    · exact e3.own p z
    · exact e4.own p z
theorem EnvR.nxt {Z : Zs} {G H G' H' : Hp} (x : Nxt G H G' H') {τ : Env} {σ : L2.St} {fp : List Addr} (h : EnvR Z G H τ σ fp) : EnvR Z G' H' τ σ fp :=
  h.keep x.g.lq (fun p hp _ => by obtain ⟨a, o, b, c⟩ := h.own p hp; exact x.nw p o a b c) fun p _ o e => x.h p o e
theorem EnvR.len {Z : Zs} {G H : Hp} : ∀ {τ : Env} {σ : L2.St} {fp : List Addr}, EnvR Z G H τ σ fp → σ.length = τ.length
  | [], σ, fp, h => by unfold EnvR at h; rw [h.1]; rfl
  | none :: τ, σ, fp, h => by
    unfold EnvR at h
    obtain ⟨v, r, e, q⟩ := h
    rw [e, List.length_cons, q.len, List.length_cons]
  | some t :: τ, σ, fp, h => by
    unfold EnvR at h
    obtain ⟨v, r, f, q, e1, e2, e3, e4⟩ := h
    rw [e1, List.length_cons, e4.len, List.length_cons]
/-- the slot i -/
theorem EnvR.get {Z : Zs} {G H : Hp} : ∀ {τ : Env} {σ : L2.St} {fp : List Addr} {i : Nat} {t : T}, EnvR Z G H τ σ fp → τ[i]? = some (some t) → ∃ v f, σ[i]? = some (some v) ∧ Tv Z G H t v f ∧ ∀ p ∈ f, p ∈ fp
  | [], σ, fp, i, t, h, e => by simp at e
  | none :: τ, σ, fp, 0, t, h, e => by simp at e
  | none :: τ, σ, fp, i + 1, t, h, e => by
    unfold EnvR at h
    obtain ⟨v, r, e1, q⟩ := h
    obtain ⟨w, f, a, b, c⟩ := q.get (i := i) (t := t) (by simpa using e)
    exact ⟨w, f, by rw [e1]; simpa using a, b, c⟩
  | some t' :: τ, σ, fp, 0, t, h, e => by
    unfold EnvR at h
    obtain ⟨v, r, f, q, e1, e2, e3, e4⟩ := h
    have z : t' = t := by simpa using e
    subst z
    exact ⟨v, f, by rw [e1]; rfl, e3, fun p hp => by rw [e2]; exact List.mem_append_left _ hp⟩
  | some t' :: τ, σ, fp, i + 1, t, h, e => by
    unfold EnvR at h
    obtain ⟨v, r, f, q, e1, e2, e3, e4⟩ := h
    obtain ⟨w, f', a, b, c⟩ := e4.get (i := i) (t := t) (by simpa using e)
    exact ⟨w, f', by rw [e1]; simpa using a, b, fun p hp => by rw [e2]; exact List.mem_append_right _ (c p hp)⟩

/-- a state: what was at the beginning (GB, B), what is known, what is, the slots -/
def Stt (Z : Zs) (GB B G H : Hp) (σ : L2.St) (τ : Env) : Prop := Nxt GB B G H ∧ ∃ fp, EnvR Z G H τ σ fp ∧ fp.Nodup ∧ ∀ p ∈ fp, B p = none
theorem Stt.nxt {Z : Zs} {GB B G H G' H' : Hp} {σ : L2.St} {τ : Env} (s : Stt Z GB B G H σ τ) (x : Nxt G H G' H') : Stt Z GB B G' H' σ τ := by
  obtain ⟨a, fp, b, c, d⟩ := s
  exact ⟨a.trans x, fp, b.nxt x, c, d⟩
theorem Stt.same {Z : Zs} {GB B G H H' : Hp} {σ : L2.St} {τ : Env} (s : Stt Z GB B G H σ τ) (x : Same H H') : Stt Z GB B G H' σ τ :=
  s.nxt ⟨Le.refl _, s.1.gh.trans (Le.of_same x), x, fun _ _ a _ _ => a⟩

/-! ### weaker words of the slots -/
/-- kept, forgotten, or laid open -/
inductive SubL : Env → Env → Prop where
  | n : SubL [] []
  | s {a : Option T} {τ τ' : Env} : SubL τ τ' → SubL (a :: τ) (a :: τ')
  | d {a : Option T} {τ τ' : Env} : SubL τ τ' → SubL (a :: τ) (none :: τ')
  | f {t : T} {d : D} {τ τ' : Env} : SubL τ τ' → d = t.toD → SubL (some t :: τ) (some (.sh d) :: τ')
theorem SubL.refl : ∀ τ : Env, SubL τ τ
  | [] => .n
  | _ :: r => .s (SubL.refl r)
theorem SubL.run {Z : Zs} {G H : Hp} (l : Le G H) {τ τ' : Env} (s : SubL τ τ') : ∀ {σ : L2.St} {fp : List Addr}, EnvR Z G H τ σ fp → fp.Nodup →
    ∃ fs fp' : List Addr, (∀ p ∈ fs, p ∈ fp) ∧ (∀ p ∈ fp', p ∈ fp) ∧ fp'.Nodup ∧ (∀ p ∈ fs, p ∉ fp') ∧ ∀ gs : List Addr, (∀ p ∈ gs, G p = none) → (∀ p ∈ fs, p ∈ gs) → (∀ p ∈ fp', p ∉ gs) → EnvR Z (opn G H gs) H τ' σ fp' := by
  induction s with
  | n =>
    intro σ fp h nd
    unfold EnvR at h
    exact ⟨[], [], by simp, by simp, List.nodup_nil, by simp, fun gs _ _ _ => ⟨h.1, rfl⟩⟩
  | @s a τ τ' _ ih =>
    intro σ fp h nd
    cases a with
    | none =>
      unfold EnvR at h
      obtain ⟨v, r, e, q⟩ := h
      obtain ⟨fs, fp', a, b, c, d, k⟩ := ih q nd
      exact ⟨fs, fp', a, b, c, d, fun gs g1 g2 g3 => ⟨v, r, e, k gs g1 g2 g3⟩⟩
    | some t =>
      unfold EnvR at h
      obtain ⟨v, r, f, q, e1, e2, e3, e4⟩ := h
      subst e2
      obtain ⟨nf, nq, dj⟩ := List.nodup_append.mp nd
      obtain ⟨fs, fp', a, b, c, d, k⟩ := ih e4 nq
      refine ⟨fs, f ++ fp', fun p hp => List.mem_append_right _ (a p hp), fun p hp => ?_, ?_, fun p hp hq => ?_, fun gs g1 g2 g3 => ?_⟩
      · rcases List.mem_append.mp hp with z | z
        · exact List.mem_append_left _ z
        · exact List.mem_append_right _ (b p z)
      · exact List.nodup_append.mpr ⟨nf, c, fun x hx y hy => dj x hx y (b y hy)⟩
      · rcases List.mem_append.mp hq with z | z
        · exact dj p z p (a p hp) rfl
        · exact d p hp z
      · refine ⟨v, r, f, fp', e1, rfl, e3.keep (opn_le g1).lq (fun p hp z => ?_) (fun p hp o z => z), k gs g1 g2 fun p hp => g3 p (List.mem_append_right _ hp)⟩
        rw [opn_out (g3 p (List.mem_append_left _ hp))]
        exact z
  | @d a τ τ' _ ih =>
    intro σ fp h nd
    cases a with
    | none =>
      unfold EnvR at h
      obtain ⟨v, r, e, q⟩ := h
      obtain ⟨fs, fp', a, b, c, d, k⟩ := ih q nd
      exact ⟨fs, fp', a, b, c, d, fun gs g1 g2 g3 => ⟨v, r, e, k gs g1 g2 g3⟩⟩
    | some t =>
      unfold EnvR at h
      obtain ⟨v, r, f, q, e1, e2, e3, e4⟩ := h
      subst e2
      obtain ⟨nf, nq, dj⟩ := List.nodup_append.mp nd
      obtain ⟨fs, fp', a, b, c, d, k⟩ := ih e4 nq
      exact ⟨fs, fp', fun p hp => List.mem_append_right _ (a p hp), fun p hp => List.mem_append_right _ (b p hp), c, d, fun gs g1 g2 g3 => ⟨some v, r, e1, k gs g1 g2 g3⟩⟩
  | @f t d τ τ' _ ed ih =>
    intro σ fp h nd
    subst ed
    unfold EnvR at h
    obtain ⟨v, r, f, q, e1, e2, e3, e4⟩ := h
    subst e2
    obtain ⟨nf, nq, dj⟩ := List.nodup_append.mp nd
    obtain ⟨fs, fp', a, b, c, d, k⟩ := ih e4 nq
    refine ⟨f ++ fs, fp', fun p hp => ?_, fun p hp => List.mem_append_right _ (b p hp), c, fun p hp hq => ?_, fun gs g1 g2 g3 => ?_⟩
    · rcases List.mem_append.mp hp with z | z
      · exact List.mem_append_left _ z
      · exact List.mem_append_right _ (a p z)
    · rcases List.mem_append.mp hp with z | z
      · exact dj p z p (b p hq) rfl
      · exact d p z hq
    · unfold EnvR
      refine ⟨v, r, [], fp', e1, rfl, ⟨e3.freeze g1 fun p hp => g2 p (List.mem_append_left _ hp), rfl⟩, k gs g1 (fun p hp => g2 p (List.mem_append_right _ hp)) g3⟩
theorem Stt.sub {Z : Zs} {GB B G H : Hp} {σ : L2.St} {τ τ' : Env} (x : Stt Z GB B G H σ τ) (s : SubL τ τ') : ∃ G', Stt Z GB B G' H σ τ' := by
  obtain ⟨n, fp, e, nd, fr⟩ := x
  obtain ⟨fs, fp', a, b, c, d, k⟩ := s.run n.gh e nd
  have gn : ∀ p ∈ fs, G p = none := fun p hp => (e.own p (a p hp)).1
  refine ⟨opn G H fs, ⟨n.g.trans (opn_le gn), le_opn n.gh, n.h, fun p o g b' t => ?_⟩, fp', k fs gn (fun _ h => h) (fun p hp hq => d p hq hp), c, fun p hp => fr p (b p hp)⟩
  have z : p ∉ fs := fun hp => by rw [fr p (a p hp)] at b'; cases b'
  rw [opn_out z]
  exact n.nw p o g b' t
end Wk

namespace Wk
open PySem PySem.Spec PyProof.Rows L2

/-! ### an expression's judgement -/
def Res (Z : Zs) (w : WX) {α : Type} (σ : L2.St) (G H : Hp) (m : X α) (k : α → Hp → Hp → Prop) : Prop :=
  match m with
  | .ok a => ∀ G2 H2, Nxt G H G2 H2 → k a G2 H2
  | .exc c => ∀ H2, Same H H2 → w (.ref (Z.ce c)) none σ H2
  | .bad => False
section
variable {Z : Zs} {w : WX} {α β : Type} {σ : L2.St} {G H : Hp} {m : X α} {f : α → X β}
theorem Res.bind {k : β → Hp → Hp → Prop} (h : Res Z w σ G H (m.bind f) k) : Res Z w σ G H m (fun a G2 H2 => Res Z w σ G2 H2 (f a) k) := by
  cases m with
  | ok a =>
    intro G2 H2 x
    have h' : Res Z w σ G H (f a) k := h
    show Res Z w σ G2 H2 (f a) k
    cases e : f a with
    | ok b => rw [e] at h'; exact fun G3 H3 y => h' G3 H3 (x.trans y)
    | exc c => rw [e] at h'; exact fun H3 y => h' H3 (x.h.trans y)
    | bad => rw [e] at h'; exact h'
  | exc c => exact h
  | bad => exact h
theorem Res.imp {k k' : α → Hp → Hp → Prop} (h : Res Z w σ G H m k) (i : ∀ a G2 H2, Nxt G H G2 H2 → k a G2 H2 → k' a G2 H2) : Res Z w σ G H m k' := by
  cases m with
  | ok a => exact fun G2 H2 x => i a G2 H2 x (h G2 H2 x)
  | exc c => exact h
  | bad => exact h
theorem Res.now {a : α} {k : α → Hp → Hp → Prop} (l : Le G H) (h : Res Z w σ G H (.ok a) k) : k a G H := h G H (Nxt.refl l)
end
/-- the reading t gives what m tells -/
def EV (Z : Zs) (w : WX) {α β : Type} (t : L2.St → Hp → (β → Hp → Prop) → Prop) (R : Hp → α → β → Prop) (τ : Env) (m : X α) : Prop :=
  ∀ G H σ fp, Le G H → EnvR Z G H τ σ fp → ∀ Q : β → Hp → Prop, Res Z w σ G H m (fun a G2 H2 => ∀ b, R G2 a b → Q b H2) → t σ H Q
abbrev EE (Z : Zs) (w : WX) (te : TE) (τ : Env) (m : X D) : Prop := EV Z w te (fun G d v => Rp Z G d v) τ m
abbrev ET (Z : Zs) (w : WX) (tt : TT) (τ : Env) (m : X Bool) : Prop := EV Z w tt (fun _ b c => c = b) τ m
abbrev EA (Z : Zs) (w : WX) (ta : TA) (τ : Env) (m : X (List D)) : Prop := EV Z w ta (fun G ds vs => RpL Z G ds vs) τ m
abbrev EO (Z : Zs) (w : WX) (to : TO) (τ : Env) (m : X (Option Int)) : Prop := EV Z w to (fun _ a b => b = a) τ m

/-! values of values: an operation on two, on one, on a list -/
def OpD (Z : Zs) (r : R2) (f : D → D → X D) : Prop :=
  ∀ (w : WX) (σ : L2.St) (G H : Hp) (x y : D) (v u : V), Le G H → Rp Z G x v → Rp Z G y u → ∀ Q : VK, Res Z w σ G H (f x y) (fun d G2 H2 => ∀ b, Rp Z G2 d b → Q b H2) → r v u H Q
def UnD (Z : Zs) (r : V → Hp → VK → Prop) (f : D → X D) : Prop :=
  ∀ (w : WX) (σ : L2.St) (G H : Hp) (x : D) (v : V), Le G H → Rp Z G x v → ∀ Q : VK, Res Z w σ G H (f x) (fun d G2 H2 => ∀ b, Rp Z G2 d b → Q b H2) → r v H Q
def CaD (Z : Zs) (r : List V → Hp → VK → Prop) (f : List D → X D) : Prop :=
  ∀ (w : WX) (σ : L2.St) (G H : Hp) (xs : List D) (vs : List V), Le G H → RpL Z G xs vs → ∀ Q : VK, Res Z w σ G H (f xs) (fun d G2 H2 => ∀ b, Rp Z G2 d b → Q b H2) → r vs H Q

section
variable {Z : Zs} {w : WX} {τ : Env} {ta tb te : TE} {ma mb me : X D} {t u : TT} {mt mu : X Bool}
theorem RpL.cons {G : Hp} {d : D} {ds : List D} {v : V} {vs : List V} (h : Rp Z G d v) (t : RpL Z G ds vs) : RpL Z G (d :: ds) (v :: vs) := by unfold RpL; exact ⟨v, vs, rfl, h, t⟩
theorem RpL.nil {G : Hp} : RpL Z G [] [] := by unfold RpL; rfl
theorem RpL.length {G : Hp} : ∀ {ds : List D} {vs : List V}, RpL Z G ds vs → vs.length = ds.length
  | [], vs, h => by unfold RpL at h; rw [h]; rfl
  | d :: ds, vs, h => by
    unfold RpL at h
    obtain ⟨v, r, e, _, q⟩ := h
    rw [e, List.length_cons, q.length, List.length_cons]
theorem RpL.get {G : Hp} : ∀ {ds : List D} {vs : List V} {i : Nat} {d : D}, RpL Z G ds vs → ds[i]? = some d → ∃ v, vs[i]? = some v ∧ Rp Z G d v
  | [], vs, i, d, h, e => by simp at e
  | x :: ds, vs, 0, d, h, e => by
    unfold RpL at h
    obtain ⟨v, r, e1, a, q⟩ := h
    have z : x = d := by simpa using e
    subst z
    exact ⟨v, by rw [e1]; rfl, a⟩
  | x :: ds, vs, i + 1, d, h, e => by
    unfold RpL at h
    obtain ⟨v, r, e1, a, q⟩ := h
    obtain ⟨v', b, c⟩ := q.get (i := i) (d := d) (by simpa using e)
    exact ⟨v', by rw [e1]; simpa using b, c⟩
theorem RpL.at {G : Hp} {ds : List D} {vs : List V} {i : Nat} {v : V} (h : RpL Z G ds vs) (e : vs[i]? = some v) : ∃ d, ds[i]? = some d ∧ Rp Z G d v := by
  have hl : i < ds.length := by rw [← h.length]; exact (List.getElem?_eq_some_iff.mp e).1
  obtain ⟨v', b, c⟩ := h.get (i := i) (d := ds[i]) (List.getElem?_eq_getElem hl)
  rw [e] at b; cases b
  exact ⟨_, List.getElem?_eq_getElem hl, c⟩
theorem RpL.append {G : Hp} : ∀ {ds es : List D} {vs us : List V}, RpL Z G ds vs → RpL Z G es us → RpL Z G (ds ++ es) (vs ++ us)
  | [], es, vs, us, h, k => by unfold RpL at h; rw [h]; exact k
  | d :: ds, es, vs, us, h, k => by
    unfold RpL at h
    obtain ⟨v, r, e, a, q⟩ := h
    rw [e]
    exact RpL.cons a (q.append k)

/-! names, constants -/
theorem ee_var {i : Nat} {d : D} (h : τ[i]? = some (some (.sh d))) : EE Z w (tVar i) τ (.ok d) := fun G H σ fp l e Q q => by
  obtain ⟨v, f, e1, tv, _⟩ := e.get h
  unfold Tv at tv
  exact ⟨v, e1, q.now l v tv.1⟩
theorem ee_int {i : Int} : EE Z w (tC (.int i)) τ (.ok (.int i)) := fun G H σ fp l e Q q => q.now l _ rfl
theorem ee_str {x : PySem.Str} : EE Z w (tC (.str x)) τ (.ok (.str x)) := fun G H σ fp l e Q q => q.now l _ rfl
theorem ee_bl {b : Bool} : EE Z w (tC (.bl b)) τ (.ok (.bl b)) := fun G H σ fp l e Q q => q.now l _ rfl
theorem ee_non : EE Z w (tC .non) τ (.ok .non) := fun G H σ fp l e Q q => q.now l _ rfl

/-! operations -/
theorem ee_op {r : R2} {f : D → D → X D} (hr : OpD Z r f) (ha : EE Z w ta τ ma) (hb : EE Z w tb τ mb) : EE Z w (tOp r ta tb) τ (ma.bind fun x => mb.bind fun y => f x y) := fun G H σ fp l e Q q => by
  refine ha G H σ fp l e _ (q.bind.imp fun x G2 H2 n2 q2 v rv => ?_)
  refine hb G2 H2 σ fp n2.gh (e.nxt n2) _ (q2.bind.imp fun y G3 H3 n3 q3 u ru => ?_)
  exact hr w σ G3 H3 x y v u n3.gh (rv.mono n3.g.lq) ru Q q3
theorem ee_un {r : V → Hp → VK → Prop} {f : D → X D} (hr : UnD Z r f) (ha : EE Z w ta τ ma) : EE Z w (tUn r ta) τ (ma.bind f) := fun G H σ fp l e Q q => by
  refine ha G H σ fp l e _ (q.bind.imp fun x G2 H2 n2 q2 v rv => ?_)
  exact hr w σ G2 H2 x v n2.gh rv Q q2
/-! lists of arguments, displays -/
theorem ea_nil : EA Z w tNil τ (.ok []) := fun G H σ fp l e Q q => q.now l _ RpL.nil
theorem ea_cons {tr : TA} {mr : X (List D)} (ha : EE Z w ta τ ma) (hr : EA Z w tr τ mr) : EA Z w (tCons ta tr) τ (ma.bind fun x => mr.bind fun xs => .ok (x :: xs)) := fun G H σ fp l e Q q => by
  refine ha G H σ fp l e _ (q.bind.imp fun x G2 H2 n2 q2 v rv => ?_)
  refine hr G2 H2 σ fp n2.gh (e.nxt n2) _ (q2.bind.imp fun xs G3 H3 n3 q3 vs rvs => ?_)
  exact q3.now n3.gh _ (RpL.cons (rv.mono n3.g.lq) rvs)
theorem ee_cb {r : List V → Hp → VK → Prop} {f : List D → X D} {tr : TA} {mr : X (List D)} (hr : CaD Z r f) (ha : EA Z w tr τ mr) : EE Z w (tCB r tr) τ (mr.bind f) := fun G H σ fp l e Q q => by
  refine ha G H σ fp l e _ (q.bind.imp fun x G2 H2 n2 q2 v rv => ?_)
  exact hr w σ G2 H2 x v n2.gh rv Q q2
def dLst (xs : List D) : X D := if xs.length ≤ 1000000 then .ok (.lst xs) else .bad
def dTup (xs : List D) : X D := if xs.length ≤ 1000000 then .ok (.tup xs) else .bad
theorem sz6 {n : Nat} (h : n ≤ 1000000) : n ≤ sizeLine := Nat.le_trans h (by decide)
theorem sz6l {n : Nat} (h : n < 1000000) : n < sizeLine := Nat.lt_of_lt_of_le h (by decide)
theorem ee_lst {tr : TA} {mr : X (List D)} (hr : EA Z w tr τ mr) : EE Z w (tLst tr) τ (mr.bind dLst) := fun G H σ fp l e Q q => by
  refine hr G H σ fp l e _ (q.bind.imp fun xs G2 H2 n2 q2 vs rvs => ?_)
  unfold dLst at q2
  by_cases h : xs.length ≤ 1000000
  · rw [if_pos h] at q2
    refine ⟨by rw [rvs.length]; exact sz6 h, fun p hp => ?_⟩
    have n3 := (Nxt.refl n2.gh).new (o := .lst vs) hp
    refine q2 _ _ n3 _ ?_
    unfold Rp
    exact ⟨p, vs, rfl, upd_same, rvs.mono n3.g.lq⟩
  · rw [if_neg h] at q2; exact False.elim q2
theorem ee_tup {tr : TA} {mr : X (List D)} (hr : EA Z w tr τ mr) : EE Z w (tTup tr) τ (mr.bind dTup) := fun G H σ fp l e Q q => by
  refine hr G H σ fp l e _ (q.bind.imp fun xs G2 H2 n2 q2 vs rvs => ?_)
  unfold dTup at q2
  by_cases h : xs.length ≤ 1000000
  · rw [if_pos h] at q2
    refine ⟨by rw [rvs.length]; exact sz6 h, fun p hp => ?_⟩
    have n3 := (Nxt.refl n2.gh).new (o := .tup vs) hp
    refine q2 _ _ n3 _ ?_
    unfold Rp
    exact ⟨p, vs, rfl, upd_same, rvs.mono n3.g.lq⟩
  · rw [if_neg h] at q2; exact False.elim q2

/-! truth -/
def dB (d : D) : X Bool := match d with
  | .bl b => .ok b
  | _ => .bad
theorem dB_ok {d : D} {σ : L2.St} {G H : Hp} {k : Bool → Hp → Hp → Prop} (q : Res Z w σ G H (dB d) k) : ∃ b, d = .bl b ∧ Res Z w σ G H (.ok b) k := by
  cases d <;> first
    | exact ⟨_, rfl, q⟩
    | exact False.elim q
theorem et_B (h : EE Z w te τ me) : ET Z w (tB te) τ (me.bind dB) := fun G H σ fp l e Q q => by
  refine h G H σ fp l e _ (q.bind.imp fun d G2 H2 n2 q2 v rv => ?_)
  obtain ⟨b, rfl, q3⟩ := dB_ok q2
  exact ⟨b, rv, q3.now n2.gh _ rfl⟩
theorem et_test (h : EE Z w te τ me) : ET Z w (tTest te) τ (me.bind dB) := et_B h
theorem et_and (h1 : ET Z w t τ mt) (h2 : ET Z w u τ mu) : ET Z w (tAnd t u) τ (mt.bind fun b => bif b then mu else .ok false) := fun G H σ fp l e Q q => by
  refine h1 G H σ fp l e _ (q.bind.imp fun b G2 H2 n2 q2 c rc => ?_)
  subst rc
  cases c with
  | true => exact h2 G2 H2 σ fp n2.gh (e.nxt n2) Q q2
  | false => exact q2.now n2.gh _ rfl
theorem et_or (h1 : ET Z w t τ mt) (h2 : ET Z w u τ mu) : ET Z w (tOr t u) τ (mt.bind fun b => bif b then .ok true else mu) := fun G H σ fp l e Q q => by
  refine h1 G H σ fp l e _ (q.bind.imp fun b G2 H2 n2 q2 c rc => ?_)
  subst rc
  cases c with
  | false => exact h2 G2 H2 σ fp n2.gh (e.nxt n2) Q q2
  | true => exact q2.now n2.gh _ rfl
theorem et_not (h1 : ET Z w t τ mt) : ET Z w (tNot t) τ (mt.bind fun b => .ok !b) := fun G H σ fp l e Q q => by
  refine h1 G H σ fp l e _ (q.bind.imp fun b G2 H2 n2 q2 c rc => ?_)
  subst rc
  exact q2.now n2.gh _ rfl
theorem ee_andV (h1 : EE Z w ta τ ma) (h2 : EE Z w tb τ mb) : EE Z w (tAndV ta tb) τ ((ma.bind dB).bind fun b => bif b then mb else .ok (.bl false)) := fun G H σ fp l e Q q => by
  refine h1 G H σ fp l e _ (q.bind.bind.imp fun d G2 H2 n2 q2 v rv => ?_)
  obtain ⟨b, rfl, q3⟩ := dB_ok q2
  refine ⟨b, rv, ?_⟩
  cases b with
  | true => exact h2 G2 H2 σ fp n2.gh (e.nxt n2) Q (q3.now n2.gh)
  | false => exact (q3.now n2.gh).now n2.gh _ rfl
theorem ee_orV (h1 : EE Z w ta τ ma) (h2 : EE Z w tb τ mb) : EE Z w (tOrV ta tb) τ ((ma.bind dB).bind fun b => bif b then .ok (.bl true) else mb) := fun G H σ fp l e Q q => by
  refine h1 G H σ fp l e _ (q.bind.bind.imp fun d G2 H2 n2 q2 v rv => ?_)
  obtain ⟨b, rfl, q3⟩ := dB_ok q2
  refine ⟨b, rv, ?_⟩
  cases b with
  | false => exact h2 G2 H2 σ fp n2.gh (e.nxt n2) Q (q3.now n2.gh)
  | true => exact (q3.now n2.gh).now n2.gh _ rfl
theorem ee_notV (h1 : EE Z w ta τ ma) : EE Z w (tNotV ta) τ ((ma.bind dB).bind fun b => .ok (.bl !b)) := fun G H σ fp l e Q q => by
  refine h1 G H σ fp l e _ (q.bind.bind.imp fun d G2 H2 n2 q2 v rv => ?_)
  obtain ⟨b, rfl, q3⟩ := dB_ok q2
  exact ⟨b, rv, (q3.now n2.gh).now n2.gh _ rfl⟩
theorem ee_if (h : ET Z w t τ mt) (h1 : EE Z w ta τ ma) (h2 : EE Z w tb τ mb) : EE Z w (tIf t ta tb) τ (mt.bind fun b => bif b then ma else mb) := fun G H σ fp l e Q q => by
  refine h G H σ fp l e _ (q.bind.imp fun b G2 H2 n2 q2 c rc => ?_)
  subst rc
  cases c with
  | true => exact h1 G2 H2 σ fp n2.gh (e.nxt n2) Q q2
  | false => exact h2 G2 H2 σ fp n2.gh (e.nxt n2) Q q2

/-! an owned object is read for something flat -/
def flatD : D → Bool
  | .non => true
  | .bl _ => true
  | .int _ => true
  | .str _ => true
  | _ => false
theorem flat_rp {G G' : Hp} {d : D} {v : V} (h : flatD d = true) (r : Rp Z G d v) : Rp Z G' d v := by
  cases d <;> first
    | exact r
    | cases h
def frz (τ : Env) : Env := τ.map fun o => o.map fun t => .sh t.toD
def X.flat (m : X D) : X D := m.bind fun d => bif flatD d then .ok d else .bad
theorem EnvR.frz {G H : Hp} {fs : List Addr} (hf : ∀ p ∈ fs, G p = none) : ∀ {τ : Env} {σ : L2.St} {fp : List Addr}, EnvR Z G H τ σ fp → (∀ p ∈ fp, p ∈ fs) → EnvR Z (opn G H fs) H (frz τ) σ []
  | [], σ, fp, h, _ => by
    unfold EnvR at h
    exact ⟨h.1, rfl⟩
  | none :: τ, σ, fp, h, a => by
    unfold EnvR at h
    obtain ⟨v, r, e, q⟩ := h
    exact ⟨v, r, e, q.frz hf a⟩
  | some t :: τ, σ, fp, h, a => by
    unfold EnvR at h
    obtain ⟨v, r, f, q, e1, e2, e3, e4⟩ := h
    subst e2
    exact ⟨v, r, [], [], e1, rfl, ⟨e3.freeze hf fun p hp => a p (List.mem_append_left _ hp), rfl⟩, e4.frz hf fun p hp => a p (List.mem_append_right _ hp)⟩
/-- G is held back: what is new in G2 beside the owned ones is dropped -/
theorem Nxt.back {G H G2 H2 : Hp} {fs : List Addr} (l : Le G H) (x : Nxt (opn G H fs) H G2 H2) : Nxt G H G H2 :=
  ⟨Le.refl _, l.trans (Le.of_same x.h), x.h, fun p o a _ _ => a⟩
theorem ev_bor {α β : Type} {tt : L2.St → Hp → (β → Hp → Prop) → Prop} {R : Hp → α → β → Prop} {m : X α} (h : EV Z w tt R (frz τ) m) (hR : ∀ G G' a b, R G a b → R G' a b) : EV Z w tt R τ m := fun G H σ fp l e Q q => by
  have own := fun p hp => (e.own p hp).1
  refine h (opn G H fp) H σ [] (le_opn l) (e.frz own fun _ h => h) Q ?_
  cases m with
  | ok a =>
    intro G2 H2 x b rb
    exact q G H2 (x.back l) b (hR _ _ _ _ rb)
  | exc c => exact q
  | bad => exact q
theorem et_bor {m : X Bool} (h : ET Z w t (frz τ) m) : ET Z w t τ m := ev_bor h fun _ _ _ _ z => z
theorem ee_bor (h : EE Z w te (frz τ) me) : EE Z w te τ me.flat := fun G H σ fp l e Q q => by
  have own := fun p hp => (e.own p hp).1
  have q := Res.bind q
  refine h (opn G H fp) H σ [] (le_opn l) (e.frz own fun _ h => h) Q ?_
  cases me with
  | ok a =>
    intro G2 H2 x b rb
    have q2 := q G H2 (x.back l)
    have q2' : Res Z w σ G H2 (bif flatD a then X.ok a else X.bad) fun a G2 H2 => ∀ b : V, Rp Z G2 a b → Q b H2 := q2
    cases hf : flatD a with
    | true =>
      rw [hf] at q2'
      exact Res.now (l.trans (Le.of_same x.h)) q2' b (flat_rp hf rb)
    | false =>
      rw [hf] at q2'
      exact False.elim q2'
  | exc c => exact q
  | bad => exact q
end

/-! ### calls of the program's defs -/
/-- the promise that a def does what its mirror does -/
def spM (Z : Zs) (f : List D → M Unit) : Sp := fun vs H Q E => ∃ G ds, Le G H ∧ RpL Z G ds vs ∧
  match f ds with
  | .ok _ => ∀ G2 H2, Nxt G H G2 H2 → Q .non H2
  | .ret t => ∀ v G2 H2 fp, Nxt G H G2 H2 → Tv Z G2 H2 t v fp → fp.Nodup → (∀ p ∈ fp, H p = none) → Q v H2
  | .exc c => ∀ H2, Same H H2 → E (.ref (Z.ce c)) none H2
  | .bad => False
section
variable {Z : Zs} {w : WX} {τ : Env}
/-- a new owned object may be laid open -/
theorem Nxt.opn {G H G2 H2 : Hp} {fp : List Addr} (x : Nxt G H G2 H2) (h : ∀ p ∈ fp, H p = none) (h0 : ∀ p ∈ fp, G2 p = none) : Nxt G H (Wk.opn G2 H2 fp) H2 :=
  ⟨x.g.trans (opn_le h0), le_opn x.gh, x.h, fun p o a b c => by
    have z : p ∉ fp := fun hp => by rw [h p hp] at b; cases b
    rw [opn_out z]; exact x.nw p o a b c⟩
theorem ee_call {f : List D → M Unit} {E : XK} {ta : TA} {ma : X (List D)} (ha : EA Z w ta τ ma) (hw : ∀ σ c H, w (.ref (Z.ce c)) none σ H → E (.ref (Z.ce c)) none H) : EE Z w (tCall (spM Z f) [] E ta) τ (ma.bind fun ds => (f ds).fn) := fun G H σ fp l e Q q => by
  refine ha G H σ fp l e _ (q.bind.imp fun ds G2 H2 n2 q2 vs rvs => ?_)
  show spM Z f (vs ++ []) H2 Q E
  rw [List.append_nil]
  refine ⟨G2, ds, n2.gh, rvs, ?_⟩
  cases e1 : f ds with
  | ok a =>
    rw [e1] at q2
    exact fun G3 H3 n3 => q2 G3 H3 n3 _ rfl
  | ret t =>
    rw [e1] at q2
    intro v G3 H3 fp3 n3 tv nd fr
    have own := fun p hp => (tv.own p hp).1
    exact q2 (opn G3 H3 fp3) H3 (n3.opn fr own) v (tv.freeze own fun _ h => h)
  | exc c =>
    rw [e1] at q2
    exact fun H3 s => hw _ _ _ (q2 H3 s)
  | bad =>
    rw [e1] at q2
    exact q2
end

/-! ### a statement's judgement -/
structure Wh where
  w : WX
  px : Option Env
def PXi (Z : Zs) (GB B H2 : Hp) (σ2 : L2.St) : Option Env → Prop
  | none => True
  | some τ => ∃ G2, Stt Z GB B G2 H2 σ2 τ
def Out (Z : Zs) (w : Wh) (GB B G : Hp) {S : Type} (m : M S) (env : S → Env) (D : Ends) : Prop :=
  match m with
  | .ok s => ∀ G2 H2 σ2, Le G G2 → Stt Z GB B G2 H2 σ2 (env s) → D.nx σ2 H2
  | .ret t => ∀ v G2 H2 fp, Nxt GB B G2 H2 → Tv Z G2 H2 t v fp → fp.Nodup → (∀ p ∈ fp, B p = none) → D.rt v H2
  | .exc c => ∀ H2 σ2, Same B H2 → PXi Z GB B H2 σ2 w.px → w.w (.ref (Z.ce c)) none σ2 H2
  | .bad => False
def SS (Z : Zs) (w : Wh) (ts : TS) (τ : Env) {S : Type} (m : M S) (env : S → Env) : Prop :=
  ∀ GB B G H σ, Stt Z GB B G H σ τ → ∀ D : Ends, Out Z w GB B G m env D → ts D σ H
def SubX (τ : Env) : Option Env → Prop
  | none => True
  | some τ' => SubL τ τ'
section
variable {Z : Zs} {w : Wh} {τ : Env} {S S' U : Type} {te : TE} {me : X D}
theorem SubX.run {GB B G H : Hp} {σ : L2.St} (s : Stt Z GB B G H σ τ) {o : Option Env} (x : SubX τ o) : PXi Z GB B H σ o := by
  cases o with
  | none => trivial
  | some τ' => exact s.sub x
theorem Out.bind {GB B G : Hp} {m1 : M S} {m2 : S → M S'} {env1 : S → Env} {env : S' → Env} {D : Ends} {nx' : L2.St → Hp → Prop} (h : Out Z w GB B G (m1.bind m2) env D)
    (k : ∀ s G2 H2 σ2, Le G G2 → Stt Z GB B G2 H2 σ2 (env1 s) → Out Z w GB B G2 (m2 s) env D → nx' σ2 H2) : Out Z w GB B G m1 env1 { D with nx := nx' } := by
  cases m1 with
  | ok s =>
    intro G2 H2 σ2 l st
    refine k s G2 H2 σ2 l st ?_
    have h' : Out Z w GB B G (m2 s) env D := h
    cases e : m2 s with
    | ok s' => rw [e] at h'; exact fun G3 H3 σ3 l3 st3 => h' G3 H3 σ3 (l.trans l3) st3
    | exc c => rw [e] at h'; exact h'
    | ret t => rw [e] at h'; exact h'
    | bad => rw [e] at h'; exact h'
  | exc c => exact h
  | ret t => exact h
  | bad => exact h
/-- an expression ahead of what a statement does with it -/
theorem EV.out {α β : Type} {t : L2.St → Hp → (β → Hp → Prop) → Prop} {R : Hp → α → β → Prop} {m : X α} {f : α → M S} {env : S → Env} (he : EV Z w.w t R τ m) (hx : SubX τ w.px) {GB B G H : Hp} {σ : L2.St} (st : Stt Z GB B G H σ τ) {D : Ends}
    (o : Out Z w GB B G (m.to f) env D) {Q : β → Hp → Prop} (k : ∀ a b G2 H2, Le G G2 → Stt Z GB B G2 H2 σ τ → R G2 a b → Out Z w GB B G2 (f a) env D → Q b H2) : t σ H Q := by
  obtain ⟨n, fp, e, nd, fr⟩ := st
  refine he G H σ fp n.gh e Q ?_
  cases m with
  | ok a =>
    intro G2 H2 x b rb
    have st2 : Stt Z GB B G2 H2 σ τ := ⟨n.trans x, fp, e.nxt x, nd, fr⟩
    refine k a b G2 H2 x.g st2 rb ?_
    have h' : Out Z w GB B G (f a) env D := o
    cases e : f a with
    | ok s' => rw [e] at h'; exact fun G3 H3 σ3 l3 st3 => h' G3 H3 σ3 (x.g.trans l3) st3
    | exc c => rw [e] at h'; exact h'
    | ret t => rw [e] at h'; exact h'
    | bad => rw [e] at h'; exact h'
  | exc c =>
    intro H2 s
    exact o H2 σ (n.h.trans s) (SubX.run (Stt.same ⟨n, fp, e, nd, fr⟩ s) hx)
  | bad => exact o
end
end Wk

namespace Wk
open PySem PySem.Spec PyProof.Rows L2

/-! ### statements -/
theorem EnvR.set {Z : Zs} {G H : Hp} {t : T} {v : V} {f : List Addr} (tv : Tv Z G H t v f) (nf : f.Nodup) : ∀ {τ : Env} {σ : L2.St} {fp : List Addr} {i : Nat}, EnvR Z G H τ σ fp → fp.Nodup → (∀ p ∈ f, p ∉ fp) →
    ∃ fp', EnvR Z G H (τ.set i (some t)) (σ.set i (some v)) fp' ∧ fp'.Nodup ∧ ∀ p ∈ fp', p ∈ fp ∨ p ∈ f
  | [], σ, fp, i, h, nd, dj => by
    unfold EnvR at h
    obtain ⟨e1, e2⟩ := h
    subst e1; subst e2
    exact ⟨[], ⟨rfl, rfl⟩, List.nodup_nil, fun p hp => by cases hp⟩
  | none :: τ, σ, fp, 0, h, nd, dj => by
    unfold EnvR at h
    obtain ⟨x, r, e1, q⟩ := h
    subst e1
    refine ⟨f ++ fp, ⟨v, r, f, fp, rfl, rfl, tv, q⟩, List.nodup_append.mpr ⟨nf, nd, fun a ha b hb z => dj a ha (by rw [z]; exact hb)⟩, fun p hp => ?_⟩
    rcases List.mem_append.mp hp with z | z
    · exact .inr z
    · exact .inl z
  | some u :: τ, σ, fp, 0, h, nd, dj => by
    unfold EnvR at h
    obtain ⟨x, r, a, b, e1, e2, e3, q⟩ := h
    subst e1; subst e2
    obtain ⟨_, nb, _⟩ := List.nodup_append.mp nd
    refine ⟨f ++ b, ⟨v, r, f, b, rfl, rfl, tv, q⟩, List.nodup_append.mpr ⟨nf, nb, fun c hc d hd z => dj c hc (by rw [z]; exact List.mem_append_right _ hd)⟩, fun p hp => ?_⟩
    rcases List.mem_append.mp hp with z | z
    · exact .inr z
    · exact .inl (List.mem_append_right _ z)
  | none :: τ, σ, fp, i + 1, h, nd, dj => by
    unfold EnvR at h
    obtain ⟨x, r, e1, q⟩ := h
    subst e1
    obtain ⟨fp', a, b, c⟩ := EnvR.set tv nf (i := i) q nd dj
    exact ⟨fp', ⟨x, _, rfl, a⟩, b, c⟩
  | some u :: τ, σ, fp, i + 1, h, nd, dj => by
    unfold EnvR at h
    obtain ⟨x, r, a, b, e1, e2, e3, q⟩ := h
    subst e1; subst e2
    obtain ⟨na, nb, dab⟩ := List.nodup_append.mp nd
    obtain ⟨fp', c1, c2, c3⟩ := EnvR.set tv nf (i := i) q nb fun p hp hq => dj p hp (List.mem_append_right _ hq)
    refine ⟨a ++ fp', ⟨x, _, a, fp', rfl, rfl, e3, c1⟩, List.nodup_append.mpr ⟨na, c2, fun c hc d hd z => ?_⟩, fun p hp => ?_⟩
    · rcases c3 d hd with y | y
      · exact dab c hc d y z
      · exact dj d y (by rw [← z]; exact List.mem_append_left _ hc)
    · rcases List.mem_append.mp hp with z | z
      · exact .inl (List.mem_append_left _ z)
      · rcases c3 p z with y | y
        · exact .inl (List.mem_append_right _ y)
        · exact .inr y
theorem Stt.set {Z : Zs} {GB B G H : Hp} {σ : L2.St} {τ : Env} (s : Stt Z GB B G H σ τ) {i : Nat} {d : D} {v : V} (r : Rp Z G d v) : Stt Z GB B G H (σ.set i (some v)) (τ.set i (some (.sh d))) := by
  obtain ⟨n, fp, e, nd, fr⟩ := s
  obtain ⟨fp', a, b, c⟩ := EnvR.set (t := .sh d) (v := v) (f := []) ⟨r, rfl⟩ List.nodup_nil (i := i) e nd (by simp)
  exact ⟨n, fp', a, b, fun p hp => by
    rcases c p hp with z | z
    · exact fr p z
    · cases z⟩
/-- a new owned object in a slot -/
theorem Stt.setO {Z : Zs} {GB B G H : Hp} {σ : L2.St} {τ : Env} {H0 : Hp} (s : Stt Z GB B G H σ τ) {i : Nat} {t : T} {v : V} {f : List Addr} (tv : Tv Z G H t v f) (nf : f.Nodup) (hb : ∀ p ∈ f, B p = none) (hn : ∀ fp, EnvR Z G H τ σ fp → ∀ p ∈ f, p ∉ fp) : Stt Z GB B G H (σ.set i (some v)) (τ.set i (some t)) := by
  obtain ⟨n, fp, e, nd, fr⟩ := s
  obtain ⟨fp', a, b, c⟩ := EnvR.set tv nf (i := i) e nd (hn fp e)
  exact ⟨n, fp', a, b, fun p hp => by
    rcases c p hp with z | z
    · exact fr p z
    · exact hb p z⟩

section
variable {Z : Zs} {w : Wh} {τ : Env} {S S' U : Type} {te : TE} {me : X D} {t1 t2 : TS} {env : S → Env}
theorem ss_nil {s : S} (h : SubL τ (env s)) : SS Z w tNext τ (.ok s) env := fun GB B G H σ st D o => by
  obtain ⟨n, fp, e, nd, fr⟩ := st
  obtain ⟨fs, fp', a, b, c, d, k⟩ := h.run n.gh e nd
  have gn : ∀ p ∈ fs, G p = none := fun p hp => (e.own p (a p hp)).1
  refine o (opn G H fs) H σ (opn_le gn) ⟨⟨n.g.trans (opn_le gn), le_opn n.gh, n.h, fun p o g b' t => ?_⟩, fp', k fs gn (fun _ h => h) (fun p hp hq => d p hq hp), c, fun p hp => fr p (b p hp)⟩
  have z : p ∉ fs := fun hp => by rw [fr p (a p hp)] at b'; cases b'
  rw [opn_out z]
  exact n.nw p o g b' t
theorem ss_seq {m1 : M S} {env1 : S → Env} {m2 : S → M S'} {env2 : S' → Env} (h1 : SS Z w t1 τ m1 env1) (h2 : ∀ s, SS Z w t2 (env1 s) (m2 s) env2) : SS Z w (tSeq t1 t2) τ (m1.bind m2) env2 := fun GB B G H σ st D o =>
  h1 GB B G H σ st { D with nx := t2 D } (o.bind fun s G2 H2 σ2 l st2 o2 => h2 s GB B G2 H2 σ2 st2 D o2)
/-- an expression, then the rest -/
theorem ss_asg {i : Nat} {f : D → M S} (he : EE Z w.w te τ me) (h2 : ∀ d, SS Z w t2 (τ.set i (some (.sh d))) (f d) env) (hx : SubX τ w.px := by trivial) : SS Z w (tSeq (tAsg te (gName i)) t2) τ (me.to f) env := fun GB B G H σ st D o =>
  EV.out he hx st o fun d v G2 H2 l st2 r o2 => h2 d GB B G2 H2 _ (st2.set r) D o2
theorem ss_asg1 {i : Nat} (he : EE Z w.w te τ me) (hx : SubX τ w.px := by trivial) : SS Z w (tAsg te (gName i)) τ (me.to fun d => .ok d) (fun d => τ.set i (some (.sh d))) := fun GB B G H σ st D o =>
  EV.out he hx st o fun d v G2 H2 l st2 r o2 => o2 G2 H2 _ (Le.refl _) (st2.set r)
theorem ss_drop {f : D → M S} (he : EE Z w.w te τ me) (h2 : ∀ d, SS Z w t2 τ (f d) env) (hx : SubX τ w.px := by trivial) : SS Z w (tSeq (tDrop te) t2) τ (me.to f) env := fun GB B G H σ st D o =>
  EV.out he hx st o fun d v G2 H2 l st2 r o2 => h2 d GB B G2 H2 _ st2 D o2
theorem ss_drop1 (he : EE Z w.w te τ me) (hx : SubX τ w.px := by trivial) : SS Z w (tDrop te) τ (me.to fun _ => .ok ()) (fun _ => τ) := fun GB B G H σ st D o =>
  EV.out he hx st o fun d v G2 H2 l st2 r o2 => o2 G2 H2 _ (Le.refl _) st2
theorem ss_ret (he : EE Z w.w te τ me) (hx : SubX τ w.px := by trivial) : SS Z w (tRet te) τ (me.to fun d => .ret (.sh d)) env := fun GB B G H σ st D o =>
  EV.out he hx st o fun d v G2 H2 l st2 r o2 => o2 v G2 H2 [] st2.1 ⟨r, rfl⟩ List.nodup_nil (by simp)
/-- an owned object is handed back -/
theorem EnvR.nd {Z : Zs} {G H : Hp} : ∀ {τ : Env} {σ : L2.St} {fp : List Addr} {i : Nat} {t : T}, EnvR Z G H τ σ fp → fp.Nodup → τ[i]? = some (some t) → ∃ v f, σ[i]? = some (some v) ∧ Tv Z G H t v f ∧ f.Nodup ∧ ∀ p ∈ f, p ∈ fp
  | [], σ, fp, i, t, h, nd, e => by simp at e
  | none :: τ, σ, fp, 0, t, h, nd, e => by simp at e
  | none :: τ, σ, fp, i + 1, t, h, nd, e => by
    unfold EnvR at h
    obtain ⟨v, r, e1, q⟩ := h
    obtain ⟨w, f, a, b, n, c⟩ := q.nd (i := i) (t := t) nd (by simpa using e)
    exact ⟨w, f, by rw [e1]; simpa using a, b, n, c⟩
  | some t' :: τ, σ, fp, 0, t, h, nd, e => by
    unfold EnvR at h
    obtain ⟨v, r, f, q, e1, e2, e3, e4⟩ := h
    have z : t' = t := by simpa using e
    subst z; subst e2
    exact ⟨v, f, by rw [e1]; rfl, e3, (List.nodup_append.mp nd).1, fun p hp => List.mem_append_left _ hp⟩
  | some t' :: τ, σ, fp, i + 1, t, h, nd, e => by
    unfold EnvR at h
    obtain ⟨v, r, f, q, e1, e2, e3, e4⟩ := h
    subst e2
    obtain ⟨w, f', a, b, n, c⟩ := e4.nd (i := i) (t := t) (List.nodup_append.mp nd).2.1 (by simpa using e)
    exact ⟨w, f', by rw [e1]; simpa using a, b, n, fun p hp => List.mem_append_right _ (c p hp)⟩
theorem ss_retO {i : Nat} {t : T} (h : τ[i]? = some (some t)) : SS Z w (tRet (tVar i)) τ (.ret t) env := fun GB B G H σ st D o => by
  obtain ⟨n, fp, e, nd, fr⟩ := st
  obtain ⟨v, f, e1, tv, nf, sub⟩ := e.nd nd h
  exact ⟨v, e1, o v G H f n tv nf fun p hp => fr p (sub p hp)⟩
theorem ss_retN : SS Z w tRetN τ (.ret (.sh .non)) env := fun GB B G H σ st D o => o .non G H [] st.1 ⟨rfl, rfl⟩ List.nodup_nil (by simp)
theorem ss_if {c : TT} {mc : X Bool} {ma mb : M S} (hc : ET Z w.w c τ mc) (h1 : SS Z w t1 τ ma env) (h2 : SS Z w t2 τ mb env) (hx : SubX τ w.px := by trivial) : SS Z w (tIfS c t1 t2) τ (mc.to fun b => bif b then ma else mb) env := fun GB B G H σ st D o =>
  EV.out hc hx st o fun b c G2 H2 l st2 r o2 => by
    subst r
    cases c with
    | true => exact h1 GB B G2 H2 σ st2 D o2
    | false => exact h2 GB B G2 H2 σ st2 D o2
/-- raise C(..) -/
theorem ss_raise {c : Ex} {W : WX} (hw : ∀ σ H, w.w (.ref (Z.ce c)) none σ H → W (.ref (Z.ce c)) none σ H) (hx : SubX τ w.px := by trivial) : SS Z w (fun (_ : Ends) σ H => W (.ref (Z.ce c)) none σ H) τ (.exc c : M S) env := fun GB B G H σ st D o =>
  hw _ _ (o H σ st.1.h (SubX.run st hx))


def forM {S α : Type} (xs : List α) (s : S) (f : S → α → M S) : M S :=
  match xs with
  | [] => .ok s
  | x :: r => (f s x).bind fun s' => forM r s' f
theorem Out.at {GB B G G2 : Hp} {m : M S} {D : Ends} (o : Out Z w GB B G m env D) (l : Le G G2) : Out Z w GB B G2 m env D := by
  cases m with
  | ok s => exact fun G3 H3 σ3 l3 st3 => o G3 H3 σ3 (l.trans l3) st3
  | exc c => exact o
  | ret t => exact o
  | bad => exact o
theorem Out.ends {GB B G : Hp} {m : M S} {D D' : Ends} (o : Out Z w GB B G m env D) (h1 : ∀ σ H, D.nx σ H → D'.nx σ H) (h2 : ∀ v H, D.rt v H → D'.rt v H) : Out Z w GB B G m env D' := by
  cases m with
  | ok s => exact fun G3 H3 σ3 l3 st3 => h1 _ _ (o G3 H3 σ3 l3 st3)
  | exc c => exact o
  | ret t => exact fun v G2 H2 fp a b c d => h2 _ _ (o v G2 H2 fp a b c d)
  | bad => exact o
/-- what a target does: u takes the value apart -/
def GJ (Z : Zs) (g : TG) (u : D → Option U) (e : U → Env → Env) : Prop :=
  ∀ (GB B G H : Hp) (σ : L2.St) (τ : Env) (x : D) (v : V), Stt Z GB B G H σ τ → Rp Z G x v → ∀ k : L2.St → Hp → Prop,
    (∃ c, u x = some c ∧ ∀ σ2, Stt Z GB B G H σ2 (e c τ) → k σ2 H) → g v σ H k
theorem gj_name {i : Nat} : GJ Z (gName i) (fun d => some d) (fun d τ => τ.set i (some (.sh d))) := fun GB B G H σ τ x v st r k ⟨c, ec, q⟩ => by
  cases ec
  exact q _ (st.set r)
def unp2 (d : D) : Option (D × D) := match d with
  | .tup [a, b] => some (a, b)
  | _ => none
def unp3 (d : D) : Option (D × D × D) := match d with
  | .tup [a, b, c] => some (a, b, c)
  | _ => none
theorem unp2_inv {d : D} {c : D × D} (h : unp2 d = some c) : d = .tup [c.1, c.2] := by
  unfold unp2 at h
  split at h
  · cases h; rfl
  · cases h
theorem unp3_inv {d : D} {c : D × D × D} (h : unp3 d = some c) : d = .tup [c.1, c.2.1, c.2.2] := by
  unfold unp3 at h
  split at h
  · cases h; rfl
  · cases h
theorem RpL.two {G : Hp} {a b : D} {vs : List V} (h : RpL Z G [a, b] vs) : ∃ x y, vs = [x, y] ∧ Rp Z G a x ∧ Rp Z G b y := by
  unfold RpL at h
  obtain ⟨x, r, e, h1, h2⟩ := h
  unfold RpL at h2
  obtain ⟨y, r2, e2, h3, h4⟩ := h2
  unfold RpL at h4
  subst h4; subst e2; subst e
  exact ⟨x, y, rfl, h1, h3⟩
theorem RpL.three {G : Hp} {a b c : D} {vs : List V} (h : RpL Z G [a, b, c] vs) : ∃ x y z, vs = [x, y, z] ∧ Rp Z G a x ∧ Rp Z G b y ∧ Rp Z G c z := by
  unfold RpL at h
  obtain ⟨x, r, e, h1, h2⟩ := h
  obtain ⟨y, z, e2, h3, h4⟩ := h2.two
  subst e2; subst e
  exact ⟨x, y, z, rfl, h1, h3, h4⟩
theorem gj_tup2 {i j : Nat} : GJ Z (gTup Z.K 2 (gCons (gName i) (gCons (gName j) gNil))) unp2 (fun p τ => (τ.set i (some (.sh p.1))).set j (some (.sh p.2))) := fun GB B G H σ τ x v st r k ⟨c, ec, q⟩ => by
  obtain ⟨a, b⟩ := c
  have z := unp2_inv ec
  subst z
  unfold Rp at r
  obtain ⟨p, vs, e1, e2, l⟩ := r
  obtain ⟨y, z, e3, ra, rb⟩ := l.two
  subst e3
  exact ⟨p, [y, z], e1, SqT.of (st.1.gh.at e2 rfl), rfl, y, [z], rfl, z, [], rfl, rfl, q _ ((st.set ra).set rb)⟩
theorem gj_tup3 {i j n : Nat} : GJ Z (gTup Z.K 3 (gCons (gName i) (gCons (gName j) (gCons (gName n) gNil)))) unp3 (fun p τ => ((τ.set i (some (.sh p.1))).set j (some (.sh p.2.1))).set n (some (.sh p.2.2))) := fun GB B G H σ τ x v st r k ⟨c, ec, q⟩ => by
  obtain ⟨a, b, c⟩ := c
  have z := unp3_inv ec
  subst z
  unfold Rp at r
  obtain ⟨p, vs, e1, e2, l⟩ := r
  obtain ⟨x1, y, z, e3, ra, rb, rc⟩ := l.three
  subst e3
  exact ⟨p, [x1, y, z], e1, SqT.of (st.1.gh.at e2 rfl), rfl, x1, [y, z], rfl, y, [z], rfl, z, [], rfl, rfl, q _ (((st.set ra).set rb).set rc)⟩
/-- x, y = e -/
theorem ss_asgG {g : TG} {u : D → Option U} {e : U → Env → Env} {f : U → M S} (hg : GJ Z g u e) (he : EE Z w.w te τ me) (h2 : ∀ c, SS Z w t2 (e c τ) (f c) env) (hx : SubX τ w.px := by trivial) : SS Z w (tSeq (tAsg te g) t2) τ (me.to fun d => (X.of (u d)).to f) env := fun GB B G H σ st D o =>
  EV.out he hx st o fun d v G2 H2 l st2 r o2 => by
    refine hg GB B G2 H2 σ τ d v st2 r _ ?_
    cases q : u d with
    | some c =>
      rw [q] at o2
      exact ⟨c, rfl, fun σ2 st3 => h2 c GB B G2 H2 σ2 st3 D o2⟩
    | none =>
      rw [q] at o2
      exact False.elim o2

theorem Stt.le {GB B G H : Hp} {σ : L2.St} (s : Stt Z GB B G H σ τ) : Le G H := s.1.gh
end

/-! ### what is walked -/
/-- J goes through the items xs, whatever grows meanwhile -/
def Goz (Z : Zs) (J : It) (G : Hp) (xs : List D) : Prop :=
  ∀ G' H, Le G G' → Le G' H → (∀ i, i < xs.length → J.go i H) ∧ J.stop xs.length H ∧ ∀ i x H', i < xs.length → J.yld i H x H' → ∃ G2, Nxt G' H G2 H' ∧ ∃ d, xs[i]? = some d ∧ Rp Z G2 d x
def EI (Z : Zs) (w : WX) (wi : TI) (τ : Env) (m : X (List D)) : Prop :=
  ∀ G H σ fp, Le G H → EnvR Z G H τ σ fp → ∀ R : It → Hp → Prop, Res Z w σ G H m (fun xs G2 H2 => ∀ J, Goz Z J G2 xs → R J H2) → wi σ H R
def itL (d : D) : X (List D) := match d with
  | .lst xs => .ok xs
  | .scr ns => .ok (ns.map .int)
  | _ => .bad
def itT (d : D) : X (List D) := match d with
  | .tup xs => .ok xs
  | _ => .bad
def itS (d : D) : X (List D) := match d with
  | .str x => .ok (x.cps.toList.map fun c => .str ⟨#[c]⟩)
  | _ => .bad
section
variable {Z : Zs} {w : WX} {τ : Env} {te : TE} {me : X D}
theorem goz_list {a : Addr} {G : Hp} {xs : List D} {vs : List V} (h : ∀ G' H, Le G G' → Le G' H → SqL Z.K H a vs) (r : RpL Z G xs vs) : Goz Z (Itl Z.K a) G xs := fun G' H l1 l2 => by
  have q := h G' H l1 l2
  refine ⟨fun i hi => ?_, ⟨vs, q, by rw [r.length]; exact Nat.le_refl _⟩, fun i x H' hi y => ?_⟩
  · have hi' : i < vs.length := by rw [r.length]; exact hi
    exact ⟨vs, vs[i], q, List.getElem?_eq_getElem hi'⟩
  · obtain ⟨e, y⟩ := y
    subst e
    obtain ⟨d, ed, rd⟩ := r.at (y vs q)
    exact ⟨G', Nxt.refl l2, d, ed, rd.mono l1.lq⟩
theorem goz_tup {a : Addr} {G : Hp} {xs : List D} {vs : List V} (h : ∀ G' H, Le G G' → Le G' H → SqT Z.K H a vs) (r : RpL Z G xs vs) : Goz Z (Itt Z.K a) G xs := fun G' H l1 l2 => by
  have q := h G' H l1 l2
  refine ⟨fun i hi => ?_, ⟨vs, q, by rw [r.length]; exact Nat.le_refl _⟩, fun i x H' hi y => ?_⟩
  · have hi' : i < vs.length := by rw [r.length]; exact hi
    exact ⟨vs, vs[i], q, List.getElem?_eq_getElem hi'⟩
  · obtain ⟨e, y⟩ := y
    subst e
    obtain ⟨d, ed, rd⟩ := r.at (y vs q)
    exact ⟨G', Nxt.refl l2, d, ed, rd.mono l1.lq⟩
theorem rpL_ints {G : Hp} : ∀ ns : List Int, RpL Z G (ns.map .int) (ns.map V.int)
  | [] => RpL.nil
  | n :: ns => RpL.cons rfl (rpL_ints ns)
theorem itL_ok {d : D} {σ : L2.St} {G H : Hp} {k : List D → Hp → Hp → Prop} (q : Res Z w σ G H (itL d) k) : (∃ xs, d = .lst xs ∧ Res Z w σ G H (.ok xs) k) ∨ ∃ ns, d = .scr ns ∧ Res Z w σ G H (.ok (ns.map .int)) k := by
  cases d <;> first
    | exact .inl ⟨_, rfl, q⟩
    | exact .inr ⟨_, rfl, q⟩
    | exact False.elim q
theorem ei_list (he : EE Z w te τ me) : EI Z w (iList Z.K te) τ (me.bind itL) := fun G H σ fp l e R q => by
  refine he G H σ fp l e _ (q.bind.imp fun d G2 H2 n2 q2 v rv => ?_)
  rcases itL_ok q2 with ⟨xs, rfl, q3⟩ | ⟨ns, rfl, q3⟩
  · unfold Rp at rv
    obtain ⟨a, vs, ev, ea, rl⟩ := rv
    have sl : ∀ G' H', Le G2 G' → Le G' H' → SqL Z.K H' a vs := fun G' H' x y => SqL.of (y.at (x.at ea rfl) rfl)
    exact ⟨a, ev, ⟨vs, sl G2 H2 (Le.refl _) n2.gh⟩, q3.now n2.gh _ (goz_list sl rl)⟩
  · unfold Rp at rv
    obtain ⟨a, ev, ea⟩ := rv
    have sl : ∀ G' H', Le G2 G' → Le G' H' → SqL Z.K H' a (ns.map V.int) := fun G' H' x y => y.sqL (x.sqL ea)
    exact ⟨a, ev, ⟨_, sl G2 H2 (Le.refl _) n2.gh⟩, q3.now n2.gh _ (goz_list sl (rpL_ints ns))⟩
theorem itT_ok {d : D} {σ : L2.St} {G H : Hp} {k : List D → Hp → Hp → Prop} (q : Res Z w σ G H (itT d) k) : ∃ xs, d = .tup xs ∧ Res Z w σ G H (.ok xs) k := by
  cases d <;> first
    | exact ⟨_, rfl, q⟩
    | exact False.elim q
theorem ei_tup (he : EE Z w te τ me) : EI Z w (iTup Z.K te) τ (me.bind itT) := fun G H σ fp l e R q => by
  refine he G H σ fp l e _ (q.bind.imp fun d G2 H2 n2 q2 v rv => ?_)
  obtain ⟨xs, rfl, q3⟩ := itT_ok q2
  unfold Rp at rv
  obtain ⟨a, vs, ev, ea, rl⟩ := rv
  have sl : ∀ G' H', Le G2 G' → Le G' H' → SqT Z.K H' a vs := fun G' H' x y => SqT.of (y.at (x.at ea rfl) rfl)
  exact ⟨a, ev, ⟨vs, sl G2 H2 (Le.refl _) n2.gh⟩, q3.now n2.gh _ (goz_tup sl rl)⟩
theorem itS_ok {d : D} {σ : L2.St} {G H : Hp} {k : List D → Hp → Hp → Prop} (q : Res Z w σ G H (itS d) k) : ∃ x, d = .str x ∧ Res Z w σ G H (.ok (x.cps.toList.map fun c => .str ⟨#[c]⟩)) k := by
  cases d <;> first
    | exact ⟨_, rfl, q⟩
    | exact False.elim q
theorem ei_str (he : EE Z w te τ me) : EI Z w (iStr te) τ (me.bind itS) := fun G H σ fp l e R q => by
  refine he G H σ fp l e _ (q.bind.imp fun d G2 H2 n2 q2 v rv => ?_)
  obtain ⟨x, rfl, q3⟩ := itS_ok q2
  refine ⟨x, rv, q3.now n2.gh _ fun G' H' l1 l2 => ⟨fun i hi => ?_, ?_, fun i y H2 hi yy => ?_⟩⟩
  · have : i < x.cps.size := by simpa using hi
    exact this
  · show x.cps.size ≤ _
    simp
  · obtain ⟨e, c, ec, ey⟩ := yy
    subst e; subst ey
    refine ⟨G', Nxt.refl l2, .str ⟨#[c]⟩, ?_, rfl⟩
    rw [List.getElem?_map, Array.getElem?_toList, ec]
    rfl
/-- the ints from a on, n of them, c apart -/
def rng (a c : Int) : Nat → List D
  | 0 => []
  | n + 1 => .int a :: rng (a + c) c n
theorem rng_get : ∀ {a c : Int} {n j : Nat}, j < n → (rng a c n)[j]? = some (.int (a + j * c))
  | a, c, 0, j, h => by omega
  | a, c, n + 1, 0, h => by simp [rng]
  | a, c, n + 1, j + 1, h => by
    have q := rng_get (a := a + c) (c := c) (n := n) (j := j) (by omega)
    show (rng (a + c) c n)[j]? = _
    rw [q]
    have e : a + c + (j : Int) * c = a + ((j + 1 : Nat) : Int) * c := by
      rw [Int.natCast_add, Int.add_mul]
      simp
      omega
    rw [e]
theorem rng_length {a c : Int} : ∀ {n : Nat}, (rng a c n).length = n
  | 0 => rfl
  | n + 1 => by show (rng (a + c) c n).length + 1 = n + 1; rw [rng_length]
def rng1 (ds : List D) : X (List D) := match ds with
  | [.int b] => if -(2 ^ 62) ≤ b ∧ b < 2 ^ 62 then .ok (rng 0 1 b.toNat) else .bad
  | _ => .bad
def rng2 (ds : List D) : X (List D) := match ds with
  | [.int a, .int b] => if -(2 ^ 62) ≤ a ∧ a < 2 ^ 62 ∧ -(2 ^ 62) ≤ b ∧ b < 2 ^ 62 then .ok (rng a 1 (b - a).toNat) else .bad
  | _ => .bad
def rng3 (ds : List D) : X (List D) := match ds with
  | [.int a, .int b, .int c] => if 0 ≤ a ∧ a ≤ 1000000 ∧ 0 ≤ b ∧ b ≤ 1000000 ∧ 0 < c ∧ c < 1000000 then .ok (rng a c (Builtin.Range.rangeSize a b c).toNat) else .bad
  | _ => .bad
theorem goz_rng {a : Int} {n : Nat} {G : Hp} : Goz Z (Itr a n) G (rng a 1 n) := fun G' H l1 l2 => by
  rw [rng_length]
  refine ⟨fun i hi => hi, Nat.le_refl _, fun i x H' hi y => ?_⟩
  obtain ⟨e, y⟩ := y
  subst e; subst y
  exact ⟨G', Nxt.refl l2, _, rng_get hi, by rw [Int.mul_one]; rfl⟩
theorem goz_rngC {a c : Int} {n : Nat} {G : Hp} : Goz Z (Itc a c n) G (rng a c n) := fun G' H l1 l2 => by
  rw [rng_length]
  refine ⟨fun i hi => hi, Nat.le_refl _, fun i x H' hi y => ?_⟩
  obtain ⟨e, y⟩ := y
  subst e; subst y
  exact ⟨G', Nxt.refl l2, _, rng_get hi, rfl⟩
theorem RpL.ints1 {G : Hp} {b : Int} {vs : List V} (h : RpL Z G [.int b] vs) : vs = [.int b] := by
  unfold RpL at h
  obtain ⟨x, r, e, h1, h2⟩ := h
  unfold RpL at h2
  subst h2; subst e
  unfold Rp at h1
  rw [h1]
theorem RpL.one {G : Hp} {b : D} {vs : List V} (h : RpL Z G [b] vs) : ∃ v, vs = [v] ∧ Rp Z G b v := by
  unfold RpL at h
  obtain ⟨x, r, e, h1, h2⟩ := h
  unfold RpL at h2
  subst h2; subst e
  exact ⟨x, rfl, h1⟩
theorem ei_rng1 {ta : TA} {ma : X (List D)} (ha : EA Z w ta τ ma) : EI Z w (iRng1 ta) τ (ma.bind rng1) := fun G H σ fp l e R q => by
  refine ha G H σ fp l e _ (q.bind.imp fun ds G2 H2 n2 q2 vs rv => ?_)
  unfold rng1 at q2
  split at q2
  · split at q2
    · rename_i b h
      refine ⟨b, rv.ints1, h.1, h.2, Res.now n2.gh q2 _ goz_rng⟩
    · exact False.elim q2
  · exact False.elim q2
theorem ei_rng2 {ta : TA} {ma : X (List D)} (ha : EA Z w ta τ ma) : EI Z w (iRng2 ta) τ (ma.bind rng2) := fun G H σ fp l e R q => by
  refine ha G H σ fp l e _ (q.bind.imp fun ds G2 H2 n2 q2 vs rv => ?_)
  unfold rng2 at q2
  split at q2
  · split at q2
    · rename_i a b h
      obtain ⟨x, y, e1, e2, e3⟩ := rv.two
      unfold Rp at e2 e3
      refine ⟨a, b, by rw [e1, e2, e3], h, Res.now n2.gh q2 _ goz_rng⟩
    · exact False.elim q2
  · exact False.elim q2
theorem ei_rng3 {ta : TA} {ma : X (List D)} (ha : EA Z w ta τ ma) : EI Z w (iRng3 ta) τ (ma.bind rng3) := fun G H σ fp l e R q => by
  refine ha G H σ fp l e _ (q.bind.imp fun ds G2 H2 n2 q2 vs rv => ?_)
  unfold rng3 at q2
  split at q2
  · split at q2
    · rename_i a b c h
      obtain ⟨x, y, z, e1, e2, e3, e4⟩ := rv.three
      unfold Rp at e2 e3 e4
      refine ⟨a, b, c, _, by rw [e1, e2, e3, e4], ⟨by omega, by omega, ?_, ?_⟩, Res.now n2.gh q2 _ goz_rngC⟩
      · unfold Builtin.Range.small Builtin.Range.rangeSize
        have e1 : c > 0 := by omega
        have q : (b - a - 1) / c * c ≤ b - a - 1 := Int.ediv_mul_le _ (by omega)
        simp only [Builtin.Range.rangeFitsLong, Bool.and_eq_true, Bool.or_eq_true, decide_eq_true_eq, beq_iff_eq, if_pos e1]
        split
        · have q2 : ((b - a - 1) / c + 1) * c = (b - a - 1) / c * c + c := by rw [Int.add_mul, Int.one_mul]
          have q3 := Int.ediv_le_self c (show (0 : Int) ≤ b - a - 1 by omega)
          have q4 := Int.ediv_nonneg (a := b - a - 1) (b := c) (by omega) (by omega)
          omega
        · omega
      · exact PyProof.Rows.rangeSize_toNat a b c
    · exact False.elim q2
  · exact False.elim q2
end

/-! ### for, while -/
section
variable {Z : Zs} {w : Wh} {τ : Env} {S U : Type} {env : S → Env}
theorem turn_start {s0 : S} {GB B G2 H2 : Hp} {σ : L2.St} {D : Ends} {m : M S} (h0 : SubL τ (env s0)) (st2 : Stt Z GB B G2 H2 σ τ) (o : Out Z w GB B G2 m env D) : ∃ G3, Le G2 G3 ∧ Stt Z GB B G3 H2 σ (env s0) ∧ Out Z w GB B G3 m env D :=
  ss_nil (Z := Z) (w := w) (τ := τ) (env := env) (s := s0) h0 GB B G2 H2 σ st2 { nx := fun σ' H' => ∃ G3, Le G2 G3 ∧ Stt Z GB B G3 H' σ' (env s0) ∧ Out Z w GB B G3 m env D, rt := fun _ _ => False } fun G3 H3 σ3 l3 st3 => ⟨G3, l3, st3, o.at l3⟩
/-- an iterator ahead of what a statement does with it -/
theorem EI.out {wi : TI} {m : X (List D)} {f : List D → M S} (he : EI Z w.w wi τ m) (hx : SubX τ w.px) {GB B G H : Hp} {σ : L2.St} (st : Stt Z GB B G H σ τ) {D : Ends}
    (o : Out Z w GB B G (m.to f) env D) {R : It → Hp → Prop} (k : ∀ xs J G2 H2, Le G G2 → Stt Z GB B G2 H2 σ τ → Goz Z J G2 xs → Out Z w GB B G2 (f xs) env D → R J H2) : wi σ H R := by
  obtain ⟨n, fp, e, nd, fr⟩ := st
  refine he G H σ fp n.gh e R ?_
  cases m with
  | ok a =>
    intro G2 H2 x J gz
    have st2 : Stt Z GB B G2 H2 σ τ := ⟨n.trans x, fp, e.nxt x, nd, fr⟩
    exact k a J G2 H2 x.g st2 gz (Out.at (m := f a) o x.g)
  | exc c =>
    intro H2 s
    exact o H2 σ (n.h.trans s) (SubX.run (Stt.same ⟨n, fp, e, nd, fr⟩ s) hx)
  | bad => exact o
theorem ss_for {wi : TI} {mi : X (List D)} {g : TG} {tb : TS} {u : D → Option U} {e : U → Env → Env} {f : S → U → M S} {s0 : S} (hi : EI Z w.w wi τ mi) (h0 : SubL τ (env s0)) (hg : GJ Z g u e) (hb : ∀ s c, SS Z w tb (e c (env s)) (f s c) env) (hx : SubX τ w.px := by trivial) :
    SS Z w (tFor wi g tb) τ (mi.to fun xs => forM xs s0 fun s x => (X.of (u x)).to (f s)) env := fun GB B G H σ st D o =>
  EI.out hi hx st o fun xs J G2 H2 l st2 gz o2 => by
    refine ⟨fun j n σ' H' => n = xs.length - j ∧ j ≤ xs.length ∧ ∃ s G', Le G2 G' ∧ Stt Z GB B G' H' σ' (env s) ∧ Out Z w GB B G' (forM (xs.drop j) s fun s x => (X.of (u x)).to (f s)) env D, ?_, ?_⟩
    · obtain ⟨G3, l3, st3, o3⟩ := turn_start h0 st2 o2
      exact ⟨xs.length, by simp, Nat.zero_le _, s0, G3, l3, st3, o3⟩
    · rintro j n σ' H' ⟨en, hj, s, G', l', st', o'⟩
      obtain ⟨g1, g2, g3⟩ := gz G' H' l' st'.le
      by_cases hlt : j < xs.length
      · refine .inr ⟨g1 j hlt, fun σ' H' => ∃ m, m < n ∧ m = xs.length - (j + 1) ∧ j + 1 ≤ xs.length ∧ ∃ s G', Le G2 G' ∧ Stt Z GB B G' H' σ' (env s) ∧ Out Z w GB B G' (forM (xs.drop (j + 1)) s fun s x => (X.of (u x)).to (f s)) env D, fun σ3 H3 ⟨m, a, b⟩ => ⟨m, a, b⟩, fun x H4 y => ?_⟩
        obtain ⟨G4, n4, d, ed, rd⟩ := g3 j x H4 hlt y
        have ex : xs.drop j = d :: xs.drop (j + 1) := by
          obtain ⟨hl, hx⟩ := List.getElem?_eq_some_iff.mp ed
          rw [← hx]
          exact List.drop_eq_getElem_cons hl
        rw [ex] at o'
        unfold forM at o'
        have st4 := st'.nxt n4
        have o4 := Out.at o' n4.g
        refine hg GB B G4 H4 σ' (env s) d x st4 rd _ ?_
        cases q : u d with
        | none => rw [q] at o4; exact False.elim o4
        | some c =>
          rw [q] at o4
          refine ⟨c, rfl, fun σ2 st5 => ?_⟩
          have o5 : Out Z w GB B G4 ((f s c).bind fun s' => forM (xs.drop (j + 1)) s' fun s x => (X.of (u x)).to (f s)) env D := o4
          have o6 := Out.bind (env1 := env) (nx' := fun σ' H' => ∃ m, m < n ∧ m = xs.length - (j + 1) ∧ j + 1 ≤ xs.length ∧ ∃ s G', Le G2 G' ∧ Stt Z GB B G' H' σ' (env s) ∧ Out Z w GB B G' (forM (xs.drop (j + 1)) s fun s x => (X.of (u x)).to (f s)) env D) o5 fun s' G6 H6 σ6 l6 st6 o6 =>
            ⟨xs.length - (j + 1), by omega, rfl, hlt, s', G6, (l'.trans n4.g).trans l6, st6, o6⟩
          exact hb s c GB B G4 H4 σ2 st5 _ (o6.ends (fun _ _ h => h) fun _ _ h => h)
      · have ej : j = xs.length := by omega
        subst ej
        rw [List.drop_length] at o'
        exact .inl ⟨g2, o' G' H' σ' (Le.refl _) st'⟩
/-- a while, at most n turns -/
def whileM {S : Type} : Nat → (S → X Bool) → (S → M S) → S → M S
  | 0, _, _, _ => .bad
  | n + 1, c, b, s => (c s).to fun t => bif t then (b s).bind (whileM n c b) else .ok s
theorem ss_while {c : TT} {tb : TS} {mc : S → X Bool} {mb : S → M S} {s0 : S} {n : Nat} (h0 : SubL τ (env s0)) (hc : ∀ s, ET Z w.w c (env s) (mc s)) (hb : ∀ s, SS Z w tb (env s) (mb s) env) (hx : ∀ s, SubX (env s) w.px := by intro _; trivial) :
    SS Z w (tWhile c tb) τ (whileM n mc mb s0) env := fun GB B G H σ st D o => by
  refine ⟨fun k σ' H' => ∃ s G', Stt Z GB B G' H' σ' (env s) ∧ Out Z w GB B G' (whileM k mc mb s) env D, ?_, ?_⟩
  · obtain ⟨G3, l3, st3, o3⟩ := turn_start h0 st o
    exact ⟨n, s0, G3, st3, o3⟩
  · rintro k σ' H' ⟨s, G', st', o'⟩
    cases k with
    | zero => exact False.elim o'
    | succ k =>
      unfold whileM at o'
      refine EV.out (hc s) (hx s) st' o' fun t b G2 H2 l st2 r o2 => ?_
      subst r
      cases b with
      | true =>
        refine ⟨fun σ' H' => ∃ s G', Stt Z GB B G' H' σ' (env s) ∧ Out Z w GB B G' (whileM k mc mb s) env D, fun σ3 H3 h => ⟨k, Nat.lt_succ_self k, h⟩, ?_⟩
        have o3 : Out Z w GB B G2 ((mb s).bind (whileM k mc mb)) env D := o2
        have o4 := Out.bind (env1 := env) (nx' := fun σ' H' => ∃ s G', Stt Z GB B G' H' σ' (env s) ∧ Out Z w GB B G' (whileM k mc mb s) env D) o3 fun s' G6 H6 σ6 l6 st6 o6 => ⟨s', G6, st6, o6⟩
        exact hb s GB B G2 H2 σ' st2 _ (o4.ends (fun _ _ h => h) fun _ _ h => h)
      | false => exact o2 G2 H2 σ' (Le.refl _) st2
end
end Wk

namespace Wk
open PySem PySem.Spec PyProof.Rows L2

/-! ### defs -/
abbrev fil (n : Nat) : Env := List.replicate n none
theorem envR_nones {Z : Zs} {G H : Hp} : ∀ n : Nat, EnvR Z G H (fil n) (List.replicate n none) []
  | 0 => ⟨rfl, rfl⟩
  | n + 1 => ⟨none, List.replicate n none, rfl, envR_nones n⟩
theorem envR_start {Z : Zs} {G H : Hp} {n : Nat} : ∀ {ds : List D} {vs : List V}, RpL Z G ds vs → EnvR Z G H (ds.map (fun d => some (.sh d)) ++ fil n) (vs.map some ++ List.replicate n none) []
  | [], vs, h => by
    unfold RpL at h
    subst h
    exact envR_nones n
  | d :: ds, vs, h => by
    unfold RpL at h
    obtain ⟨v, r, e, a, b⟩ := h
    subst e
    exact ⟨v, _, [], [], rfl, rfl, ⟨a, rfl⟩, envR_start b⟩
abbrev wE (E : XK) : Wh := ⟨fun cls d _ H => E cls d H, none⟩
section
variable {P : Program} {w : World} {K : PySem.W.Frag} {mg : Str → Option Value} {base : Heap}
/-- THE RULE for a def: its body runs as the mirror -/
theorem fn_ok {Z : Zs} {x qual : Str} {st : Stmt} {f : Addr} {fd : FuncData} {N ps : List Str} {k : Nat} {m : List D → M Unit} (F : Fun K x qual st f fd) (S : FnScope N ps (defScope st)) (hlen : ∀ ds, m ds ≠ .bad → ds.length = ps.length)
    (body : ∀ (cdv : Value) (A : Around) (outer : List PySem.Env) (s : Shared) (H : Hp) (E : XK), Room k (A.deeper (envOfC qual (defScope st) s.heap.objs.size f cdv)) →
      Takes (cxOf (L2.CX P w) P w K mg base N qual (defScope st) f cdv A outer s H E) (fun cls d _ H => E cls d H) →
      PassesOwn (model P w) (A.deeper (envOfC qual (defScope st) s.heap.objs.size f cdv)) (envOfC qual (defScope st) s.heap.objs.size f cdv) (cxOf (L2.CX P w) P w K mg base N qual (defScope st) f cdv A outer s H E).xe → ∀ ds : List D, m ds ≠ .bad →
      ∃ t, PSs (cxOf (L2.CX P w) P w K mg base N qual (defScope st) f cdv A outer s H E) (defBody st) t ∧ SS Z (wE E) t (ds.map (fun d => some (.sh d)) ++ fil (N.length - ds.length)) (m ds) (fun _ => fil N.length)) :
    FnOk P w K mg base (L2.CX P w) (k + 1) f fd ps (spM Z m) := by
  have nb : ∀ {vs : List V} {H : Hp} {Q : VK} {E : XK}, spM Z m vs H Q E → ∃ G ds, Le G H ∧ RpL Z G ds vs ∧ m ds ≠ .bad := fun {vs H Q E} h => by
    obtain ⟨G, ds, l, r, h⟩ := h
    refine ⟨G, ds, l, r, fun e => ?_⟩
    rw [e] at h
    exact h
  refine F.okX S (fun vs H Q E h => ?_) (fun cdv A outer s H vs Q E hr h => ?_)
  · obtain ⟨G, ds, l, r, e⟩ := nb h
    rw [r.length]
    exact hlen ds e
  · obtain ⟨G, ds, l, r, h⟩ := h
    have e : m ds ≠ .bad := fun e => by rw [e] at h; exact h
    obtain ⟨t, ht, ss⟩ := body cdv A outer s H E hr (takes_of rfl rfl rfl rfl) (passes_of (X := cxOf (L2.CX P w) P w K mg base N qual (defScope st) f cdv A outer s H E) rfl) ds e
    refine ⟨t, ht, ?_⟩
    have hl : vs.length = ds.length := r.length
    refine ss G H G H (L2.start N vs) ⟨Nxt.refl l, [], ?_, List.nodup_nil, by simp⟩ _ ?_
    · unfold L2.start
      rw [hl]
      exact envR_start r
    · cases q : m ds with
      | ok u =>
        rw [q] at h
        intro G2 H2 σ2 l2 st2
        exact h G2 H2 st2.1
      | ret t =>
        rw [q] at h
        exact fun v G2 H2 fp n tv nd fr => h v G2 H2 fp n tv nd fr
      | exc c =>
        rw [q] at h
        exact fun H2 σ2 s _ => h H2 s
      | bad => exact absurd q e
/-- a def of the program that stands at a name -/
structure Fn (P : Program) (w : World) (K : PySem.W.Frag) (mg : Str → Option Value) (base : Heap) (x : Str) (k : Nat) (ps : List Str) (dvs : List V) (sp : Sp) : Prop where
  ex : ∃ f fd ds, FnOk P w K mg base (L2.CX P w) k f fd ps sp ∧ mg x = some (.ref f) ∧ PySem.W.keepIn K (.ref f) = true ∧ Binds K fd ps ds ∧ Vals dvs ds
theorem Fn.mk1 {x : Str} {k : Nat} {ps : List Str} {sp : Sp} {f : Addr} {fd : FuncData} (F : FnOk P w K mg base (L2.CX P w) k f fd ps sp) (hm : mg x = some (.ref f)) (hk : PySem.W.keepIn K (.ref f) = true) (hb : Binds K fd ps []) : Fn P w K mg base x k ps [] sp := ⟨f, fd, [], F, hm, hk, hb, .nil⟩
end
def Lets (X : Cx) (W : WX) : Prop := ∀ σ, PassesAt (L2.CX X.prog X.w) X σ (WE W σ)
theorem lets_of {X : Cx} {W : WX} (tk : Takes X W) : Lets X W := passAt tk
/-- in a comprehension's block, in an except suite: nothing leaves -/
abbrev w0 : WX := fun _ _ _ _ => False
theorem lets0 {X : Cx} : Lets X w0 := fun _ _ _ _ _ _ _ h => by
  obtain ⟨_, _, _, _, _, _, _, _, _, _, _, _, z⟩ := h
  exact z.elim
section
variable {X : Cx} {W : WX} {x : Str} {k : Nat} {ps : List Str} {dvs : List V} {sp : Sp} {p pos : Pos} {e : Expr} {es : List Expr} {t : TA}
theorem pe_fn (F : Fn X.prog X.w X.K X.mg X.base x k ps dvs sp) (hr : Room k X.A) (hl : Lets X W) (hg : Gl X x) (ha : PA X (e :: es) t) (hdb : (x == ("__debug__" : Str)) = false := by decide)
    (he : starEach (e :: es) X.env = (false, eval e X.env) :: starEach es X.env := by rfl) (hpl : (backTo pos (starEach es X.env)).any (·.1) = false := by rfl) : PE X (.Call (.Name x p) (e :: es) [] pos) (tCallSD sp dvs (WE W) t) := by
  obtain ⟨f, fd, ds, F, hm, hk, hb, hd⟩ := F.ex
  exact pe_callSD F hr hg hm hk hb hd hl ha hdb he hpl
theorem pe_fn0 (F : Fn X.prog X.w X.K X.mg X.base x k ps dvs sp) (hr : Room k X.A) (hl : Lets X W) (hg : Gl X x) (hdb : (x == ("__debug__" : Str)) = false := by decide) : PE X (.Call (.Name x p) [] [] pos) (tCallSD sp dvs (WE W) tNil) := by
  obtain ⟨f, fd, ds, F, hm, hk, hb, hd⟩ := F.ex
  refine ⟨fun pins s σ H Q I h => ?_⟩
  refine wpAny_Call_Name_kw (ld_glob I hg hm ?_ hdb)
  exact PySem.W.callWith_K0 I.kIn hk (run_fnSD (us := []) F hr hb hd (hl σ) I .nil h)
end
section
variable {Z : Zs} {w : WX} {τ : Env}
theorem ee_fn {f : List D → M Unit} {ta : TA} {ma : X (List D)} {dd : List D} {dvs : List V} (ha : EA Z w ta τ ma) (hd : ∀ G, RpL Z G dd dvs) : EE Z w (tCallSD (spM Z f) dvs (WE w) ta) τ (ma.bind fun ds => (f (ds ++ dd)).fn) := fun G H σ fp l e Q q => by
  refine ha G H σ fp l e _ (q.bind.imp fun ds G2 H2 n2 q2 vs rvs => ?_)
  refine ⟨G2, ds ++ dd, n2.gh, rvs.append (hd G2), ?_⟩
  cases e1 : f (ds ++ dd) with
  | ok a =>
    rw [e1] at q2
    exact fun G3 H3 n3 => q2 G3 H3 n3 _ rfl
  | ret t =>
    rw [e1] at q2
    intro v G3 H3 fp3 n3 tv nd fr
    have own := fun p hp => (tv.own p hp).1
    exact q2 (opn G3 H3 fp3) H3 (n3.opn fr own) v (tv.freeze own fun _ h => h)
  | exc c =>
    rw [e1] at q2
    exact fun H3 s => q2 H3 s
  | bad =>
    rw [e1] at q2
    exact q2
/-- as ee_fn, without defaults -/
theorem ee_fn' {f : List D → M Unit} {ta : TA} {ma : X (List D)} (ha : EA Z w ta τ ma) : EE Z w (tCallSD (spM Z f) [] (WE w) ta) τ (ma.bind fun ds => (f ds).fn) := by
  have h := ee_fn (f := f) (dd := []) (dvs := []) ha fun G => RpL.nil
  simpa only [List.append_nil] using h
end
/-! mirrors by the number of arguments -/
def ar0 (m : M Unit) : List D → M Unit
  | [] => m
  | _ => .bad
def ar1 (m : D → M Unit) : List D → M Unit
  | [a] => m a
  | _ => .bad
def ar2 (m : D → D → M Unit) : List D → M Unit
  | [a, b] => m a b
  | _ => .bad
def ar3 (m : D → D → D → M Unit) : List D → M Unit
  | [a, b, c] => m a b c
  | _ => .bad
def ar4 (m : D → D → D → D → M Unit) : List D → M Unit
  | [a, b, c, d] => m a b c d
  | _ => .bad
def ar5 (m : D → D → D → D → D → M Unit) : List D → M Unit
  | [a, b, c, d, e] => m a b c d e
  | _ => .bad
def ar6 (m : D → D → D → D → D → D → M Unit) : List D → M Unit
  | [a, b, c, d, e, f] => m a b c d e f
  | _ => .bad
def ar7 (m : D → D → D → D → D → D → D → M Unit) : List D → M Unit
  | [a, b, c, d, e, f, g] => m a b c d e f g
  | _ => .bad
theorem ar0_inv {m : M Unit} {ds : List D} (h : ar0 m ds ≠ .bad) : ds = [] := by
  unfold ar0 at h; split at h
  · rfl
  · exact absurd rfl h
theorem ar1_inv {m : D → M Unit} {ds : List D} (h : ar1 m ds ≠ .bad) : ∃ a, ds = [a] := by
  unfold ar1 at h; split at h
  · exact ⟨_, rfl⟩
  · exact absurd rfl h
theorem ar2_inv {m : D → D → M Unit} {ds : List D} (h : ar2 m ds ≠ .bad) : ∃ a b, ds = [a, b] := by
  unfold ar2 at h; split at h
  · exact ⟨_, _, rfl⟩
  · exact absurd rfl h
theorem ar3_inv {m : D → D → D → M Unit} {ds : List D} (h : ar3 m ds ≠ .bad) : ∃ a b c, ds = [a, b, c] := by
  unfold ar3 at h; split at h
  · exact ⟨_, _, _, rfl⟩
  · exact absurd rfl h
theorem ar4_inv {m : D → D → D → D → M Unit} {ds : List D} (h : ar4 m ds ≠ .bad) : ∃ a b c d, ds = [a, b, c, d] := by
  unfold ar4 at h; split at h
  · exact ⟨_, _, _, _, rfl⟩
  · exact absurd rfl h
theorem ar5_inv {m : D → D → D → D → D → M Unit} {ds : List D} (h : ar5 m ds ≠ .bad) : ∃ a b c d e, ds = [a, b, c, d, e] := by
  unfold ar5 at h; split at h
  · exact ⟨_, _, _, _, _, rfl⟩
  · exact absurd rfl h
theorem ar6_inv {m : D → D → D → D → D → D → M Unit} {ds : List D} (h : ar6 m ds ≠ .bad) : ∃ a b c d e f, ds = [a, b, c, d, e, f] := by
  unfold ar6 at h; split at h
  · exact ⟨_, _, _, _, _, _, rfl⟩
  · exact absurd rfl h
theorem ar7_inv {m : D → D → D → D → D → D → D → M Unit} {ds : List D} (h : ar7 m ds ≠ .bad) : ∃ a b c d e f g, ds = [a, b, c, d, e, f, g] := by
  unfold ar7 at h; split at h
  · exact ⟨_, _, _, _, _, _, _, rfl⟩
  · exact absurd rfl h

end Wk

namespace Wk
open PySem PySem.Spec PyProof.Rows L2

/-! ### operations that take several kinds -/
def rOr (r r' : R2) : R2 := fun x y H Q => r x y H Q ∨ r' x y H Q
theorem opU {X : Cx} {f : Value → Value → Sem Value} {r r' : R2} (h : OpR X f r) (h' : OpR X f r') : OpR X f (rOr r r') := by
  intro pins s σ H x y v u Q I rx ry q
  rcases q with q | q
  · exact h pins s σ H x y v u Q I rx ry q
  · exact h' pins s σ H x y v u Q I rx ry q
def tOr2 (t t' : TE) : TE := fun σ H Q => t σ H Q ∨ t' σ H Q
theorem pe_or2 {X : Cx} {e : Expr} {t t' : TE} (h : PE X e t) (h' : PE X e t') : PE X e (tOr2 t t') :=
  ⟨fun pins s σ H Q I q => by
    rcases q with q | q
    · exact h.run pins s σ H Q I q
    · exact h'.run pins s σ H Q I q⟩
def rcOr (r r' : List V → Hp → VK → Prop) : List V → Hp → VK → Prop := fun xs H Q => r xs H Q ∨ r' xs H Q
theorem caU {X : Cx} {f : Value} {r r' : List V → Hp → VK → Prop} (h : CallR X f r) (h' : CallR X f r') : CallR X f (rcOr r r') := by
  intro pins s σ H xs us Q I rx q
  rcases q with q | q
  · exact h pins s σ H xs us Q I rx q
  · exact h' pins s σ H xs us Q I rx q

/-! + -/
def rAddS : R2 := fun x y H Q => ∃ i j, x = .str i ∧ y = .str j ∧ i.length + j.length ≤ sizeLine ∧ Q (.str (i ++ j)) H
def rAdd3 : R2 := rOr (rI0 fun i j => .int (i + j)) (rOr rAddS rCat)
theorem op_add3 {X : Cx} : OpR X (binaryOp .Add) rAdd3 := opU op_add (opU op_add_str op_cat)
def dAdd (x y : D) : X D := match x, y with
  | .int i, .int j => .ok (.int (i + j))
  | .str a, .str b => if a.length + b.length ≤ 1000000 then .ok (.str (a ++ b)) else .bad
  | .lst a, .lst b => if a.length + b.length ≤ 1000000 then .ok (.lst (a ++ b)) else .bad
  | _, _ => .bad
section
variable {Z : Zs} {w : WX} {τ : Env}
theorem od_add : OpD Z rAdd3 dAdd := fun w σ G H x y v u l rx ry Q q => by
  unfold dAdd at q
  split at q
  · unfold Rp at rx ry
    subst rx; subst ry
    exact .inl ⟨_, _, rfl, rfl, q.now l _ rfl⟩
  · split at q
    · rename_i h
      unfold Rp at rx ry
      subst rx; subst ry
      exact .inr (.inl ⟨_, _, rfl, rfl, sz6 h, q.now l _ rfl⟩)
    · exact False.elim q
  · split at q
    · rename_i h
      unfold Rp at rx ry
      obtain ⟨a, vs, e1, e2, e3⟩ := rx
      obtain ⟨b, us, e4, e5, e6⟩ := ry
      refine .inr (.inr ⟨a, b, vs, us, e1, e4, l.at e2 rfl, l.at e5 rfl, by rw [e3.length, e6.length]; exact sz6 h, fun p hp => ?_⟩)
      have n := (Nxt.refl l).new (o := .lst (vs ++ us)) hp
      refine q _ _ n _ ?_
      unfold Rp
      exact ⟨p, _, rfl, upd_same, (e3.append e6).mono n.g.lq⟩
    · exact False.elim q
  · exact False.elim q
/-! -, *, //, %, ** -/
def dSub (x y : D) : X D := match x, y with
  | .int i, .int j => .ok (.int (i - j))
  | _, _ => .bad
theorem od_sub : OpD Z (rI0 fun i j => .int (i - j)) dSub := fun w σ G H x y v u l rx ry Q q => by
  unfold dSub at q
  split at q
  · unfold Rp at rx ry
    subst rx; subst ry
    exact ⟨_, _, rfl, rfl, q.now l _ rfl⟩
  · exact False.elim q
def rMulS : R2 := fun x y H Q => ∃ a n, x = .str a ∧ y = .int n ∧ MulOk a n ∧ Q (.str (Txt.mul a n)) H
theorem op_mulS {X : Cx} : OpR X (binaryOp .Mult) rMulS := by
  intro pins s σ H x y v u Q I rx ry h
  obtain ⟨a, n, rfl, rfl, hc, q⟩ := h
  obtain ⟨t, rfl⟩ := rx
  obtain ⟨t', rfl⟩ := ry
  exact SB.mul hc fun t' k => ⟨.str (Txt.mul a n), H, I.tok k, ⟨_, rfl⟩, q⟩
/-- all small or one within 64 bits -/
def mulFits (i j : Int) : Bool := decide (i.natAbs < 2 ^ 60) || decide (j.natAbs < 2 ^ 60) || decide (i.natAbs.log2 + j.natAbs.log2 < 1000000)
def rMul3 : R2 := rOr (rI CMul fun i j => .int (i * j)) (rOr (rI CMulW fun i j => .int (i * j)) rMulS)
theorem op_mul3 {X : Cx} : OpR X (binaryOp .Mult) rMul3 := opU op_mul (opU op_mulW op_mulS)
def dMul (x y : D) : X D := match x, y with
  | .int i, .int j => if mulFits i j then .ok (.int (i * j)) else .bad
  | .str a, .int n => if n ≤ 1000 ∧ -1000 ≤ n ∧ a.length ≤ 1000 then .ok (.str (Txt.mul a n)) else .bad
  | _, _ => .bad
theorem mulOk_small {a : PySem.Str} {n : Int} (h1 : n ≤ 1000) (h2 : -1000 ≤ n) (h3 : a.length ≤ 1000) : MulOk a n := by
  refine ⟨by simp; omega, fun h _ => ?_, fun h _ => ?_⟩
  · have q : (a.length : Int) * n ≤ 1000 * 1000 := Int.mul_le_mul (by omega) h1 (by omega) (by omega)
    have q2 : (a.length : Int) ≤ (2 ^ 63 - 1) / n := (Int.le_ediv_iff_mul_le (by omega)).mpr (by omega)
    omega
  · have q : a.length * n.toNat ≤ 1000 * 1000 := Nat.mul_le_mul h3 (by omega)
    unfold Builtin.Str.tooLong
    rw [decide_eq_false_iff_not]
    have := sizeLine_eq
    omega
theorem od_mul : OpD Z rMul3 dMul := fun w σ G H x y v u l rx ry Q q => by
  unfold dMul at q
  split at q
  · split at q
    · rename_i h
      unfold Rp at rx ry
      subst rx; subst ry
      unfold mulFits at h
      simp only [Bool.or_eq_true, decide_eq_true_eq] at h
      rcases h with (h | h) | h
      · exact .inl ⟨_, _, rfl, rfl, .inl (by omega), q.now l _ rfl⟩
      · exact .inl ⟨_, _, rfl, rfl, .inr (by omega), q.now l _ rfl⟩
      · exact .inr (.inl ⟨_, _, rfl, rfl, h, q.now l _ rfl⟩)
    · exact False.elim q
  · split at q
    · rename_i h
      unfold Rp at rx ry
      subst rx; subst ry
      exact .inr (.inr ⟨_, _, rfl, rfl, mulOk_small h.1 h.2.1 h.2.2, q.now l _ rfl⟩)
    · exact False.elim q
  · exact False.elim q
def rDiv2 : R2 := rOr (rI CDivN fun i j => .int (i.fdiv j)) (rI CDivW fun i j => .int (i / j))
theorem op_div2 {X : Cx} : OpR X (binaryOp .FloorDiv) rDiv2 := opU op_fdivN op_fdivW
/-- // by a positive divisor below 2 ^ 9000 -/
def dDiv (x y : D) : X D := match x, y with
  | .int i, .int j => if 0 < j ∧ j.natAbs.log2 < 9000 then .ok (.int (i / j)) else .bad
  | _, _ => .bad
theorem od_div : OpD Z rDiv2 dDiv := fun w σ G H x y v u l rx ry Q q => by
  unfold dDiv at q
  split at q
  · split at q
    · rename_i h
      unfold Rp at rx ry
      subst rx; subst ry
      exact .inr ⟨_, _, rfl, rfl, h, q.now l _ rfl⟩
    · exact False.elim q
  · exact False.elim q
def dMod (x y : D) : X D := match x, y with
  | .int i, .int j => if 0 < j then .ok (.int (i % j)) else .bad
  | _, _ => .bad
theorem od_mod : OpD Z (rI (fun _ j => 0 < j) fun i j => .int (i % j)) dMod := fun w σ G H x y v u l rx ry Q q => by
  unfold dMod at q
  split at q
  · split at q
    · rename_i h
      unfold Rp at rx ry
      subst rx; subst ry
      exact ⟨_, _, rfl, rfl, h, q.now l _ rfl⟩
    · exact False.elim q
  · exact False.elim q
def dPow (x y : D) : X D := match x, y with
  | .int i, .int j => if 0 ≤ j ∧ j ≤ 1000000 ∧ i.natAbs < 2 ^ 60 then .ok (.int (i ^ j.toNat)) else .bad
  | _, _ => .bad
theorem od_pow : OpD Z (rI CPow fun i j => .int (i ^ j.toNat)) dPow := fun w σ G H x y v u l rx ry Q q => by
  unfold dPow at q
  split at q
  · split at q
    · rename_i h
      unfold Rp at rx ry
      subst rx; subst ry
      exact ⟨_, _, rfl, rfl, ⟨h.1, h.2.1, by omega⟩, q.now l _ rfl⟩
    · exact False.elim q
  · exact False.elim q
def dNeg (x : D) : X D := match x with
  | .int i => .ok (.int (-i))
  | _ => .bad
theorem ud_neg : UnD Z (rU fun i => .int (-i)) dNeg := fun w σ G H x v l rx Q q => by
  unfold dNeg at q
  split at q
  · unfold Rp at rx
    subst rx
    exact ⟨_, rfl, q.now l _ rfl⟩
  · exact False.elim q
/-! comparisons of ints -/
def dLt (x y : D) : X D := match x, y with
  | .int i, .int j => .ok (.bl (decide (i < j)))
  | _, _ => .bad
def dLe (x y : D) : X D := match x, y with
  | .int i, .int j => .ok (.bl (decide (i ≤ j)))
  | _, _ => .bad
def dGt (x y : D) : X D := match x, y with
  | .int i, .int j => .ok (.bl (decide (j < i)))
  | _, _ => .bad
def dGe (x y : D) : X D := match x, y with
  | .int i, .int j => .ok (.bl (decide (j ≤ i)))
  | _, _ => .bad
theorem od_lt : OpD Z (rI0 fun i j => .bl (decide (i < j))) dLt := fun w σ G H x y v u l rx ry Q q => by
  unfold dLt at q
  split at q
  · unfold Rp at rx ry
    subst rx; subst ry
    exact ⟨_, _, rfl, rfl, q.now l _ rfl⟩
  · exact False.elim q
theorem od_le : OpD Z (rI0 fun i j => .bl (decide (i ≤ j))) dLe := fun w σ G H x y v u l rx ry Q q => by
  unfold dLe at q
  split at q
  · unfold Rp at rx ry
    subst rx; subst ry
    exact ⟨_, _, rfl, rfl, q.now l _ rfl⟩
  · exact False.elim q
theorem od_gt : OpD Z (rI0 fun i j => .bl (decide (j < i))) dGt := fun w σ G H x y v u l rx ry Q q => by
  unfold dGt at q
  split at q
  · unfold Rp at rx ry
    subst rx; subst ry
    exact ⟨_, _, rfl, rfl, q.now l _ rfl⟩
  · exact False.elim q
theorem od_ge : OpD Z (rI0 fun i j => .bl (decide (j ≤ i))) dGe := fun w σ G H x y v u l rx ry Q q => by
  unfold dGe at q
  split at q
  · unfold Rp at rx ry
    subst rx; subst ry
    exact ⟨_, _, rfl, rfl, q.now l _ rfl⟩
  · exact False.elim q
/-- a op1 b op2 c -/
theorem ee_chain {r r' : R2} {f f' : D → D → X D} {ta tb tc : TE} {ma mb mc : X D} (hr : OpD Z r f) (hr' : OpD Z r' f') (ha : EE Z w ta τ ma) (hb : EE Z w tb τ mb) (hc : EE Z w tc τ mc) :
    EE Z w (tChain r r' ta tb tc) τ (ma.bind fun x => mb.bind fun y => ((f x y).bind dB).bind fun b => bif b then mc.bind fun z => f' y z else .ok (.bl false)) := fun G H σ fp l e Q q => by
  refine ha G H σ fp l e _ (q.bind.imp fun x G2 H2 n2 q2 v rv => ?_)
  refine hb G2 H2 σ fp n2.gh (e.nxt n2) _ (q2.bind.imp fun y G3 H3 n3 q3 u ru => ?_)
  refine hr w σ G3 H3 x y v u n3.gh (rv.mono n3.g.lq) ru _ (q3.bind.bind.imp fun d G4 H4 n4 q4 b rb => ?_)
  obtain ⟨k, rfl, q5⟩ := dB_ok q4
  have q5 := q5.now n4.gh
  refine ⟨k, rb, ?_⟩
  cases k with
  | true =>
    rw [if_pos rfl]
    refine hc G4 H4 σ fp n4.gh ((e.nxt n2).nxt (n3.trans n4)) _ (Res.imp (Res.bind q5) fun z G5 H5 n5 q6 w' rw' => ?_)
    exact hr' w σ G5 H5 y z u w' n5.gh ((ru.mono n4.g.lq).mono n5.g.lq) rw' Q q6
  | false =>
    rw [if_neg Bool.false_ne_true]
    exact Res.now n4.gh q5 _ rfl

/-! is None -/
def dIsN (x : D) : D := match x with
  | .non => .bl true
  | _ => .bl false
theorem dIsN_eq {G : Hp} {d : D} {v : V} (r : Rp Z G d v) : dIsN d = .bl (decide (v = .non)) := by
  cases d <;> unfold Rp at r
  case non => subst r; rfl
  case bl => subst r; rfl
  case int => subst r; rfl
  case str => subst r; rfl
  case lst => obtain ⟨a, vs, rfl, _⟩ := r; rfl
  case tup => obtain ⟨a, vs, rfl, _⟩ := r; rfl
  case dct => obtain ⟨a, vs, rfl, _⟩ := r; rfl
  case ins => obtain ⟨a, dx, vs, rfl, _⟩ := r; rfl
  case scr => obtain ⟨a, rfl, _⟩ := r; rfl
theorem ee_isN {ta : TE} {ma : X D} (ha : EE Z w ta τ ma) : EE Z w (tIsN ta) τ (ma.bind fun x => .ok (dIsN x)) := fun G H σ fp l e Q q => by
  refine ha G H σ fp l e _ (q.bind.imp fun x G2 H2 n2 q2 v rv => ?_)
  exact q2.now n2.gh _ (by rw [dIsN_eq rv]; rfl)
theorem ee_notN {ta : TE} {ma : X D} (ha : EE Z w ta τ ma) : EE Z w (tNotN ta) τ (ma.bind fun x => (X.ok (dIsN x)).bind fun b => (dB b).bind fun c => .ok (.bl !c)) := fun G H σ fp l e Q q => by
  refine ha G H σ fp l e _ (q.bind.imp fun x G2 H2 n2 q2 v rv => ?_)
  rw [dIsN_eq rv] at q2
  exact Res.now n2.gh q2 _ rfl

/-! places, slices -/
/-- the place of an item -/
def dAt (x y : D) : X D := match x, y with
  | .lst xs, .int i => .of (atI xs i)
  | .tup xs, .int i => .of (atI xs i)
  | .scr ns, .int i => .of ((atI ns i).map .int)
  | .str z, .int i => if z.length ≤ 1000000 then .of ((atI z.cps.toList i).map fun c => .str ⟨#[c]⟩) else .bad
  | _, _ => .bad
theorem of_ok {d : Option D} {σ : L2.St} {G H : Hp} {k : D → Hp → Hp → Prop} (q : Res Z w σ G H (X.of d) k) : ∃ x, d = some x ∧ Res Z w σ G H (.ok x) k := by
  cases d with
  | none => exact False.elim q
  | some x => exact ⟨x, rfl, q⟩
theorem atI_rp {G : Hp} {xs : List D} {vs : List V} {i : Int} {d : D} (r : RpL Z G xs vs) (h : atI xs i = some d) : ∃ v, atI vs i = some v ∧ Rp Z G d v := by
  unfold atI at h ⊢
  rw [r.length]
  cases e : ixN xs.length i with
  | none => rw [e] at h; cases h
  | some j =>
    rw [e] at h
    exact r.get h
theorem od_at : OpD Z (rIx Z.K) dAt := fun w σ G H x y v u l rx ry Q q => by
  unfold dAt at q
  split at q
  · obtain ⟨d, ed, q2⟩ := of_ok q
    unfold Rp at rx ry
    subst ry
    obtain ⟨a, vs, e1, e2, e3⟩ := rx
    obtain ⟨v', ev, rv⟩ := atI_rp e3 ed
    exact .inl ⟨a, vs, _, v', e1, rfl, SqL.of (l.at e2 rfl), ev, q2.now l _ rv⟩
  · obtain ⟨d, ed, q2⟩ := of_ok q
    unfold Rp at rx ry
    subst ry
    obtain ⟨a, vs, e1, e2, e3⟩ := rx
    obtain ⟨v', ev, rv⟩ := atI_rp e3 ed
    exact .inr (.inl ⟨a, vs, _, v', e1, rfl, SqT.of (l.at e2 rfl), ev, q2.now l _ rv⟩)
  · rename_i ns i
    obtain ⟨d, ed, q2⟩ := of_ok q
    unfold Rp at rx ry
    subst ry
    obtain ⟨a, e1, e2⟩ := rx
    obtain ⟨n, en, en2⟩ := Option.map_eq_some_iff.mp ed
    subst en2
    refine .inl ⟨a, _, _, .int n, e1, rfl, l.sqL e2, ?_, q2.now l _ rfl⟩
    unfold atI at en ⊢
    rw [List.length_map]
    cases e : ixN ns.length i with
    | none => rw [e] at en; cases en
    | some j =>
      rw [e] at en
      show (ns.map V.int)[j]? = _
      rw [List.getElem?_map]
      have en' : ns[j]? = some n := en
      rw [en']; rfl
  · split at q
    · rename_i h
      obtain ⟨d, ed, q2⟩ := of_ok q
      unfold Rp at rx ry
      subst rx; subst ry
      obtain ⟨c, ec, en2⟩ := Option.map_eq_some_iff.mp ed
      subst en2
      exact .inr (.inr ⟨_, _, c, rfl, rfl, sz6 h, ec, q2.now l _ rfl⟩)
    · exact False.elim q
  · exact False.elim q
theorem eo_none : EO Z w tNoPart τ (.ok none) := fun G H σ fp l e Q q => q.now l _ rfl
def dPart (d : D) : X (Option Int) := match d with
  | .int i => .ok (some i)
  | _ => .bad
theorem eo_some {te : TE} {me : X D} (h : EE Z w te τ me) : EO Z w (tPart te) τ (me.bind dPart) := fun G H σ fp l e Q q => by
  refine h G H σ fp l e _ (q.bind.imp fun d G2 H2 n2 q2 v rv => ?_)
  unfold dPart at q2
  split at q2
  · exact ⟨_, rv, Res.now n2.gh q2 _ rfl⟩
  · exact False.elim q2
def cut {α : Type} (xs : List α) (lo hi : Option Int) : List α := (xs.drop (HT.sIx xs.length 0 lo)).take (HT.sIx xs.length xs.length hi - HT.sIx xs.length 0 lo)
def rSl2 (K : PySem.W.Frag) : V → Option Int → Option Int → Hp → VK → Prop := fun x lo hi H Q => rSlL K x lo hi H Q ∨ rSlS x lo hi H Q
theorem sl2 {X : Cx} : SlR X (rSl2 X.K) := sl_list.or sl_str
def dCut (x : D) (lo hi : Option Int) : X D := match x with
  | .lst xs => .ok (.lst (cut xs lo hi))
  | .scr ns => .ok (.lst ((cut ns lo hi).map .int))
  | .str z => if z.length ≤ 1000000 then .ok (.str (cutS z lo hi)) else .bad
  | _ => .bad
theorem RpL.drop {G : Hp} : ∀ {ds : List D} {vs : List V} (n : Nat), RpL Z G ds vs → RpL Z G (ds.drop n) (vs.drop n)
  | ds, vs, 0, h => h
  | [], vs, n + 1, h => by unfold RpL at h; rw [h]; exact RpL.nil
  | d :: ds, vs, n + 1, h => by
    unfold RpL at h
    obtain ⟨v, r, e, a, q⟩ := h
    rw [e]
    exact q.drop n
theorem RpL.take {G : Hp} : ∀ {ds : List D} {vs : List V} (n : Nat), RpL Z G ds vs → RpL Z G (ds.take n) (vs.take n)
  | ds, vs, 0, h => RpL.nil
  | [], vs, n + 1, h => by unfold RpL at h; rw [h]; exact RpL.nil
  | d :: ds, vs, n + 1, h => by
    unfold RpL at h
    obtain ⟨v, r, e, a, q⟩ := h
    rw [e]
    exact RpL.cons a (q.take n)
theorem ee_cut {te : TE} {tl th : TO} {me : X D} {ml mh : X (Option Int)} (he : EE Z w te τ me) (hl : EO Z w tl τ ml) (hh : EO Z w th τ mh) : EE Z w (tSl (rSl2 Z.K) te tl th) τ (me.bind fun x => ml.bind fun lo => mh.bind fun hi => dCut x lo hi) := fun G H σ fp l e Q q => by
  refine he G H σ fp l e _ (q.bind.imp fun x G2 H2 n2 q2 v rv => ?_)
  refine hl G2 H2 σ fp n2.gh (e.nxt n2) _ (q2.bind.imp fun lo G3 H3 n3 q3 lo' rlo => ?_)
  refine hh G3 H3 σ fp n3.gh ((e.nxt n2).nxt n3) _ (q3.bind.imp fun hi G4 H4 n4 q4 hi' rhi => ?_)
  subst rlo; subst rhi
  have rv4 := (rv.mono n3.g.lq).mono n4.g.lq
  unfold dCut at q4
  split at q4
  · rename_i xs
    unfold Rp at rv4
    obtain ⟨a, vs, e1, e2, e3⟩ := rv4
    refine .inl ⟨a, vs, e1, SqL.of (n4.gh.at e2 rfl), fun p hp => ?_⟩
    have n := (Nxt.refl n4.gh).new (o := .lst (cutV vs lo' hi')) hp
    refine q4 _ _ n _ ?_
    unfold Rp
    refine ⟨p, _, rfl, upd_same, RpL.mono n.g.lq ?_⟩
    unfold cut cutV
    rw [e3.length]
    exact (e3.drop _).take _
  · rename_i ns
    unfold Rp at rv4
    obtain ⟨a, e1, e2⟩ := rv4
    refine .inl ⟨a, _, e1, n4.gh.sqL e2, fun p hp => ?_⟩
    have n := (Nxt.refl n4.gh).new (o := .lst (cutV (ns.map V.int) lo' hi')) hp
    refine q4 _ _ n _ ?_
    unfold Rp
    refine ⟨p, _, rfl, upd_same, ?_⟩
    have ec : cutV (ns.map V.int) lo' hi' = (cut ns lo' hi').map V.int := by
      unfold cut cutV
      rw [List.length_map, List.map_take, List.map_drop]
    rw [ec]
    exact rpL_ints _
  · split at q4
    · rename_i h
      unfold Rp at rv4
      exact .inr ⟨_, rv4, sz6 h, Res.now n4.gh q4 _ rfl⟩
    · exact False.elim q4
  · exact False.elim q4
/-! len -/
def dLen (ds : List D) : X D := match ds with
  | [.lst xs] => .ok (.int xs.length)
  | [.tup xs] => .ok (.int xs.length)
  | [.scr ns] => .ok (.int ns.length)
  | [.str z] => if z.length ≤ 1000000 then .ok (.int z.length) else .bad
  | _ => .bad
theorem cd_len : CaD Z (fun xs H Q => ∃ x n, xs = [x] ∧ LenV Z.K x H n ∧ Q (.int n) H) dLen := fun w σ G H ds vs l r Q q => by
  unfold dLen at q
  split at q
  · obtain ⟨v, e, rv⟩ := r.one
    unfold Rp at rv
    obtain ⟨a, us, e1, e2, e3⟩ := rv
    subst e1
    refine ⟨.ref a, _, e, .inl ⟨us, SqL.of (l.at e2 rfl), e3.length.symm⟩, q.now l _ rfl⟩
  · obtain ⟨v, e, rv⟩ := r.one
    unfold Rp at rv
    obtain ⟨a, us, e1, e2, e3⟩ := rv
    subst e1
    refine ⟨.ref a, _, e, .inr ⟨us, SqT.of (l.at e2 rfl), e3.length.symm⟩, q.now l _ rfl⟩
  · obtain ⟨v, e, rv⟩ := r.one
    unfold Rp at rv
    obtain ⟨a, e1, e2⟩ := rv
    subst e1
    refine ⟨.ref a, _, e, .inl ⟨_, l.sqL e2, List.length_map .. |>.symm⟩, q.now l _ rfl⟩
  · obtain ⟨v, e, rv⟩ := r.one
    unfold Rp at rv
    subst rv
    split at q
    · rename_i h
      exact ⟨_, _, e, ⟨sz6 h, rfl⟩, q.now l _ rfl⟩
    · exact False.elim q
  · exact False.elim q
end
end Wk

namespace Wk
open PySem PySem.Spec PyProof.Rows L2

/-! ### isinstance with a built-in class -/
inductive TyY (K : PySem.W.Frag) (H : Hp) : V → Value → Prop where
  | x {v : V} {t : Value} (h : TyX K H v t) : TyY K H v t
  | fDictT {a : Addr} {o : Obj} {kvs : List (List Key × V)} (e : H a = some (.frz o (.dT kvs))) : TyY K H (.ref a) (.type "dict")
theorem kitY_of {X : Cx} {pins : List (Addr × Obj)} {σ : L2.St} {H : Hp} {s : Shared} {x : V} {u t : Value} (I : Inv X pins σ H s) (rx : RelV x u) (ty : TyY X.K H x t) : ∃ P : Heap → Prop, PySem.W.KitX X.K u t P ∧ P s.heap ∧ u ≠ .builtin "__main__.__loader__#opaque" := by
  cases ty with
  | x h => exact kit_of I rx h
  | @fDictT a ob kvs ea =>
    cases (show u = Value.ref a from rx)
    obtain ⟨_, _, _, xs, _, o, es, ep, h1, h2, _⟩ := (show ObjOk X.prog X.w H s.heap a (.frz ob (.dT kvs)) from I.hok a _ ea)
    exact ⟨_, PySem.W.kitx_dict, ⟨o, h1, h2.1⟩, fun z => nomatch z⟩
def rIsY (K : PySem.W.Frag) : List V → Hp → VK → Prop := fun xs H Q => ∃ (x c : V) (t u : Value) (b : Bool), xs = [x, c] ∧ ClsV c u ∧ TyY K H x t ∧ PySem.W.kitOne K t u = some b ∧ Q (.bl b) H
theorem call_isY {X : Cx} : CallR X (.builtin "isinstance") (rIsY X.K) := by
  intro pins s σ H xs us Q I r h
  obtain ⟨x, c, t, u, b, rfl, k, ty, e, q⟩ := h
  obtain ⟨u1, u2, rfl, r1, r2⟩ := vals2 r
  have e2 := k.eq r2
  subst e2
  obtain ⟨P, Z, p, hx⟩ := kitY_of I r1 ty
  exact PySem.W.kia_one Z I.kIn p e hx fun tk => ⟨.bl b, H, I.tok tk, rfl, q⟩
inductive Ty where
  | str | int | bool | list | tuple | dict
  deriving DecidableEq
def Ty.nm : Ty → String
  | .str => "str" | .int => "int" | .bool => "bool" | .list => "list" | .tuple => "tuple" | .dict => "dict"
def D.tn : D → String
  | .non => "NoneType" | .bl _ => "bool" | .int _ => "int" | .str _ => "str" | .lst _ => "list" | .tup _ => "tuple" | .dct _ _ => "dict" | .ins _ _ => "?" | .scr _ => "list"
def isTy (n : Ty) : D → Bool
  | .non => false
  | .bl _ => n == .bool || n == .int
  | .int _ => n == .int
  | .str _ => n == .str
  | .lst _ => n == .list
  | .tup _ => n == .tuple
  | .dct _ _ => n == .dict
  | .ins _ _ => false
  | .scr _ => n == .list
def dIs (n : Ty) (d : D) : X D := match d with
  | .ins _ _ => .bad
  | d => .ok (.bl (isTy n d))
theorem kit_bl (n : Ty) : kitB "bool" n.nm = some (n == .bool || n == .int) := by cases n <;> decide +kernel
theorem kit_non (n : Ty) : kitB "NoneType" n.nm = some false := by cases n <;> decide +kernel
theorem kit_int (n : Ty) : kitB "int" n.nm = some (n == .int) := by cases n <;> decide +kernel
theorem kit_str (n : Ty) : kitB "str" n.nm = some (n == .str) := by cases n <;> decide +kernel
theorem kit_list (n : Ty) : kitB "list" n.nm = some (n == .list) := by cases n <;> decide +kernel
theorem kit_tuple (n : Ty) : kitB "tuple" n.nm = some (n == .tuple) := by cases n <;> decide +kernel
theorem kit_dict (n : Ty) : kitB "dict" n.nm = some (n == .dict) := by cases n <;> decide +kernel
theorem tyY_dict {K : PySem.W.Frag} {G : Hp} {a : Addr} {t : Bool} {ws : List (List Key × V)} (h : RdD G a t ws) : TyY K G (.ref a) (.type "dict") := by
  cases t with
  | true =>
    rcases h with h | ⟨o, h⟩
    · exact .x (.base (.dT h))
    · exact .fDictT h
  | false =>
    obtain ⟨us, _, h | ⟨o, h⟩⟩ := h
    · exact .x (.base (.dK h))
    · exact .x (.fDict h)
section
variable {Z : Zs} {w : WX} {τ : Env}
theorem tyY_scr {G : Hp} {a : Addr} {vs : List V} (h : SqL Z.K G a vs) : TyY Z.K G (.ref a) (.type "list") := by
  rcases h with (h | ⟨o, h⟩) | ⟨o, its, n, h, c, _⟩
  · exact .x (.base (.lst h))
  · exact .x (.base (.frz h))
  · exact .x (.kList h c)
theorem ee_is {n : Ty} {c : V} {te : TE} {me : X D} (he : EE Z w te τ me) (hc : c = .ty n.nm := by rfl) : EE Z w (tCB (rIsY Z.K) (tCons te (tCons (tC c) tNil))) τ (me.bind (dIs n)) := fun G H σ fp l e Q q => by
  subst hc
  refine he G H σ fp l e _ (q.bind.imp fun d G2 H2 n2 q2 v rv => ?_)
  show rIsY Z.K [v, .ty n.nm] H2 Q
  cases d <;> unfold Rp at rv
  case non => subst rv; exact ⟨_, _, _, _, _, rfl, .ty _, .x (.base .non), kit_ty (kit_non n), Res.now n2.gh q2 _ rfl⟩
  case bl => subst rv; exact ⟨_, _, _, _, _, rfl, .ty _, .x (.base (.bl _)), kit_ty (kit_bl n), Res.now n2.gh q2 _ rfl⟩
  case int => subst rv; exact ⟨_, _, _, _, _, rfl, .ty _, .x (.base (.int _)), kit_ty (kit_int n), Res.now n2.gh q2 _ rfl⟩
  case str => subst rv; exact ⟨_, _, _, _, _, rfl, .ty _, .x (.base (.str _)), kit_ty (kit_str n), Res.now n2.gh q2 _ rfl⟩
  case lst =>
    obtain ⟨a, vs, e1, e2, _⟩ := rv
    subst e1
    exact ⟨_, _, _, _, _, rfl, .ty _, .x (.base (.lst (n2.gh.at e2 rfl))), kit_ty (kit_list n), Res.now n2.gh q2 _ rfl⟩
  case tup =>
    obtain ⟨a, vs, e1, e2, _⟩ := rv
    subst e1
    exact ⟨_, _, _, _, _, rfl, .ty _, .x (.base (.tup (n2.gh.at e2 rfl))), kit_ty (kit_tuple n), Res.now n2.gh q2 _ rfl⟩
  case dct =>
    obtain ⟨a, ws, e1, e2, _⟩ := rv
    subst e1
    exact ⟨_, _, _, _, _, rfl, .ty _, tyY_dict (e2.mono n2.gh.lq), kit_ty (kit_dict n), Res.now n2.gh q2 _ rfl⟩
  case ins => exact False.elim q2
  case scr =>
    obtain ⟨a, e1, e2⟩ := rv
    subst e1
    exact ⟨_, _, _, _, _, rfl, .ty _, tyY_scr (n2.gh.sqL e2), kit_ty (kit_list n), Res.now n2.gh q2 _ rfl⟩

/-! ### dicts: look, put, drop -/
def look {α : Type} (kvs : List (List Key × α)) (k : List Key) : Option α := (kvs.find? fun kv => decide (kv.1 = k)).map (·.2)
def put {α : Type} (kvs : List (List Key × α)) (k : List Key) (v : α) : List (List Key × α) :=
  if (kvs.any fun kv => decide (kv.1 = k)) = true then kvs.map (fun kv => if kv.1 = k then (kv.1, v) else kv) else kvs ++ [(k, v)]
def drp {α : Type} (kvs : List (List Key × α)) (k : List Key) : List (List Key × α) := kvs.filter fun kv => decide (kv.1 ≠ k)
theorem RpK.nil {G : Hp} : RpK Z G [] [] := by unfold RpK; rfl
theorem RpK.cons {G : Hp} {k : List Key} {d : D} {v : V} {kvs : List (List Key × D)} {ws : List (List Key × V)} (h : Rp Z G d v) (t : RpK Z G kvs ws) : RpK Z G ((k, d) :: kvs) ((k, v) :: ws) := by
  unfold RpK
  refine ⟨v, ws, rfl, ?_, t⟩
  unfold RpP
  exact h
theorem RpK.inv {G : Hp} {k : List Key} {d : D} {kvs : List (List Key × D)} {ws : List (List Key × V)} (h : RpK Z G ((k, d) :: kvs) ws) : ∃ v r, ws = (k, v) :: r ∧ Rp Z G d v ∧ RpK Z G kvs r := by
  unfold RpK at h
  obtain ⟨v, r, e, a, b⟩ := h
  unfold RpP at a
  exact ⟨v, r, e, a, b⟩
theorem RpK.length {G : Hp} : ∀ {kvs : List (List Key × D)} {ws : List (List Key × V)}, RpK Z G kvs ws → ws.length = kvs.length
  | [], ws, h => by unfold RpK at h; rw [h]; rfl
  | (k, d) :: kvs, ws, h => by
    obtain ⟨v, r, e, _, q⟩ := h.inv
    rw [e, List.length_cons, q.length, List.length_cons]
theorem RpK.keys {G : Hp} : ∀ {kvs : List (List Key × D)} {ws : List (List Key × V)}, RpK Z G kvs ws → ws.map (·.1) = kvs.map (·.1)
  | [], ws, h => by unfold RpK at h; rw [h]; rfl
  | (k, d) :: kvs, ws, h => by
    obtain ⟨v, r, e, _, q⟩ := h.inv
    rw [e, List.map_cons, q.keys, List.map_cons]
theorem RpK.look {G : Hp} {k : List Key} : ∀ {kvs : List (List Key × D)} {ws : List (List Key × V)}, RpK Z G kvs ws → (∀ d, Wk.look kvs k = some d → ∃ v, valV ws k = some v ∧ Rp Z G d v) ∧ (Wk.look kvs k = none → valV ws k = none)
  | [], ws, h => by
    unfold RpK at h
    subst h
    exact ⟨fun d e => (by cases e), fun _ => rfl⟩
  | (k', d) :: kvs, ws, h => by
    obtain ⟨v, r, e, a, q⟩ := h.inv
    subst e
    by_cases hk : k' = k
    · subst hk
      refine ⟨fun d' e' => ⟨v, ?_, ?_⟩, fun e' => ?_⟩
      · simp [valV]
      · simp [Wk.look] at e'
        subst e'; exact a
      · simp [Wk.look] at e'
    · have e1 : Wk.look ((k', d) :: kvs) k = Wk.look kvs k := by simp [Wk.look, hk]
      have e2 : valV ((k', v) :: r) k = valV r k := by simp [valV, hk]
      rw [e1, e2]
      exact q.look
theorem RpK.any {G : Hp} {k : List Key} {kvs : List (List Key × D)} {ws : List (List Key × V)} (h : RpK Z G kvs ws) : (ws.any fun kv => decide (kv.1 = k)) = kvs.any fun kv => decide (kv.1 = k) := by
  have e1 : (ws.any fun kv => decide (kv.1 = k)) = (ws.map (·.1)).any fun x => decide (x = k) := by rw [List.any_map]; rfl
  have e2 : (kvs.any fun kv => decide (kv.1 = k)) = (kvs.map (·.1)).any fun x => decide (x = k) := by rw [List.any_map]; rfl
  rw [e1, e2, h.keys]
theorem RpK.snoc {G : Hp} {k : List Key} {d : D} {v : V} (rv : Rp Z G d v) : ∀ {kvs : List (List Key × D)} {ws : List (List Key × V)}, RpK Z G kvs ws → RpK Z G (kvs ++ [(k, d)]) (ws ++ [(k, v)])
  | [], ws, h => by
    unfold RpK at h
    subst h
    exact RpK.cons rv RpK.nil
  | (k', d') :: kvs, ws, h => by
    obtain ⟨v', r, e, a, q⟩ := h.inv
    subst e
    exact RpK.cons a (q.snoc rv)
theorem RpK.repl {G : Hp} {k : List Key} {d : D} {v : V} (rv : Rp Z G d v) : ∀ {kvs : List (List Key × D)} {ws : List (List Key × V)}, RpK Z G kvs ws → RpK Z G (kvs.map fun kv => if kv.1 = k then (kv.1, d) else kv) (ws.map fun kv => if kv.1 = k then (kv.1, v) else kv)
  | [], ws, h => by
    unfold RpK at h
    subst h
    exact RpK.nil
  | (k', d') :: kvs, ws, h => by
    obtain ⟨v', r, e, a, q⟩ := h.inv
    subst e
    rw [List.map_cons, List.map_cons]
    by_cases hk : k' = k
    · rw [if_pos hk, if_pos hk]
      exact RpK.cons rv (q.repl rv)
    · rw [if_neg hk, if_neg hk]
      exact RpK.cons a (q.repl rv)
theorem RpK.put {G : Hp} {k : List Key} {d : D} {v : V} {kvs : List (List Key × D)} {ws : List (List Key × V)} (rv : Rp Z G d v) (h : RpK Z G kvs ws) : RpK Z G (Wk.put kvs k d) (putK ws k v) := by
  unfold Wk.put putK
  rw [h.any]
  split
  · exact h.repl rv
  · exact h.snoc rv
theorem RpK.drp {G : Hp} {k : List Key} : ∀ {kvs : List (List Key × D)} {ws : List (List Key × V)}, RpK Z G kvs ws → RpK Z G (Wk.drp kvs k) (dropK ws k)
  | [], ws, h => by
    unfold RpK at h
    subst h
    exact RpK.nil
  | (k', d') :: kvs, ws, h => by
    obtain ⟨v', r, e, a, q⟩ := h.inv
    subst e
    unfold Wk.drp dropK
    by_cases hk : k' = k
    · rw [List.filter_cons_of_neg (by simp [hk]), List.filter_cons_of_neg (by simp [hk])]
      exact q.drp
    · rw [List.filter_cons_of_pos (by simp [hk]), List.filter_cons_of_pos (by simp [hk])]
      exact RpK.cons a q.drp
/-! keys of one item -/
theorem one_val {us : List (Key × V)} {k : Key} : valV (us.map fun p => ([p.1], p.2)) [k] = valV us k := by
  unfold valV
  rw [List.find?_map, Option.map_map]
  have e : ((fun kv : List Key × V => decide (kv.1 = [k])) ∘ fun p : Key × V => ([p.1], p.2)) = fun kv : Key × V => decide (kv.1 = k) := by
    funext p
    simp
  rw [e]
  rfl
theorem one_put {us : List (Key × V)} {k : Key} {v : V} : putK (us.map fun p => ([p.1], p.2)) [k] v = (putK us k v).map fun p => ([p.1], p.2) := by
  unfold putK
  have e : ((us.map fun p : Key × V => ([p.1], p.2)).any fun kv => decide (kv.1 = [k])) = us.any fun kv => decide (kv.1 = k) := by
    rw [List.any_map]
    congr 1
    funext p
    simp
  rw [e]
  split
  · rw [List.map_map, List.map_map]
    congr 1
    funext p
    simp only [Function.comp]
    by_cases h : p.1 = k
    · rw [if_pos h, if_pos (by rw [h])]
    · rw [if_neg h, if_neg (by simpa using h)]
  · rw [List.map_append]; rfl
theorem one_drop {us : List (Key × V)} {k : Key} : dropK (us.map fun p => ([p.1], p.2)) [k] = (dropK us k).map fun p => ([p.1], p.2) := by
  unfold dropK
  rw [List.filter_map]
  congr 1
  congr 1
  funext p
  simp

/-! keys -/
def key1 : D → Option Key
  | .int i => some (.inl i)
  | .str x => some (.inr x)
  | _ => none
def keys1 : List D → Option (List Key)
  | [] => some []
  | d :: ds => (key1 d).bind fun k => (keys1 ds).map fun ks => k :: ks
def keyOf (t : Bool) (d : D) : Option (List Key) := match t, d with
  | true, .tup ds => keys1 ds
  | false, d => (key1 d).map fun k => [k]
  | _, _ => none
theorem key1_rp {G : Hp} {d : D} {v : V} {k : Key} (r : Rp Z G d v) (h : key1 d = some k) : v = kV k := by
  cases d <;> first
    | (cases h; done)
    | (unfold Rp at r; unfold key1 at h; cases h; rw [r]; rfl)
theorem keys1_rp {G : Hp} : ∀ {ds : List D} {vs : List V} {ks : List Key}, RpL Z G ds vs → keys1 ds = some ks → vs = ks.map kV
  | [], vs, ks, r, h => by unfold RpL at r; unfold keys1 at h; cases h; exact r
  | d :: ds, vs, ks, r, h => by
    unfold RpL at r
    obtain ⟨v, q, e, a, b⟩ := r
    unfold keys1 at h
    obtain ⟨k, hk, h2⟩ := Option.bind_eq_some_iff.mp h
    obtain ⟨ks', hks, h3⟩ := Option.map_eq_some_iff.mp h2
    subst h3; subst e
    rw [key1_rp a hk, keys1_rp b hks, List.map_cons]
theorem dget_rp {G H : Hp} {t : Bool} {kd : D} {k : List Key} {a : Addr} {ws : List (List Key × V)} {y : V} (l : Le G H) (ra : RdD G a t ws) (ry : Rp Z G kd y) (hk : keyOf t kd = some k) : DGet H a y (valV ws k) := by
  cases t with
  | true =>
    cases kd <;> try cases hk
    rename_i ds
    unfold Rp at ry
    obtain ⟨b, vs, e1, e2, e3⟩ := ry
    have ek := keys1_rp e3 hk
    subst e1
    exact .inr ⟨ws, k, b, l.rd ra, rfl, by rw [← ek]; exact l.at e2 rfl, rfl⟩
  | false =>
    have h' : (key1 kd).map (fun k => [k]) = some k := by
      unfold keyOf at hk
      exact hk
    obtain ⟨k1, h1, h2⟩ := Option.map_eq_some_iff.mp h'
    obtain ⟨us, eu, r⟩ := ra
    subst h2; subst eu
    rw [one_val]
    exact .inl ⟨us, k1, l.rd r, key1_rp ry h1, rfl⟩
theorem isD_rp {G H : Hp} {t : Bool} {a : Addr} {ws : List (List Key × V)} (l : Le G H) (ra : RdD G a t ws) : IsD H a := by
  cases t with
  | true => exact .inr ⟨ws, l.rd ra⟩
  | false => obtain ⟨us, _, r⟩ := ra; exact .inl ⟨us, l.rd r⟩
/-- d[k] -/
def dIx (x y : D) : X D := match x with
  | .dct t kvs => match keyOf t y with
    | some k => .of (look kvs k)
    | none => .bad
  | x => dAt x y
/-- an index: of a sequence, of a dict -/
theorem ix_go {x y : D} {G H : Hp} {σ : L2.St} {v u : V} (l : Le G H) (rx : Rp Z G x v) (ry : Rp Z G y u) {Q : VK} (q : Res Z w σ G H (dIx x y) fun d G2 H2 => ∀ b, Rp Z G2 d b → Q b H2) :
    (match x with | .dct _ _ => ∃ a v', v = .ref a ∧ DGet H a u (some v') ∧ Q v' H | _ => rIx Z.K v u H Q) := by
  cases x
  case dct t kvs =>
    unfold dIx at q
    dsimp only at q ⊢
    split at q
    · rename_i k hk
      obtain ⟨d, ed, q2⟩ := of_ok q
      unfold Rp at rx
      obtain ⟨a, ws, e1, e2, e3⟩ := rx
      obtain ⟨v', ev, rv⟩ := e3.look.1 d ed
      have g := dget_rp l e2 ry hk
      rw [ev] at g
      exact ⟨a, v', e1, g, q2.now l _ rv⟩
    · exact False.elim q
  all_goals exact od_at w σ G H _ y v u l rx ry Q q
theorem ee_ix {ta tb : TE} {ma mb : X D} (ha : EE Z w ta τ ma) (hb : EE Z w tb τ mb) : EE Z w (tOr2 (tOp (rIx Z.K) ta tb) (tDGet ta tb)) τ (ma.bind fun x => mb.bind fun y => dIx x y) := fun G H σ fp l e Q q => by
  cases ma with
  | ok x =>
    by_cases hd : ∃ t kvs, x = .dct t kvs
    · obtain ⟨t, kvs, rfl⟩ := hd
      refine .inr (ha G H σ fp l e _ fun G2 H2 n2 v rv => ?_)
      have q2 := Res.imp (m := mb) (Res.bind (show Res Z w σ G2 H2 (mb.bind fun y => dIx _ y) _ from (Res.bind (m := X.ok (D.dct t kvs)) q) G2 H2 n2)) fun a G3 H3 n3 h => h
      refine hb G2 H2 σ fp n2.gh (e.nxt n2) _ (q2.imp fun y G3 H3 n3 q3 u ru => ?_)
      exact ix_go n3.gh (rv.mono n3.g.lq) ru q3
    · refine .inl (ha G H σ fp l e _ fun G2 H2 n2 v rv => ?_)
      have q2 := Res.imp (m := mb) (Res.bind (show Res Z w σ G2 H2 (mb.bind fun y => dIx _ y) _ from (Res.bind (m := X.ok x) q) G2 H2 n2)) fun a G3 H3 n3 h => h
      refine hb G2 H2 σ fp n2.gh (e.nxt n2) _ (q2.imp fun y G3 H3 n3 q3 u ru => ?_)
      have z := ix_go n3.gh (rv.mono n3.g.lq) ru q3
      cases x <;> first
        | exact z
        | exact absurd ⟨_, _, rfl⟩ hd
  | exc c => exact .inl (ha G H σ fp l e _ q)
  | bad => exact False.elim q
/-- d.get(k, x) -/
def dGet2 (x y z : D) : X D := match x with
  | .dct t kvs => match keyOf t y with
    | some k => .ok ((look kvs k).getD z)
    | none => .bad
  | _ => .bad
def dDct (x : D) : X D := match x with
  | .dct _ _ => .ok x
  | _ => .bad
theorem ee_get2 {ta tb tc : TE} {ma mb mc : X D} (ha : EE Z w ta τ ma) (hb : EE Z w tb τ mb) (hc : EE Z w tc τ mc) : EE Z w (tDGet2 ta tb tc) τ (ma.bind fun x => (dDct x).bind fun x => mb.bind fun y => mc.bind fun z => dGet2 x y z) := fun G H σ fp l e Q q => by
  refine ha G H σ fp l e _ (q.bind.imp fun x G2 H2 n2 q2 v rv => ?_)
  unfold dDct at q2
  split at q2
  · rename_i t kvs
    unfold Rp at rv
    obtain ⟨a, ws, e1, e2, e3⟩ := rv
    refine ⟨a, e1, isD_rp n2.gh e2, ?_⟩
    have q3 : Res Z w σ G2 H2 (mb.bind fun y => mc.bind fun z => dGet2 (.dct t kvs) y z) fun d G2 H2 => ∀ b, Rp Z G2 d b → Q b H2 := q2
    refine hb G2 H2 σ fp n2.gh (e.nxt n2) _ (q3.bind.imp fun y G3 H3 n3 q4 u ru => ?_)
    refine hc G3 H3 σ fp n3.gh ((e.nxt n2).nxt n3) _ (q4.bind.imp fun z G4 H4 n4 q5 u2 ru2 => ?_)
    unfold dGet2 at q5
    dsimp only at q5
    split at q5
    · rename_i k hk
      have g := dget_rp n4.gh ((e2.mono n3.g.lq).mono n4.g.lq) (ru.mono n4.g.lq) hk
      refine ⟨_, g, Res.now n4.gh q5 _ ?_⟩
      have lk := ((e3.mono n3.g.lq).mono n4.g.lq).look (k := k)
      cases el : look kvs k with
      | some d =>
        obtain ⟨v', ev, rv'⟩ := lk.1 d el
        rw [ev]
        exact rv'
      | none =>
        rw [lk.2 el]
        exact ru2
    · exact False.elim q5
  · exact False.elim q2

/-! in, not in -/
def fV : D → Option V
  | .non => some .non
  | .bl b => some (.bl b)
  | .int i => some (.int i)
  | .str x => some (.str x)
  | _ => none
def fVs : List D → Option (List V)
  | [] => some []
  | d :: ds => (fV d).bind fun v => (fVs ds).map fun vs => v :: vs
theorem fV_rp {G : Hp} {d : D} {v u : V} (r : Rp Z G d v) (h : fV d = some u) : v = u ∧ flatV u = true := by
  cases d <;> first
    | (cases h; done)
    | (unfold Rp at r; unfold fV at h; cases h; exact ⟨r, rfl⟩)
theorem fVs_rp {G : Hp} : ∀ {ds : List D} {vs us : List V}, RpL Z G ds vs → fVs ds = some us → vs = us ∧ us.all flatV = true
  | [], vs, us, r, h => by unfold RpL at r; unfold fVs at h; cases h; exact ⟨r, rfl⟩
  | d :: ds, vs, us, r, h => by
    unfold RpL at r
    obtain ⟨v, q, e, a, b⟩ := r
    unfold fVs at h
    obtain ⟨k, hk, h2⟩ := Option.bind_eq_some_iff.mp h
    obtain ⟨ks', hks, h3⟩ := Option.map_eq_some_iff.mp h2
    subst h3; subst e
    obtain ⟨e1, f1⟩ := fV_rp a hk
    obtain ⟨e2, f2⟩ := fVs_rp b hks
    subst e1; subst e2
    exact ⟨rfl, by rw [List.all_cons, f1, f2] <;> rfl⟩
def rInG : R2 := fun x y H Q => ∃ (c : Nat) (z : PySem.Str), x = .str ⟨#[c]⟩ ∧ y = .str z ∧ Q (.bl (decide (c ∈ z.cps.toList))) H
def rNinG : R2 := fun x y H Q => ∃ (c : Nat) (z : PySem.Str), x = .str ⟨#[c]⟩ ∧ y = .str z ∧ Q (.bl (!decide (c ∈ z.cps.toList))) H
def rIn2 (K : PySem.W.Frag) : R2 := rOr (rIn K false) rInG
def rNin2 (K : PySem.W.Frag) : R2 := rOr (rIn K true) rNinG
theorem op_in2 {X : Cx} : OpR X (compareOp .In) (rIn2 X.K) := opU op_in_seq op_in_sign
theorem op_nin2 {X : Cx} : OpR X (compareOp .NotIn) (rNin2 X.K) := opU op_notIn_seq op_notIn_sign
/-- x in y -/
def dMem (x y : D) : X Bool := match y with
  | .lst ys => match fV x, fVs ys with
    | some v, some vs => .ok (inV v vs)
    | _, _ => .bad
  | .tup ys => match fV x, fVs ys with
    | some v, some vs => .ok (inV v vs)
    | _, _ => .bad
  | .str z => match x with
    | .str s => match s.cps.toList with
      | [c] => .ok (decide (c ∈ z.cps.toList))
      | _ => .bad
    | _ => .bad
  | .dct t kvs => match keyOf t x with
    | some k => .ok (look kvs k).isSome
    | none => .bad
  | _ => .bad
def dIn (x y : D) : X D := (dMem x y).bind fun b => .ok (.bl b)
def dNin (x y : D) : X D := (dMem x y).bind fun b => .ok (.bl !b)
/-- the sequences' part -/
theorem mem_seq {x y : D} {G H : Hp} {σ : L2.St} {v u : V} {neg : Bool} (l : Le G H) (rx : Rp Z G x v) (ry : Rp Z G y u) {Q : VK} (hy : ∀ t kvs, y ≠ .dct t kvs)
    (q : Res Z w σ G H ((dMem x y).bind fun b => .ok (.bl (if neg then !b else b))) fun d G2 H2 => ∀ b, Rp Z G2 d b → Q b H2) :
    (rIn Z.K neg v u H Q) ∨ ∃ (c : Nat) (z : PySem.Str), v = .str ⟨#[c]⟩ ∧ u = .str z ∧ Q (.bl (if neg then !decide (c ∈ z.cps.toList) else decide (c ∈ z.cps.toList))) H := by
  have q := Res.bind q
  unfold dMem at q
  split at q
  · split at q
    · rename_i v' vs' hv hvs
      unfold Rp at ry
      obtain ⟨a, us, e1, e2, e3⟩ := ry
      obtain ⟨ev, fv⟩ := fV_rp rx hv
      obtain ⟨eu, fu⟩ := fVs_rp e3 hvs
      subst ev; subst eu
      exact .inl ⟨a, _, e1, .inl (SqL.of (l.at e2 rfl)), fv, fu, Res.now l (Res.now l q) _ rfl⟩
    · exact False.elim q
  · split at q
    · rename_i v' vs' hv hvs
      unfold Rp at ry
      obtain ⟨a, us, e1, e2, e3⟩ := ry
      obtain ⟨ev, fv⟩ := fV_rp rx hv
      obtain ⟨eu, fu⟩ := fVs_rp e3 hvs
      subst ev; subst eu
      exact .inl ⟨a, _, e1, .inr (SqT.of (l.at e2 rfl)), fv, fu, Res.now l (Res.now l q) _ rfl⟩
    · exact False.elim q
  · split at q
    · split at q
      · rename_i s _ _ c hc
        unfold Rp at rx ry
        refine .inr ⟨c, _, ?_, ry, Res.now l (Res.now l q) _ rfl⟩
        rw [rx]
        have e1 : s.cps = #[c] := Array.toList_inj.mp (by rw [hc])
        cases s with
        | mk a =>
          have e2 : a = #[c] := e1
          rw [e2]
      · exact False.elim q
    · exact False.elim q
  · exact absurd rfl (hy _ _)
  · exact False.elim q
theorem mem_dct {x : D} {t : Bool} {kvs : List (List Key × D)} {G H : Hp} {σ : L2.St} {v u : V} (l : Le G H) (rx : Rp Z G x v) (ry : Rp Z G (.dct t kvs) u) {f : Bool → D} {Q : VK}
    (q : Res Z w σ G H ((dMem x (.dct t kvs)).bind fun b => .ok (f b)) fun d G2 H2 => ∀ b, Rp Z G2 d b → Q b H2) : ∃ a o, u = .ref a ∧ DGet H a v o ∧ ∀ b, Rp Z G (f o.isSome) b → Q b H := by
  have q := Res.bind q
  unfold dMem at q
  dsimp only at q
  split at q
  · rename_i k hk
    unfold Rp at ry
    obtain ⟨a, ws, e1, e2, e3⟩ := ry
    refine ⟨a, _, e1, dget_rp l e2 rx hk, ?_⟩
    have lk := e3.look (k := k)
    have es : (valV ws k).isSome = (look kvs k).isSome := by
      cases el : look kvs k with
      | some d => obtain ⟨v', ev, _⟩ := lk.1 d el; rw [ev]; rfl
      | none => rw [lk.2 el]; rfl
    rw [es]
    exact Res.now l (Res.now l q)
  · exact False.elim q
theorem memX {ta tb : TE} {ma mb : X D} {neg : Bool} {r : R2} {td : TE} (ha : EE Z w ta τ ma) (hb : EE Z w tb τ mb)
    (hr : ∀ v u H Q, ((rIn Z.K neg v u H Q) ∨ ∃ (c : Nat) (z : PySem.Str), v = .str ⟨#[c]⟩ ∧ u = .str z ∧ Q (.bl (if neg then !decide (c ∈ z.cps.toList) else decide (c ∈ z.cps.toList))) H) → r v u H Q)
    (hd : ∀ σ H Q, (ta σ H fun y H1 => tb σ H1 fun x H2 => ∃ a o, x = .ref a ∧ DGet H2 a y o ∧ Q (.bl (if neg then !o.isSome else o.isSome)) H2) → td σ H Q) :
    EE Z w (tOr2 (tOp r ta tb) td) τ (ma.bind fun x => mb.bind fun y => (dMem x y).bind fun b => .ok (.bl (if neg then !b else b))) := fun G H σ fp l e Q q => by
  by_cases hm : ∃ t kvs, mb = .ok (.dct t kvs)
  · obtain ⟨t, kvs, rfl⟩ := hm
    refine .inr (hd σ H Q ?_)
    refine ha G H σ fp l e _ (q.bind.imp fun x G2 H2 n2 q2 v rv => ?_)
    refine hb G2 H2 σ fp n2.gh (e.nxt n2) _ fun G3 H3 n3 u ru => ?_
    have q3 := Res.bind q2 G3 H3 n3
    obtain ⟨a, o, e1, e2, e3⟩ := mem_dct (f := fun b => .bl (if neg then !b else b)) n3.gh (rv.mono n3.g.lq) ru q3
    exact ⟨a, o, e1, e2, e3 _ rfl⟩
  · refine .inl ?_
    refine ha G H σ fp l e _ (q.bind.imp fun x G2 H2 n2 q2 v rv => ?_)
    refine hb G2 H2 σ fp n2.gh (e.nxt n2) _ ?_
    cases mb with
    | ok y =>
      intro G3 H3 n3 u ru
      have q3 := Res.bind q2 G3 H3 n3
      exact hr _ _ _ _ (mem_seq n3.gh (rv.mono n3.g.lq) ru (fun t kvs ey => hm ⟨t, kvs, by rw [ey]⟩) q3)
    | exc c => exact q2
    | bad => exact q2
theorem ee_in {ta tb : TE} {ma mb : X D} (ha : EE Z w ta τ ma) (hb : EE Z w tb τ mb) : EE Z w (tOr2 (tOp (rIn2 Z.K) ta tb) (tDIn ta tb)) τ (ma.bind fun x => mb.bind fun y => dIn x y) :=
  memX (neg := false) ha hb (fun v u H Q h => by
    rcases h with h | ⟨c, z, a, b, k⟩
    · exact .inl h
    · exact .inr ⟨c, z, a, b, k⟩) fun σ H Q h => h
theorem ee_nin {ta tb : TE} {ma mb : X D} (ha : EE Z w ta τ ma) (hb : EE Z w tb τ mb) : EE Z w (tOr2 (tOp (rNin2 Z.K) ta tb) (tDNotIn ta tb)) τ (ma.bind fun x => mb.bind fun y => dNin x y) :=
  memX (neg := true) ha hb (fun v u H Q h => by
    rcases h with h | ⟨c, z, a, b, k⟩
    · exact .inl h
    · exact .inr ⟨c, z, a, b, k⟩) fun σ H Q h => h
end
/-- a test or another one -/
def tOrT (t t' : TT) : TT := fun σ H Q => t σ H Q ∨ t' σ H Q
theorem pt_or2 {X : Cx} {e : Expr} {t t' : TT} (h : PT X e t) (h' : PT X e t') : PT X e (tOrT t t') :=
  ⟨fun pins s σ H Q I q => by
    rcases q with q | q
    · exact h.run pins s σ H Q I q
    · exact h'.run pins s σ H Q I q⟩
theorem et_or2 {Z : Zs} {w : WX} {τ : Env} {t t' : TE} {m : X D} (h : EE Z w (tOr2 t t') τ m) : ET Z w (tOrT (tTest t) (tB t')) τ (m.bind dB) := et_B (te := tOr2 t t') h
end Wk

namespace Wk
open PySem PySem.Spec PyProof.Rows L2

/-! ### == and != of data -/
mutual
def toPy : D → Option PyData
  | .non => some .none
  | .bl b => some (.bool b)
  | .int i => some (.int i)
  | .str x => some (.str x)
  | .lst xs => (toPys xs).map .list
  | .tup xs => (toPys xs).map .tuple
  | .dct _ _ => none
  | .ins _ _ => none
  | .scr ns => some (.list (ns.map .int))
def toPys : List D → Option (List PyData)
  | [] => some []
  | d :: ds => (toPy d).bind fun p => (toPys ds).map fun ps => p :: ps
end
theorem dpAll_ints {K : PySem.W.Frag} {H : Hp} : ∀ ns : List Int, DpAll K H (ns.map V.int) (ns.map .int)
  | [] => .nil
  | n :: ns => .cons (.int n) (dpAll_ints ns)
mutual
theorem toPy_dp {Z : Zs} {G H : Hp} (l : Le G H) : ∀ {d : D} {p : PyData} {v : V}, toPy d = some p → Rp Z G d v → Dp Z.K H v p
  | .non, p, v, h, r => by unfold toPy at h; unfold Rp at r; cases h; subst r; exact .non
  | .bl b, p, v, h, r => by unfold toPy at h; unfold Rp at r; cases h; subst r; exact .bl b
  | .int i, p, v, h, r => by unfold toPy at h; unfold Rp at r; cases h; subst r; exact .int i
  | .str x, p, v, h, r => by unfold toPy at h; unfold Rp at r; cases h; subst r; exact .str x
  | .lst xs, p, v, h, r => by
    unfold toPy at h; unfold Rp at r
    obtain ⟨ps, h1, h2⟩ := Option.map_eq_some_iff.mp h
    obtain ⟨a, vs, e1, e2, e3⟩ := r
    subst e1; subst h2
    exact .lst (SqL.of (l.at e2 rfl)) (toPys_dp l h1 e3)
  | .tup xs, p, v, h, r => by
    unfold toPy at h; unfold Rp at r
    obtain ⟨ps, h1, h2⟩ := Option.map_eq_some_iff.mp h
    obtain ⟨a, vs, e1, e2, e3⟩ := r
    subst e1; subst h2
    exact .tup (SqT.of (l.at e2 rfl)) (toPys_dp l h1 e3)
  | .dct _ _, p, v, h, r => by unfold toPy at h; cases h
  | .ins _ _, p, v, h, r => by unfold toPy at h; cases h
  | .scr ns, p, v, h, r => by
    unfold toPy at h; unfold Rp at r
    obtain ⟨a, e1, e2⟩ := r
    cases h; subst e1
    exact .lst (l.sqL e2) (dpAll_ints ns)
theorem toPys_dp {Z : Zs} {G H : Hp} (l : Le G H) : ∀ {ds : List D} {ps : List PyData} {vs : List V}, toPys ds = some ps → RpL Z G ds vs → DpAll Z.K H vs ps
  | [], ps, vs, h, r => by unfold toPys at h; unfold RpL at r; cases h; subst r; exact .nil
  | d :: ds, ps, vs, h, r => by
    unfold toPys at h; unfold RpL at r
    obtain ⟨p, h1, h2⟩ := Option.bind_eq_some_iff.mp h
    obtain ⟨ps', h3, h4⟩ := Option.map_eq_some_iff.mp h2
    obtain ⟨v, q, e, a, b⟩ := r
    subst h4; subst e
    exact .cons (toPy_dp l h1 a) (toPys_dp l h3 b)
end
def eqPy (x y : D) : X Bool := match toPy x, toPy y with
  | some a, some b => if SeqAt.shaped a = true ∧ SeqAt.shaped b = true then .ok (PyData.eqv a b) else .bad
  | _, _ => .bad
/-- x == y of flat ones -/
def eqF (x y : D) : Option Bool := match fV x, fV y with
  | some a, some b => if scal a b = true then some (decide (a = b)) else none
  | _, _ => none
/-- x == y -/
def eqB (x y : D) : X Bool := match eqF x y with
  | some b => .ok b
  | none => eqPy x y
def dEq (x y : D) : X D := (eqB x y).bind fun b => .ok (.bl b)
def dNe (x y : D) : X D := (eqB x y).bind fun b => .ok (.bl !b)
def rEq3 (K : PySem.W.Frag) : R2 := rOr rEq (rEqD K)
def rNe3 (K : PySem.W.Frag) : R2 := rOr rNe (rNeD K)
theorem op_eq3 {X : Cx} (hu : X.A.units + 64 < cLine) : OpR X (compareOp .Eq) (rEq3 X.K) := opU op_eq (op_eqD hu)
theorem op_ne3 {X : Cx} (hu : X.A.units + 64 < cLine) : OpR X (compareOp .NotEq) (rNe3 X.K) := opU op_ne (op_neD hu)
section
variable {Z : Zs} {w : WX} {τ : Env}
theorem eqPy_go {x y : D} {G H : Hp} {σ : L2.St} {v u : V} {f : Bool → D} (l : Le G H) (rx : Rp Z G x v) (ry : Rp Z G y u) {Q : VK}
    (q : Res Z w σ G H ((eqPy x y).bind fun b => .ok (f b)) fun d G2 H2 => ∀ b, Rp Z G2 d b → Q b H2) : ∃ d e, Dp Z.K H v d ∧ Dp Z.K H u e ∧ SeqAt.shaped d = true ∧ SeqAt.shaped e = true ∧ ∀ b, Rp Z G (f (PyData.eqv d e)) b → Q b H := by
  have q := Res.bind q
  unfold eqPy at q
  split at q
  · rename_i a b ha hb
    split at q
    · rename_i h
      exact ⟨a, b, toPy_dp l ha rx, toPy_dp l hb ry, h.1, h.2, Res.now l (Res.now l q)⟩
    · exact False.elim q
  · exact False.elim q
theorem eqF_go {x y : D} {G : Hp} {v u : V} {c : Bool} (rx : Rp Z G x v) (ry : Rp Z G y u) (h : eqF x y = some c) : scal v u = true ∧ decide (v = u) = c := by
  unfold eqF at h
  split at h
  · rename_i a b ha hb
    obtain ⟨e1, _⟩ := fV_rp rx ha
    obtain ⟨e2, _⟩ := fV_rp ry hb
    subst e1; subst e2
    split at h
    · rename_i hs
      exact ⟨hs, Option.some.inj h⟩
    · cases h
  · cases h
theorem od_eq3 : OpD Z (rEq3 Z.K) dEq := fun w σ G H x y v u l rx ry Q q => by
  unfold dEq eqB at q
  split at q
  · rename_i c hc
    obtain ⟨s, e⟩ := eqF_go rx ry hc
    exact .inl ⟨s, by rw [e]; exact Res.now (w := w) (σ := σ) (G := G) (H := H) l q _ rfl⟩
  · obtain ⟨d, e, h1, h2, h3, h4, h5⟩ := eqPy_go (f := .bl) l rx ry q
    exact .inr ⟨d, e, h1, h2, h3, h4, h5 _ rfl⟩
theorem od_ne3 : OpD Z (rNe3 Z.K) dNe := fun w σ G H x y v u l rx ry Q q => by
  unfold dNe eqB at q
  split at q
  · rename_i c hc
    obtain ⟨s, e⟩ := eqF_go rx ry hc
    exact .inl ⟨s, by rw [e]; exact Res.now (w := w) (σ := σ) (G := G) (H := H) l q _ rfl⟩
  · obtain ⟨d, e, h1, h2, h3, h4, h5⟩ := eqPy_go (f := fun b => .bl !b) l rx ry q
    exact .inr ⟨d, e, h1, h2, h3, h4, h5 _ rfl⟩
end

/-! ### dicts written -/
def kvOf (p : D × D) : Option (List Key × D) := (key1 p.1).map fun k => ([k], p.2)
end Wk

namespace Wk
open PySem PySem.Spec PyProof.Rows L2

/-! ### the mirror's words -/
namespace X
def b2 {α β γ : Type} (a : X α) (b : X β) (f : α → β → X γ) : X γ := a.bind fun x => b.bind fun y => f x y
def cons (a : X D) (r : X (List D)) : X (List D) := a.bind fun x => r.bind fun xs => .ok (x :: xs)
def tst (a : X D) : X Bool := a.bind dB
def and (a b : X Bool) : X Bool := a.bind fun t => bif t then b else .ok false
def or (a b : X Bool) : X Bool := a.bind fun t => bif t then .ok true else b
def not (a : X Bool) : X Bool := a.bind fun t => .ok !t
def andV (a b : X D) : X D := a.tst.bind fun t => bif t then b else .ok (.bl false)
def orV (a b : X D) : X D := a.tst.bind fun t => bif t then .ok (.bl true) else b
def notV (a : X D) : X D := a.tst.bind fun t => .ok (.bl !t)
def ite (c : X Bool) (a b : X D) : X D := c.bind fun t => bif t then a else b
def chain (f g : D → D → X D) (a b c : X D) : X D := a.bind fun x => b.bind fun y => (f x y).tst.bind fun t => bif t then c.bind fun z => g y z else .ok (.bl false)
def isN (a : X D) : X D := a.bind fun x => .ok (dIsN x)
def notN (a : X D) : X D := a.bind fun x => (dB (dIsN x)).bind fun c => .ok (.bl !c)
def cut (a : X D) (lo hi : X (Option Int)) : X D := a.bind fun x => lo.bind fun l => hi.bind fun h => dCut x l h
def get2 (a b c : X D) : X D := a.bind fun x => (dDct x).bind fun x => b.bind fun y => c.bind fun z => dGet2 x y z
def call (f : List D → M Unit) (a : X (List D)) : X D := a.bind fun ds => (f ds).fn
def callD (f : List D → M Unit) (dd : List D) (a : X (List D)) : X D := a.bind fun ds => (f (ds ++ dd)).fn
def ifM {S : Type} (c : X Bool) (a b : M S) : M S := c.to fun t => bif t then a else b
def retM {S : Type} (a : X D) : M S := a.to fun d => .ret (.sh d)
def drpM {S : Type} (a : X D) (r : M S) : M S := a.to fun _ => r
end X
def forX {S U : Type} (mi : X (List D)) (u : D → Option U) (s0 : S) (f : S → U → M S) : M S := mi.to fun xs => Wk.forM xs s0 fun s x => (X.of (u x)).to (f s)
section
variable {Z : Zs} {w : WX} {τ : Env} {ta tb tc te : TE} {ma mb mc me : X D}
theorem xe_op {r : R2} {f : D → D → X D} (hr : OpD Z r f) (ha : EE Z w ta τ ma) (hb : EE Z w tb τ mb) : EE Z w (tOp r ta tb) τ (X.b2 ma mb f) := ee_op hr ha hb
theorem xe_ix (ha : EE Z w ta τ ma) (hb : EE Z w tb τ mb) : EE Z w (tOr2 (tOp (rIx Z.K) ta tb) (tDGet ta tb)) τ (X.b2 ma mb dIx) := ee_ix ha hb
theorem xe_in (ha : EE Z w ta τ ma) (hb : EE Z w tb τ mb) : EE Z w (tOr2 (tOp (rIn2 Z.K) ta tb) (tDIn ta tb)) τ (X.b2 ma mb dIn) := ee_in ha hb
theorem xe_nin (ha : EE Z w ta τ ma) (hb : EE Z w tb τ mb) : EE Z w (tOr2 (tOp (rNin2 Z.K) ta tb) (tDNotIn ta tb)) τ (X.b2 ma mb dNin) := ee_nin ha hb
theorem xe_or2 {t t' : TE} {m : X D} (h : EE Z w (tOr2 t t') τ m) : ET Z w (tOrT (tTest t) (tB t')) τ m.tst := et_or2 h
theorem xa_cons {tr : TA} {mr : X (List D)} (ha : EE Z w ta τ ma) (hr : EA Z w tr τ mr) : EA Z w (tCons ta tr) τ (X.cons ma mr) := ea_cons ha hr
theorem xt_B (h : EE Z w te τ me) : ET Z w (tB te) τ me.tst := et_B h
theorem xt_test (h : EE Z w te τ me) : ET Z w (tTest te) τ me.tst := et_B h
theorem xt_and {t u : TT} {mt mu : X Bool} (h1 : ET Z w t τ mt) (h2 : ET Z w u τ mu) : ET Z w (tAnd t u) τ (X.and mt mu) := et_and h1 h2
theorem xt_or {t u : TT} {mt mu : X Bool} (h1 : ET Z w t τ mt) (h2 : ET Z w u τ mu) : ET Z w (tOr t u) τ (X.or mt mu) := et_or h1 h2
theorem xt_not {t : TT} {mt : X Bool} (h1 : ET Z w t τ mt) : ET Z w (tNot t) τ mt.not := et_not h1
theorem xe_andV (h1 : EE Z w ta τ ma) (h2 : EE Z w tb τ mb) : EE Z w (tAndV ta tb) τ (X.andV ma mb) := ee_andV h1 h2
theorem xe_orV (h1 : EE Z w ta τ ma) (h2 : EE Z w tb τ mb) : EE Z w (tOrV ta tb) τ (X.orV ma mb) := ee_orV h1 h2
theorem xe_notV (h1 : EE Z w ta τ ma) : EE Z w (tNotV ta) τ ma.notV := ee_notV h1
theorem xe_if {t : TT} {mt : X Bool} (h : ET Z w t τ mt) (h1 : EE Z w ta τ ma) (h2 : EE Z w tb τ mb) : EE Z w (tIf t ta tb) τ (X.ite mt ma mb) := ee_if h h1 h2
theorem xe_chain {r r' : R2} {f f' : D → D → X D} (hr : OpD Z r f) (hr' : OpD Z r' f') (ha : EE Z w ta τ ma) (hb : EE Z w tb τ mb) (hc : EE Z w tc τ mc) : EE Z w (tChain r r' ta tb tc) τ (X.chain f f' ma mb mc) := ee_chain hr hr' ha hb hc
theorem xe_isN (ha : EE Z w ta τ ma) : EE Z w (tIsN ta) τ ma.isN := ee_isN ha
theorem xe_notN (ha : EE Z w ta τ ma) : EE Z w (tNotN ta) τ ma.notN := ee_notN ha
theorem xe_cut {tl th : TO} {ml mh : X (Option Int)} (he : EE Z w te τ me) (hl : EO Z w tl τ ml) (hh : EO Z w th τ mh) : EE Z w (tSl (rSl2 Z.K) te tl th) τ (X.cut me ml mh) := ee_cut he hl hh
theorem xe_get2 (ha : EE Z w ta τ ma) (hb : EE Z w tb τ mb) (hc : EE Z w tc τ mc) : EE Z w (tDGet2 ta tb tc) τ (X.get2 ma mb mc) := ee_get2 ha hb hc
theorem xe_fn {f : List D → M Unit} {tr : TA} {mr : X (List D)} (ha : EA Z w tr τ mr) : EE Z w (tCallSD (spM Z f) [] (WE w) tr) τ (X.call f mr) := ee_fn' ha
theorem xe_fnD {f : List D → M Unit} {tr : TA} {mr : X (List D)} {dd : List D} {dvs : List V} (ha : EA Z w tr τ mr) (hd : ∀ G, RpL Z G dd dvs) : EE Z w (tCallSD (spM Z f) dvs (WE w) tr) τ (X.callD f dd mr) := ee_fn ha hd
/-! a new dict -/
theorem xe_newK : EE Z w tDNewK τ (.ok (.dct false [])) := fun G H σ fp l e Q q p hp => by
  have n := (Nxt.refl l).new (o := .dK []) hp
  refine q _ _ n _ ?_
  unfold Rp
  exact ⟨p, [], rfl, ⟨[], rfl, .inl upd_same⟩, RpK.nil⟩
theorem xe_newT : EE Z w tDNewT τ (.ok (.dct true [])) := fun G H σ fp l e Q q p hp => by
  have n := (Nxt.refl l).new (o := .dT []) hp
  refine q _ _ n _ ?_
  unfold Rp
  exact ⟨p, [], rfl, .inl upd_same, RpK.nil⟩
/-- {'k': v}, both written -/
theorem xe_dispC {x : PySem.Str} {v : V} {d : D} (hv : ∀ G, Rp Z G d v) : EE Z w (tDisp [(tC (.str x), tC v)]) τ (.ok (.dct false [([.inr x], d)])) := fun G H σ fp l e Q q p hp => by
  refine ⟨upd_same, [(.inr x, v)], rfl, by show 1 ≤ 15; decide, ?_⟩
  rw [upd_upd]
  have n := (Nxt.refl l).new (o := .dK [(.inr x, v)]) hp
  refine q _ _ n _ ?_
  unfold Rp
  refine ⟨p, [([.inr x], v)], rfl, ⟨[(.inr x, v)], rfl, .inl upd_same⟩, RpK.cons (hv _) RpK.nil⟩
end

/-! ### statements, in the mirror's words -/
/-- an own class of exceptions -/
structure ExF (K : PySem.W.Frag) (mg : PySem.Str → Option Value) (x : PySem.Str) (C : Addr) : Prop where
  g : mg x = some (.ref C)
  x : PySem.W.excIn K C [.type "ValueError", .type "Exception", .type "BaseException", .type "object"] "ValueError.__new__" = true
  k : PySem.W.keepIn K (.ref C) = true
  b : PySem.W.subIn K (.ref C) (.type "BaseException") = some true
  t : PySem.W.typeIn K (.ref C) = some (.type "type")
def tRz (W : WX) (C : Addr) : TS := fun _ σ H => W (.ref C) none σ H
theorem ps_rz {X : Cx} {W : WX} {x m : PySem.Str} {C : Addr} {j : Nat} {p p2 pos pos2 : Pos} (hc : X.calm = true) (tk : Takes X W) (F : ExF X.K X.mg x C) (hg : Gl X x) (hdb : (x == ("__debug__" : PySem.Str)) = false := by decide) :
    PS X (.Raise (some (.Call (.Name x p) [.Constant (.str m) j p2] [] pos)) none pos2) (tRz W C) :=
  ps_raise hc tk (pmk_own PySem.F.excBase_ValueError F.x F.g F.k (raises_own F.b F.t) hg hdb)
section
variable {Z : Zs} {w : Wh} {τ : Env} {S S' U : Type} {te : TE} {me : X D} {t1 t2 : TS} {env : S → Env}
/-- what hands back, whatever stands behind it -/
theorem SS.last {ts : TS} {m : M S} (h : ∀ env' : S → Env, SS Z w ts τ m env') (hn : ∀ s, m ≠ .ok s) : SS Z w (tSeq ts t2) τ m env := fun GB B G H σ st D o =>
  h env GB B G H σ st { D with nx := t2 D } (by
    cases e : m with
    | ok s => exact absurd e (hn s)
    | ret t => rw [e] at o; exact o
    | exc c => rw [e] at o; exact o
    | bad => rw [e] at o; exact o)
theorem xs_ret (he : EE Z w.w te τ me) (hx : SubX τ w.px := by trivial) : SS Z w (tSeq (tRet te) t2) τ (X.retM me) env :=
  SS.last (fun env' => ss_ret he hx) fun s => by cases me <;> exact fun h => nomatch h
theorem xs_retO {i : Nat} {t : T} (h : τ[i]? = some (some t)) : SS Z w (tSeq (tRet (tVar i)) t2) τ (.ret t : M S) env := SS.last (fun env' => ss_retO h) fun s h => nomatch h
theorem xs_retN : SS Z w (tSeq tRetN t2) τ (.ret (.sh .non) : M S) env := SS.last (fun env' => ss_retN) fun s h => nomatch h
theorem xs_raise {c : Ex} (hx : SubX τ w.px := by trivial) : SS Z w (tSeq (tRz w.w (Z.ce c)) t2) τ (.exc c : M S) env :=
  SS.last (fun env' => ss_raise (fun _ _ h => h) hx) fun s h => nomatch h
theorem xs_asg {i : Nat} {f : D → M S} (he : EE Z w.w te τ me) (h2 : ∀ d, SS Z w t2 (τ.set i (some (.sh d))) (f d) env) (hx : SubX τ w.px := by trivial) : SS Z w (tSeq (tAsg te (gName i)) t2) τ (me.to f) env := ss_asg he h2 hx
theorem xs_drop {m : M S} (he : EE Z w.w te τ me) (h2 : SS Z w t2 τ m env) (hx : SubX τ w.px := by trivial) : SS Z w (tSeq (tDrop te) t2) τ (X.drpM me m) env := ss_drop he (fun _ => h2) hx
theorem xs_if {c : TT} {mc : X Bool} {ma mb : M S} (hc : ET Z w.w c τ mc) (h1 : SS Z w t1 τ ma env) (h2 : SS Z w t2 τ mb env) (hx : SubX τ w.px := by trivial) : SS Z w (tIfS c t1 t2) τ (X.ifM mc ma mb) env := ss_if hc h1 h2 hx
theorem xs_for {wi : TI} {mi : X (List D)} {g : TG} {tb : TS} {u : D → Option U} {e : U → Env → Env} {f : S → U → M S} {s0 : S} (hi : EI Z w.w wi τ mi) (h0 : SubL τ (env s0)) (hg : GJ Z g u e) (hb : ∀ s c, SS Z w tb (e c (env s)) (f s c) env) (hx : SubX τ w.px := by trivial) :
    SS Z w (tFor wi g tb) τ (forX mi u s0 f) env := ss_for hi h0 hg hb hx
/-- x += e, x -= e of ints -/
def augI (g : Int → Int → Int) (d y : D) : X D := match d, y with
  | .int i, .int j => .ok (.int (g i j))
  | _, _ => .bad
theorem xs_aug {i : Nat} {d : D} {f : D → M S} {g : Int → Int → Int} (hd : τ[i]? = some (some (.sh d))) (he : EE Z w.w te τ me) (h2 : ∀ d, SS Z w t2 (τ.set i (some (.sh d))) (f d) env) (hx : SubX τ w.px := by trivial) :
    SS Z w (tSeq (tAug i te (ipI g)) t2) τ ((me.bind fun y => augI g d y).to f) env := fun GB B G H σ st D o => by
  obtain ⟨n, fp, e, nd, fr⟩ := id st
  obtain ⟨v, fv, ev, tv, _⟩ := e.get hd
  unfold Tv at tv
  refine ⟨v, ev, ?_⟩
  have o' : Out Z w GB B G (me.to fun y => (augI g d y).to f) env D := by
    cases me <;> exact o
  refine EV.out he hx st o' fun y u G2 H2 l st2 r o2 => ?_
  unfold augI at o2
  split at o2
  · have rd := tv.1
    unfold Rp at rd r
    subst rd; subst r
    exact ⟨_, _, rfl, rfl, h2 _ GB B G2 H2 _ (st2.set (d := .int _) rfl) D o2⟩
  · exact False.elim o2
end
end Wk

namespace Wk
open PySem PySem.Spec PyProof.Rows L2

/-! ### words for the printed walks -/
def oLs (ds : List D) : T := .oL (ds.map .sh)
theorem toDs_sh : ∀ ds : List D, T.toDs (ds.map .sh) = ds
  | [] => by unfold T.toDs; rfl
  | d :: ds => by
    show T.toDs (.sh d :: ds.map .sh) = d :: ds
    unfold T.toDs T.toD
    rw [toDs_sh ds]
theorem oLs_toD (ds : List D) : (oLs ds).toD = .lst ds := by
  unfold oLs T.toD
  rw [toDs_sh]
theorem subl_nones : ∀ τ : Env, SubL τ (fil τ.length)
  | [] => .n
  | _ :: r => .d (subl_nones r)
section
variable {Z : Zs} {w : Wh} {τ : Env} {S : Type} {env : S → Env}
theorem rpNon {G : Hp} : RpL Z G [.non] [.non] := RpL.cons rfl RpL.nil
theorem xs_ifT {c : TT} {t1 t2 : TS} {mc : X Bool} {ma mb : M S} (hc : ET Z w.w c τ mc) (h1 : SS Z w t1 τ ma env) (h2 : SS Z w t2 τ mb env) (hx : SubX τ w.px := by trivial) : SS Z w (tSeq (tIfS c t1 t2) tNext) τ (X.ifM mc ma mb) env :=
  fun GB B G H σ st D o => xs_if hc h1 h2 hx GB B G H σ st { D with nx := tNext D } o
end
theorem pe_globS {X : Cx} {x s : PySem.Str} {pos : Pos} (hg : Gl X x) (h : ∃ t, X.mg x = some (.str s t)) (hd : (x == ("__debug__" : PySem.Str)) = false := by decide) : PE X (.Name x pos) (tC (.str s)) := by
  obtain ⟨t, h⟩ := h
  exact pe_glob hg h ⟨t, rfl⟩ hd

/-! ### more words -/
theorem op_lt3 {X : Cx} : OpR X (compareOp .Lt) (rI0 fun i j => .bl (decide (i < j))) := op_lt
theorem od_lt3 {Z : Zs} : OpD Z (rI0 fun i j => .bl (decide (i < j))) dLt := od_lt
/-! len of anything -/
def rLen3 (K : PySem.W.Frag) : List V → Hp → VK → Prop := fun xs H Q => ∃ x n, xs = [x] ∧ LenV K x H n ∧ Q (.int n) H
theorem call_len3 {X : Cx} : CallR X (.builtin "len") (rLen3 X.K) := call_len
theorem cd_len3 {Z : Zs} : CaD Z (rLen3 Z.K) dLen := cd_len
/-! int(n), int(flag) -/
def rInt3 : List V → Hp → VK → Prop := fun xs H Q => (∃ i, xs = [.int i] ∧ Q (.int i) H) ∨ ∃ k, xs = [.bl k] ∧ Q (.int (if k then 1 else 0)) H
theorem call_int3 {X : Cx} : CallR X (.type "int") rInt3 := call_int1
def dInt (ds : List D) : X D := match ds with
  | [.int i] => .ok (.int i)
  | [.bl k] => .ok (.int (if k then 1 else 0))
  | _ => .bad
theorem cd_int3 {Z : Zs} : CaD Z rInt3 dInt := fun w σ G H ds vs l r Q q => by
  unfold dInt at q
  split at q
  · obtain ⟨v, e, rv⟩ := r.one
    unfold Rp at rv
    exact .inl ⟨_, by rw [e, rv], q.now l _ rfl⟩
  · obtain ⟨v, e, rv⟩ := r.one
    unfold Rp at rv
    exact .inr ⟨_, by rw [e, rv], q.now l _ rfl⟩
  · exact False.elim q

/-! ### the facts of the head -/
structure DefIn (K : PySem.W.Frag) (x : PySem.Str) (st : Stmt) : Prop where
  ex : ∃ f fd, PySem.W.nsIn K mainGlobals x = some (some (.ref f)) ∧ Fun K x x st f fd
theorem defIn {K : PySem.W.Frag} {x : PySem.Str} {st : Stmt} {f : Addr} {oc : Value} {od an : Option Addr} {osl : Array (Option Value)} {kV doc pm cdv ct : Value} (a : PySem.W.nsIn K mainGlobals x = some (some (.ref f)))
    (l : K.lookup f = some ⟨oc, od, .func (PySem.W.fnOf x x (defArgs st) (defBody st) (defScope st) .none kV doc pm an cdv ct), osl⟩) (c : PySem.W.codeIn K cdv x = true) (k : PySem.W.keepIn K (.ref f) = true) : DefIn K x st :=
  ⟨f, _, a, fun_mk l c k⟩
structure ExIn (K : PySem.W.Frag) (x : PySem.Str) (C : Addr) : Prop where
  a : PySem.W.nsIn K mainGlobals x = some (some (.ref C))
  x : PySem.W.excIn K C [.type "ValueError", .type "Exception", .type "BaseException", .type "object"] "ValueError.__new__" = true
  k : PySem.W.keepIn K (.ref C) = true
  b : PySem.W.subIn K (.ref C) (.type "BaseException") = some true
  t : PySem.W.typeIn K (.ref C) = some (.type "type")
theorem ExIn.f {K : PySem.W.Frag} {x : PySem.Str} {C : Addr} {h : Heap} {mg : PySem.Str → Option Value} (e : ExIn K x C) (X : K.In h) (G : h.Ns mainGlobals mg) : ExF K mg x C := ⟨PySem.W.mg_of X G e.a, e.x, e.k, e.b, e.t⟩
section
variable {P : Program} {w : World} {K : PySem.W.Frag} {mg : PySem.Str → Option Value} {base : Heap}
/-- the def at its name, by its walk -/
theorem Fn.of {x : PySem.Str} {st : Stmt} {k : Nat} {ps : List PySem.Str} {sp : Sp} {h : Heap} (D : DefIn K x st) (X : K.In h) (G : h.Ns mainGlobals mg) (F : ∀ f fd, Fun K x x st f fd → FnOk P w K mg base (L2.CX P w) k f fd ps sp)
    (hb : ∀ (kV doc pm : Value) (an : Option Addr) (cdv ct : Value) (us : List Value), us.length = ps.length → bindArgs (PySem.W.fnOf x x (defArgs st) (defBody st) (defScope st) .none kV doc pm an cdv ct) ⟨us, []⟩ = pure (ps.zip us)) : Fn P w K mg base x k ps [] sp := by
  obtain ⟨f, fd, a, D⟩ := D.ex
  exact Fn.mk1 (F f fd D) (PySem.W.mg_of X G a) D.kp (D.binds hb)
end
/-- the law's end: at every script its mirror hands back True -/
theorem law_sp {Z : Zs} {m : D → M Unit} (hm : ∀ ns : List Int, ns.length ≤ 63 → m (.scr ns) = .ret (.sh (.bl true))) {H : Hp} {a : Addr} {ns : List Int} (hl : ns.length ≤ 63) (hS : SqL Z.K H a (ns.map V.int)) :
    spM Z (ar1 m) [.ref a] H (fun v _ => v = .bl true) fun _ _ _ => False := by
  refine ⟨H, [.scr ns], Le.refl H, RpL.cons ?_ RpL.nil, ?_⟩
  · unfold Rp
    exact ⟨a, rfl, hS⟩
  · show (match m (.scr ns) with | .ok _ => _ | .ret t => _ | .exc c => _ | .bad => _)
    rw [hm ns hl]
    intro v G2 H2 fp n tv nd fr
    unfold Tv Rp at tv
    exact tv.1
/-- the law's promise, the classes' addresses left open -/
def lawSp (K : PySem.W.Frag) (m : D → M Unit) : Sp := fun vs H Q E => ∀ Z : Zs, Z.K = K → spM Z (ar1 m) vs H Q E
theorem lawSp.to {K : PySem.W.Frag} {m : D → M Unit} {vs : List V} {H : Hp} {Q : VK} {E : XK} {Z : Zs} (s : lawSp K m vs H Q E) (e : Z.K = K) : spM Z (ar1 m) vs H Q E := s Z e
theorem lawSp_of {K : PySem.W.Frag} {m : D → M Unit} (hm : ∀ ns : List Int, ns.length ≤ 63 → m (.scr ns) = .ret (.sh (.bl true))) {H : Hp} {a : Addr} {ns : List Int} (hl : ns.length ≤ 63) (hS : SqL K H a (ns.map V.int)) :
    lawSp K m [.ref a] H (fun v _ => v = .bl true) fun _ _ _ => False := fun Z e => by
  subst e
  exact law_sp hm hl hS
theorem noCX {P : Program} {w : World} {H : Hp} {s : Shared} {e : Value} {s' : Shared} (h : L2.CX P w [] H s (fun _ _ _ => False) e s') : False := by
  obtain ⟨_, _, _, _, _, _, _, _, _, _, _, _, z⟩ := h
  exact z
end Wk

/-! The mirror's words, evaluated. -/
namespace Wk
open PySem L2
section
variable {α β γ : Type} {S : Type}
@[simp] theorem X.bind_ok (a : α) (f : α → X β) : (X.ok a).bind f = f a := Eq.trans rfl rfl
@[simp] theorem X.bind_exc (c : Ex) (f : α → X β) : (X.exc c).bind f = .exc c := Eq.trans rfl rfl
@[simp] theorem X.bind_bad (f : α → X β) : (X.bad).bind f = .bad := Eq.trans rfl rfl
@[simp] theorem X.to_ok (a : α) (f : α → M β) : (X.ok a).to f = f a := Eq.trans rfl rfl
@[simp] theorem X.to_exc (c : Ex) (f : α → M β) : (X.exc c).to f = .exc c := Eq.trans rfl rfl
@[simp] theorem X.to_bad (f : α → M β) : (X.bad).to f = .bad := Eq.trans rfl rfl
@[simp] theorem M.bind_ok (a : α) (f : α → M β) : (M.ok a).bind f = f a := Eq.trans rfl rfl
@[simp] theorem M.bind_ret (t : T) (f : α → M β) : (M.ret t).bind f = .ret t := Eq.trans rfl rfl
@[simp] theorem M.bind_exc (c : Ex) (f : α → M β) : (M.exc c).bind f = .exc c := Eq.trans rfl rfl
@[simp] theorem M.bind_bad (f : α → M β) : (M.bad).bind f = .bad := Eq.trans rfl rfl
@[simp] theorem X.of_some (a : α) : X.of (some a) = .ok a := Eq.trans rfl rfl
@[simp] theorem X.of_none : X.of (none : Option α) = .bad := Eq.trans rfl rfl
@[simp] theorem M.fn_ok (a : Unit) : (M.ok a).fn = .ok .non := Eq.trans rfl rfl
@[simp] theorem M.fn_ret (t : T) : (M.ret t).fn = .ok t.toD := Eq.trans rfl rfl
@[simp] theorem M.fn_exc (c : Ex) : (M.exc c : M Unit).fn = .exc c := Eq.trans rfl rfl
@[simp] theorem T.toD_sh (d : D) : (T.sh d).toD = d := by unfold T.toD; rfl
@[simp] theorem T.toD_oD (t : Bool) (kvs : List (List Key × D)) : (T.oD t kvs).toD = .dct t kvs := by unfold T.toD; rfl
@[simp] theorem T.toD_oLs (ds : List D) : (oLs ds).toD = .lst ds := oLs_toD ds
@[simp] theorem X.b2_ok (a : α) (b : β) (f : α → β → X γ) : X.b2 (.ok a) (.ok b) f = f a b := Eq.trans rfl rfl
@[simp] theorem X.cons_ok (a : D) (r : List D) : X.cons (.ok a) (.ok r) = .ok (a :: r) := Eq.trans rfl rfl
@[simp] theorem X.tst_bl (b : Bool) : X.tst (.ok (.bl b)) = .ok b := Eq.trans rfl rfl
@[simp] theorem X.and_t (b : X Bool) : X.and (.ok true) b = b := Eq.trans rfl rfl
@[simp] theorem X.and_f (b : X Bool) : X.and (.ok false) b = .ok false := Eq.trans rfl rfl
@[simp] theorem X.or_t (b : X Bool) : X.or (.ok true) b = .ok true := Eq.trans rfl rfl
@[simp] theorem X.or_f (b : X Bool) : X.or (.ok false) b = b := Eq.trans rfl rfl
@[simp] theorem X.and_ok (a b : Bool) : X.and (.ok a) (.ok b) = .ok (a && b) := by cases a <;> rfl
@[simp] theorem X.or_ok (a b : Bool) : X.or (.ok a) (.ok b) = .ok (a || b) := by cases a <;> rfl
@[simp] theorem X.not_ok (a : Bool) : X.not (.ok a) = .ok !a := Eq.trans rfl rfl
@[simp] theorem X.andV_t (b : X D) : X.andV (.ok (.bl true)) b = b := Eq.trans rfl rfl
@[simp] theorem X.andV_f (b : X D) : X.andV (.ok (.bl false)) b = .ok (.bl false) := Eq.trans rfl rfl
@[simp] theorem X.andV_ok (a b : Bool) : X.andV (.ok (.bl a)) (.ok (.bl b)) = .ok (.bl (a && b)) := by cases a <;> rfl
@[simp] theorem X.orV_t (b : X D) : X.orV (.ok (.bl true)) b = .ok (.bl true) := Eq.trans rfl rfl
@[simp] theorem X.orV_f (b : X D) : X.orV (.ok (.bl false)) b = b := Eq.trans rfl rfl
@[simp] theorem X.notV_ok (a : Bool) : X.notV (.ok (.bl a)) = .ok (.bl !a) := Eq.trans rfl rfl
@[simp] theorem X.ite_t (a b : X D) : X.ite (.ok true) a b = a := Eq.trans rfl rfl
@[simp] theorem X.ite_f (a b : X D) : X.ite (.ok false) a b = b := Eq.trans rfl rfl
@[simp] theorem X.ifM_t (a b : M S) : X.ifM (.ok true) a b = a := Eq.trans rfl rfl
@[simp] theorem X.ifM_f (a b : M S) : X.ifM (.ok false) a b = b := Eq.trans rfl rfl
theorem X.ifM_ok (c : Bool) (a b : M S) : X.ifM (.ok c) a b = if c = true then a else b := by cases c <;> rfl
@[simp] theorem X.retM_ok (d : D) : (X.retM (.ok d) : M S) = .ret (.sh d) := Eq.trans rfl rfl
@[simp] theorem X.drpM_ok (d : D) (r : M S) : X.drpM (.ok d) r = r := Eq.trans rfl rfl
@[simp] theorem X.drpM_exc (c : Ex) (r : M S) : X.drpM (.exc c) r = .exc c := Eq.trans rfl rfl
@[simp] theorem X.chain_ii (f g : D → D → X D) (a b c : D) : X.chain f g (.ok a) (.ok b) (.ok c) = (f a b).tst.bind fun t => bif t then g b c else .ok (.bl false) := Eq.trans rfl rfl
@[simp] theorem X.isN_ok (d : D) : X.isN (.ok d) = .ok (dIsN d) := Eq.trans rfl rfl
@[simp] theorem X.notN_ok (d : D) : X.notN (.ok d) = (dB (dIsN d)).bind fun c => .ok (.bl !c) := Eq.trans rfl rfl
@[simp] theorem X.cut_ok (d : D) (l h : Option Int) : X.cut (.ok d) (.ok l) (.ok h) = dCut d l h := Eq.trans rfl rfl
@[simp] theorem X.call_ok (f : List D → M Unit) (ds : List D) : X.call f (.ok ds) = (f ds).fn := Eq.trans rfl rfl
@[simp] theorem X.callD_ok (f : List D → M Unit) (dd ds : List D) : X.callD f dd (.ok ds) = (f (ds ++ dd)).fn := Eq.trans rfl rfl
@[simp] theorem ar0_nil (m : M Unit) : ar0 m [] = m := Eq.trans rfl rfl
@[simp] theorem ar1_1 (m : D → M Unit) (a : D) : ar1 m [a] = m a := Eq.trans rfl rfl
@[simp] theorem ar2_2 (m : D → D → M Unit) (a b : D) : ar2 m [a, b] = m a b := Eq.trans rfl rfl
@[simp] theorem ar3_3 (m : D → D → D → M Unit) (a b c : D) : ar3 m [a, b, c] = m a b c := Eq.trans rfl rfl
@[simp] theorem ar4_4 (m : D → D → D → D → M Unit) (a b c d : D) : ar4 m [a, b, c, d] = m a b c d := Eq.trans rfl rfl
@[simp] theorem ar5_5 (m : D → D → D → D → D → M Unit) (a b c d e : D) : ar5 m [a, b, c, d, e] = m a b c d e := Eq.trans rfl rfl
@[simp] theorem ar6_6 (m : D → D → D → D → D → D → M Unit) (a b c d e f : D) : ar6 m [a, b, c, d, e, f] = m a b c d e f := Eq.trans rfl rfl
@[simp] theorem ar7_7 (m : D → D → D → D → D → D → D → M Unit) (a b c d e f g : D) : ar7 m [a, b, c, d, e, f, g] = m a b c d e f g := Eq.trans rfl rfl
/-! operations -/
@[simp] theorem dAdd_i (i j : Int) : dAdd (.int i) (.int j) = .ok (.int (i + j)) := Eq.trans rfl rfl
@[simp] theorem dSub_i (i j : Int) : dSub (.int i) (.int j) = .ok (.int (i - j)) := Eq.trans rfl rfl
@[simp] theorem dNeg_i (i : Int) : dNeg (.int i) = .ok (.int (-i)) := Eq.trans rfl rfl
@[simp] theorem dLt_i (i j : Int) : dLt (.int i) (.int j) = .ok (.bl (decide (i < j))) := Eq.trans rfl rfl
@[simp] theorem dLe_i (i j : Int) : dLe (.int i) (.int j) = .ok (.bl (decide (i ≤ j))) := Eq.trans rfl rfl
@[simp] theorem dGt_i (i j : Int) : dGt (.int i) (.int j) = .ok (.bl (decide (j < i))) := Eq.trans rfl rfl
@[simp] theorem dGe_i (i j : Int) : dGe (.int i) (.int j) = .ok (.bl (decide (j ≤ i))) := Eq.trans rfl rfl
@[simp] theorem dB_bl (b : Bool) : dB (.bl b) = .ok b := Eq.trans rfl rfl
@[simp] theorem dPart_i (i : Int) : dPart (.int i) = .ok (some i) := Eq.trans rfl rfl
@[simp] theorem dLen_l (xs : List D) : dLen [.lst xs] = .ok (.int xs.length) := Eq.trans rfl rfl
@[simp] theorem dLen_t (xs : List D) : dLen [.tup xs] = .ok (.int xs.length) := Eq.trans rfl rfl
@[simp] theorem dLen_s (ns : List Int) : dLen [.scr ns] = .ok (.int ns.length) := Eq.trans rfl rfl
@[simp] theorem itL_l (xs : List D) : itL (.lst xs) = .ok xs := Eq.trans rfl rfl
@[simp] theorem itT_t (xs : List D) : itT (.tup xs) = .ok xs := Eq.trans rfl rfl
@[simp] theorem itS_s (x : Str) : itS (.str x) = .ok (x.cps.toList.map fun c => .str ⟨#[c]⟩) := Eq.trans rfl rfl
@[simp] theorem unp2_t (a b : D) : unp2 (.tup [a, b]) = some (a, b) := Eq.trans rfl rfl
@[simp] theorem unp3_t (a b c : D) : unp3 (.tup [a, b, c]) = some (a, b, c) := Eq.trans rfl rfl
@[simp] theorem dIsN_non : dIsN .non = .bl true := Eq.trans rfl rfl
/-! sides that hold at once -/
theorem dMul_s (i j : Int) (h : j.natAbs < 2 ^ 60) : dMul (.int i) (.int j) = .ok (.int (i * j)) := by
  show (if mulFits i j = true then X.ok (D.int (i * j)) else .bad) = _
  have e : mulFits i j = true := by unfold mulFits; simp [h]
  rw [if_pos e]
theorem dMul_s' (i j : Int) (h : i.natAbs < 2 ^ 60) : dMul (.int i) (.int j) = .ok (.int (i * j)) := by
  show (if mulFits i j = true then X.ok (D.int (i * j)) else .bad) = _
  have e : mulFits i j = true := by unfold mulFits; simp [h]
  rw [if_pos e]
@[simp] theorem dMod_p (i j : Int) (h : 0 < j) : dMod (.int i) (.int j) = .ok (.int (i % j)) := by
  show (if 0 < j then X.ok (D.int (i % j)) else .bad) = _
  rw [if_pos h]
theorem dDiv_p (i j : Int) (h : 0 < j) (h2 : j.natAbs.log2 < 9000) : dDiv (.int i) (.int j) = .ok (.int (i / j)) := by
  show (if 0 < j ∧ j.natAbs.log2 < 9000 then X.ok (D.int (i / j)) else .bad) = _
  rw [if_pos ⟨h, h2⟩]
@[simp] theorem dDiv_s (i j : Int) (h : 0 < j) (h2 : j < 1152921504606846976) : dDiv (.int i) (.int j) = .ok (.int (i / j)) :=
  dDiv_p i j h (Nat.lt_of_le_of_lt (Nat.le_of_lt_succ (Nat.lt_succ_of_lt ((Nat.log2_lt (by omega)).mpr (show j.natAbs < 2 ^ 60 by omega)))) (by decide))
@[simp] theorem dMul_r (i j : Int) (h : -1152921504606846976 < j) (h2 : j < 1152921504606846976) : dMul (.int i) (.int j) = .ok (.int (i * j)) := dMul_s i j (by omega)
@[simp] theorem dMul_l (i j : Int) (h : -1152921504606846976 < i) (h2 : i < 1152921504606846976) : dMul (.int i) (.int j) = .ok (.int (i * j)) := dMul_s' i j (by omega)
@[simp] theorem dPow_p (i j : Int) (h : 0 ≤ j ∧ j ≤ 1000000 ∧ i.natAbs < 2 ^ 60) : dPow (.int i) (.int j) = .ok (.int (i ^ j.toNat)) := by
  show (if 0 ≤ j ∧ j ≤ 1000000 ∧ i.natAbs < 2 ^ 60 then X.ok (D.int (i ^ j.toNat)) else .bad) = _
  rw [if_pos h]
@[simp] theorem dLst_p (xs : List D) (h : xs.length ≤ 1000000) : dLst xs = .ok (.lst xs) := by unfold dLst; rw [if_pos h]
@[simp] theorem dTup_p (xs : List D) (h : xs.length ≤ 1000000) : dTup xs = .ok (.tup xs) := by unfold dTup; rw [if_pos h]
theorem dAdd_s (x y : Str) (h : x.length + y.length ≤ 1000000) : dAdd (.str x) (.str y) = .ok (.str (x ++ y)) := by
  show (if x.length + y.length ≤ 1000000 then X.ok (D.str (x ++ y)) else .bad) = _
  rw [if_pos h]
theorem dAdd_l (x y : List D) (h : x.length + y.length ≤ 1000000) : dAdd (.lst x) (.lst y) = .ok (.lst (x ++ y)) := by
  show (if x.length + y.length ≤ 1000000 then X.ok (D.lst (x ++ y)) else .bad) = _
  rw [if_pos h]
theorem dLen_str (z : Str) (h : z.length ≤ 1000000) : dLen [.str z] = .ok (.int z.length) := by
  show (if z.length ≤ 1000000 then X.ok (D.int z.length) else .bad) = _
  rw [if_pos h]
/-! == -/
@[simp] theorem eqB_ii (i j : Int) : eqB (.int i) (.int j) = .ok (i == j) := by
  show X.ok (decide (V.int i = V.int j)) = _
  rw [dec_int]
@[simp] theorem eqB_bb (i j : Bool) : eqB (.bl i) (.bl j) = .ok (i == j) := by
  show X.ok (decide (V.bl i = V.bl j)) = _
  rw [dec_bl]
@[simp] theorem eqB_ss (i j : Str) : eqB (.str i) (.str j) = .ok (decide (i = j)) := by
  show X.ok (decide (V.str i = V.str j)) = _
  simp
theorem eqv_ok {x y : D} {a b : PyData} (hf : eqF x y = none) (ha : toPy x = some a) (hb : toPy y = some b) (sa : SeqAt.shaped a = true) (sb : SeqAt.shaped b = true) : eqB x y = .ok (PyData.eqv a b) := by
  unfold eqB
  rw [hf]
  dsimp only
  unfold eqPy
  rw [ha, hb]
  dsimp only
  rw [if_pos ⟨sa, sb⟩]
@[simp] theorem dEq_d (x y : D) : dEq x y = (eqB x y).bind fun b => .ok (.bl b) := Eq.trans rfl rfl
@[simp] theorem dNe_d (x y : D) : dNe x y = (eqB x y).bind fun b => .ok (.bl !b) := Eq.trans rfl rfl
/-! loops -/
@[simp] theorem forM_nil {S α : Type} (s : S) (f : S → α → M S) : forM [] s f = .ok s := Eq.trans rfl rfl
@[simp] theorem forM_cons {S α : Type} (x : α) (r : List α) (s : S) (f : S → α → M S) : forM (x :: r) s f = (f s x).bind fun s' => forM r s' f := Eq.trans rfl rfl
theorem forX_ok {S U : Type} (xs : List D) (u : D → Option U) (s0 : S) (f : S → U → M S) : forX (.ok xs) u s0 f = forM xs s0 fun s x => (X.of (u x)).to (f s) := Eq.trans rfl rfl
theorem forX_some {S : Type} (xs : List D) (s0 : S) (f : S → D → M S) : forX (.ok xs) some s0 f = forM xs s0 f := Eq.trans rfl rfl
/-- a search that hands back r at the first item that fails -/
theorem forM_all {α : Type} {p : α → Bool} {r : T} : ∀ {xs : List α} {f : Unit → α → M Unit}, (∀ x ∈ xs, f () x = if p x = true then .ok () else .ret r) → forM xs () f = if xs.all p = true then .ok () else .ret r
  | [], f, _ => rfl
  | x :: xs, f, h => by
    rw [forM_cons, h x List.mem_cons_self]
    by_cases hp : p x = true
    · rw [if_pos hp, M.bind_ok, forM_all fun y hy => h y (List.mem_cons_of_mem _ hy), List.all_cons, hp, Bool.true_and]
    · rw [if_neg hp, M.bind_ret, List.all_cons, if_neg (by simp [hp])]
/-- a loop that goes on at each item -/
theorem forM_fold {S α : Type} {g : S → α → S} : ∀ {xs : List α} {s : S} {f : S → α → M S}, (∀ s x, x ∈ xs → f s x = .ok (g s x)) → forM xs s f = .ok (xs.foldl g s)
  | [], s, f, _ => rfl
  | x :: xs, s, f, h => by
    rw [forM_cons, h s x List.mem_cons_self, M.bind_ok, forM_fold fun s y hy => h s y (List.mem_cons_of_mem _ hy), List.foldl_cons]
/-- .. where an invariant tells it -/
theorem forM_inv {S α : Type} {I : Nat → S → Prop} {xs : List α} {f : S → α → M S} (hs : ∀ i s x, xs[i]? = some x → I i s → ∃ s', f s x = .ok s' ∧ I (i + 1) s') : ∀ {s : S}, I 0 s → ∃ s', forM xs s f = .ok s' ∧ I xs.length s' := by
  have go : ∀ (k : Nat) (s : S), k ≤ xs.length → I k s → ∃ s', forM (xs.drop k) s f = .ok s' ∧ I xs.length s' := by
    intro k s hk
    induction hn : xs.length - k generalizing k s with
    | zero =>
      intro h
      have e : k = xs.length := by omega
      subst e
      exact ⟨s, by rw [List.drop_length]; rfl, h⟩
    | succ n ih =>
      intro h
      have hlt : k < xs.length := by omega
      rw [List.drop_eq_getElem_cons hlt, forM_cons]
      obtain ⟨s', e, h'⟩ := hs k s xs[k] (List.getElem?_eq_getElem hlt) h
      rw [e, M.bind_ok]
      exact ih (k + 1) s' hlt (by omega) h'
  intro s h
  exact go 0 s (Nat.zero_le _) h

/-! ### places, ranges, texts -/
theorem dIx_l {xs : List D} {k : Nat} {d : D} (h : xs[k]? = some d) : dIx (.lst xs) (.int k) = .ok d := by
  show X.of (atI xs (k : Int)) = _
  rw [atI_nat h]; rfl
theorem dIx_t {xs : List D} {k : Nat} {d : D} (h : xs[k]? = some d) : dIx (.tup xs) (.int k) = .ok d := by
  show X.of (atI xs (k : Int)) = _
  rw [atI_nat h]; rfl
theorem dIx_scr {ns : List Int} {k : Nat} {n : Int} (h : ns[k]? = some n) : dIx (.scr ns) (.int k) = .ok (.int n) := by
  show X.of ((atI ns (k : Int)).map D.int) = _
  rw [atI_nat h]; rfl
theorem dIx_str {s : Str} {k : Nat} {c : Nat} (h : s.cps.toList[k]? = some c) (h2 : s.length ≤ 1000000) : dIx (.str s) (.int k) = .ok (.str ⟨#[c]⟩) := by
  show (if s.length ≤ 1000000 then X.of ((atI s.cps.toList (k : Int)).map fun c => D.str ⟨#[c]⟩) else .bad) = _
  rw [if_pos h2, atI_nat h]
  rfl
/-- at an int that is no less than 0 -/
theorem dIx_int {x : D} {i : Int} {d : D} (h0 : 0 ≤ i) (h : dIx x (.int (i.toNat : Nat)) = .ok d) : dIx x (.int i) = .ok d := by
  have e : ((i.toNat : Nat) : Int) = i := by omega
  rw [e] at h
  exact h
/-- an item of a list at an int within it -/
theorem dIx_mem {xs : List D} {i : Int} (h0 : 0 ≤ i) (h : i < xs.length) : ∃ d, d ∈ xs ∧ dIx (.lst xs) (.int i) = .ok d := by
  have hl : i.toNat < xs.length := by omega
  exact ⟨xs[i.toNat], List.getElem_mem hl, dIx_int h0 (dIx_l (List.getElem?_eq_getElem hl))⟩
theorem dCut_str (z : Str) (lo hi : Option Int) (h : z.length ≤ 1000000) : dCut (.str z) lo hi = .ok (.str (cutS z lo hi)) := by
  show (if z.length ≤ 1000000 then X.ok (D.str (cutS z lo hi)) else .bad) = _
  rw [if_pos h]
theorem rng1_n (n : Nat) (h : n ≤ 1000000) : rng1 [.int n] = .ok (rng 0 1 n) := by
  have e : (2 : Int) ^ 62 = 4611686018427387904 := by decide
  unfold rng1
  dsimp only
  rw [if_pos (by rw [e]; omega)]
  rfl
theorem rng01_get {n j : Nat} (h : j < n) : (rng 0 1 n)[j]? = some (.int j) := by
  rw [rng_get h]
  simp
theorem strAdd_len (x y : Str) : (x ++ y).length = x.length + y.length := by
  show (x.cps ++ y.cps).size = _
  rw [Array.size_append]; rfl
theorem reps_len {α : Type} (a : Array α) : ∀ (n : Nat) (z : Array α), ((List.replicate n a).foldl (· ++ ·) z).size = z.size + n * a.size
  | 0, z => by simp
  | n + 1, z => by
    rw [List.replicate_succ, List.foldl_cons, reps_len a n, Array.size_append, Nat.add_mul, Nat.one_mul]
    omega
theorem strMul_len (x : Str) (n : Nat) : (Txt.mul x n).length = n * x.length := by
  unfold Txt.mul
  split
  · have : n = 0 := by omega
    subst this
    simp [Str.length, Str.empty]
  · split
    · rename_i h
      simp only [Bool.or_eq_true, beq_iff_eq] at h
      rcases h with h | h
      · have : n = 1 := by omega
        subst this; simp
      · rw [h]; simp
    · show ((List.replicate ((n : Int)).toNat x.cps).foldl (· ++ ·) #[]).size = _
      rw [reps_len]; simp; rfl
theorem dMul_str (x : Str) (n : Nat) (h : n ≤ 1000) (h2 : x.length ≤ 1000) : dMul (.str x) (.int n) = .ok (.str (Txt.mul x n)) := by
  show (if (n : Int) ≤ 1000 ∧ -1000 ≤ (n : Int) ∧ x.length ≤ 1000 then X.ok (D.str (Txt.mul x n)) else .bad) = _
  rw [if_pos ⟨by omega, by omega, h2⟩]
@[simp] theorem dIs_l (xs : List D) (n : Ty) : dIs n (.lst xs) = .ok (.bl (n == .list)) := Eq.trans rfl rfl
@[simp] theorem dIs_non (n : Ty) : dIs n .non = .ok (.bl false) := Eq.trans rfl rfl
@[simp] theorem dIs_t (xs : List D) (n : Ty) : dIs n (.tup xs) = .ok (.bl (n == .tuple)) := Eq.trans rfl rfl
@[simp] theorem dIs_bl (b : Bool) (n : Ty) : dIs n (.bl b) = .ok (.bl (n == .bool || n == .int)) := Eq.trans rfl rfl
@[simp] theorem dIs_int (i : Int) (n : Ty) : dIs n (.int i) = .ok (.bl (n == .int)) := Eq.trans rfl rfl
@[simp] theorem dIs_str (x : Str) (n : Ty) : dIs n (.str x) = .ok (.bl (n == .str)) := Eq.trans rfl rfl
@[simp] theorem dIs_dct (t : Bool) (kvs : List (List Key × D)) (n : Ty) : dIs n (.dct t kvs) = .ok (.bl (n == .dict)) := Eq.trans rfl rfl
end
end Wk

namespace Py
open PySem PySem.Spec PyProof.Rows L2 Wk
def m_is_name_b1 : Unit → D → M (Unit) :=
  fun s2 sign1 =>
  (X.ifM (X.tst (X.b2 (.ok sign1) (.ok (.str "abcdefghijklmnopqrstuvwxyz")) dNin))
  (X.retM (.ok (.bl false)))
  (.ok ()))
def m_is_name (thing1 : D) : M Unit :=
  (M.bind (X.ifM (X.or (X.not (X.tst (X.bind (.ok thing1) (dIs .str)))) (X.not (X.tst (X.chain dLe dLe (.ok (.int 1)) (X.bind (X.cons (.ok thing1) (.ok [])) dLen) (.ok (.int 8))))))
  (X.retM (.ok (.bl false)))
  (.ok ())) fun s1 : Unit =>
  (M.bind (forX (X.bind (.ok thing1) itS) some () m_is_name_b1) fun s2 : Unit =>
  (X.retM (.ok (.bl true)))))
def m_is_amount (thing1 : D) : M Unit :=
  (X.retM (X.andV (X.bind (.ok thing1) (dIs .int)) (X.andV (X.notV (X.bind (.ok thing1) (dIs .bool))) (X.chain dLe dLt (.ok (.int 1)) (.ok thing1) (X.b2 (.ok (.int 10)) (.ok (.int 60)) dPow)))))
def m_is_line (thing1 : D) : M Unit :=
  (X.retM (X.andV (X.bind (.ok thing1) (dIs .int)) (X.andV (X.notV (X.bind (.ok thing1) (dIs .bool))) (X.chain dLe dLt (.ok (.int 0)) (.ok thing1) (X.b2 (.ok (.int 10)) (.ok (.int 59)) dPow)))))
def m_law_cell_at (script1 k1 : D) : M Unit :=
  (M.bind (X.ifM (X.tst (X.b2 (.ok k1) (X.bind (X.cons (.ok script1) (.ok [])) dLen) dLt))
  (X.retM (X.b2 (.ok script1) (.ok k1) dIx))
  (.ok ())) fun s1 : Unit =>
  (X.retM (.ok (.int 0))))
def m_law_text_b1 (letters1 : D) (mixed1 : D) : D → D → M (D) :=
  fun s2 k1 =>
  (X.to (X.b2 (.ok s2) (X.b2 (.ok letters1) (X.b2 (X.b2 (.ok mixed1) (X.b2 (.ok k1) (.ok (.int 1)) dAdd) dDiv) (.ok (.int 26)) dMod) dIx) dAdd) fun word3 =>
  (.ok word3))
def m_law_text (cell1 many1 : D) : M Unit :=
  (X.to (.ok (.str "abcdefghijklmnopqrstuvwxyz")) fun letters1 =>
  (X.to (X.b2 (X.b2 (.ok cell1) (.ok (.int 48271)) dMul) (.ok (.int 2147483647)) dMod) fun mixed1 =>
  (X.to (X.b2 (X.b2 (.ok letters1) (X.b2 (.ok mixed1) (.ok (.int 26)) dMod) dIx) (.ok many1) dMul) fun word1 =>
  (M.bind (X.ifM (X.tst (X.b2 (X.b2 (X.b2 (.ok mixed1) (.ok (.int 26)) dDiv) (.ok (.int 2)) dMod) (.ok (.int 1)) dEq))
  (X.to (.ok (.str "")) fun word2 =>
  (M.bind (forX (X.bind (X.cons (.ok many1) (.ok [])) rng1) some word2 (m_law_text_b1 letters1 mixed1)) fun s2 : D =>
  (.ok s2)))
  (.ok word1)) fun s1 : D =>
  (X.retM (.ok s1))))))
def m_law_thing (script1 : D) : M Unit :=
  (X.to (X.b2 (X.call (ar2 m_law_cell_at) (X.cons (.ok script1) (X.cons (.ok (.int 0)) (.ok [])))) (.ok (.int 6)) dMod) fun way1 =>
  (X.to (X.call (ar2 m_law_cell_at) (X.cons (.ok script1) (X.cons (.ok (.int 1)) (.ok [])))) fun cell1 =>
  (X.to (X.call (ar2 m_law_cell_at) (X.cons (.ok script1) (X.cons (.ok (.int 2)) (.ok [])))) fun other1 =>
  (M.bind (X.ifM (X.tst (X.b2 (.ok way1) (.ok (.int 0)) dEq))
  (X.retM (X.call (ar2 m_law_text) (X.cons (.ok cell1) (X.cons (X.b2 (.ok (.int 1)) (X.b2 (.ok other1) (.ok (.int 8)) dMod) dAdd) (.ok [])))))
  (.ok ())) fun s1 : Unit =>
  (M.bind (X.ifM (X.tst (X.b2 (.ok way1) (.ok (.int 1)) dEq))
  (X.to (X.call (ar2 m_law_text) (X.cons (.ok cell1) (X.cons (X.b2 (.ok (.int 1)) (X.b2 (.ok other1) (.ok (.int 8)) dMod) dAdd) (.ok [])))) fun word1 =>
  (X.to (X.b2 (X.b2 (.ok other1) (.ok (.int 8)) dDiv) (X.bind (X.cons (.ok word1) (.ok [])) dLen) dMod) fun spot1 =>
  (X.to (X.bind (X.cons (.ok (.str "A")) (X.cons (.ok (.str "Z")) (X.cons (.ok (.str " ")) (X.cons (.ok (.str "0")) (X.cons (.ok (.str "9")) (X.cons (.ok (.str "_")) (X.cons (.ok (.str "-")) (X.cons (.ok (.str "'")) (X.cons (.ok (.str "{")) (X.cons (.ok (.str "@")) (X.cons (.ok (.str "~")) (X.cons (.ok (.str ".")) (X.cons (.ok (.str "\n")) (X.cons (.ok (.str "")) (.ok []))))))))))))))) dLst) fun signs1 =>
  (X.retM (X.b2 (X.b2 (X.cut (.ok word1) (.ok none) (X.bind (.ok spot1) dPart)) (X.b2 (.ok signs1) (X.b2 (X.b2 (.ok other1) (.ok (.int 64)) dDiv) (.ok (.int 14)) dMod) dIx) dAdd) (X.cut (.ok word1) (X.bind (X.b2 (.ok spot1) (.ok (.int 1)) dAdd) dPart) (.ok none)) dAdd)))))
  (.ok ())) fun s2 : Unit =>
  (M.bind (X.ifM (X.tst (X.b2 (.ok way1) (.ok (.int 2)) dEq))
  (X.retM (X.call (ar2 m_law_text) (X.cons (.ok cell1) (X.cons (X.b2 (X.bind (X.cons (.ok (.int 0)) (X.cons (.ok (.int 9)) (X.cons (.ok (.int 10)) (X.cons (.ok (.int 11)) (X.cons (.ok (.int 12)) (.ok [])))))) dLst) (X.b2 (.ok other1) (.ok (.int 5)) dMod) dIx) (.ok [])))))
  (.ok ())) fun s3 : Unit =>
  (M.bind (X.ifM (X.tst (X.b2 (.ok way1) (.ok (.int 3)) dEq))
  (X.retM (X.b2 (X.b2 (X.b2 (X.bind (X.cons (.ok (.int 0)) (X.cons (X.b2 (.ok (.int 10)) (.ok (.int 59)) dPow) (X.cons (X.b2 (.ok (.int 10)) (.ok (.int 60)) dPow) (.ok [])))) dLst) (X.b2 (.ok cell1) (.ok (.int 3)) dMod) dIx) (X.b2 (.ok other1) (.ok (.int 5)) dMod) dAdd) (.ok (.int 2)) dSub))
  (.ok ())) fun s4 : Unit =>
  (M.bind (X.ifM (X.tst (X.b2 (.ok way1) (.ok (.int 4)) dEq))
  (X.retM (X.b2 (X.b2 (.ok cell1) (X.b2 (.ok (.int 10)) (.ok (.int 60)) dPow) dMod) (X.b2 (.ok (.int 1)) (X.b2 (.ok (.int 2)) (X.b2 (.ok other1) (.ok (.int 2)) dMod) dMul) dSub) dMul))
  (.ok ())) fun s5 : Unit =>
  (X.to (X.bind (X.cons (.ok .non) (X.cons (.ok (.bl true)) (X.cons (.ok (.bl false)) (X.cons (X.bind (.ok []) dLst) (X.cons (X.bind (X.cons (.ok (.str "a")) (.ok [])) dLst) (X.cons (X.bind (X.cons (.ok (.str "a")) (.ok [])) dTup) (X.cons (.ok (.dct true [])) (X.cons (X.bind (.ok []) dTup) (X.cons (.ok (.str "")) (X.cons (X.bind (X.cons (.ok (.int 1)) (.ok [])) dLst) (X.cons (X.bind (X.cons (.ok (.str "a")) (X.cons (.ok (.str "b")) (.ok []))) dTup) (X.cons (.ok (.dct false [([.inr "a"], (.int 1))])) (.ok []))))))))))))) dLst) fun somex1 =>
  (X.retM (X.b2 (.ok somex1) (X.b2 (.ok other1) (.ok (.int 12)) dMod) dIx)))))))))))
def m_law_due_name_b1 : Unit → D → M (Unit) :=
  fun s2 sign1 =>
  (X.ifM (X.tst (X.b2 (.ok sign1) (.ok (.str "abcdefghijklmnopqrstuvwxyz")) dNin))
  (X.retM (.ok (.bl false)))
  (.ok ()))
def m_law_due_name (thing1 : D) : M Unit :=
  (M.bind (X.ifM (X.or (X.not (X.tst (X.bind (.ok thing1) (dIs .str)))) (X.or (X.tst (X.b2 (.ok thing1) (.ok (.str "")) dEq)) (X.tst (X.b2 (X.bind (X.cons (.ok thing1) (.ok [])) dLen) (.ok (.int 8)) dGt))))
  (X.retM (.ok (.bl false)))
  (.ok ())) fun s1 : Unit =>
  (M.bind (forX (X.bind (.ok thing1) itS) some () m_law_due_name_b1) fun s2 : Unit =>
  (X.retM (.ok (.bl true)))))
def m_law_b1 (found1 : D) (due1 : D) : Unit → D → M (Unit) :=
  fun s1 k1 =>
  (X.ifM (X.or (X.not (X.tst (X.bind (X.b2 (.ok found1) (.ok k1) dIx) (dIs .bool)))) (X.tst (X.b2 (X.b2 (.ok found1) (.ok k1) dIx) (X.b2 (.ok due1) (.ok k1) dIx) dNe)))
  (X.retM (.ok (.bl false)))
  (.ok ()))
def m_law (script1 : D) : M Unit :=
  (X.to (X.call (ar1 m_law_thing) (X.cons (.ok script1) (.ok []))) fun thing1 =>
  (X.to (X.andV (X.bind (.ok thing1) (dIs .int)) (X.notV (X.bind (.ok thing1) (dIs .bool)))) fun whole1 =>
  (X.to (X.bind (X.cons (X.call (ar1 m_law_due_name) (X.cons (.ok thing1) (.ok []))) (X.cons (X.andV (.ok whole1) (X.chain dLt dLt (.ok (.int 0)) (.ok thing1) (X.b2 (.ok (.int 10)) (.ok (.int 60)) dPow))) (X.cons (X.andV (.ok whole1) (X.chain dLe dLt (.ok (.int 0)) (.ok thing1) (X.b2 (.ok (.int 10)) (.ok (.int 59)) dPow))) (.ok [])))) dLst) fun due1 =>
  (X.to (X.bind (X.cons (X.call (ar1 m_is_name) (X.cons (.ok thing1) (.ok []))) (X.cons (X.call (ar1 m_is_amount) (X.cons (.ok thing1) (.ok []))) (X.cons (X.call (ar1 m_is_line) (X.cons (.ok thing1) (.ok []))) (.ok [])))) dLst) fun found1 =>
  (M.bind (forX (X.bind (X.cons (.ok (.int 3)) (.ok [])) rng1) some () (m_law_b1 found1 due1)) fun s1 : Unit =>
  (X.retM (.ok (.bl true))))))))
end Py

namespace Py
open PySem L2 Wk
theorem cell_at (ns : List Int) (k : Nat) : m_law_cell_at (.scr ns) (.int k) = .ret (.sh (.int (ns.getD k 0))) := by
  unfold m_law_cell_at
  simp only [X.cons_ok, X.bind_ok, dLen_s, X.b2_ok, dLt_i, X.tst_bl]
  by_cases h : k < ns.length
  · have e : decide ((k : Int) < (ns.length : Int)) = true := decide_eq_true (by omega)
    rw [e, X.ifM_t, dIx_scr (List.getElem?_eq_getElem h), X.retM_ok, M.bind_ret]
    simp [h]
  · have e : decide ((k : Int) < (ns.length : Int)) = false := decide_eq_false (by omega)
    rw [e, X.ifM_f, M.bind_ok, X.retM_ok]
    simp [h]
def abc : Str := "abcdefghijklmnopqrstuvwxyz"
theorem abc_len : abc.length = 26 := by decide +kernel
theorem at_abc {i : Int} (h0 : 0 ≤ i) (h1 : i < 26) : ∃ c, dIx (.str abc) (.int i) = .ok (.str ⟨#[c]⟩) := by
  have hl : i.toNat < abc.cps.toList.length := by
    rw [Array.length_toList]
    have : abc.cps.size = 26 := abc_len
    omega
  exact ⟨_, dIx_int h0 (dIx_str (List.getElem?_eq_getElem hl) (by rw [abc_len]; decide))⟩
theorem text_turn {m : Int} (hm0 : 0 ≤ m) {x : Str} {i n : Nat} (hi : i < n) (hn : n ≤ 12) (hx : x.length = i) : ∃ y : Str, m_law_text_b1 (.str abc) (.int m) (.str x) (.int i) = .ok (.str y) ∧ y.length = i + 1 := by
  unfold m_law_text_b1
  simp only [X.b2_ok, dAdd_i]
  have hl : (((i : Int) + 1).natAbs).log2 < 9000 := Nat.lt_of_le_of_lt (Nat.log2_le_self _) (by omega)
  rw [dDiv_p _ _ (by omega) hl, X.b2_ok, dMod_p _ _ (by decide), X.b2_ok]
  obtain ⟨c2, e6⟩ := at_abc (i := m / (↑i + 1) % 26) (by omega) (by omega)
  rw [e6, X.b2_ok, dAdd_s _ _ (by show x.length + 1 ≤ _; omega), X.to_ok]
  exact ⟨_, rfl, by rw [strAdd_len, hx]; rfl⟩
theorem text_ok (c : Int) (n : Nat) (hn : n ≤ 12) : ∃ s, m_law_text (.int c) (.int n) = .ret (.sh (.str s)) ∧ s.length = n := by
  unfold m_law_text
  rw [show (D.str "abcdefghijklmnopqrstuvwxyz") = .str abc from rfl]
  simp only [X.to_ok, X.b2_ok]
  rw [dMul_s _ _ (by decide), X.b2_ok, dMod_p _ _ (by decide)]
  have hm0 : 0 ≤ c * 48271 % 2147483647 := by omega
  generalize hm : c * 48271 % 2147483647 = m at *
  simp only [X.to_ok, X.b2_ok]
  rw [dMod_p _ _ (by decide), X.b2_ok]
  obtain ⟨c1, e1⟩ := at_abc (i := m % 26) (by omega) (by omega)
  rw [e1, X.b2_ok, dMul_str _ _ (by omega) (by show 1 ≤ 1000; decide)]
  rw [X.to_ok, dDiv_p _ _ (by decide) (by decide), X.b2_ok, dMod_p _ _ (by decide), X.b2_ok, dEq_d, eqB_ii, X.bind_ok, X.tst_bl]
  cases hb : (m / 26 % 2 == 1) with
  | false =>
    rw [X.ifM_f, M.bind_ok, X.retM_ok]
    exact ⟨_, rfl, by rw [strMul_len]; show n * 1 = n; omega⟩
  | true =>
    rw [X.ifM_t]
    simp only [X.cons_ok, X.bind_ok]
    rw [rng1_n n (by omega), forX_some]
    obtain ⟨s', e3, x, e4, e5⟩ := forM_inv (xs := rng 0 1 n) (f := m_law_text_b1 (.str abc) (.int m)) (I := fun i s => ∃ x : Str, s = .str x ∧ x.length = i) (s := D.str "") (fun i s d hd hI => by
      obtain ⟨x, rfl, hx⟩ := hI
      have hi : i < n := by
        have := (List.getElem?_eq_some_iff.mp hd).1
        rw [rng_length] at this; exact this
      rw [rng01_get hi] at hd
      cases hd
      obtain ⟨y, e, hy⟩ := text_turn hm0 hi hn hx
      exact ⟨_, e, y, rfl, hy⟩) ⟨"", rfl, rfl⟩
    rw [e3, M.bind_ok, M.bind_ok, X.retM_ok, e4]
    exact ⟨x, rfl, by rw [e5, rng_length]⟩

def Good : D → Prop
  | .str s => s.length ≤ 100
  | .ins _ _ => False
  | .scr _ => False
  | _ => True
def inAbc (c : Nat) : Bool := decide (c ∈ abc.cps.toList)
theorem is_name_turn (x : D) (c : Nat) (h : x = .str ⟨#[c]⟩) : m_is_name_b1 () x = if inAbc c = true then .ok () else .ret (.sh (.bl false)) := by
  subst h
  unfold m_is_name_b1
  rw [show (D.str "abcdefghijklmnopqrstuvwxyz") = .str abc from rfl, X.b2_ok]
  have e : dNin (.str ⟨#[c]⟩) (.str abc) = .ok (.bl !(inAbc c)) := Eq.trans rfl rfl
  rw [e, X.tst_bl, X.ifM_ok]
  cases inAbc c <;> rfl
theorem due_turn (x : D) (c : Nat) (h : x = .str ⟨#[c]⟩) : m_law_due_name_b1 () x = if inAbc c = true then .ok () else .ret (.sh (.bl false)) := by
  subst h
  unfold m_law_due_name_b1
  rw [show (D.str "abcdefghijklmnopqrstuvwxyz") = .str abc from rfl, X.b2_ok]
  have e : dNin (.str ⟨#[c]⟩) (.str abc) = .ok (.bl !(inAbc c)) := Eq.trans rfl rfl
  rw [e, X.tst_bl, X.ifM_ok]
  cases inAbc c <;> rfl
def nameB : D → Bool
  | .str s => decide (1 ≤ s.length) && decide (s.length ≤ 8) && s.cps.toList.all inAbc
  | _ => false
theorem signs_all (f : Unit → D → M Unit) (hf : ∀ x c, x = D.str ⟨#[c]⟩ → f () x = if inAbc c = true then .ok () else .ret (.sh (.bl false))) (s : Str) :
    (forX (X.bind (.ok (.str s)) itS) some () f) = if s.cps.toList.all inAbc = true then .ok () else .ret (.sh (.bl false)) := by
  rw [X.bind_ok, itS_s, forX_some]
  rw [forM_all (p := fun x => match x with | .str z => inAbc (z.cps.toList.headD 0) | _ => false) (r := .sh (.bl false))]
  · rw [List.all_map]; rfl
  · intro x hx
    obtain ⟨c, _, rfl⟩ := List.mem_map.mp hx
    rw [hf _ c rfl]; rfl
theorem is_name_ok (t : D) (h : Good t) : m_is_name t = .ret (.sh (.bl (nameB t))) := by
  unfold m_is_name
  cases t with
  | str s =>
    have hs : s.length ≤ 100 := h
    simp only [X.bind_ok, dIs_str, X.cons_ok, dLen_str s (by omega), X.chain_ii, dLe_i, X.tst_bl]
    rw [show (Ty.str == Ty.str) = true from rfl, X.not_ok, Bool.not_true, X.or_f]
    have h1 : decide ((1 : Int) ≤ (s.length : Nat)) = decide (1 ≤ s.length) := by simp; omega
    have h2 : decide (((s.length : Nat) : Int) ≤ 8) = decide (s.length ≤ 8) := by simp; omega
    rw [h1, h2]
    have e := signs_all m_is_name_b1 is_name_turn s
    rw [X.bind_ok] at e
    rw [e]
    show _ = M.ret (.sh (.bl (decide (1 ≤ s.length) && decide (s.length ≤ 8) && s.cps.toList.all inAbc)))
    cases decide (1 ≤ s.length) <;> cases decide (s.length ≤ 8) <;> cases s.cps.toList.all inAbc <;> rfl
  | ins c xs => exact h.elim
  | scr ns => exact h.elim
  | non => rfl
  | bl b => rfl
  | int i => rfl
  | lst xs => rfl
  | tup xs => rfl
  | dct t kvs => rfl
theorem due_ok (t : D) (h : Good t) : m_law_due_name t = .ret (.sh (.bl (nameB t))) := by
  unfold m_law_due_name
  cases t with
  | str s =>
    have hs : s.length ≤ 100 := h
    simp only [X.bind_ok, dIs_str, X.cons_ok, X.b2_ok, dEq_d, eqB_ss, dLen_str s (by omega), dGt_i, X.tst_bl]
    rw [show (Ty.str == Ty.str) = true from rfl, X.not_ok, Bool.not_true, X.or_f, X.or_ok]
    have h1 : decide (s = "") = !decide (1 ≤ s.length) := by
      by_cases e : s = ""
      · subst e; rfl
      · have : 1 ≤ s.length := by
          cases s with
          | mk a =>
            have : a.size ≠ 0 := fun z => e (by rw [Array.size_eq_zero_iff.mp z]; rfl)
            show 1 ≤ a.size
            omega
        simp [e, this]
    have h2 : decide ((8 : Int) < ((s.length : Nat) : Int)) = !decide (s.length ≤ 8) := by
      by_cases e : s.length ≤ 8
      · simp [e]; omega
      · simp [e]; omega
    rw [h1, h2]
    have e := signs_all m_law_due_name_b1 due_turn s
    rw [X.bind_ok] at e
    rw [e]
    show _ = M.ret (.sh (.bl (decide (1 ≤ s.length) && decide (s.length ≤ 8) && s.cps.toList.all inAbc)))
    cases decide (1 ≤ s.length) <;> cases decide (s.length ≤ 8) <;> cases s.cps.toList.all inAbc <;> rfl
  | ins c xs => exact h.elim
  | scr ns => exact h.elim
  | non => rfl
  | bl b => rfl
  | int i => rfl
  | lst xs => rfl
  | tup xs => rfl
  | dct t kvs => rfl
def amountB : D → Bool
  | .int i => decide (1 ≤ i) && decide (i < 10 ^ 60)
  | _ => false
def lineB : D → Bool
  | .int i => decide (0 ≤ i) && decide (i < 10 ^ 59)
  | _ => false
theorem pow60 : dPow (.int 10) (.int 60) = .ok (.int (10 ^ 60)) := dPow_p _ _ (by decide)
theorem pow59 : dPow (.int 10) (.int 59) = .ok (.int (10 ^ 59)) := dPow_p _ _ (by decide)
def intB : D → Bool
  | .int _ => true
  | _ => false
theorem whole_ok (t : D) (h : Good t) : X.andV (X.bind (.ok t) (dIs .int)) (X.notV (X.bind (.ok t) (dIs .bool))) = .ok (.bl (intB t)) := by
  cases t <;> first
    | exact h.elim
    | rfl
    | (rename_i b; cases b <;> rfl)
theorem is_amount_ok (t : D) (h : Good t) : m_is_amount t = .ret (.sh (.bl (amountB t))) := by
  unfold m_is_amount
  cases t <;> first
    | exact h.elim
    | rfl
    | skip
  rename_i i
  simp only [X.bind_ok, X.b2_ok, pow60, dIs_int, X.chain_ii, dLe_i, dLt_i, X.tst_bl]
  show X.retM (X.andV (.ok (.bl true)) (X.andV (.ok (.bl true)) _)) = M.ret (.sh (.bl (decide (1 ≤ i) && decide (i < 10 ^ 60))))
  rw [X.andV_t, X.andV_t]
  cases decide (1 ≤ i) <;> rfl
theorem is_line_ok (t : D) (h : Good t) : m_is_line t = .ret (.sh (.bl (lineB t))) := by
  unfold m_is_line
  cases t <;> first
    | exact h.elim
    | rfl
    | skip
  rename_i i
  simp only [X.bind_ok, X.b2_ok, pow59, dIs_int, X.chain_ii, dLe_i, dLt_i, X.tst_bl]
  show X.retM (X.andV (.ok (.bl true)) (X.andV (.ok (.bl true)) _)) = M.ret (.sh (.bl (decide (0 ≤ i) && decide (i < 10 ^ 59))))
  rw [X.andV_t, X.andV_t]
  cases decide (0 ≤ i) <;> rfl

theorem cutS_len (z : Str) (lo hi : Option Int) : (cutS z lo hi).length ≤ z.length := cutS_length z lo hi
theorem thing_ok (ns : List Int) : ∃ t, m_law_thing (.scr ns) = .ret (.sh t) ∧ Good t := by
  have c0 := cell_at ns 0
  have c1 := cell_at ns 1
  have c2 := cell_at ns 2
  rw [show (((0 : Nat) : Int)) = 0 from rfl] at c0
  rw [show (((1 : Nat) : Int)) = 1 from rfl] at c1
  rw [show (((2 : Nat) : Int)) = 2 from rfl] at c2
  generalize ns.getD 0 0 = a at c0
  generalize ns.getD 1 0 = c at c1
  generalize ns.getD 2 0 = o at c2
  obtain ⟨s, e, hs⟩ := text_ok c (1 + o % 8).toNat (by omega)
  rw [show (((1 + o % 8).toNat : Nat) : Int) = 1 + o % 8 by omega] at e
  by_cases h0 : a % 6 = 0
  · exact ⟨.str s, by simp [m_law_thing, c0, c1, c2, h0, e], by show s.length ≤ 100; omega⟩
  by_cases h1 : a % 6 = 1
  · obtain ⟨g, hg, eg⟩ := dIx_mem (xs := [.str "A", .str "Z", .str " ", .str "0", .str "9", .str "_", .str "-", .str "'", .str "{", .str "@", .str "~", .str ".", .str "\n", .str ""]) (i := o / 64 % 14) (by omega) (by show _ < (14 : Int); omega)
    have hg2 : ∃ z : Str, g = .str z ∧ z.length ≤ 1 := by
      simp only [List.mem_cons, List.not_mem_nil, or_false] at hg
      rcases hg with rfl | rfl | rfl | rfl | rfl | rfl | rfl | rfl | rfl | rfl | rfl | rfl | rfl | rfl <;> exact ⟨_, rfl, by decide +kernel⟩
    obtain ⟨z, rfl, hz⟩ := hg2
    have l1 := cutS_len s none (some (o / 8 % (s.length : Int)))
    have l2 := cutS_len s (some (o / 8 % (s.length : Int) + 1)) none
    have a1 := dAdd_s (cutS s none (some (o / 8 % (s.length : Int)))) z (by omega)
    have a2 := dAdd_s (cutS s none (some (o / 8 % (s.length : Int))) ++ z) (cutS s (some (o / 8 % (s.length : Int) + 1)) none) (by rw [strAdd_len]; omega)
    have hp := dMod_p (o / 8) (s.length : Nat) (by omega)
    refine ⟨.str (cutS s none (some (o / 8 % (s.length : Int))) ++ z ++ cutS s (some (o / 8 % (s.length : Int) + 1)) none), ?_, by show Str.length _ ≤ 100; rw [strAdd_len, strAdd_len]; omega⟩
    simp [m_law_thing, c0, c1, c2, h0, h1, e, dLen_str s (by omega), hp, dCut_str s _ _ (by omega), eg, a1, a2]
  by_cases h2 : a % 6 = 2
  · obtain ⟨g, hg, eg⟩ := dIx_mem (xs := [.int 0, .int 9, .int 10, .int 11, .int 12]) (i := o % 5) (by omega) (by show _ < (5 : Int); omega)
    have hg2 : ∃ n : Nat, g = .int n ∧ n ≤ 12 := by
      simp only [List.mem_cons, List.not_mem_nil, or_false] at hg
      rcases hg with rfl | rfl | rfl | rfl | rfl
      · exact ⟨0, rfl, by decide⟩
      · exact ⟨9, rfl, by decide⟩
      · exact ⟨10, rfl, by decide⟩
      · exact ⟨11, rfl, by decide⟩
      · exact ⟨12, rfl, by decide⟩
    obtain ⟨n, rfl, hn⟩ := hg2
    obtain ⟨s2, e2, hs2⟩ := text_ok c n hn
    exact ⟨.str s2, by simp [m_law_thing, c0, c1, c2, h0, h1, h2, eg, e2], by show s2.length ≤ 100; omega⟩
  by_cases h3 : a % 6 = 3
  · obtain ⟨g, hg, eg⟩ := dIx_mem (xs := [.int 0, .int (10 ^ 59), .int (10 ^ 60)]) (i := c % 3) (by omega) (by show _ < (3 : Int); omega)
    have hg2 : ∃ n : Int, g = .int n := by
      simp only [List.mem_cons, List.not_mem_nil, or_false] at hg
      rcases hg with rfl | rfl | rfl <;> exact ⟨_, rfl⟩
    obtain ⟨n, rfl⟩ := hg2
    exact ⟨.int (n + o % 5 - 2), by simp [m_law_thing, c0, c1, c2, h0, h1, h2, h3, pow59, pow60, eg, -Int.reducePow], trivial⟩
  by_cases h4 : a % 6 = 4
  · refine ⟨.int (c % 10 ^ 60 * (1 - 2 * (o % 2))), ?_, trivial⟩
    have m1 := dMul_r (c % 10 ^ 60) (1 - 2 * (o % 2)) (by omega) (by omega)
    have m2 := dMod_p c (10 ^ 60) (by decide)
    have m3 := dMul_l 2 (o % 2) (by omega) (by omega)
    simp [m_law_thing, c0, c1, c2, h0, h1, h2, h3, h4, pow60, m2, m1, m3, -Int.reducePow]
  · obtain ⟨g, hg, eg⟩ := dIx_mem (xs := [.non, .bl true, .bl false, .lst [], .lst [.str "a"], .tup [.str "a"], .dct true [], .tup [], .str "", .lst [.int 1], .tup [.str "a", .str "b"], .dct false [([.inr "a"], .int 1)]]) (i := o % 12) (by omega) (by show _ < (12 : Int); omega)
    have b0 : (a % 6 == 0) = false := by simpa using h0
    have b1 : (a % 6 == 1) = false := by simpa using h1
    have b2 : (a % 6 == 2) = false := by simpa using h2
    have b3 : (a % 6 == 3) = false := by simpa using h3
    have b4 : (a % 6 == 4) = false := by simpa using h4
    refine ⟨g, by simp [m_law_thing, c0, c1, c2, b0, b1, b2, b3, b4, eg], ?_⟩
    simp only [List.mem_cons, List.not_mem_nil, or_false] at hg
    rcases hg with rfl | rfl | rfl | rfl | rfl | rfl | rfl | rfl | rfl | rfl | rfl | rfl <;> first
      | trivial
      | (show Str.length _ ≤ 100; decide +kernel)
theorem a60 (t : D) : X.andV (.ok (.bl (intB t))) (X.chain dLt dLt (.ok (.int 0)) (.ok t) (.ok (.int (10 ^ 60)))) = .ok (.bl (amountB t)) := by
  cases t <;> first
    | rfl
    | skip
  rename_i i
  show (bif decide (0 < i) then X.ok (D.bl (decide (i < 10 ^ 60))) else X.ok (.bl false)) = X.ok (D.bl (decide (1 ≤ i) && decide (i < 10 ^ 60)))
  rw [show decide (0 < i) = decide (1 ≤ i) from decide_eq_decide.mpr ⟨fun h => h, fun h => h⟩]
  cases decide (1 ≤ i) <;> simp
theorem a59 (t : D) : X.andV (.ok (.bl (intB t))) (X.chain dLe dLt (.ok (.int 0)) (.ok t) (.ok (.int (10 ^ 59)))) = .ok (.bl (lineB t)) := by
  cases t <;> first
    | rfl
    | skip
  rename_i i
  show (bif decide (0 ≤ i) then X.ok (D.bl (decide (i < 10 ^ 59))) else X.ok (.bl false)) = X.ok (D.bl (decide (0 ≤ i) && decide (i < 10 ^ 59)))
  cases decide (0 ≤ i) <;> simp
theorem law_true (ns : List Int) (hl : ns.length ≤ 63) : m_law (.scr ns) = .ret (.sh (.bl true)) := by
  obtain ⟨t, e, g⟩ := thing_ok ns
  have e1 := whole_ok t g
  rw [X.bind_ok, X.bind_ok] at e1
  have a60 := a60 t
  have a59 := a59 t
  have b0 : dIx (.lst [.bl (nameB t), .bl (amountB t), .bl (lineB t)]) (.int 0) = .ok (.bl (nameB t)) := dIx_l (k := 0) (by rfl)
  have b1 : dIx (.lst [.bl (nameB t), .bl (amountB t), .bl (lineB t)]) (.int 1) = .ok (.bl (amountB t)) := dIx_l (k := 1) (by rfl)
  have b2 : dIx (.lst [.bl (nameB t), .bl (amountB t), .bl (lineB t)]) (.int 2) = .ok (.bl (lineB t)) := dIx_l (k := 2) (by rfl)
  have r3 : rng1 [.int 3] = .ok (rng 0 1 3) := rng1_n 3 (by decide)
  have r3' : rng 0 1 3 = [.int 0, .int 1, .int 2] := rfl
  unfold m_law
  simp only [X.cons_ok, X.call_ok, ar1_1, e, M.fn_ret, T.toD_sh, X.to_ok, X.bind_ok, e1, due_ok t g, is_name_ok t g, is_amount_ok t g, is_line_ok t g, X.b2_ok, pow60, pow59, a60, a59]
  rw [dLst_p _ (by show 3 ≤ 1000000; decide), X.to_ok, X.to_ok, r3, forX_some, r3']
  simp [m_law_b1, b0, b1, b2]
end Py

open PySem PySem.Spec PyProof.Rows L2 Wk
namespace Py
def topS (i : Nat) : Stmt := PySem.Challenge.pw_trustways_k01_names_amounts_lines.main.body.getD i (.Pass ⟨0, 0, 0, 0⟩)
structure Cxx (mg : PySem.Str → Option Value) (Z : Zs) : Prop where
  b_bool : mg "bool" = none
  b_int : mg "int" = none
  b_isinstance : mg "isinstance" = none
  b_len : mg "len" = none
  b_range : mg "range" = none
  b_str : mg "str" = none
  gl_LETTERS : ∃ t, mg "LETTERS" = some (.str "abcdefghijklmnopqrstuvwxyz" t)
section
variable {P : Program} {w : World} {Z : Zs} {mg : PySem.Str → Option Value} {base : Heap}
abbrev s_is_name : Stmt := topS 2
theorem sc_is_name : FnScope ["thing", "sign"] ["thing"] (defScope s_is_name) := ⟨rfl, rfl, rfl, by decide +kernel, rfl, by decide +kernel, by decide +kernel⟩
theorem ok_is_name {f : Addr} {fd : FuncData} (C : Cxx mg Z) (F : Fun Z.K "is_name" "is_name" s_is_name f fd) : FnOk P w Z.K mg base (L2.CX P w) 1 f fd ["thing"] (spM Z (ar1 m_is_name)) := by
  refine fn_ok (k := 0) F sc_is_name (fun ds hd => by obtain ⟨thing1, rfl⟩ := ar1_inv hd; rfl) (fun cdv A outer s H E hr tk po ds hd => ?_)
  obtain ⟨thing1, rfl⟩ := ar1_inv hd
  have lt := lets_of tk
  have hu64 := hr.units
  have hu1 := hu_of hr
  refine ⟨_, (pss_cons (ps_if (PW.pt (pw_or (pt_not (pt_val (pe_callB call_isY rfl C.b_isinstance (by decide +kernel) (pa_cons (pv 0) (pa_cons (pe_bltn (v := .ty "str") (u := .type "str") rfl C.b_str (by decide +kernel) rfl) pa_nil))))) (pw_or1 (pt_not (pt_chain op_le op_le pe_int (pe_callB call_len3 rfl C.b_len (by decide +kernel) (pa_cons (pv 0) pa_nil)) pe_int)))))
  (pss_cons (ps_ret pe_bl) pss_nil)
  pss_nil)
  (pss_cons (ps_for po rfl (pi_str (pv 0)) (pg_name (i := 1) sc_is_name.nd rfl (Or.inl rfl))
  (pss_cons (ps_if (pt_or2 (pt_cmpR op_nin2 (pv 1) (pe_globS rfl C.gl_LETTERS) (by rfl)) (pt_cmp (pc_dnotin hu1 (pv 1) (pe_globS rfl C.gl_LETTERS)) (by rfl)))
  (pss_cons (ps_ret pe_bl) pss_nil)
  pss_nil) pss_nil))
  (pss_cons (ps_ret pe_bl) pss_nil))), ?_⟩
  exact ((ss_seq (env1 := fun s1 : Unit => [some (.sh thing1), none]) (xs_if (xt_or (xt_not (xt_B (ee_is (n := .str) (ee_var (i := 0) rfl)))) (xt_not (xt_test (xe_chain od_le od_le ee_int (ee_cb cd_len3 (xa_cons (ee_var (i := 0) rfl) ea_nil)) ee_int))))
  (xs_ret ee_bl)
  (ss_nil (SubL.s (SubL.s SubL.n)))) fun s1 =>
  (ss_seq (env1 := fun s2 : Unit => [none, none]) (xs_for (ei_str (ee_var (i := 0) rfl)) (SubL.d (SubL.s SubL.n)) (gj_name (i := 1)) fun s2 sign1 =>
  (xs_ifT (xe_or2 (xe_nin (ee_var (i := 1) rfl) ee_str))
  (xs_ret ee_bl)
  (ss_nil (SubL.s (SubL.d SubL.n))))) fun s2 =>
  (xs_ret ee_bl))) :
    SS Z (wE E) _ [some (.sh thing1), none] (m_is_name thing1) (fun _ => fil 2))
abbrev s_is_amount : Stmt := topS 3
theorem sc_is_amount : FnScope ["thing"] ["thing"] (defScope s_is_amount) := ⟨rfl, rfl, rfl, by decide +kernel, rfl, by decide +kernel, by decide +kernel⟩
theorem ok_is_amount {f : Addr} {fd : FuncData} (C : Cxx mg Z) (F : Fun Z.K "is_amount" "is_amount" s_is_amount f fd) : FnOk P w Z.K mg base (L2.CX P w) 1 f fd ["thing"] (spM Z (ar1 m_is_amount)) := by
  refine fn_ok (k := 0) F sc_is_amount (fun ds hd => by obtain ⟨thing1, rfl⟩ := ar1_inv hd; rfl) (fun cdv A outer s H E hr tk po ds hd => ?_)
  obtain ⟨thing1, rfl⟩ := ar1_inv hd
  have lt := lets_of tk
  have hu64 := hr.units
  have hu1 := hu_of hr
  refine ⟨_, (pss_cons (ps_ret (pe_and (pe_callB call_isY rfl C.b_isinstance (by decide +kernel) (pa_cons (pv 0) (pa_cons (pe_bltn (v := .ty "int") (u := .type "int") rfl C.b_int (by decide +kernel) rfl) pa_nil))) (pe_and (pe_not (pe_callB call_isY rfl C.b_isinstance (by decide +kernel) (pa_cons (pv 0) (pa_cons (pe_bltn (v := .ty "bool") (u := .type "bool") rfl C.b_bool (by decide +kernel) rfl) pa_nil)))) (pe_one (pe_chain op_le op_lt3 pe_int (pv 0) (pe_op op_pow pe_int pe_int)))))) pss_nil), ?_⟩
  exact ((xs_ret (xe_andV (ee_is (n := .int) (ee_var (i := 0) rfl)) (xe_andV (xe_notV (ee_is (n := .bool) (ee_var (i := 0) rfl))) (xe_chain od_le od_lt3 ee_int (ee_var (i := 0) rfl) (xe_op od_pow ee_int ee_int))))) :
    SS Z (wE E) _ [some (.sh thing1)] (m_is_amount thing1) (fun _ => fil 1))
abbrev s_is_line : Stmt := topS 4
theorem sc_is_line : FnScope ["thing"] ["thing"] (defScope s_is_line) := ⟨rfl, rfl, rfl, by decide +kernel, rfl, by decide +kernel, by decide +kernel⟩
theorem ok_is_line {f : Addr} {fd : FuncData} (C : Cxx mg Z) (F : Fun Z.K "is_line" "is_line" s_is_line f fd) : FnOk P w Z.K mg base (L2.CX P w) 1 f fd ["thing"] (spM Z (ar1 m_is_line)) := by
  refine fn_ok (k := 0) F sc_is_line (fun ds hd => by obtain ⟨thing1, rfl⟩ := ar1_inv hd; rfl) (fun cdv A outer s H E hr tk po ds hd => ?_)
  obtain ⟨thing1, rfl⟩ := ar1_inv hd
  have lt := lets_of tk
  have hu64 := hr.units
  have hu1 := hu_of hr
  refine ⟨_, (pss_cons (ps_ret (pe_and (pe_callB call_isY rfl C.b_isinstance (by decide +kernel) (pa_cons (pv 0) (pa_cons (pe_bltn (v := .ty "int") (u := .type "int") rfl C.b_int (by decide +kernel) rfl) pa_nil))) (pe_and (pe_not (pe_callB call_isY rfl C.b_isinstance (by decide +kernel) (pa_cons (pv 0) (pa_cons (pe_bltn (v := .ty "bool") (u := .type "bool") rfl C.b_bool (by decide +kernel) rfl) pa_nil)))) (pe_one (pe_chain op_le op_lt3 pe_int (pv 0) (pe_op op_pow pe_int pe_int)))))) pss_nil), ?_⟩
  exact ((xs_ret (xe_andV (ee_is (n := .int) (ee_var (i := 0) rfl)) (xe_andV (xe_notV (ee_is (n := .bool) (ee_var (i := 0) rfl))) (xe_chain od_le od_lt3 ee_int (ee_var (i := 0) rfl) (xe_op od_pow ee_int ee_int))))) :
    SS Z (wE E) _ [some (.sh thing1)] (m_is_line thing1) (fun _ => fil 1))
abbrev s_law_cell_at : Stmt := topS 6
theorem sc_law_cell_at : FnScope ["script", "k"] ["script", "k"] (defScope s_law_cell_at) := ⟨rfl, rfl, rfl, by decide +kernel, rfl, by decide +kernel, by decide +kernel⟩
theorem ok_law_cell_at {f : Addr} {fd : FuncData} (C : Cxx mg Z) (F : Fun Z.K "_law_cell_at" "_law_cell_at" s_law_cell_at f fd) : FnOk P w Z.K mg base (L2.CX P w) 1 f fd ["script", "k"] (spM Z (ar2 m_law_cell_at)) := by
  refine fn_ok (k := 0) F sc_law_cell_at (fun ds hd => by obtain ⟨script1, k1, rfl⟩ := ar2_inv hd; rfl) (fun cdv A outer s H E hr tk po ds hd => ?_)
  obtain ⟨script1, k1, rfl⟩ := ar2_inv hd
  have lt := lets_of tk
  have hu64 := hr.units
  have hu1 := hu_of hr
  refine ⟨_, (pss_cons (ps_if (pt_cmpR op_lt3 (pv 1) (pe_callB call_len3 rfl C.b_len (by decide +kernel) (pa_cons (pv 0) pa_nil)) (nomark _))
  (pss_cons (ps_ret (pe_or2 (pe_ix ix_seq (pv 0) (pv 1) (fun _ _ => rfl)) (pe_dget hu1 (pv 0) (pv 1) (fun _ _ => rfl)))) pss_nil)
  pss_nil)
  (pss_cons (ps_ret pe_int) pss_nil)), ?_⟩
  exact ((ss_seq (env1 := fun s1 : Unit => [none, none]) (xs_if (xt_test (xe_op od_lt3 (ee_var (i := 1) rfl) (ee_cb cd_len3 (xa_cons (ee_var (i := 0) rfl) ea_nil))))
  (xs_ret (xe_ix (ee_var (i := 0) rfl) (ee_var (i := 1) rfl)))
  (ss_nil (SubL.d (SubL.d SubL.n)))) fun s1 =>
  (xs_ret ee_int)) :
    SS Z (wE E) _ [some (.sh script1), some (.sh k1)] (m_law_cell_at script1 k1) (fun _ => fil 2))
abbrev s_law_text : Stmt := topS 7
theorem sc_law_text : FnScope ["cell", "many", "letters", "mixed", "word", "k"] ["cell", "many"] (defScope s_law_text) := ⟨rfl, rfl, rfl, by decide +kernel, rfl, by decide +kernel, by decide +kernel⟩
theorem ok_law_text {f : Addr} {fd : FuncData} (C : Cxx mg Z) (F : Fun Z.K "_law_text" "_law_text" s_law_text f fd) : FnOk P w Z.K mg base (L2.CX P w) 1 f fd ["cell", "many"] (spM Z (ar2 m_law_text)) := by
  refine fn_ok (k := 0) F sc_law_text (fun ds hd => by obtain ⟨cell1, many1, rfl⟩ := ar2_inv hd; rfl) (fun cdv A outer s H E hr tk po ds hd => ?_)
  obtain ⟨cell1, many1, rfl⟩ := ar2_inv hd
  have lt := lets_of tk
  have hu64 := hr.units
  have hu1 := hu_of hr
  refine ⟨_, (pss_cons (ps_set (i := 2) sc_law_text.nd rfl (Or.inl rfl) pe_str)
  (pss_cons (ps_set (i := 3) sc_law_text.nd rfl (Or.inl rfl) (pe_op op_mod (pe_op op_mul3 (pv 0) pe_int) pe_int))
  (pss_cons (ps_set (i := 4) sc_law_text.nd rfl (Or.inl rfl) (pe_op op_mul3 (pe_or2 (pe_ix ix_seq (pv 2) (pe_op op_mod (pv 3) pe_int) (fun _ _ => rfl)) (pe_dget hu1 (pv 2) (pe_op op_mod (pv 3) pe_int) (fun _ _ => rfl))) (pv 1)))
  (pss_cons (ps_if (pt_cmpR (op_eq3 hu64) (pe_op op_mod (pe_op op_div2 (pv 3) pe_int) pe_int) pe_int (nomark _))
  (pss_cons (ps_set (i := 4) sc_law_text.nd rfl (Or.inl rfl) pe_str)
  (pss_cons (ps_for po rfl (pi_range1 rfl C.b_range (pa_cons (pv 1) pa_nil)) (pg_name (i := 5) sc_law_text.nd rfl (Or.inl rfl))
  (pss_cons (ps_set (i := 4) sc_law_text.nd rfl (Or.inl rfl) (pe_op op_add3 (pv 4) (pe_or2 (pe_ix ix_seq (pv 2) (pe_op op_mod (pe_op op_div2 (pv 3) (pe_op op_add3 (pv 5) pe_int)) pe_int) (fun _ _ => rfl)) (pe_dget hu1 (pv 2) (pe_op op_mod (pe_op op_div2 (pv 3) (pe_op op_add3 (pv 5) pe_int)) pe_int) (fun _ _ => rfl)))))
  pss_nil))
  pss_nil))
  pss_nil)
  (pss_cons (ps_ret (pv 4)) pss_nil))))), ?_⟩
  exact ((xs_asg (i := 2) ee_str fun letters1 =>
  (xs_asg (i := 3) (xe_op od_mod (xe_op od_mul (ee_var (i := 0) rfl) ee_int) ee_int) fun mixed1 =>
  (xs_asg (i := 4) (xe_op od_mul (xe_ix (ee_var (i := 2) rfl) (xe_op od_mod (ee_var (i := 3) rfl) ee_int)) (ee_var (i := 1) rfl)) fun word1 =>
  (ss_seq (env1 := fun s1 : D => [none, none, none, none, some (.sh s1), none]) (xs_if (xt_test (xe_op od_eq3 (xe_op od_mod (xe_op od_div (ee_var (i := 3) rfl) ee_int) ee_int) ee_int))
  (xs_asg (i := 4) ee_str fun word2 =>
  (ss_seq (env1 := fun s2 : D => [none, none, some (.sh letters1), some (.sh mixed1), some (.sh s2), none]) (xs_for (ei_rng1 (xa_cons (ee_var (i := 1) rfl) ea_nil)) (SubL.d (SubL.d (SubL.s (SubL.s (SubL.s (SubL.s SubL.n)))))) (gj_name (i := 5)) fun s2 k1 =>
  (xs_asg (i := 4) (xe_op od_add (ee_var (i := 4) rfl) (xe_ix (ee_var (i := 2) rfl) (xe_op od_mod (xe_op od_div (ee_var (i := 3) rfl) (xe_op od_add (ee_var (i := 5) rfl) ee_int)) ee_int))) fun word3 =>
  (ss_nil (SubL.s (SubL.s (SubL.s (SubL.s (SubL.s (SubL.d SubL.n))))))))) fun s2 =>
  (ss_nil (SubL.s (SubL.s (SubL.d (SubL.d (SubL.s (SubL.s SubL.n)))))))))
  (ss_nil (SubL.d (SubL.d (SubL.d (SubL.d (SubL.s (SubL.s SubL.n)))))))) fun s1 =>
  (xs_ret (ee_var (i := 4) rfl)))))) :
    SS Z (wE E) _ [some (.sh cell1), some (.sh many1), none, none, none, none] (m_law_text cell1 many1) (fun _ => fil 6))
abbrev s_law_thing : Stmt := topS 8
theorem sc_law_thing : FnScope ["script", "way", "cell", "other", "some", "word", "spot", "signs"] ["script"] (defScope s_law_thing) := ⟨rfl, rfl, rfl, by decide +kernel, rfl, by decide +kernel, by decide +kernel⟩
theorem ok_law_thing {f : Addr} {fd : FuncData} (C : Cxx mg Z) (F : Fun Z.K "_law_thing" "_law_thing" s_law_thing f fd) (F_law_cell_at : Fn P w Z.K mg base "_law_cell_at" 1 ["script", "k"] [] (spM Z (ar2 m_law_cell_at))) (F_law_text : Fn P w Z.K mg base "_law_text" 1 ["cell", "many"] [] (spM Z (ar2 m_law_text))) : FnOk P w Z.K mg base (L2.CX P w) 2 f fd ["script"] (spM Z (ar1 m_law_thing)) := by
  refine fn_ok (k := 1) F sc_law_thing (fun ds hd => by obtain ⟨script1, rfl⟩ := ar1_inv hd; rfl) (fun cdv A outer s H E hr tk po ds hd => ?_)
  obtain ⟨script1, rfl⟩ := ar1_inv hd
  have lt := lets_of tk
  have hu64 := hr.units
  have hu1 := hu_of hr
  refine ⟨_, (pss_cons (ps_set (i := 1) sc_law_thing.nd rfl (Or.inl rfl) (pe_op op_mod (pe_fn F_law_cell_at (hr.mono (by decide)) lt rfl (pa_cons (pv 0) (pa_cons pe_int pa_nil))) pe_int))
  (pss_cons (ps_set (i := 2) sc_law_thing.nd rfl (Or.inl rfl) (pe_fn F_law_cell_at (hr.mono (by decide)) lt rfl (pa_cons (pv 0) (pa_cons pe_int pa_nil))))
  (pss_cons (ps_set (i := 3) sc_law_thing.nd rfl (Or.inl rfl) (pe_fn F_law_cell_at (hr.mono (by decide)) lt rfl (pa_cons (pv 0) (pa_cons pe_int pa_nil))))
  (pss_cons (ps_if (pt_cmpR (op_eq3 hu64) (pv 1) pe_int (nomark _))
  (pss_cons (ps_ret (pe_fn F_law_text (hr.mono (by decide)) lt rfl (pa_cons (pv 2) (pa_cons (pe_op op_add3 pe_int (pe_op op_mod (pv 3) pe_int)) pa_nil)))) pss_nil)
  pss_nil)
  (pss_cons (ps_if (pt_cmpR (op_eq3 hu64) (pv 1) pe_int (nomark _))
  (pss_cons (ps_set (i := 5) sc_law_thing.nd rfl (Or.inl rfl) (pe_fn F_law_text (hr.mono (by decide)) lt rfl (pa_cons (pv 2) (pa_cons (pe_op op_add3 pe_int (pe_op op_mod (pv 3) pe_int)) pa_nil))))
  (pss_cons (ps_set (i := 6) sc_law_thing.nd rfl (Or.inl rfl) (pe_op op_mod (pe_op op_div2 (pv 3) pe_int) (pe_callB call_len3 rfl C.b_len (by decide +kernel) (pa_cons (pv 5) pa_nil))))
  (pss_cons (ps_set (i := 7) sc_law_thing.nd rfl (Or.inl rfl) (pe_lst (pa_cons pe_str (pa_cons pe_str (pa_cons pe_str (pa_cons pe_str (pa_cons pe_str (pa_cons pe_str (pa_cons pe_str (pa_cons pe_str (pa_cons pe_str (pa_cons pe_str (pa_cons pe_str (pa_cons pe_str (pa_cons pe_str (pa_cons pe_str pa_nil))))))))))))))))
  (pss_cons (ps_ret (pe_op op_add3 (pe_op op_add3 (pe_slice sl2 (pv 5) po_none (po_some (pv 6))) (pe_or2 (pe_ix ix_seq (pv 7) (pe_op op_mod (pe_op op_div2 (pv 3) pe_int) pe_int) (fun _ _ => rfl)) (pe_dget hu1 (pv 7) (pe_op op_mod (pe_op op_div2 (pv 3) pe_int) pe_int) (fun _ _ => rfl)))) (pe_slice sl2 (pv 5) (po_some (pe_op op_add3 (pv 6) pe_int)) po_none))) pss_nil))))
  pss_nil)
  (pss_cons (ps_if (pt_cmpR (op_eq3 hu64) (pv 1) pe_int (nomark _))
  (pss_cons (ps_ret (pe_fn F_law_text (hr.mono (by decide)) lt rfl (pa_cons (pv 2) (pa_cons (pe_or2 (pe_ix ix_seq (pe_lst (pa_cons pe_int (pa_cons pe_int (pa_cons pe_int (pa_cons pe_int (pa_cons pe_int pa_nil)))))) (pe_op op_mod (pv 3) pe_int) (fun _ _ => rfl)) (pe_dget hu1 (pe_lst (pa_cons pe_int (pa_cons pe_int (pa_cons pe_int (pa_cons pe_int (pa_cons pe_int pa_nil)))))) (pe_op op_mod (pv 3) pe_int) (fun _ _ => rfl))) pa_nil)))) pss_nil)
  pss_nil)
  (pss_cons (ps_if (pt_cmpR (op_eq3 hu64) (pv 1) pe_int (nomark _))
  (pss_cons (ps_ret (pe_op op_sub (pe_op op_add3 (pe_or2 (pe_ix ix_seq (pe_lst (pa_cons pe_int (pa_cons (pe_op op_pow pe_int pe_int) (pa_cons (pe_op op_pow pe_int pe_int) pa_nil)))) (pe_op op_mod (pv 2) pe_int) (fun _ _ => rfl)) (pe_dget hu1 (pe_lst (pa_cons pe_int (pa_cons (pe_op op_pow pe_int pe_int) (pa_cons (pe_op op_pow pe_int pe_int) pa_nil)))) (pe_op op_mod (pv 2) pe_int) (fun _ _ => rfl))) (pe_op op_mod (pv 3) pe_int)) pe_int)) pss_nil)
  pss_nil)
  (pss_cons (ps_if (pt_cmpR (op_eq3 hu64) (pv 1) pe_int (nomark _))
  (pss_cons (ps_ret (pe_op op_mul3 (pe_op op_mod (pv 2) (pe_op op_pow pe_int pe_int)) (pe_op op_sub pe_int (pe_op op_mul3 pe_int (pe_op op_mod (pv 3) pe_int))))) pss_nil)
  pss_nil)
  (pss_cons (ps_set (i := 4) sc_law_thing.nd rfl (Or.inl rfl) (pe_lst (pa_cons pe_non (pa_cons pe_bl (pa_cons pe_bl (pa_cons (pe_lst pa_nil) (pa_cons (pe_lst (pa_cons pe_str pa_nil)) (pa_cons (pe_tup (pa_cons pe_str pa_nil)) (pa_cons pe_dnewT (pa_cons (pe_tup pa_nil) (pa_cons pe_str (pa_cons (pe_lst (pa_cons pe_int pa_nil)) (pa_cons (pe_tup (pa_cons pe_str (pa_cons pe_str pa_nil))) (pa_cons (pe_disp (pps_cons pe_str pe_int pps_nil) (by rfl) (by rfl) (fun z => by cases z) (by decide)) pa_nil))))))))))))))
  (pss_cons (ps_ret (pe_or2 (pe_ix ix_seq (pv 4) (pe_op op_mod (pv 3) pe_int) (fun _ _ => rfl)) (pe_dget hu1 (pv 4) (pe_op op_mod (pv 3) pe_int) (fun _ _ => rfl)))) pss_nil)))))))))), ?_⟩
  exact ((xs_asg (i := 1) (xe_op od_mod (xe_fn (xa_cons (ee_var (i := 0) rfl) (xa_cons ee_int ea_nil))) ee_int) fun way1 =>
  (xs_asg (i := 2) (xe_fn (xa_cons (ee_var (i := 0) rfl) (xa_cons ee_int ea_nil))) fun cell1 =>
  (xs_asg (i := 3) (xe_fn (xa_cons (ee_var (i := 0) rfl) (xa_cons ee_int ea_nil))) fun other1 =>
  (ss_seq (env1 := fun s1 : Unit => [none, some (.sh way1), some (.sh cell1), some (.sh other1), none, none, none, none]) (xs_if (xt_test (xe_op od_eq3 (ee_var (i := 1) rfl) ee_int))
  (xs_ret (xe_fn (xa_cons (ee_var (i := 2) rfl) (xa_cons (xe_op od_add ee_int (xe_op od_mod (ee_var (i := 3) rfl) ee_int)) ea_nil))))
  (ss_nil (SubL.d (SubL.s (SubL.s (SubL.s (SubL.s (SubL.s (SubL.s (SubL.s SubL.n)))))))))) fun s1 =>
  (ss_seq (env1 := fun s2 : Unit => [none, some (.sh way1), some (.sh cell1), some (.sh other1), none, none, none, none]) (xs_if (xt_test (xe_op od_eq3 (ee_var (i := 1) rfl) ee_int))
  (xs_asg (i := 5) (xe_fn (xa_cons (ee_var (i := 2) rfl) (xa_cons (xe_op od_add ee_int (xe_op od_mod (ee_var (i := 3) rfl) ee_int)) ea_nil))) fun word1 =>
  (xs_asg (i := 6) (xe_op od_mod (xe_op od_div (ee_var (i := 3) rfl) ee_int) (ee_cb cd_len3 (xa_cons (ee_var (i := 5) rfl) ea_nil))) fun spot1 =>
  (xs_asg (i := 7) (ee_lst (xa_cons ee_str (xa_cons ee_str (xa_cons ee_str (xa_cons ee_str (xa_cons ee_str (xa_cons ee_str (xa_cons ee_str (xa_cons ee_str (xa_cons ee_str (xa_cons ee_str (xa_cons ee_str (xa_cons ee_str (xa_cons ee_str (xa_cons ee_str ea_nil))))))))))))))) fun signs1 =>
  (xs_ret (xe_op od_add (xe_op od_add (xe_cut (ee_var (i := 5) rfl) eo_none (eo_some (ee_var (i := 6) rfl))) (xe_ix (ee_var (i := 7) rfl) (xe_op od_mod (xe_op od_div (ee_var (i := 3) rfl) ee_int) ee_int))) (xe_cut (ee_var (i := 5) rfl) (eo_some (xe_op od_add (ee_var (i := 6) rfl) ee_int)) eo_none))))))
  (ss_nil (SubL.s (SubL.s (SubL.s (SubL.s (SubL.s (SubL.s (SubL.s (SubL.s SubL.n)))))))))) fun s2 =>
  (ss_seq (env1 := fun s3 : Unit => [none, some (.sh way1), some (.sh cell1), some (.sh other1), none, none, none, none]) (xs_if (xt_test (xe_op od_eq3 (ee_var (i := 1) rfl) ee_int))
  (xs_ret (xe_fn (xa_cons (ee_var (i := 2) rfl) (xa_cons (xe_ix (ee_lst (xa_cons ee_int (xa_cons ee_int (xa_cons ee_int (xa_cons ee_int (xa_cons ee_int ea_nil)))))) (xe_op od_mod (ee_var (i := 3) rfl) ee_int)) ea_nil))))
  (ss_nil (SubL.s (SubL.s (SubL.s (SubL.s (SubL.s (SubL.s (SubL.s (SubL.s SubL.n)))))))))) fun s3 =>
  (ss_seq (env1 := fun s4 : Unit => [none, some (.sh way1), some (.sh cell1), some (.sh other1), none, none, none, none]) (xs_if (xt_test (xe_op od_eq3 (ee_var (i := 1) rfl) ee_int))
  (xs_ret (xe_op od_sub (xe_op od_add (xe_ix (ee_lst (xa_cons ee_int (xa_cons (xe_op od_pow ee_int ee_int) (xa_cons (xe_op od_pow ee_int ee_int) ea_nil)))) (xe_op od_mod (ee_var (i := 2) rfl) ee_int)) (xe_op od_mod (ee_var (i := 3) rfl) ee_int)) ee_int))
  (ss_nil (SubL.s (SubL.s (SubL.s (SubL.s (SubL.s (SubL.s (SubL.s (SubL.s SubL.n)))))))))) fun s4 =>
  (ss_seq (env1 := fun s5 : Unit => [none, none, none, some (.sh other1), none, none, none, none]) (xs_if (xt_test (xe_op od_eq3 (ee_var (i := 1) rfl) ee_int))
  (xs_ret (xe_op od_mul (xe_op od_mod (ee_var (i := 2) rfl) (xe_op od_pow ee_int ee_int)) (xe_op od_sub ee_int (xe_op od_mul ee_int (xe_op od_mod (ee_var (i := 3) rfl) ee_int)))))
  (ss_nil (SubL.s (SubL.d (SubL.d (SubL.s (SubL.s (SubL.s (SubL.s (SubL.s SubL.n)))))))))) fun s5 =>
  (xs_asg (i := 4) (ee_lst (xa_cons ee_non (xa_cons ee_bl (xa_cons ee_bl (xa_cons (ee_lst ea_nil) (xa_cons (ee_lst (xa_cons ee_str ea_nil)) (xa_cons (ee_tup (xa_cons ee_str ea_nil)) (xa_cons xe_newT (xa_cons (ee_tup ea_nil) (xa_cons ee_str (xa_cons (ee_lst (xa_cons ee_int ea_nil)) (xa_cons (ee_tup (xa_cons ee_str (xa_cons ee_str ea_nil))) (xa_cons (xe_dispC (fun _ => rfl)) ea_nil))))))))))))) fun somex1 =>
  (xs_ret (xe_ix (ee_var (i := 4) rfl) (xe_op od_mod (ee_var (i := 3) rfl) ee_int)))))))))))) :
    SS Z (wE E) _ [some (.sh script1), none, none, none, none, none, none, none] (m_law_thing script1) (fun _ => fil 8))
abbrev s_law_due_name : Stmt := topS 9
theorem sc_law_due_name : FnScope ["thing", "sign"] ["thing"] (defScope s_law_due_name) := ⟨rfl, rfl, rfl, by decide +kernel, rfl, by decide +kernel, by decide +kernel⟩
theorem ok_law_due_name {f : Addr} {fd : FuncData} (C : Cxx mg Z) (F : Fun Z.K "_law_due_name" "_law_due_name" s_law_due_name f fd) : FnOk P w Z.K mg base (L2.CX P w) 1 f fd ["thing"] (spM Z (ar1 m_law_due_name)) := by
  refine fn_ok (k := 0) F sc_law_due_name (fun ds hd => by obtain ⟨thing1, rfl⟩ := ar1_inv hd; rfl) (fun cdv A outer s H E hr tk po ds hd => ?_)
  obtain ⟨thing1, rfl⟩ := ar1_inv hd
  have lt := lets_of tk
  have hu64 := hr.units
  have hu1 := hu_of hr
  refine ⟨_, (pss_cons (ps_if (PW.pt (pw_or (pt_not (pt_val (pe_callB call_isY rfl C.b_isinstance (by decide +kernel) (pa_cons (pv 0) (pa_cons (pe_bltn (v := .ty "str") (u := .type "str") rfl C.b_str (by decide +kernel) rfl) pa_nil))))) (pw_or (pt_cmpR (op_eq3 hu64) (pv 0) pe_str (nomark _)) (pw_or1 (pt_cmpR op_gt (pe_callB call_len3 rfl C.b_len (by decide +kernel) (pa_cons (pv 0) pa_nil)) pe_int (nomark _))))))
  (pss_cons (ps_ret pe_bl) pss_nil)
  pss_nil)
  (pss_cons (ps_for po rfl (pi_str (pv 0)) (pg_name (i := 1) sc_law_due_name.nd rfl (Or.inl rfl))
  (pss_cons (ps_if (pt_or2 (pt_cmpR op_nin2 (pv 1) pe_str (by rfl)) (pt_cmp (pc_dnotin hu1 (pv 1) pe_str) (by rfl)))
  (pss_cons (ps_ret pe_bl) pss_nil)
  pss_nil) pss_nil))
  (pss_cons (ps_ret pe_bl) pss_nil))), ?_⟩
  exact ((ss_seq (env1 := fun s1 : Unit => [some (.sh thing1), none]) (xs_if (xt_or (xt_not (xt_B (ee_is (n := .str) (ee_var (i := 0) rfl)))) (xt_or (xt_test (xe_op od_eq3 (ee_var (i := 0) rfl) ee_str)) (xt_test (xe_op od_gt (ee_cb cd_len3 (xa_cons (ee_var (i := 0) rfl) ea_nil)) ee_int))))
  (xs_ret ee_bl)
  (ss_nil (SubL.s (SubL.s SubL.n)))) fun s1 =>
  (ss_seq (env1 := fun s2 : Unit => [none, none]) (xs_for (ei_str (ee_var (i := 0) rfl)) (SubL.d (SubL.s SubL.n)) (gj_name (i := 1)) fun s2 sign1 =>
  (xs_ifT (xe_or2 (xe_nin (ee_var (i := 1) rfl) ee_str))
  (xs_ret ee_bl)
  (ss_nil (SubL.s (SubL.d SubL.n))))) fun s2 =>
  (xs_ret ee_bl))) :
    SS Z (wE E) _ [some (.sh thing1), none] (m_law_due_name thing1) (fun _ => fil 2))
abbrev s_law : Stmt := topS 10
theorem sc_law : FnScope ["script", "thing", "whole", "due", "found", "k"] ["script"] (defScope s_law) := ⟨rfl, rfl, rfl, by decide +kernel, rfl, by decide +kernel, by decide +kernel⟩
theorem ok_law {f : Addr} {fd : FuncData} (C : Cxx mg Z) (F : Fun Z.K "law" "law" s_law f fd) (F_law_thing : Fn P w Z.K mg base "_law_thing" 2 ["script"] [] (spM Z (ar1 m_law_thing))) (F_law_due_name : Fn P w Z.K mg base "_law_due_name" 1 ["thing"] [] (spM Z (ar1 m_law_due_name))) (F_is_line : Fn P w Z.K mg base "is_line" 1 ["thing"] [] (spM Z (ar1 m_is_line))) (F_is_amount : Fn P w Z.K mg base "is_amount" 1 ["thing"] [] (spM Z (ar1 m_is_amount))) (F_is_name : Fn P w Z.K mg base "is_name" 1 ["thing"] [] (spM Z (ar1 m_is_name))) : FnOk P w Z.K mg base (L2.CX P w) 3 f fd ["script"] (spM Z (ar1 m_law)) := by
  refine fn_ok (k := 2) F sc_law (fun ds hd => by obtain ⟨script1, rfl⟩ := ar1_inv hd; rfl) (fun cdv A outer s H E hr tk po ds hd => ?_)
  obtain ⟨script1, rfl⟩ := ar1_inv hd
  have lt := lets_of tk
  have hu64 := hr.units
  have hu1 := hu_of hr
  refine ⟨_, (pss_cons (ps_set (i := 1) sc_law.nd rfl (Or.inl rfl) (pe_fn F_law_thing (hr.mono (by decide)) lt rfl (pa_cons (pv 0) pa_nil)))
  (pss_cons (ps_set (i := 2) sc_law.nd rfl (Or.inl rfl) (pe_and (pe_callB call_isY rfl C.b_isinstance (by decide +kernel) (pa_cons (pv 1) (pa_cons (pe_bltn (v := .ty "int") (u := .type "int") rfl C.b_int (by decide +kernel) rfl) pa_nil))) (pe_one (pe_not (pe_callB call_isY rfl C.b_isinstance (by decide +kernel) (pa_cons (pv 1) (pa_cons (pe_bltn (v := .ty "bool") (u := .type "bool") rfl C.b_bool (by decide +kernel) rfl) pa_nil)))))))
  (pss_cons (ps_set (i := 3) sc_law.nd rfl (Or.inl rfl) (pe_lst (pa_cons (pe_fn F_law_due_name (hr.mono (by decide)) lt rfl (pa_cons (pv 1) pa_nil)) (pa_cons (pe_and (pv 2) (pe_one (pe_chain op_lt3 op_lt3 pe_int (pv 1) (pe_op op_pow pe_int pe_int)))) (pa_cons (pe_and (pv 2) (pe_one (pe_chain op_le op_lt3 pe_int (pv 1) (pe_op op_pow pe_int pe_int)))) pa_nil)))))
  (pss_cons (ps_set (i := 4) sc_law.nd rfl (Or.inl rfl) (pe_lst (pa_cons (pe_fn F_is_name (hr.mono (by decide)) lt rfl (pa_cons (pv 1) pa_nil)) (pa_cons (pe_fn F_is_amount (hr.mono (by decide)) lt rfl (pa_cons (pv 1) pa_nil)) (pa_cons (pe_fn F_is_line (hr.mono (by decide)) lt rfl (pa_cons (pv 1) pa_nil)) pa_nil)))))
  (pss_cons (ps_for po rfl (pi_range1 rfl C.b_range (pa_cons pe_int pa_nil)) (pg_name (i := 5) sc_law.nd rfl (Or.inl rfl))
  (pss_cons (ps_if (PW.pt (pw_or (pt_not (pt_val (pe_callB call_isY rfl C.b_isinstance (by decide +kernel) (pa_cons (pe_or2 (pe_ix ix_seq (pv 4) (pv 5) (fun _ _ => rfl)) (pe_dget hu1 (pv 4) (pv 5) (fun _ _ => rfl))) (pa_cons (pe_bltn (v := .ty "bool") (u := .type "bool") rfl C.b_bool (by decide +kernel) rfl) pa_nil))))) (pw_or1 (pt_cmpR (op_ne3 hu64) (pe_or2 (pe_ix ix_seq (pv 4) (pv 5) (fun _ _ => rfl)) (pe_dget hu1 (pv 4) (pv 5) (fun _ _ => rfl))) (pe_or2 (pe_ix ix_seq (pv 3) (pv 5) (fun _ _ => rfl)) (pe_dget hu1 (pv 3) (pv 5) (fun _ _ => rfl))) (nomark _)))))
  (pss_cons (ps_ret pe_bl) pss_nil)
  pss_nil) pss_nil))
  (pss_cons (ps_ret pe_bl) pss_nil)))))), ?_⟩
  exact ((xs_asg (i := 1) (xe_fn (xa_cons (ee_var (i := 0) rfl) ea_nil)) fun thing1 =>
  (xs_asg (i := 2) (xe_andV (ee_is (n := .int) (ee_var (i := 1) rfl)) (xe_notV (ee_is (n := .bool) (ee_var (i := 1) rfl)))) fun whole1 =>
  (xs_asg (i := 3) (ee_lst (xa_cons (xe_fn (xa_cons (ee_var (i := 1) rfl) ea_nil)) (xa_cons (xe_andV (ee_var (i := 2) rfl) (xe_chain od_lt3 od_lt3 ee_int (ee_var (i := 1) rfl) (xe_op od_pow ee_int ee_int))) (xa_cons (xe_andV (ee_var (i := 2) rfl) (xe_chain od_le od_lt3 ee_int (ee_var (i := 1) rfl) (xe_op od_pow ee_int ee_int))) ea_nil)))) fun due1 =>
  (xs_asg (i := 4) (ee_lst (xa_cons (xe_fn (xa_cons (ee_var (i := 1) rfl) ea_nil)) (xa_cons (xe_fn (xa_cons (ee_var (i := 1) rfl) ea_nil)) (xa_cons (xe_fn (xa_cons (ee_var (i := 1) rfl) ea_nil)) ea_nil)))) fun found1 =>
  (ss_seq (env1 := fun s1 : Unit => [none, none, none, some (.sh due1), some (.sh found1), none]) (xs_for (ei_rng1 (xa_cons ee_int ea_nil)) (SubL.d (SubL.d (SubL.d (SubL.s (SubL.s (SubL.s SubL.n)))))) (gj_name (i := 5)) fun s1 k1 =>
  (xs_ifT (xt_or (xt_not (xt_B (ee_is (n := .bool) (xe_ix (ee_var (i := 4) rfl) (ee_var (i := 5) rfl))))) (xt_test (xe_op od_ne3 (xe_ix (ee_var (i := 4) rfl) (ee_var (i := 5) rfl)) (xe_ix (ee_var (i := 3) rfl) (ee_var (i := 5) rfl)))))
  (xs_ret ee_bl)
  (ss_nil (SubL.s (SubL.s (SubL.s (SubL.s (SubL.s (SubL.d SubL.n))))))))) fun s1 =>
  (xs_ret ee_bl)))))) :
    SS Z (wE E) _ [some (.sh script1), none, none, none, none, none] (m_law script1) (fun _ => fil 6))
end

open PySem.W in
theorem all_mk {l : PySem.W.OpenLaw} {w : World} {K : PySem.W.Frag} {h : Heap} {mg : PySem.Str → Option Value} {fa : Addr} (X : K.In h) (G : h.Ns mainGlobals mg) (hfa : mg "law" = some (.ref fa))
    (b_bool : PySem.W.nsIn K mainGlobals "bool" = some none)
    (b_int : PySem.W.nsIn K mainGlobals "int" = some none)
    (b_isinstance : PySem.W.nsIn K mainGlobals "isinstance" = some none)
    (b_len : PySem.W.nsIn K mainGlobals "len" = some none)
    (b_range : PySem.W.nsIn K mainGlobals "range" = some none)
    (b_str : PySem.W.nsIn K mainGlobals "str" = some none)
    {t_LETTERS : Tok} (g_LETTERS : PySem.W.nsIn K mainGlobals "LETTERS" = some (some (.str "abcdefghijklmnopqrstuvwxyz" t_LETTERS)))
    (d_is_name : DefIn K "is_name" s_is_name)
    (d_is_amount : DefIn K "is_amount" s_is_amount)
    (d_is_line : DefIn K "is_line" s_is_line)
    (d_law_cell_at : DefIn K "_law_cell_at" s_law_cell_at)
    (d_law_text : DefIn K "_law_text" s_law_text)
    (d_law_thing : DefIn K "_law_thing" s_law_thing)
    (d_law_due_name : DefIn K "_law_due_name" s_law_due_name)
    (d_law : DefIn K "law" s_law) :
    ∃ fd : FuncData, (∀ (s : Shared) (v : Value), BindsTo s fd ⟨[v], []⟩ [("script", v)]) ∧ ∃ Z : Zs, Z.K = K ∧ ∀ base : Heap, K.In base → base.Ns mainGlobals mg → FnOk l.prog w K mg base (L2.CX l.prog w) 3 fa fd ["script"] (spM Z (ar1 m_law)) := by
  obtain ⟨f, fd, a, D⟩ := d_law.ex
  have e := hfa.symm.trans (PySem.W.mg_of X G a)
  cases e
  obtain ⟨oc, od, kV, doc, pm, an, cdv, ct, osl, efd, lk, hcd⟩ := D.ex
  subst efd
  refine ⟨PySem.W.fnOf "law" "law" (defArgs s_law) (defBody s_law) (defScope s_law) .none kV doc pm an cdv ct, fun s v => .of_eq rfl, ?_⟩
  let Z : Zs := ⟨K, fun _ => 0, fun _ => 0⟩
  have C : Cxx mg Z := ⟨mg_none_of X G b_bool, mg_none_of X G b_int, mg_none_of X G b_isinstance, mg_none_of X G b_len, mg_none_of X G b_range, mg_none_of X G b_str, ⟨_, mg_of X G g_LETTERS⟩⟩
  exact ⟨Z, rfl, fun base _ _ => by
    have F_is_name : Fn l.prog w Z.K mg base "is_name" 1 ["thing"] [] (spM Z (ar1 m_is_name)) := Fn.of d_is_name X G (fun f fd F => ok_is_name C F) fun _ _ _ _ _ _ us hl => match us, hl with | [_], _ => rfl
    have F_is_amount : Fn l.prog w Z.K mg base "is_amount" 1 ["thing"] [] (spM Z (ar1 m_is_amount)) := Fn.of d_is_amount X G (fun f fd F => ok_is_amount C F) fun _ _ _ _ _ _ us hl => match us, hl with | [_], _ => rfl
    have F_is_line : Fn l.prog w Z.K mg base "is_line" 1 ["thing"] [] (spM Z (ar1 m_is_line)) := Fn.of d_is_line X G (fun f fd F => ok_is_line C F) fun _ _ _ _ _ _ us hl => match us, hl with | [_], _ => rfl
    have F_law_cell_at : Fn l.prog w Z.K mg base "_law_cell_at" 1 ["script", "k"] [] (spM Z (ar2 m_law_cell_at)) := Fn.of d_law_cell_at X G (fun f fd F => ok_law_cell_at C F) fun _ _ _ _ _ _ us hl => match us, hl with | [_, _], _ => rfl
    have F_law_text : Fn l.prog w Z.K mg base "_law_text" 1 ["cell", "many"] [] (spM Z (ar2 m_law_text)) := Fn.of d_law_text X G (fun f fd F => ok_law_text C F) fun _ _ _ _ _ _ us hl => match us, hl with | [_, _], _ => rfl
    have F_law_thing : Fn l.prog w Z.K mg base "_law_thing" 2 ["script"] [] (spM Z (ar1 m_law_thing)) := Fn.of d_law_thing X G (fun f fd F => ok_law_thing C F F_law_cell_at F_law_text) fun _ _ _ _ _ _ us hl => match us, hl with | [_], _ => rfl
    have F_law_due_name : Fn l.prog w Z.K mg base "_law_due_name" 1 ["thing"] [] (spM Z (ar1 m_law_due_name)) := Fn.of d_law_due_name X G (fun f fd F => ok_law_due_name C F) fun _ _ _ _ _ _ us hl => match us, hl with | [_], _ => rfl
    exact ok_law C D F_law_thing F_law_due_name F_is_line F_is_amount F_is_name⟩
theorem sp_eq (Z : Zs) (vs : List V) (H : Hp) : True := trivial
theorem walk {l : PySem.W.OpenLaw} {q : Program} {loose : List PySem.Str} {XP : (PySem.Str → Option Value) → Heap → Prop} {YP : World → Heap → Prop} {d : DefRec} {K : Params → PySem.W.Frag} (hn : l.most = some 63) (hdf : d.params.defaults = [])
    (hY : ∀ (w : World) (h : Heap), YP w h → (K w.params).In h)
    (F : ∀ (w : World) (mg : PySem.Str → Option Value) (fa : Addr) (h : Heap), (K w.params).In h → h.Ns mainGlobals mg → mg d.name = some (.ref fa) →
      ∃ fd : FuncData, (∀ (s : Shared) (u : Value), BindsTo s fd ⟨[u], []⟩ [("script", u)]) ∧ ∃ Z : Zs, Z.K = K w.params ∧ ∀ base : Heap, (K w.params).In base → base.Ns mainGlobals mg → FnOk l.prog w (K w.params) mg base (L2.CX l.prog w) 3 fa fd ["script"] (spM Z (ar1 m_law)))
    (hm : ∀ ns : List Int, ns.length ≤ 63 → m_law (.scr ns) = .ret (.sh (.bl true))) :
    PySem.W.WalkO q loose XP YP l.row.toRowW d [] (fun f vs => PySem.call f vs) :=
  L2.walk_of (n := 63) (k := 3) (x := "script") (CX := fun w => L2.CX l.prog w) (sp := fun w => lawSp (K w.params) m_law) hn (by decide) hdf ⟨rfl, by decide, by decide⟩ hY
    (fun w mg fa h X G e => by
      obtain ⟨fd, hb, Z, eZ, f⟩ := F w mg fa h X G e
      exact ⟨fd, hb, fun base k g => (f base k g).imp fun vs H Q E s => s.to eZ⟩)
    (fun w H a ns hl _ hS => lawSp_of hm hl hS) fun _ _ _ _ _ z => noCX z
end Py

namespace Py
end Py

open PySem PySem.W PyProof.Rows in
set_option maxRecDepth 100000 in
set_option maxHeartbeats 0 in
theorem PySem.Challenge.cw_trustways_k01_names_amounts_lines_holds : PySem.Challenge.rw_trustways_k01_names_amounts_lines.Holds := by
  w_on; o_law; k_head; (case hw => w_witness2)
  k_fill
  refine Py.walk (l := PySem.Challenge.rw_trustways_k01_names_amounts_lines) rfl rfl (fun w h Y => PySem.W.kIn_of Y) ?F Py.law_true
  case F =>
    intro w mg fa h KX G hmg
    refine' Py.all_mk KX G hmg ?b_bool ?b_int ?b_isinstance ?b_len ?b_range ?b_str ?g_LETTERS ?d_is_name ?d_is_amount ?d_is_line ?d_law_cell_at ?d_law_text ?d_law_thing ?d_law_due_name ?d_law
    (case b_bool => k_is)
    (case b_int => k_is)
    (case b_isinstance => k_is)
    (case b_len => k_is)
    (case b_range => k_is)
    (case b_str => k_is)
    (case g_LETTERS => k_is)
    (case d_is_name => refine' Wk.defIn ?a ?l ?c ?k; (case a => k_is); (case l => k_is); (case c => k_is); (case k => k_is))
    (case d_is_amount => refine' Wk.defIn ?a ?l ?c ?k; (case a => k_is); (case l => k_is); (case c => k_is); (case k => k_is))
    (case d_is_line => refine' Wk.defIn ?a ?l ?c ?k; (case a => k_is); (case l => k_is); (case c => k_is); (case k => k_is))
    (case d_law_cell_at => refine' Wk.defIn ?a ?l ?c ?k; (case a => k_is); (case l => k_is); (case c => k_is); (case k => k_is))
    (case d_law_text => refine' Wk.defIn ?a ?l ?c ?k; (case a => k_is); (case l => k_is); (case c => k_is); (case k => k_is))
    (case d_law_thing => refine' Wk.defIn ?a ?l ?c ?k; (case a => k_is); (case l => k_is); (case c => k_is); (case k => k_is))
    (case d_law_due_name => refine' Wk.defIn ?a ?l ?c ?k; (case a => k_is); (case l => k_is); (case c => k_is); (case k => k_is))
    (case d_law => refine' Wk.defIn ?a ?l ?c ?k; (case a => k_is); (case l => k_is); (case c => k_is); (case k => k_is))
#print axioms PySem.Challenge.cw_trustways_k01_names_amounts_lines_holds
