import PyProof.Rows.All
import Wide.All
import OpenK.AllK
import Wide.FinOn
import HandS.ForMost
import HandS.Exc
import HandS.TryOnly
import HandS.ExcOwn
import HandS.WordsExc
import HandS.Walk
import HandS.IsInst
import HandS.StrMore
import HandS.RevTup
import KE.KStateDown
import HandS.Head0
import HandS.Head1
import HandS.Head2
import HandS.HeadEnd
import HandS.HeadHook1
import HandS.HeadHook2
import HandS.HeadHook3
import HandS.HeadHook4
import PySem.Challenge.RW_backwords_k82_sent_and_then
set_option Elab.async false
set_option linter.all false
set_option maxRecDepth 100000
set_option maxHeartbeats 0
/-! Words over letters with backs: leaving out, by a stack. -/
namespace Fg
/-- the back of a letter, by codes -/
def bk (c : Nat) : Nat := if 65 ≤ c ∧ c ≤ 90 then c + 32 else if 97 ≤ c ∧ c ≤ 122 then c - 32 else c
theorem bk_bk (c : Nat) : bk (bk c) = c := by
  unfold bk
  repeat' split
  all_goals omega
def push (st : List Nat) (c : Nat) : List Nat := match st with
  | [] => [c]
  | x :: r => if x = bk c then r else c :: x :: r
theorem push_cons (x : Nat) (r : List Nat) (c : Nat) : push (x :: r) c = if x = bk c then r else c :: x :: r := rfl
/-- the word acts on stacks -/
def act (l st : List Nat) : List Nat := l.foldl push st
theorem act_nil (st : List Nat) : act [] st = st := rfl
theorem act_cons (c : Nat) (l st : List Nat) : act (c :: l) st = act l (push st c) := rfl
theorem act_app (a b st : List Nat) : act (a ++ b) st = act b (act a st) := by unfold act; rw [List.foldl_append]
/-- no letter beside its back (read either way the same) -/
def Wd : List Nat → Prop
  | [] => True
  | [_] => True
  | x :: y :: r => y ≠ bk x ∧ Wd (y :: r)
theorem Wd.tail {x : Nat} {r : List Nat} (h : Wd (x :: r)) : Wd r := by
  cases r with
  | nil => trivial
  | cons y r => exact h.2
theorem Wd.cons {x : Nat} {r : List Nat} (h : Wd r) (hn : ∀ y s, r = y :: s → y ≠ bk x) : Wd (x :: r) := by
  cases r with
  | nil => trivial
  | cons y r => exact ⟨hn y r rfl, h⟩
theorem rd_push {st : List Nat} (h : Wd st) (c : Nat) : Wd (push st c) := by
  cases st with
  | nil => trivial
  | cons x r =>
    rw [push_cons]
    split
    · exact h.tail
    · rename_i hx
      exact ⟨hx, h⟩
theorem rd_act {st : List Nat} (h : Wd st) (l : List Nat) : Wd (act l st) := by
  induction l generalizing st with
  | nil => exact h
  | cons c l ih => exact ih (rd_push h c)
theorem push_push {st : List Nat} (h : Wd st) (c : Nat) : push (push st c) (bk c) = st := by
  cases st with
  | nil => show (if c = bk (bk c) then [] else _) = []; rw [bk_bk, if_pos rfl]
  | cons x r =>
    rw [push_cons]
    split
    · rename_i hx
      cases r with
      | nil => rw [hx]; rfl
      | cons y s =>
        rw [push_cons, bk_bk]
        have h1 := h.1
        rw [hx, bk_bk] at h1
        rw [if_neg h1, hx]
    · rw [push_cons, bk_bk, if_pos rfl]
/-- the word that a text comes to -/
def red (l : List Nat) : List Nat := (act l []).reverse
def inv (l : List Nat) : List Nat := (l.map bk).reverse
theorem inv_inv (l : List Nat) : inv (inv l) = l := by
  unfold inv
  rw [List.map_reverse, List.reverse_reverse, List.map_map]
  have : (bk ∘ bk) = id := by funext c; exact bk_bk c
  rw [this, List.map_id]
theorem inv_app (a b : List Nat) : inv (a ++ b) = inv b ++ inv a := by unfold inv; rw [List.map_append, List.reverse_append]
theorem inv_len (l : List Nat) : (inv l).length = l.length := by simp [inv]
theorem inv_cons (c : Nat) (l : List Nat) : inv (c :: l) = inv l ++ [bk c] := by simp [inv]
theorem act_inv {st : List Nat} (h : Wd st) (l : List Nat) : act (inv l) (act l st) = st := by
  induction l generalizing st with
  | nil => rfl
  | cons c l ih =>
    rw [inv_cons, act_cons, act_app, ih (rd_push h c)]
    exact push_push h c
theorem act_inv' {st : List Nat} (h : Wd st) (l : List Nat) : act l (act (inv l) st) = st := by
  have := act_inv h (inv l)
  rwa [inv_inv] at this
/-- what a text comes to acts as the text -/
theorem act_red {st : List Nat} (h : Wd st) (l : List Nat) : act (red l) st = act l st := by
  have key : ∀ r : List Nat, act (act r.reverse []).reverse st = act r.reverse st := by
    intro r
    induction r with
    | nil => rfl
    | cons c r ih =>
      rw [List.reverse_cons, act_app, act_app]
      show act (push (act r.reverse []) c).reverse st = push (act r.reverse st) c
      cases hs : act r.reverse [] with
      | nil =>
        rw [hs] at ih
        show act [c] st = _
        rw [← ih]; rfl
      | cons x s =>
        rw [hs, List.reverse_cons, act_app] at ih
        rw [push_cons]
        split
        · rename_i hx
          rw [← ih]
          show _ = push (push (act s.reverse st) x) c
          have := push_push (rd_act h s.reverse) x
          rw [hx, bk_bk] at this
          rw [hx]
          exact this.symm
        · rw [List.reverse_cons, List.reverse_cons, act_app, act_app, ih]; rfl
  have := key l.reverse
  rw [List.reverse_reverse] at this
  exact this
theorem rd_rev : ∀ {l : List Nat}, Wd l → Wd l.reverse := by
  have snoc : ∀ (l : List Nat) (x : Nat), Wd l → (∀ y s, l.reverse = y :: s → y ≠ bk x) → Wd (l ++ [x]) := by
    intro l
    induction l with
    | nil => intro x _ _; trivial
    | cons a l ih =>
      intro x h hn
      cases l with
      | nil =>
        refine ⟨fun e => ?_, trivial⟩
        exact hn a [] rfl (by rw [e, bk_bk])
      | cons b l =>
        refine ⟨h.1, ih x h.2 fun y s e => ?_⟩
        refine hn y (s ++ [a]) ?_
        rw [List.reverse_cons, e]; rfl
  intro l
  induction l with
  | nil => intro _; trivial
  | cons a l ih =>
    intro h
    rw [List.reverse_cons]
    refine snoc _ a (ih h.tail) fun y s e => ?_
    rw [List.reverse_reverse] at e
    subst e
    exact h.1
theorem rd_red (l : List Nat) : Wd (red l) := rd_rev (rd_act (by trivial) l)
theorem red_len (l : List Nat) : (red l).length ≤ l.length := by
  have : ∀ (l st : List Nat), (act l st).length ≤ st.length + l.length := by
    intro l
    induction l with
    | nil => intro st; simp [act_nil]
    | cons c l ih =>
      intro st
      rw [act_cons]
      have h1 := ih (push st c)
      have h2 : (push st c).length ≤ st.length + 1 := by
        cases st with
        | nil => simp [push]
        | cons x r => rw [push_cons]; split <;> simp <;> omega
      simp only [List.length_cons]
      omega
  have h := this l []
  simpa [red] using h
theorem red_mem {l : List Nat} {c : Nat} (h : c ∈ red l) : c ∈ l := by
  have : ∀ (l st : List Nat) c, c ∈ act l st → c ∈ st ∨ c ∈ l := by
    intro l
    induction l with
    | nil => intro st c h; exact .inl h
    | cons a l ih =>
      intro st c h
      rw [act_cons] at h
      rcases ih _ _ h with h | h
      · cases st with
        | nil =>
          have : c = a := by simpa [push] using h
          exact .inr (by rw [this]; simp)
        | cons x r =>
          rw [push_cons] at h
          split at h
          · exact .inl (List.mem_cons_of_mem _ h)
          · rcases List.mem_cons.mp h with h | h
            · exact .inr (by rw [h]; simp)
            · exact .inl h
      · exact .inr (List.mem_cons_of_mem _ h)
  have h' : c ∈ act l [] := by simpa [red] using h
  rcases this l [] c h' with h | h
  · cases h
  · exact h
/-- a word comes to itself -/
theorem red_of_rd {l : List Nat} (h : Wd l) : red l = l := by
  have : ∀ (l st : List Nat), Wd (l.reverse ++ st) → act l st = l.reverse ++ st := by
    intro l
    induction l with
    | nil => intro st _; rfl
    | cons c l ih =>
      intro st h
      rw [List.reverse_cons, List.append_assoc] at h
      have hp : push st c = c :: st := by
        have h2 : Wd (c :: st) := by
          have : ∀ (a b : List Nat), Wd (a ++ b) → Wd b := by
            intro a
            induction a with
            | nil => intro b h; exact h
            | cons x a ih => intro b h; exact ih b (Wd.tail h)
          exact this _ _ h
        cases st with
        | nil => rfl
        | cons x r => rw [push_cons, if_neg h2.1]
      have h3 : Wd (l.reverse ++ (c :: st)) := h
      rw [act_cons, hp, ih _ h3, List.reverse_cons, List.append_assoc]; rfl
  unfold red
  rw [this l [] (by rw [List.append_nil]; exact rd_rev h), List.append_nil, List.reverse_reverse]
theorem red_red (l : List Nat) : red (red l) = red l := red_of_rd (rd_red l)
theorem red_app (a b : List Nat) : red (a ++ b) = red (red a ++ red b) := by
  unfold red
  rw [act_app, act_app]
  have h1 : act (act a []).reverse [] = act a [] := act_red (st := []) trivial a
  have h2 : act (act b []).reverse (act a []) = act b (act a []) := act_red (rd_act (by trivial) a) b
  rw [h1, h2]
theorem rd_map_inv {l : List Nat} (h : Wd l) : Wd (inv l) := by
  have : ∀ l : List Nat, Wd l → Wd (l.map bk) := by
    intro l
    induction l with
    | nil => intro _; trivial
    | cons a l ih =>
      intro h
      cases l with
      | nil => trivial
      | cons b l =>
        refine ⟨fun e => h.1 ?_, ih h.2⟩
        rw [bk_bk] at e
        rw [← e, bk_bk]
  exact rd_rev (this l h)
theorem act_inv_red {st : List Nat} (h : Wd st) (l : List Nat) : act (inv (red l)) st = act (inv l) st := by
  have h1 : act l (act (inv l) st) = st := act_inv' h l
  have h2 := rd_act h (inv l)
  have h3 := act_inv h2 (red l)
  rw [act_red h2, h1] at h3
  exact h3
theorem red_inv (l : List Nat) : red (inv l) = inv (red l) := by
  have h : red (inv (red l)) = red (inv l) := by
    show (act (inv (red l)) []).reverse = (act (inv l) []).reverse
    rw [act_inv_red (st := []) trivial]
  rw [← h]
  exact red_of_rd (rd_map_inv (rd_red l))
theorem red_flat_inv (ls : List (List Nat)) : red ((ls.map inv).reverse.flatten) = inv (red ls.flatten) := by
  have : (ls.map inv).reverse.flatten = inv ls.flatten := by
    induction ls with
    | nil => rfl
    | cons a r ih => rw [List.map_cons, List.reverse_cons, List.flatten_append, ih, List.flatten_cons, List.flatten_cons, inv_app]; simp
  rw [this, red_inv]
end Fg

namespace Kv
open PySem PySem.Spec PyProof.Rows L2

abbrev HL := List (Addr × HO)
/-- the heap H holds the base B and the named objects L -/
structure Sat (B : Hp) (L : HL) (H : Hp) : Prop where
  ext : ∀ a o, B a = some o → H a = some o
  own : ∀ p ∈ L, H p.1 = some p.2
  nb : ∀ p ∈ L, B p.1 = none
  nd : (L.map (·.1)).Nodup
abbrev KQ := V → Hp → HL → Prop
abbrev KB := Bool → Hp → HL → Prop
abbrev KA := List V → Hp → HL → Prop
abbrev KN := L2.St → Hp → HL → Prop
def up (Q : KQ) : VK := fun v H => ∃ B L, Sat B L H ∧ Q v B L
def upB (Q : KB) : Bool → Hp → Prop := fun v H => ∃ B L, Sat B L H ∧ Q v B L
def upA (Q : KA) : List V → Hp → Prop := fun v H => ∃ B L, Sat B L H ∧ Q v B L
def upN (Q : KN) : L2.St → Hp → Prop := fun v H => ∃ B L, Sat B L H ∧ Q v B L
structure KD where
  nx : KN
  rt : KQ
  bk : KN := fun _ _ _ => False
  ct : KN := fun _ _ _ => False
def KD.dn (D : KD) : Ends := { nx := upN D.nx, rt := up D.rt, bk := upN D.bk, ct := upN D.ct }

section
variable (X : Cx)
def kE (e : Expr) (σ : L2.St) (B : Hp) (L : HL) (Q : KQ) : Prop :=
  ∃ te, PE X e te ∧ ∀ H, Sat B L H → te σ H (up Q)
def kT (e : Expr) (σ : L2.St) (B : Hp) (L : HL) (Q : KB) : Prop :=
  ∃ te, PT X e te ∧ ∀ H, Sat B L H → te σ H (upB Q)
def kW (e : Expr) (σ : L2.St) (B : Hp) (L : HL) (Q : KB) : Prop :=
  ∃ te, PW X e te ∧ ∀ H, Sat B L H → te σ H (upB Q)
def kA (es : List Expr) (σ : L2.St) (B : Hp) (L : HL) (Q : KA) : Prop :=
  ∃ te, PA X es te ∧ ∀ H, Sat B L H → te σ H (upA Q)
def kS (st : Stmt) (σ : L2.St) (B : Hp) (L : HL) (D : KD) : Prop :=
  ∃ t, PS X st t ∧ ∀ H, Sat B L H → t D.dn σ H
def kSs (st : List Stmt) (σ : L2.St) (B : Hp) (L : HL) (D : KD) : Prop :=
  ∃ t, PSs X st t ∧ ∀ H, Sat B L H → t D.dn σ H
def kG (tg : Expr) (v : V) (σ : L2.St) (B : Hp) (L : HL) (Q : KN) : Prop :=
  ∃ t, PG X tg t ∧ ∀ H, Sat B L H → t v σ H (upN Q)
def kGs (ts : List Expr) (vs : List V) (σ : L2.St) (B : Hp) (L : HL) (Q : KN) : Prop :=
  ∃ t, PGs X ts t ∧ ∀ H, Sat B L H → t vs σ H (upN Q)
/-- the canonical readings -/
def cE (e : Expr) : TE := fun σ H Q => ∃ B L Q', Sat B L H ∧ kE X e σ B L Q' ∧ ∀ v H', up Q' v H' → Q v H'
def cT (e : Expr) : TT := fun σ H Q => ∃ B L Q', Sat B L H ∧ kT X e σ B L Q' ∧ ∀ v H', upB Q' v H' → Q v H'
def cW (e : Expr) : TT := fun σ H Q => ∃ B L Q', Sat B L H ∧ kW X e σ B L Q' ∧ ∀ v H', upB Q' v H' → Q v H'
def cA (e : List Expr) : TA := fun σ H Q => ∃ B L Q', Sat B L H ∧ kA X e σ B L Q' ∧ ∀ v H', upA Q' v H' → Q v H'
def cS (st : Stmt) : TS := fun E σ H => ∃ B L D, Sat B L H ∧ kS X st σ B L D ∧ (∀ σ' H', upN D.nx σ' H' → E.nx σ' H') ∧ (∀ v H', up D.rt v H' → E.rt v H') ∧ (∀ σ' H', upN D.bk σ' H' → E.bk σ' H') ∧ (∀ σ' H', upN D.ct σ' H' → E.ct σ' H')
def cSs (st : List Stmt) : TS := fun E σ H => ∃ B L D, Sat B L H ∧ kSs X st σ B L D ∧ (∀ σ' H', upN D.nx σ' H' → E.nx σ' H') ∧ (∀ v H', up D.rt v H' → E.rt v H') ∧ (∀ σ' H', upN D.bk σ' H' → E.bk σ' H') ∧ (∀ σ' H', upN D.ct σ' H' → E.ct σ' H')
def cG (tg : Expr) : TG := fun v σ H Q => ∃ B L Q', Sat B L H ∧ kG X tg v σ B L Q' ∧ ∀ σ' H', upN Q' σ' H' → Q σ' H'
def cGs (tg : List Expr) : TGs := fun v σ H Q => ∃ B L Q', Sat B L H ∧ kGs X tg v σ B L Q' ∧ ∀ σ' H', upN Q' σ' H' → Q σ' H'
end
section
variable {X : Cx} {σ : L2.St} {B : Hp} {L : HL}
theorem pe_c {e : Expr} : PE X e (cE X e) := ⟨fun pins s σ H Q I ⟨B, L, Q', sat, ⟨te, h, q⟩, m⟩ =>
  thn (h.run pins s σ H _ I (q H sat)) fun _ _ ⟨v, H', I', r, z⟩ => ⟨v, H', I', r, m v H' z⟩⟩
theorem pt_c {e : Expr} : PT X e (cT X e) := ⟨fun pins s σ H Q I ⟨B, L, Q', sat, ⟨te, h, q⟩, m⟩ =>
  thn (h.run pins s σ H _ I (q H sat)) fun _ _ ⟨H', I', z⟩ => ⟨H', I', m _ H' z⟩⟩
theorem pw_c {e : Expr} : PW X e (cW X e) := ⟨fun wh pins s σ H Q I ⟨B, L, Q', sat, ⟨te, h, q⟩, m⟩ =>
  thn (h.run wh pins s σ H _ I (q H sat)) fun _ _ ⟨H', I', z⟩ => ⟨H', I', m _ H' z⟩⟩
theorem pa_c {e : List Expr} : PA X e (cA X e) := ⟨fun pos pins s σ H Q I ⟨B, L, Q', sat, ⟨te, h, q⟩, m⟩ =>
  thn (h.run pos pins s σ H _ I (q H sat)) fun _ _ ⟨v, H', I', r, z⟩ => ⟨v, H', I', r, m v H' z⟩⟩
theorem sp_mono {pins : List (Addr × Obj)} {E E' : Ends} (h1 : ∀ σ' H', E.nx σ' H' → E'.nx σ' H') (h2 : ∀ v H', E.rt v H' → E'.rt v H') (h3 : ∀ σ' H', E.bk σ' H' → E'.bk σ' H') (h4 : ∀ σ' H', E.ct σ' H' → E'.ct σ' H') {f : Flow} {s' : Shared} (h : SP X pins E f s') : SP X pins E' f s' := by
  cases f with
  | next => obtain ⟨σ', H', I, q⟩ := h; exact ⟨σ', H', I, h1 _ _ q⟩
  | brk => obtain ⟨σ', H', I, q⟩ := h; exact ⟨σ', H', I, h3 _ _ q⟩
  | cont => obtain ⟨σ', H', I, q⟩ := h; exact ⟨σ', H', I, h4 _ _ q⟩
  | ret u => obtain ⟨v, σ', H', I, r, q⟩ := h; exact ⟨v, σ', H', I, r, h2 _ _ q⟩
theorem ps_c {st : Stmt} : PS X st (cS X st) := ⟨fun pins s σ H E I ⟨B, L, D, sat, ⟨te, h, q⟩, m1, m2, m3, m4⟩ =>
  thn (h.run pins s σ H D.dn I (q H sat)) fun _ _ z => sp_mono m1 m2 m3 m4 z⟩
theorem pss_c {st : List Stmt} : PSs X st (cSs X st) := ⟨fun pins s σ H E I ⟨B, L, D, sat, ⟨te, h, q⟩, m1, m2, m3, m4⟩ =>
  thn (h.run pins s σ H D.dn I (q H sat)) fun _ _ z => sp_mono m1 m2 m3 m4 z⟩
theorem pg_c {tg : Expr} : PG X tg (cG X tg) := ⟨fun pins s σ H v u Q I r ⟨B, L, Q', sat, ⟨te, h, q⟩, m⟩ =>
  thn (h.run pins s σ H v u _ I r (q H sat)) fun _ _ ⟨σ', H', I', z⟩ => ⟨σ', H', I', m σ' H' z⟩⟩
theorem pgs_c {tg : List Expr} : PGs X tg (cGs X tg) := ⟨fun pins s σ H v u Q I r ⟨B, L, Q', sat, ⟨te, h, q⟩, m⟩ =>
  thn (h.run pins s σ H v u _ I r (q H sat)) fun _ _ ⟨σ', H', I', z⟩ => ⟨σ', H', I', m σ' H' z⟩⟩

/-- from a canonical reading's place to the judgement -/
theorem toE {e : Expr} {H : Hp} {Q' : KQ} {Q : VK} (sat : Sat B L H) (h : kE X e σ B L Q') (m : ∀ v H' B' L', Sat B' L' H' → Q' v B' L' → Q v H') : cE X e σ H Q :=
  ⟨B, L, Q', sat, h, fun v H' ⟨B', L', s, q⟩ => m v H' B' L' s q⟩
theorem toT {e : Expr} {H : Hp} {Q' : KB} {Q : Bool → Hp → Prop} (sat : Sat B L H) (h : kT X e σ B L Q') (m : ∀ v H' B' L', Sat B' L' H' → Q' v B' L' → Q v H') : cT X e σ H Q :=
  ⟨B, L, Q', sat, h, fun v H' ⟨B', L', s, q⟩ => m v H' B' L' s q⟩
theorem toW {e : Expr} {H : Hp} {Q' : KB} {Q : Bool → Hp → Prop} (sat : Sat B L H) (h : kW X e σ B L Q') (m : ∀ v H' B' L', Sat B' L' H' → Q' v B' L' → Q v H') : cW X e σ H Q :=
  ⟨B, L, Q', sat, h, fun v H' ⟨B', L', s, q⟩ => m v H' B' L' s q⟩
theorem toA {e : List Expr} {H : Hp} {Q' : KA} {Q : List V → Hp → Prop} (sat : Sat B L H) (h : kA X e σ B L Q') (m : ∀ v H' B' L', Sat B' L' H' → Q' v B' L' → Q v H') : cA X e σ H Q :=
  ⟨B, L, Q', sat, h, fun v H' ⟨B', L', s, q⟩ => m v H' B' L' s q⟩
theorem toG {tg : Expr} {v : V} {H : Hp} {Q' : KN} {Q : L2.St → Hp → Prop} (sat : Sat B L H) (h : kG X tg v σ B L Q') (m : ∀ σ' H' B' L', Sat B' L' H' → Q' σ' B' L' → Q σ' H') : cG X tg v σ H Q :=
  ⟨B, L, Q', sat, h, fun v H' ⟨B', L', s, q⟩ => m v H' B' L' s q⟩
theorem toGs {tg : List Expr} {v : List V} {H : Hp} {Q' : KN} {Q : L2.St → Hp → Prop} (sat : Sat B L H) (h : kGs X tg v σ B L Q') (m : ∀ σ' H' B' L', Sat B' L' H' → Q' σ' B' L' → Q σ' H') : cGs X tg v σ H Q :=
  ⟨B, L, Q', sat, h, fun v H' ⟨B', L', s, q⟩ => m v H' B' L' s q⟩
theorem toS {st : Stmt} {H : Hp} {D : KD} {E : Ends} (sat : Sat B L H) (h : kS X st σ B L D) (m1 : ∀ σ' H' B' L', Sat B' L' H' → D.nx σ' B' L' → E.nx σ' H') (m2 : ∀ v H', up D.rt v H' → E.rt v H') (m3 : ∀ σ' H', upN D.bk σ' H' → E.bk σ' H') (m4 : ∀ σ' H', upN D.ct σ' H' → E.ct σ' H') : cS X st E σ H :=
  ⟨B, L, D, sat, h, fun v H' ⟨B', L', s, q⟩ => m1 v H' B' L' s q, m2, m3, m4⟩
theorem toSs {st : List Stmt} {H : Hp} {D : KD} {E : Ends} (sat : Sat B L H) (h : kSs X st σ B L D) (m1 : ∀ σ' H', upN D.nx σ' H' → E.nx σ' H') (m2 : ∀ v H', up D.rt v H' → E.rt v H') (m3 : ∀ σ' H', upN D.bk σ' H' → E.bk σ' H') (m4 : ∀ σ' H', upN D.ct σ' H' → E.ct σ' H') : cSs X st E σ H :=
  ⟨B, L, D, sat, h, m1, m2, m3, m4⟩
theorem toSs0 {st : List Stmt} {H : Hp} {D : KD} (sat : Sat B L H) (h : kSs X st σ B L D) : cSs X st D.dn σ H :=
  ⟨B, L, D, sat, h, fun _ _ q => q, fun _ _ q => q, fun _ _ q => q, fun _ _ q => q⟩

/-! ### blocks, simple statements -/
variable {D : KD} {st : Stmt} {rest : List Stmt} {pos : Pos} {e a b c : Expr} {Q : KQ}
theorem k_nil (q : D.nx σ B L) : kSs X [] σ B L D := ⟨_, pss_nil, fun H sat => ⟨B, L, sat, q⟩⟩
theorem k_cons (h : kS X st σ B L { D with nx := fun σ' B' L' => kSs X rest σ' B' L' D }) : kSs X (st :: rest) σ B L D :=
  ⟨_, pss_cons ps_c pss_c, fun H sat => toS sat h (fun _ _ _ _ s q => toSs0 s q) (fun _ _ q => q) (fun _ _ q => q) (fun _ _ q => q)⟩
theorem k_one (h : kS X st σ B L D) : kSs X [st] σ B L D := ⟨_, pss_one ps_c, fun H sat => toS sat h (fun _ _ _ _ s q => ⟨_, _, s, q⟩) (fun _ _ q => q) (fun _ _ q => q) (fun _ _ q => q)⟩
theorem k_ret (h : kE X e σ B L D.rt) : kS X (.Return (some e) pos) σ B L D := ⟨_, ps_ret pe_c, fun H sat => toE sat h fun _ _ _ _ s q => ⟨_, _, s, q⟩⟩
theorem k_expr (h : kE X e σ B L fun _ B' L' => D.nx σ B' L') (hs : swapsWith e none pos.line X.env = pure false := by rfl) : kS X (.Expr e pos) σ B L D :=
  ⟨_, ps_expr pe_c hs, fun H sat => toE sat h fun _ _ _ _ s q => ⟨_, _, s, q⟩⟩
theorem k_pass (h : D.nx σ B L) : kS X (.Pass pos) σ B L D := ⟨_, ps_pass, fun H sat => ⟨_, _, sat, h⟩⟩
theorem k_break (h : D.bk σ B L) : kS X (.Break pos) σ B L D := ⟨_, ps_break, fun H sat => ⟨_, _, sat, h⟩⟩
theorem k_continue (h : D.ct σ B L) : kS X (.Continue pos) σ B L D := ⟨_, ps_continue, fun H sat => ⟨_, _, sat, h⟩⟩
theorem k_if {t u : List Stmt} (h : kT X c σ B L fun k B' L' => (k = true → kSs X t σ B' L' D) ∧ (k = false → kSs X u σ B' L' D)) : kS X (.If c t u pos) σ B L D :=
  ⟨_, ps_if pt_c pss_c pss_c, fun H sat => toT sat h fun k H' B' L' s q => by
    cases k with
    | true => exact toSs0 s (q.1 rfl)
    | false => exact toSs0 s (q.2 rfl)⟩
theorem k_set (i : Nat) {x : Str} {pos' : Pos} (h : kE X e σ B L fun v B' L' => D.nx (σ.set i (some v)) B' L') (hN : X.N.Nodup) (hi : X.N[i]? = some x := by rfl) (hx : Loc X.env.scope x := by first | exact Or.inl rfl | exact Or.inr rfl) (hs : swapsWith e (some (.Name x pos')) pos.line X.env = pure false := by rfl)
    (hf : X.fn x = true ∨ X.env.scope.names.lookup x = some .local := by first | exact .inl rfl | exact .inr rfl | assumption) : kS X (.Assign [.Name x pos'] e pos) σ B L D :=
  ⟨_, ps_set hN hi hx pe_c hs hf, fun H sat => toE sat h fun _ _ _ _ s q => ⟨_, _, s, q⟩⟩
theorem k_asg {tg : Expr} (h : kE X e σ B L fun v B' L' => kG X tg v σ B' L' D.nx) (hs : swapsWithSole [tg] e pos.line X.env = pure false := by rfl) (hw : swappedStores [tg] e X.env = pure none := by rfl)
    (h1 : (assignEach [tg] X.env).map (·.2) = [assign tg X.env] := by rfl) : kS X (.Assign [tg] e pos) σ B L D :=
  ⟨_, ps_asg pe_c pg_c hs hw h1, fun H sat => toE sat h fun _ _ _ _ s q => toG s q fun _ _ _ _ s q => ⟨_, _, s, q⟩⟩
theorem g_name (i : Nat) {x : Str} {v : V} {Q : KN} (q : Q (σ.set i (some v)) B L) (hN : X.N.Nodup) (hi : X.N[i]? = some x := by rfl) (hx : Loc X.env.scope x := by first | exact Or.inl rfl | exact Or.inr rfl)
    (hf : X.fn x = true ∨ X.env.scope.names.lookup x = some .local := by first | exact .inl rfl | exact .inr rfl | assumption) : kG X (.Name x pos) v σ B L Q :=
  ⟨_, pg_name hN hi hx hf, fun H sat => ⟨_, _, sat, q⟩⟩
theorem gs_nil {Q : KN} (q : Q σ B L) : kGs X [] [] σ B L Q := ⟨_, pgs_nil, fun H sat => ⟨rfl, _, _, sat, q⟩⟩
theorem gs_cons {t : Expr} {ts : List Expr} {v : V} {vs : List V} {Q : KN} (h : kG X t v σ B L fun σ' B' L' => kGs X ts vs σ' B' L' Q) (hs : (assignEach (t :: ts) X.env).map (·.2) = assign t X.env :: (assignEach ts X.env).map (·.2) := by rfl) : kGs X (t :: ts) (v :: vs) σ B L Q :=
  ⟨_, pgs_cons pg_c pgs_c hs, fun H sat => ⟨_, _, rfl, toG sat h fun _ _ _ _ s q => toGs s q fun _ _ _ _ s q => ⟨_, _, s, q⟩⟩⟩

/-! ### names and constants -/
theorem k_n (i : Nat) {x : Str} {v : V} (q : Q v B L) (hi : X.N[i]? = some x := by rfl) (hs : σ[i]? = some (some v) := by rfl) (hv : Vis X.env.scope x := by first | exact Or.inl rfl | exact Or.inr (Or.inl rfl) | exact Or.inr (Or.inr rfl)) (hd : (x == ("__debug__" : Str)) = false := by decide)
    (hcd : (x == ("__classdict__" : Str)) = false := by decide) : kE X (.Name x pos) σ B L Q := ⟨_, pe_var hi hv hd hcd, fun H sat => ⟨v, hs, _, _, sat, q⟩⟩
theorem k_int {i j} (q : Q (.int i) B L) : kE X (.Constant (.int i) j pos) σ B L Q := ⟨_, pe_int, fun H sat => ⟨_, _, sat, q⟩⟩
theorem k_bl {i j} (q : Q (.bl i) B L) : kE X (.Constant (.bool i) j pos) σ B L Q := ⟨_, pe_bl, fun H sat => ⟨_, _, sat, q⟩⟩
theorem k_non {j} (q : Q .non B L) : kE X (.Constant .none j pos) σ B L Q := ⟨_, pe_non, fun H sat => ⟨_, _, sat, q⟩⟩
theorem k_str {i j} (q : Q (.str i) B L) : kE X (.Constant (.str i) j pos) σ B L Q := ⟨_, pe_str, fun H sat => ⟨_, _, sat, q⟩⟩
/-- a module's name -/
theorem k_g {x : Str} {v : V} {u : Value} (hm : X.mg x = some u) (r : RelV v u) (q : Q v B L) (hg : Gl X x := by rfl) (hd : (x == ("__debug__" : Str)) = false := by decide) : kE X (.Name x pos) σ B L Q := ⟨_, pe_glob hg hm r hd, fun H sat => ⟨_, _, sat, q⟩⟩

/-! ### operators by values -/
def kO (X : Cx) (f : Value → Value → Sem Value) (x y : V) (B : Hp) (L : HL) (Q : KQ) : Prop := ∃ r, OpR X f r ∧ ∀ H, Sat B L H → r x y H (up Q)
def cO (X : Cx) (f : Value → Value → Sem Value) : R2 := fun x y H Q => ∃ B L Q', Sat B L H ∧ kO X f x y B L Q' ∧ ∀ v H', up Q' v H' → Q v H'
theorem or_c {f : Value → Value → Sem Value} : OpR X f (cO X f) := fun pins s σ H x y v u Q I rx ry ⟨B, L, Q', sat, ⟨r, h, q⟩, m⟩ =>
  thn (h pins s σ H x y v u _ I rx ry (q H sat)) fun _ _ ⟨v, H', I', r, z⟩ => ⟨v, H', I', r, m v H' z⟩
theorem toO {f : Value → Value → Sem Value} {x y : V} {H : Hp} {Q' : KQ} {Q : VK} (sat : Sat B L H) (h : kO X f x y B L Q') (m : ∀ v H' B' L', Sat B' L' H' → Q' v B' L' → Q v H') : cO X f x y H Q :=
  ⟨B, L, Q', sat, h, fun v H' ⟨B', L', s, q⟩ => m v H' B' L' s q⟩
theorem k_bin {op : Operator} (h : kE X a σ B L fun x B1 L1 => kE X b σ B1 L1 fun y B2 L2 => kO X (binaryOp op) x y B2 L2 Q) : kE X (.BinOp a op b pos) σ B L Q :=
  ⟨_, pe_op or_c pe_c pe_c, fun H sat => toE sat h fun _ _ _ _ s q => toE s q fun _ _ _ _ s q => toO s q fun _ _ _ _ s q => ⟨_, _, s, q⟩⟩
theorem k_cmp {op : CmpOp} (h : kE X a σ B L fun x B1 L1 => kE X b σ B1 L1 fun y B2 L2 => kO X (compareOp op) x y B2 L2 Q) (hm : behindInMarks op b = false := by first | rfl | exact nomark _) : kE X (.Compare a [op] [b] pos) σ B L Q :=
  ⟨_, pe_cmpR or_c pe_c pe_c hm, fun H sat => toE sat h fun _ _ _ _ s q => toE s q fun _ _ _ _ s q => toO s q fun _ _ _ _ s q => ⟨_, _, s, q⟩⟩
theorem t_cmp {op : CmpOp} {Q : KB} (h : kE X a σ B L fun x B1 L1 => kE X b σ B1 L1 fun y B2 L2 => kO X (compareOp op) x y B2 L2 fun z B3 L3 => ∃ k, z = .bl k ∧ Q k B3 L3) (hm : behindInMarks op b = false := by first | rfl | exact nomark _) : kT X (.Compare a [op] [b] pos) σ B L Q :=
  ⟨_, pt_cmpR or_c pe_c pe_c hm, fun H sat => toE sat h fun _ _ _ _ s q => toE s q fun _ _ _ _ s q => toO s q fun _ _ _ _ s ⟨k, e, q⟩ => ⟨k, e, _, _, s, q⟩⟩
/-- a test whose value is True or False -/
theorem t_val {Q : KB} (h : kE X e σ B L fun x B1 L1 => ∃ k, x = .bl k ∧ Q k B1 L1) (he : ∀ whole, isTrue e X.env whole = (do let v ← whole; standAt e.pos; holding [v] (truthy v)) := by intro _; rfl) : kT X e σ B L Q :=
  ⟨_, pt_val pe_c he, fun H sat => toE sat h fun _ _ _ _ s ⟨k, e, q⟩ => ⟨k, e, _, _, s, q⟩⟩
theorem t_not {Q : KB} (h : kT X a σ B L fun k B1 L1 => Q (!k) B1 L1) : kT X (.UnaryOp .Not a pos) σ B L Q := ⟨_, pt_not pt_c, fun H sat => toT sat h fun _ _ _ _ s q => ⟨_, _, s, q⟩⟩
theorem t_w {Q : KB} (h : kW X e σ B L Q) : kT X e σ B L Q := by
  obtain ⟨t, p, q⟩ := h
  exact ⟨t, p.pt, q⟩
theorem w_and {Q : KB} {es : List Expr} (h : kT X a σ B L fun k B1 L1 => (k = true → kW X (.BoolOp .And (b :: es) pos) σ B1 L1 Q) ∧ (k = false → Q false B1 L1)) : kW X (.BoolOp .And (a :: b :: es) pos) σ B L Q :=
  ⟨_, pw_and pt_c pw_c, fun H sat => toT sat h fun k H' _ _ s q => by
    cases k with
    | true => exact iteT (toW s (q.1 rfl) fun _ _ _ _ s q => ⟨_, _, s, q⟩)
    | false => exact iteF ⟨_, _, s, q.2 rfl⟩⟩
theorem w_and1 {Q : KB} (h : kT X a σ B L Q) : kW X (.BoolOp .And [a] pos) σ B L Q := ⟨_, pw_and1 pt_c, fun H sat => toT sat h fun _ _ _ _ s q => ⟨_, _, s, q⟩⟩
theorem w_or {Q : KB} {es : List Expr} (h : kT X a σ B L fun k B1 L1 => (k = false → kW X (.BoolOp .Or (b :: es) pos) σ B1 L1 Q) ∧ (k = true → Q true B1 L1)) : kW X (.BoolOp .Or (a :: b :: es) pos) σ B L Q :=
  ⟨_, pw_or pt_c pw_c, fun H sat => toT sat h fun k H' _ _ s q => by
    cases k with
    | false => exact iteF (toW s (q.1 rfl) fun _ _ _ _ s q => ⟨_, _, s, q⟩)
    | true => exact iteT ⟨_, _, s, q.2 rfl⟩⟩
theorem w_or1 {Q : KB} (h : kT X a σ B L Q) : kW X (.BoolOp .Or [a] pos) σ B L Q := ⟨_, pw_or1 pt_c, fun H sat => toT sat h fun _ _ _ _ s q => ⟨_, _, s, q⟩⟩
theorem k_and {es : List Expr} (h : kE X a σ B L fun x B1 L1 => ∃ k, x = .bl k ∧ (k = true → kE X (.BoolOp .And (b :: es) pos) σ B1 L1 Q) ∧ (k = false → Q (.bl false) B1 L1)) : kE X (.BoolOp .And (a :: b :: es) pos) σ B L Q :=
  ⟨_, pe_and pe_c pe_c, fun H sat => toE sat h fun x H' _ _ s ⟨k, e, q1, q2⟩ => ⟨k, e, by
    cases k with
    | true => exact iteT (toE s (q1 rfl) fun _ _ _ _ s q => ⟨_, _, s, q⟩)
    | false => exact iteF ⟨_, _, s, q2 rfl⟩⟩⟩
theorem k_or {es : List Expr} (h : kE X a σ B L fun x B1 L1 => ∃ k, x = .bl k ∧ (k = false → kE X (.BoolOp .Or (b :: es) pos) σ B1 L1 Q) ∧ (k = true → Q (.bl true) B1 L1)) : kE X (.BoolOp .Or (a :: b :: es) pos) σ B L Q :=
  ⟨_, pe_or pe_c pe_c, fun H sat => toE sat h fun x H' _ _ s ⟨k, e, q1, q2⟩ => ⟨k, e, by
    cases k with
    | false => exact iteF (toE s (q1 rfl) fun _ _ _ _ s q => ⟨_, _, s, q⟩)
    | true => exact iteT ⟨_, _, s, q2 rfl⟩⟩⟩
theorem k_and1 (h : kE X a σ B L Q) : kE X (.BoolOp .And [a] pos) σ B L Q := ⟨_, pe_one pe_c, fun H sat => toE sat h fun _ _ _ _ s q => ⟨_, _, s, q⟩⟩
theorem k_or1 (h : kE X a σ B L Q) : kE X (.BoolOp .Or [a] pos) σ B L Q := ⟨_, pe_one pe_c, fun H sat => toE sat h fun _ _ _ _ s q => ⟨_, _, s, q⟩⟩
theorem k_not (h : kE X a σ B L fun x B1 L1 => ∃ k, x = .bl k ∧ Q (.bl (!k)) B1 L1) : kE X (.UnaryOp .Not a pos) σ B L Q := ⟨_, pe_not pe_c, fun H sat => toE sat h fun _ _ _ _ s ⟨k, e, q⟩ => ⟨k, e, _, _, s, q⟩⟩
theorem k_ife (h : kT X c σ B L fun k B1 L1 => (k = true → kE X a σ B1 L1 Q) ∧ (k = false → kE X b σ B1 L1 Q)) : kE X (.IfExp c a b pos) σ B L Q :=
  ⟨_, pe_ifExp pt_c pe_c pe_c, fun H sat => toT sat h fun k H' _ _ s q => by
    cases k with
    | true => exact iteT (toE s (q.1 rfl) fun _ _ _ _ s q => ⟨_, _, s, q⟩)
    | false => exact iteF (toE s (q.2 rfl) fun _ _ _ _ s q => ⟨_, _, s, q⟩)⟩
end
end Kv

namespace Kv
open PySem PySem.Spec PyProof.Rows L2

/-- a text by its codes -/
abbrev sOf (l : List Nat) : Str := ⟨l.toArray⟩
theorem sOf_len (l : List Nat) : (sOf l).length = l.length := by simp [Str.length]
theorem sOf_inj {a b : List Nat} : V.str (sOf a) = V.str (sOf b) ↔ a = b := by simp [sOf]
theorem sOf_app (a b : List Nat) : sOf a ++ sOf b = sOf (a ++ b) := by
  show Str.append _ _ = _
  simp [Str.append, sOf]
theorem sOf_size (l : List Nat) : (sOf l).cps.size = l.length := by simp [sOf]
theorem small {n : Nat} (h : n ≤ 16777216) : n ≤ sizeLine := by rw [sizeLine_eq]; exact h
theorem small' {n : Nat} (h : n < 16777216) : n < sizeLine := by rw [sizeLine_eq]; exact h

section
variable {X : Cx} {σ : L2.St} {B : Hp} {L : HL} {Q : KQ} {D : KD} {pos p2 : Pos} {e a b c : Expr} {es : List Expr}
theorem Sat.keep {H H' : Hp} (s : Sat B L H) (e : ∀ b o, H b = some o → H' b = some o) : Sat B L H' := ⟨fun a o h => e a o (s.ext a o h), fun p hp => e _ _ (s.own p hp), s.nb, s.nd⟩
/-- behind a call that keeps all -/
theorem Sat.upq {H H' : Hp} {v : V} (s : Sat B L H) (e : ∀ b o, H b = some o → H' b = some o) (q : Q v B L) : up Q v H' := ⟨B, L, s.keep e, q⟩
theorem Sat.free {H : Hp} {p : Addr} (s : Sat B L H) (h : H p = none) : B p = none := by
  cases e : B p with
  | none => rfl
  | some o => rw [s.ext p o e] at h; cases h
theorem Sat.notin {H : Hp} {p : Addr} (s : Sat B L H) (h : H p = none) : p ∉ L.map (·.1) := fun hm => by
  obtain ⟨q, hq, e⟩ := List.mem_map.mp hm
  have := s.own q hq
  rw [e, h] at this
  cases this
/-- a new object -/
theorem Sat.new {H : Hp} {p : Addr} {o : HO} (s : Sat B L H) (h : H p = none) : Sat B ((p, o) :: L) (upd H p o) := by
  refine ⟨fun a u e => ?_, fun q hq => ?_, fun q hq => ?_, ?_⟩
  · rw [upd_ne (ne_of_none (s.ext a u e) h)]; exact s.ext a u e
  · rcases List.mem_cons.mp hq with e | hq
    · rw [e]; exact upd_same
    · rw [upd_ne (ne_of_none (s.own q hq) h)]; exact s.own q hq
  · rcases List.mem_cons.mp hq with e | hq
    · rw [e]; exact s.free h
    · exact s.nb q hq
  · exact List.nodup_cons.mpr ⟨s.notin h, s.nd⟩
/-- the same, the rest of the heap grown as well -/
theorem Sat.new' {H H' : Hp} {p : Addr} {o : HO} (s : Sat B L H) (h : H p = none) (e : ∀ b o, H b = some o → H' b = some o) (h' : H' p = some o) : Sat B ((p, o) :: L) H' :=
  ⟨fun a u q => e a u (s.ext a u q), fun q hq => by
    rcases List.mem_cons.mp hq with z | hq
    · rw [z]; exact h'
    · exact e _ _ (s.own q hq), fun q hq => by
    rcases List.mem_cons.mp hq with z | hq
    · rw [z]; exact s.free h
    · exact s.nb q hq, List.nodup_cons.mpr ⟨s.notin h, s.nd⟩⟩
/-- a store to an object of ours -/
theorem Sat.set {H : Hp} {p : Addr} {o o' : HO} {L1 L2 : HL} (s : Sat B (L1 ++ (p, o) :: L2) H) : Sat B (L1 ++ (p, o') :: L2) (upd H p o') := by
  have nd := s.nd
  rw [List.map_append, List.map_cons] at nd
  have hd : ∀ q ∈ L1 ++ L2, q.1 ≠ p := by
    intro q hq e
    have h1 := List.nodup_append.mp nd
    rcases List.mem_append.mp hq with h | h
    · exact h1.2.2 q.1 (List.mem_map.mpr ⟨q, h, rfl⟩) p (by simp) e
    · exact (List.nodup_cons.mp h1.2.1).1 (e ▸ List.mem_map.mpr ⟨q, h, rfl⟩)
  refine ⟨fun a u e => ?_, fun q hq => ?_, fun q hq => ?_, by rw [List.map_append, List.map_cons]; exact nd⟩
  · have hp := s.nb (p, o) (by simp)
    rw [upd_ne (fun z => by rw [z, hp] at e; cases e)]; exact s.ext a u e
  · rcases List.mem_append.mp hq with h | h
    · rw [upd_ne (hd q (List.mem_append_left _ h))]; exact s.own q (List.mem_append_left _ h)
    · rcases List.mem_cons.mp h with z | h
      · rw [z]; exact upd_same
      · rw [upd_ne (hd q (List.mem_append_right _ h))]; exact s.own q (List.mem_append_right _ (List.mem_cons_of_mem _ h))
  · rcases List.mem_append.mp hq with h | h
    · exact s.nb q (List.mem_append_left _ h)
    · rcases List.mem_cons.mp h with z | h
      · rw [z]; exact s.nb (p, o) (by simp)
      · exact s.nb q (List.mem_append_right _ (List.mem_cons_of_mem _ h))
/-- forget an object of ours -/
theorem Sat.drop {H : Hp} {p : Addr × HO} (s : Sat B (p :: L) H) : Sat B L H := ⟨s.ext, fun q hq => s.own q (List.mem_cons_of_mem _ hq), fun q hq => s.nb q (List.mem_cons_of_mem _ hq), (List.nodup_cons.mp s.nd).2⟩
theorem Sat.whole {H : Hp} : Sat H [] H := ⟨fun _ _ h => h, fun _ h => (by cases h), fun _ h => (by cases h), List.nodup_nil⟩
/-- the whole heap is the base -/
theorem Sat.base {H : Hp} (s : Sat B L H) : ∃ B', (∀ a o, B a = some o → B' a = some o) ∧ (∀ p ∈ L, B' p.1 = some p.2) ∧ Sat B' [] H := ⟨H, s.ext, s.own, Sat.whole⟩

/-- a list, a tuple that is read: of the base, or ours -/
def Ls (K : PySem.W.Frag) (B : Hp) (L : HL) (a : Addr) (xs : List V) : Prop := SqL K B a xs ∨ (a, HO.lst xs) ∈ L
def Tp (K : PySem.W.Frag) (B : Hp) (L : HL) (a : Addr) (xs : List V) : Prop := SqT K B a xs ∨ (a, HO.tup xs) ∈ L
theorem ext_l {K : PySem.W.Frag} {H H' : Hp} {a : Addr} {xs : List V} (e : ∀ b o, H b = some o → H' b = some o) (h : SqL K H a xs) : SqL K H' a xs := by
  rcases h with (h | ⟨o, h⟩) | h
  · exact .inl (.inl (e _ _ h))
  · exact .inl (.inr ⟨o, e _ _ h⟩)
  · exact .inr h
theorem ext_t {K : PySem.W.Frag} {H H' : Hp} {a : Addr} {xs : List V} (e : ∀ b o, H b = some o → H' b = some o) (h : SqT K H a xs) : SqT K H' a xs := by
  rcases h with (h | ⟨o, h⟩) | h
  · exact .inl (.inl (e _ _ h))
  · exact .inl (.inr ⟨o, e _ _ h⟩)
  · exact .inr h
theorem Ls.at {K : PySem.W.Frag} {H : Hp} {p : Addr} {xs : List V} (h : Ls K B L p xs) (s : Sat B L H) : SqL K H p xs := by
  rcases h with h | h
  · exact ext_l s.ext h
  · exact .inl (.inl (s.own _ h))
theorem Tp.at {K : PySem.W.Frag} {H : Hp} {p : Addr} {xs : List V} (h : Tp K B L p xs) (s : Sat B L H) : SqT K H p xs := by
  rcases h with h | h
  · exact ext_t s.ext h
  · exact .inl (.inl (s.own _ h))

/-! ### values' operators -/
theorem o_of {f : Value → Value → Sem Value} {x y : V} {r : R2} (h : OpR X f r) (q : ∀ H, Sat B L H → r x y H (up Q)) : kO X f x y B L Q := ⟨r, h, q⟩
theorem o_add {i j : Int} (q : Q (.int (i + j)) B L) : kO X (binaryOp .Add) (.int i) (.int j) B L Q := ⟨_, op_add, fun H s => ⟨i, j, rfl, rfl, _, _, s, q⟩⟩
theorem o_sub {i j : Int} (q : Q (.int (i - j)) B L) : kO X (binaryOp .Sub) (.int i) (.int j) B L Q := ⟨_, op_sub, fun H s => ⟨i, j, rfl, rfl, _, _, s, q⟩⟩
theorem o_mul {i j : Int} (q : Q (.int (i * j)) B L) (h : CMul i j) : kO X (binaryOp .Mult) (.int i) (.int j) B L Q := ⟨_, op_mul, fun H s => ⟨i, j, rfl, rfl, h, _, _, s, q⟩⟩
theorem o_mod {i j : Int} (q : Q (.int (i % j)) B L) (h : 0 < j) : kO X (binaryOp .Mod) (.int i) (.int j) B L Q := ⟨_, op_mod, fun H s => ⟨i, j, rfl, rfl, h, _, _, s, q⟩⟩
theorem o_fdiv {i j : Int} (q : Q (.int (i / j)) B L) (h : 0 < j ∧ j < 1073741824) : kO X (binaryOp .FloorDiv) (.int i) (.int j) B L Q := ⟨_, op_fdiv, fun H s => ⟨i, j, rfl, rfl, h, _, _, s, q⟩⟩
theorem o_pow {i j : Int} (q : Q (.int (i ^ j.toNat)) B L) (h : CPow i j) : kO X (binaryOp .Pow) (.int i) (.int j) B L Q := ⟨_, op_pow, fun H s => ⟨i, j, rfl, rfl, h, _, _, s, q⟩⟩
theorem o_adds {i j : List Nat} (q : Q (.str (sOf (i ++ j))) B L) (h : i.length + j.length ≤ 16777216) : kO X (binaryOp .Add) (.str (sOf i)) (.str (sOf j)) B L Q :=
  ⟨_, op_add_str, fun H s => ⟨_, _, rfl, rfl, by rw [sOf_len, sOf_len]; exact small h, by rw [sOf_app]; exact ⟨_, _, s, q⟩⟩⟩
theorem o_lt {i j : Int} (q : Q (.bl (decide (i < j))) B L) : kO X (compareOp .Lt) (.int i) (.int j) B L Q := ⟨_, op_lt, fun H s => ⟨i, j, rfl, rfl, _, _, s, q⟩⟩
theorem o_le {i j : Int} (q : Q (.bl (decide (i ≤ j))) B L) : kO X (compareOp .LtE) (.int i) (.int j) B L Q := ⟨_, op_le, fun H s => ⟨i, j, rfl, rfl, _, _, s, q⟩⟩
theorem o_gt {i j : Int} (q : Q (.bl (decide (j < i))) B L) : kO X (compareOp .Gt) (.int i) (.int j) B L Q := ⟨_, op_gt, fun H s => ⟨i, j, rfl, rfl, _, _, s, q⟩⟩
theorem o_ge {i j : Int} (q : Q (.bl (decide (j ≤ i))) B L) : kO X (compareOp .GtE) (.int i) (.int j) B L Q := ⟨_, op_ge, fun H s => ⟨i, j, rfl, rfl, _, _, s, q⟩⟩
theorem o_eqi {i j : Int} (q : Q (.bl (decide (i = j))) B L) : kO X (compareOp .Eq) (.int i) (.int j) B L Q := ⟨_, op_eq, fun H s => ⟨rfl, _, _, s, by
  have e : decide (V.int i = V.int j) = decide (i = j) := by simp
  rw [e]; exact q⟩⟩
theorem o_nei {i j : Int} (q : Q (.bl (!decide (i = j))) B L) : kO X (compareOp .NotEq) (.int i) (.int j) B L Q := ⟨_, op_ne, fun H s => ⟨rfl, _, _, s, by
  have e : decide (V.int i = V.int j) = decide (i = j) := by simp
  rw [e]; exact q⟩⟩
theorem o_eqs {i j : List Nat} (q : Q (.bl (decide (i = j))) B L) : kO X (compareOp .Eq) (.str (sOf i)) (.str (sOf j)) B L Q := ⟨_, op_eq, fun H s => ⟨rfl, _, _, s, by
  have e : decide (V.str (sOf i) = V.str (sOf j)) = decide (i = j) := by simp
  rw [e]; exact q⟩⟩
theorem o_nes {i j : List Nat} (q : Q (.bl (!decide (i = j))) B L) : kO X (compareOp .NotEq) (.str (sOf i)) (.str (sOf j)) B L Q := ⟨_, op_ne, fun H s => ⟨rfl, _, _, s, by
  have e : decide (V.str (sOf i) = V.str (sOf j)) = decide (i = j) := by simp
  rw [e]; exact q⟩⟩
theorem o_eqb {i j : Bool} (q : Q (.bl (decide (i = j))) B L) : kO X (compareOp .Eq) (.bl i) (.bl j) B L Q := ⟨_, op_eq, fun H s => ⟨rfl, _, _, s, by
  have e : decide (V.bl i = V.bl j) = decide (i = j) := by simp
  rw [e]; exact q⟩⟩
theorem o_neb {i j : Bool} (q : Q (.bl (!decide (i = j))) B L) : kO X (compareOp .NotEq) (.bl i) (.bl j) B L Q := ⟨_, op_ne, fun H s => ⟨rfl, _, _, s, by
  have e : decide (V.bl i = V.bl j) = decide (i = j) := by simp
  rw [e]; exact q⟩⟩
/-- one sign in a text -/
theorem o_ins {i : Nat} {l : List Nat} (q : Q (.bl (decide (i ∈ l))) B L) : kO X (compareOp .In) (.str (sOf [i])) (.str (sOf l)) B L Q := ⟨_, op_in_sign, fun H s => ⟨i, _, rfl, rfl, _, _, s, q⟩⟩
theorem o_nins {i : Nat} {l : List Nat} (q : Q (.bl (!decide (i ∈ l))) B L) : kO X (compareOp .NotIn) (.str (sOf [i])) (.str (sOf l)) B L Q := ⟨_, op_notIn_sign, fun H s => ⟨i, _, rfl, rfl, _, _, s, q⟩⟩
theorem o_isN {x : V} (q : Q (.bl (decide (x = .non))) B L) : kO X (compareOp .Is) x .non B L Q := ⟨_, op_isN, fun H s => ⟨rfl, _, _, s, q⟩⟩
theorem o_notN {x : V} (q : Q (.bl (!decide (x = .non))) B L) : kO X (compareOp .IsNot) x .non B L Q := ⟨_, op_notN, fun H s => ⟨rfl, _, _, s, q⟩⟩

/-! ### arguments, displays -/
theorem a_nil {Q : KA} (q : Q [] B L) : kA X [] σ B L Q := ⟨_, pa_nil, fun H s => ⟨_, _, s, q⟩⟩
theorem a_cons {Q : KA} (h : kE X e σ B L fun v B1 L1 => kA X es σ B1 L1 fun vs B2 L2 => Q (v :: vs) B2 L2) (hs : starEach (e :: es) X.env = (false, eval e X.env) :: starEach es X.env := by rfl) : kA X (e :: es) σ B L Q :=
  ⟨_, pa_cons pe_c pa_c hs, fun H s => toE s h fun _ _ _ _ s q => toA s q fun _ _ _ _ s q => ⟨_, _, s, q⟩⟩
theorem k_tup {x1} (h : kA X es σ B L fun vs B1 L1 => vs.length ≤ 16777216 ∧ ∀ p, Q (.ref p) B1 ((p, .tup vs) :: L1)) : kE X (.Tuple es x1 pos) σ B L Q :=
  ⟨_, pe_tup pa_c, fun H s => toA s h fun _ _ _ _ s q => ⟨small q.1, fun p hp => ⟨_, _, s.new hp, q.2 p⟩⟩⟩
theorem k_lst (h : kA X es σ B L fun vs B1 L1 => vs.length ≤ 16777216 ∧ ∀ p, Q (.ref p) B1 ((p, .lst vs) :: L1)) : kE X (.List es pos) σ B L Q :=
  ⟨_, pe_lst pa_c, fun H s => toA s h fun _ _ _ _ s q => ⟨small q.1, fun p hp => ⟨_, _, s.new hp, q.2 p⟩⟩⟩

/-! ### calls by values -/
def kC (X : Cx) (f : Value) (vs : List V) (B : Hp) (L : HL) (Q : KQ) : Prop := ∃ r, CallR X f r ∧ ∀ H, Sat B L H → r vs H (up Q)
def cC (X : Cx) (f : Value) : List V → Hp → VK → Prop := fun vs H Q => ∃ B L Q', Sat B L H ∧ kC X f vs B L Q' ∧ ∀ v H', up Q' v H' → Q v H'
theorem cr_c {f : Value} : CallR X f (cC X f) := fun pins s σ H xs us Q I r ⟨B, L, Q', sat, ⟨k, h, q⟩, m⟩ =>
  thn (h pins s σ H xs us _ I r (q H sat)) fun _ _ ⟨v, H', I', r, z⟩ => ⟨v, H', I', r, m v H' z⟩
theorem toC {f : Value} {vs : List V} {H : Hp} {Q' : KQ} {Q : VK} (sat : Sat B L H) (h : kC X f vs B L Q') (m : ∀ v H' B' L', Sat B' L' H' → Q' v B' L' → Q v H') : cC X f vs H Q :=
  ⟨B, L, Q', sat, h, fun v H' ⟨B', L', s, q⟩ => m v H' B' L' s q⟩
theorem k_callB {x : Str} {id : String} (hm : X.mg x = none) (h : kA X (e :: es) σ B L fun vs B1 L1 => kC X (.builtin id) vs B1 L1 Q) (hv : bootBuiltins x = some (.builtin id) := by decide +kernel) (hg : Gl X x := by rfl) (hn : x ≠ "__name__" := by decide) (hdb : (x == ("__debug__" : Str)) = false := by decide)
    (he : starEach (e :: es) X.env = (false, eval e X.env) :: starEach es X.env := by rfl) (hpl : (backTo pos (starEach es X.env)).any (·.1) = false := by rfl) : kE X (.Call (.Name x p2) (e :: es) [] pos) σ B L Q :=
  ⟨_, pe_callB cr_c hg hm hv pa_c hn hdb he hpl, fun H s => toA s h fun _ _ _ _ s q => toC s q fun _ _ _ _ s q => ⟨_, _, s, q⟩⟩
theorem k_callT {x : Str} {T : String} (hm : X.mg x = none) (h : kA X (e :: es) σ B L fun vs B1 L1 => kC X (.type T) vs B1 L1 Q) (hv : bootBuiltins x = some (.type T) := by decide +kernel) (hg : Gl X x := by rfl) (hn : x ≠ "__name__" := by decide) (hdb : (x == ("__debug__" : Str)) = false := by decide)
    (he : starEach (e :: es) X.env = (false, eval e X.env) :: starEach es X.env := by rfl) (hpl : (backTo pos (starEach es X.env)).any (·.1) = false := by rfl) : kE X (.Call (.Name x p2) (e :: es) [] pos) σ B L Q :=
  ⟨_, pe_callTy cr_c hg hm hv pa_c hn hdb he hpl, fun H s => toA s h fun _ _ _ _ s q => toC s q fun _ _ _ _ s q => ⟨_, _, s, q⟩⟩
theorem c_lens {l : List Nat} (q : Q (.int l.length) B L) (h : l.length ≤ 16777216) : kC X (.builtin "len") [.str (sOf l)] B L Q := ⟨_, call_len_str, fun H s => ⟨_, rfl, by rw [sOf_len]; exact small h, by rw [sOf_len]; exact ⟨_, _, s, q⟩⟩⟩
theorem c_lenl {p : Addr} {xs : List V} (h : Ls X.K B L p xs) (q : Q (.int xs.length) B L) : kC X (.builtin "len") [.ref p] B L Q := ⟨_, call_len_seq, fun H s => ⟨p, xs, rfl, .inl (h.at s), _, _, s, q⟩⟩
theorem c_lent {p : Addr} {xs : List V} (h : Tp X.K B L p xs) (q : Q (.int xs.length) B L) : kC X (.builtin "len") [.ref p] B L Q := ⟨_, call_len_seq, fun H s => ⟨p, xs, rfl, .inr (h.at s), _, _, s, q⟩⟩
theorem c_abs {i : Int} (q : Q (.int (if i < 0 then -i else i)) B L) : kC X (.builtin "abs") [.int i] B L Q := ⟨_, call_abs, fun H s => ⟨i, rfl, _, _, s, q⟩⟩
theorem c_min2 {i j : Int} (q : Q (.int (if j < i then j else i)) B L) (hc : X.calm = true := by rfl) : kC X (.builtin "min") [.int i, .int j] B L Q := ⟨_, call_min2 hc, fun H s => ⟨i, j, rfl, _, _, s, q⟩⟩
theorem c_max2 {i j : Int} (q : Q (.int (if j > i then j else i)) B L) (hc : X.calm = true := by rfl) : kC X (.builtin "max") [.int i, .int j] B L Q := ⟨_, call_max2 hc, fun H s => ⟨i, j, rfl, _, _, s, q⟩⟩
theorem c_intb {k : Bool} (q : Q (.int (if k then 1 else 0)) B L) : kC X (.type "int") [.bl k] B L Q := ⟨_, call_int1, fun H s => .inr ⟨k, rfl, _, _, s, q⟩⟩
theorem c_listl {p : Addr} {xs : List V} (h : Ls X.K B L p xs) (q : ∀ l, Q (.ref l) B ((l, .lst xs) :: L)) : kC X (.type "list") [.ref p] B L Q := ⟨_, call_list_of, fun H s => ⟨p, xs, rfl, .inl (h.at s), fun l hl => ⟨_, _, s.new hl, q l⟩⟩⟩
theorem c_listt {p : Addr} {xs : List V} (h : Tp X.K B L p xs) (q : ∀ l, Q (.ref l) B ((l, .lst xs) :: L)) : kC X (.type "list") [.ref p] B L Q := ⟨_, call_list_of, fun H s => ⟨p, xs, rfl, .inr (h.at s), fun l hl => ⟨_, _, s.new hl, q l⟩⟩⟩
theorem c_tupl {p : Addr} {xs : List V} (h : Ls X.K B L p xs) (q : ∀ l, Q (.ref l) B ((l, .tup xs) :: L)) : kC X (.type "tuple") [.ref p] B L Q := ⟨_, call_tuple_of, fun H s => ⟨p, xs, rfl, .inl ⟨h.at s, fun l hl => ⟨_, _, s.new hl, q l⟩⟩⟩⟩
theorem c_all {p : Addr} {bs : List Bool} (h : Ls X.K B L p (bs.map V.bl)) (q : Q (.bl (bs.all id)) B L) (hc : X.calm = true := by rfl) : kC X (.builtin "all") [.ref p] B L Q := ⟨_, cr_all hc, fun H s => ⟨p, bs, rfl, h.at s, _, _, s, q⟩⟩
theorem c_any {p : Addr} {bs : List Bool} (h : Ls X.K B L p (bs.map V.bl)) (q : Q (.bl (bs.any id)) B L) (hc : X.calm = true := by rfl) : kC X (.builtin "any") [.ref p] B L Q := ⟨_, cr_any hc, fun H s => ⟨p, bs, rfl, h.at s, _, _, s, q⟩⟩
theorem c_sum {p : Addr} {ns : List Int} (h : Ls X.K B L p (ns.map V.int)) (q : Q (.int ns.sum) B L) (hc : X.calm = true := by rfl) : kC X (.builtin "sum") [.ref p] B L Q := ⟨_, cr_sum hc, fun H s => ⟨p, ns, rfl, h.at s, _, _, s, q⟩⟩
theorem c_isi {x c : V} {t u : Value} {k : Bool} (hc : ClsV c u) (ht : ∀ H, Sat B L H → TyX X.K H x t) (hk : PySem.W.kitOne X.K t u = some k) (q : Q (.bl k) B L) : kC X (.builtin "isinstance") [x, c] B L Q := ⟨_, call_isi, fun H s => ⟨x, c, t, u, k, rfl, hc, ht H s, hk, _, _, s, q⟩⟩

/-! ### calls of the program's own defs -/
structure Fn (P : Program) (w : World) (K : PySem.W.Frag) (mg : Str → Option Value) (base : Heap) (k : Nat) (x : Str) (sp : Sp) : Prop where
  ex : ∃ f fd ps, FnOk P w K mg base (L2.CX P w) k f fd ps sp ∧ mg x = some (.ref f) ∧ PySem.W.keepIn K (.ref f) = true ∧ Binds K fd ps []
theorem k_call {x : Str} {k : Nat} {sp : Sp} {W : WX} (F : Fn X.prog X.w X.K X.mg X.base k x sp) (hr : Room k X.A) (tk : Takes X W) (h : kA X (e :: es) σ B L fun vs B1 L1 => ∀ H, Sat B1 L1 H → sp vs H (up Q) (WE W σ)) (hg : Gl X x := by rfl)
    (hdb : (x == ("__debug__" : Str)) = false := by decide) (he : starEach (e :: es) X.env = (false, eval e X.env) :: starEach es X.env := by rfl) (hpl : (backTo pos (starEach es X.env)).any (·.1) = false := by rfl) : kE X (.Call (.Name x p2) (e :: es) [] pos) σ B L Q := by
  obtain ⟨f, fd, ps, hF, hm, hk, hb⟩ := F.ex
  exact ⟨_, pe_callS hF hr hg hm hk hb (fun σ => passAt tk σ) pa_c hdb he hpl, fun H s => toA s h fun _ _ _ _ s q => q _ s⟩
theorem k_call0 {x : Str} {k : Nat} {sp : Sp} {W : WX} (F : Fn X.prog X.w X.K X.mg X.base k x sp) (hr : Room k X.A) (h : ∀ H, Sat B L H → sp [] H (up Q) E0) (hg : Gl X x := by rfl)
    (hdb : (x == ("__debug__" : Str)) = false := by decide) : kE X (.Call (.Name x p2) [] [] pos) σ B L Q := by
  obtain ⟨f, fd, ps, hF, hm, hk, hb⟩ := F.ex
  exact ⟨_, pe_call0 hF hr hg hm hk hb .nil passL hdb, fun H s => h H s⟩

/-! ### subscripts -/
def kI (X : Cx) (x y : V) (B : Hp) (L : HL) (Q : KQ) : Prop := ∃ r, IxR X r ∧ ∀ H, Sat B L H → r x y H (up Q)
def cI (X : Cx) : R2 := fun x y H Q => ∃ B L Q', Sat B L H ∧ kI X x y B L Q' ∧ ∀ v H', up Q' v H' → Q v H'
theorem ix_c : IxR X (cI X) := fun v1 s1 pins s σ H x y v u Q I rx ry ⟨B, L, Q', sat, ⟨k, h, q⟩, m⟩ hs =>
  thn (h v1 s1 pins s σ H x y v u _ I rx ry (q H sat) hs) fun _ _ ⟨v, H', I', r, z⟩ => ⟨v, H', I', r, m v H' z⟩
theorem k_ix (h : kE X a σ B L fun x B1 L1 => kE X b σ B1 L1 fun y B2 L2 => kI X x y B2 L2 Q) (hs : PlainIx b := by exact fun _ _ => rfl) : kE X (.Subscript a b pos) σ B L Q :=
  ⟨_, pe_ix ix_c pe_c pe_c hs, fun H s => toE s h fun _ _ _ _ s q => toE s q fun _ _ _ _ s q => ⟨_, _, _, s, q, fun _ _ z => z⟩⟩
theorem i_list {p : Addr} {xs : List V} {i : Int} {v : V} (h : Ls X.K B L p xs) (hv : atI xs i = some v) (q : Q v B L) : kI X (.ref p) (.int i) B L Q := ⟨_, ix_list, fun H s => ⟨p, xs, i, v, rfl, rfl, h.at s, hv, _, _, s, q⟩⟩
theorem i_tup {p : Addr} {xs : List V} {i : Int} {v : V} (h : Tp X.K B L p xs) (hv : atI xs i = some v) (q : Q v B L) : kI X (.ref p) (.int i) B L Q := ⟨_, ix_tup, fun H s => ⟨p, xs, i, v, rfl, rfl, h.at s, hv, _, _, s, q⟩⟩
theorem i_str {l : List Nat} {i : Int} {c : Nat} (hv : atI l i = some c) (q : Q (.str (sOf [c])) B L) (hl : l.length ≤ 16777216) : kI X (.str (sOf l)) (.int i) B L Q := ⟨_, ix_str, fun H s => ⟨_, i, c, rfl, rfl, by rw [sOf_len]; exact small hl, hv, _, _, s, q⟩⟩
def kSl (X : Cx) (x : V) (lo hi : Option Int) (B : Hp) (L : HL) (Q : KQ) : Prop := ∃ r, SlR X r ∧ ∀ H, Sat B L H → r x lo hi H (up Q)
def kP (X : Cx) (e : Option Expr) (σ : L2.St) (B : Hp) (L : HL) (Q : Option Int → Hp → HL → Prop) : Prop := ∃ t, PO X e t ∧ ∀ H, Sat B L H → t σ H fun o H' => ∃ B L, Sat B L H' ∧ Q o B L
theorem p_none {Q : Option Int → Hp → HL → Prop} (q : Q none B L) : kP X none σ B L Q := ⟨_, po_none, fun H s => ⟨_, _, s, q⟩⟩
theorem p_some {Q : Option Int → Hp → HL → Prop} (h : kE X e σ B L fun v B1 L1 => ∃ i, v = .int i ∧ Q (some i) B1 L1) : kP X (some e) σ B L Q := ⟨_, po_some pe_c, fun H s => toE s h fun _ _ _ _ s ⟨i, e, q⟩ => ⟨i, e, _, _, s, q⟩⟩
def cSl (X : Cx) : V → Option Int → Option Int → Hp → VK → Prop := fun x lo hi H Q => ∃ B L Q', Sat B L H ∧ kSl X x lo hi B L Q' ∧ ∀ v H', up Q' v H' → Q v H'
theorem sl_c : SlR X (cSl X) := fun pins s σ H x v vl vu lo hi sl Q I r1 hs pl pu ⟨B, L, Q', sat, ⟨r, h, q⟩, m⟩ => by
  obtain ⟨T, id, h1, h2, h3⟩ := h pins s σ H x v vl vu lo hi sl _ I r1 hs pl pu (q H sat)
  exact ⟨T, id, h1, h2, thn h3 fun _ _ ⟨v, H', I', r, z⟩ => ⟨v, H', I', r, m v H' z⟩⟩
def cP (X : Cx) (e : Option Expr) : TO := fun σ H Q => ∃ B L Q', Sat B L H ∧ kP X e σ B L Q' ∧ ∀ o H' B' L', Sat B' L' H' → Q' o B' L' → Q o H'
theorem po_c {e : Option Expr} : PO X e (cP X e) := ⟨fun pins s σ H Q I ⟨B, L, Q', sat, ⟨t, h, q⟩, m⟩ =>
  thn (h.run pins s σ H _ I (q H sat)) fun _ _ ⟨o, H', I', r, B', L', s, z⟩ => ⟨o, H', I', r, m o H' B' L' s z⟩⟩
theorem k_slice {lo hi : Option Expr} {p3 : Pos} (h : kE X e σ B L fun x B1 L1 => kP X lo σ B1 L1 fun l B2 L2 => kP X hi σ B2 L2 fun u B3 L3 => kSl X x l u B3 L3 Q) : kE X (.Subscript e (.Slice lo hi none p3) pos) σ B L Q :=
  ⟨_, pe_slice sl_c pe_c po_c po_c, fun H s => toE s h fun _ _ _ _ s q => ⟨_, _, _, s, q, fun _ _ _ _ s q => ⟨_, _, _, s, q, fun _ _ _ _ s q => ⟨_, _, _, s, q, fun _ _ z => z⟩⟩⟩⟩
/-- a text's slice, a list's -/
def cut {α : Type} (l : List α) (lo hi : Option Int) : List α := (l.drop (HT.sIx l.length 0 lo)).take (HT.sIx l.length l.length hi - HT.sIx l.length 0 lo)
theorem sl_s {l : List Nat} {lo hi : Option Int} (q : Q (.str (sOf (cut l lo hi))) B L) (hl : l.length ≤ 16777216) : kSl X (.str (sOf l)) lo hi B L Q :=
  ⟨_, sl_str, fun H s => ⟨_, rfl, by rw [sOf_len]; exact small hl, by
    have e : cutS (sOf l) lo hi = sOf (cut l lo hi) := by unfold cutS cut; rw [sOf_len]
    rw [e]; exact ⟨_, _, s, q⟩⟩⟩
theorem sl_l {p : Addr} {xs : List V} {lo hi : Option Int} (h : Ls X.K B L p xs) (q : ∀ l, Q (.ref l) B ((l, .lst (cut xs lo hi)) :: L)) : kSl X (.ref p) lo hi B L Q :=
  ⟨_, sl_list, fun H s => ⟨p, xs, rfl, h.at s, fun l hl => ⟨_, _, s.new hl, q l⟩⟩⟩
end
end Kv

namespace Kv
open PySem PySem.Spec PyProof.Rows L2

/-- where an object of ours stands, and the list with another one there -/
inductive Rep : HL → Addr → HO → HO → HL → Prop where
  | here {p : Addr} {o o' : HO} {L : HL} : Rep ((p, o) :: L) p o o' ((p, o') :: L)
  | there {q : Addr × HO} {p : Addr} {o o' : HO} {L L' : HL} : Rep L p o o' L' → Rep (q :: L) p o o' (q :: L')
theorem Rep.split {L L' : HL} {p : Addr} {o o' : HO} (r : Rep L p o o' L') : ∃ L1 L2, L = L1 ++ (p, o) :: L2 ∧ L' = L1 ++ (p, o') :: L2 := by
  induction r with
  | here => exact ⟨[], _, rfl, rfl⟩
  | there _ ih =>
    obtain ⟨L1, L2, e1, e2⟩ := ih
    exact ⟨_ :: L1, L2, by rw [e1]; rfl, by rw [e2]; rfl⟩
theorem Rep.mem {L L' : HL} {p : Addr} {o o' : HO} (r : Rep L p o o' L') : (p, o) ∈ L := by
  obtain ⟨L1, L2, e1, _⟩ := r.split
  rw [e1]; simp
theorem Sat.rep {B : Hp} {L L' : HL} {H : Hp} {p : Addr} {o o' : HO} (s : Sat B L H) (r : Rep L p o o' L') : Sat B L' (upd H p o') := by
  obtain ⟨L1, L2, e1, e2⟩ := r.split
  rw [e2]
  rw [e1] at s
  exact s.set
/-- the heap changed at p alone, grown elsewhere -/
theorem Sat.rep' {B : Hp} {L L' : HL} {H H' : Hp} {p : Addr} {o o' : HO} (s : Sat B L H) (r : Rep L p o o' L') (e : ∀ b u, b ≠ p → H b = some u → H' b = some u) (h : H' p = some o') : Sat B L' H' := by
  have s2 := s.rep r
  refine s2.keep fun b u q => ?_
  by_cases hb : b = p
  · subst hb
    rw [upd_same] at q
    rw [h]; exact q
  · rw [upd_ne hb] at q
    exact e b u hb q

section
variable {X : Cx} {σ : L2.St} {B : Hp} {L : HL} {Q : KQ} {D : KD} {pos p2 : Pos} {e a b c tg iter elt : Expr} {es : List Expr} {body : List Stmt}
theorem k_drop {p : Addr × HO} (h : kE X e σ B L Q) : kE X e σ B (p :: L) Q := by
  obtain ⟨t, h1, h2⟩ := h
  exact ⟨t, h1, fun H s => h2 H s.drop⟩

/-! ### what is walked -/
def kR (X : Cx) (tg iter : Expr) (σ : L2.St) (B : Hp) (L : HL) (R : It → Hp → HL → Prop) : Prop := ∃ wi, PI X tg iter wi ∧ ∀ H, Sat B L H → wi σ H fun J H' => ∃ B' L', Sat B' L' H' ∧ R J B' L'
def cR (X : Cx) (tg iter : Expr) : TI := fun σ H R => ∃ B L R', Sat B L H ∧ kR X tg iter σ B L R' ∧ ∀ J H' B' L', Sat B' L' H' → R' J B' L' → R J H'
theorem pi_c : PI X tg iter (cR X tg iter) := ⟨fun pins s σ H R I ⟨B, L, R', sat, ⟨wi, h, q⟩, m⟩ =>
  thn (h.run pins s σ H _ I (q H sat)) fun _ _ h1 => thn h1 fun _ _ ⟨it, fp, tn, J, H', e, I', T, t0, f, B', L', s, z⟩ => ⟨it, fp, tn, J, H', e, I', T, t0, f, m J H' B' L' s z⟩⟩
theorem r_list (h : kE X iter σ B L fun v B1 L1 => ∃ a xs, v = .ref a ∧ Ls X.K B1 L1 a xs ∧ R (Itl X.K a) B1 L1) : kR X tg iter σ B L R := ⟨_, pi_list pe_c, fun H s => toE s h fun _ _ _ _ s ⟨a, xs, e, h, q⟩ => ⟨a, e, ⟨xs, h.at s⟩, _, _, s, q⟩⟩
theorem r_tup (h : kE X iter σ B L fun v B1 L1 => ∃ a xs, v = .ref a ∧ Tp X.K B1 L1 a xs ∧ R (Itt X.K a) B1 L1) : kR X tg iter σ B L R := ⟨_, pi_tup pe_c, fun H s => toE s h fun _ _ _ _ s ⟨a, xs, e, h, q⟩ => ⟨a, e, ⟨xs, h.at s⟩, _, _, s, q⟩⟩
theorem r_str (h : kE X iter σ B L fun v B1 L1 => ∃ l, v = .str (sOf l) ∧ R (Its (sOf l)) B1 L1) : kR X tg iter σ B L R := ⟨_, pi_str pe_c, fun H s => toE s h fun _ _ _ _ s ⟨l, e, q⟩ => ⟨_, e, _, _, s, q⟩⟩
theorem r_rng1 (hm : X.mg "range" = none) (h : kE X e σ B L fun v B1 L1 => ∃ n : Int, v = .int n ∧ -(2 ^ 62) ≤ n ∧ n < 2 ^ 62 ∧ R (Itr 0 n.toNat) B1 L1) (hg : Gl X "range" := by rfl) (hs : starEach [e] X.env = (false, eval e X.env) :: starEach [] X.env := by rfl) (hs' : starEach [e] X.env = [(false, eval e X.env)] := by rfl) : kR X tg (.Call (.Name "range" p2) [e] [] pos) σ B L R :=
  ⟨_, pi_range1 hg hm (pa_cons pe_c pa_nil hs) hs', fun H s => toE s h fun _ _ _ _ s ⟨n, e, h1, h2, q⟩ => ⟨n, by rw [e], h1, h2, _, _, s, q⟩⟩
theorem r_rng2 (hm : X.mg "range" = none) (h : kA X [a, b] σ B L fun vs B1 L1 => ∃ i j : Int, vs = [.int i, .int j] ∧ (-(2 ^ 62) ≤ i ∧ i < 2 ^ 62 ∧ -(2 ^ 62) ≤ j ∧ j < 2 ^ 62) ∧ R (Itr i (j - i).toNat) B1 L1) (hg : Gl X "range" := by rfl) (hs1 : starEach [a, b] X.env = [(false, eval a X.env), (false, eval b X.env)] := by rfl) (hs2 : starEach [b] X.env = [(false, eval b X.env)] := by rfl) : kR X tg (.Call (.Name "range" p2) [a, b] [] pos) σ B L R :=
  ⟨_, pi_range2 hg hm pa_c hs1 hs2, fun H s => toA s h fun _ _ _ _ s ⟨i, j, e, h1, q⟩ => ⟨i, j, e, h1, _, _, s, q⟩⟩
theorem r_enum {elts : List Expr} {kk : Nat} {tpos : Pos} (hm : X.mg "enumerate" = none) (h : kE X e σ B L fun v B1 L1 => ∃ a xs, v = .ref a ∧ Ls X.K B1 L1 a xs ∧ R (Ite X.K a) B1 L1) (hg : Gl X "enumerate" := by rfl)
    (hs : starEach [e] X.env = (false, eval e X.env) :: starEach [] X.env := by rfl) (hs' : starEach [e] X.env = [(false, eval e X.env)] := by rfl) : kR X (.Tuple elts kk tpos) (.Call (.Name "enumerate" p2) [e] [] pos) σ B L R :=
  ⟨_, pi_enum hg hm (pa_cons pe_c pa_nil hs) hs', fun H s => toE s h fun _ _ _ _ s ⟨a, xs, e, h, q⟩ => ⟨a, xs, by rw [e], h.at s, _, _, s, q⟩⟩

/-! ### for -/
theorem k_for (hp : PassesOwn (model X.prog X.w) X.A X.env X.xe) (h : kR X tg iter σ B L fun J B1 L1 => ∃ (n : Nat) (G : Hp → Prop) (Y : Nat → Hp → V → Hp → Prop) (Pv : Nat → KN), Walk J n G Y ∧ Pv 0 σ B1 L1 ∧ (∀ i σ B L H, i ≤ n → Pv i σ B L → Sat B L H → G H) ∧
      (∀ i x σ B L H H', i < n → Pv i σ B L → Sat B L H → Y i H x H' → ∃ B' L', Sat B' L' H' ∧ kG X tg x σ B' L' fun σ2 B2 L2 => kSs X body σ2 B2 L2 { D with nx := Pv (i + 1), ct := Pv (i + 1), bk := D.nx }) ∧ ∀ σ B L, Pv n σ B L → D.nx σ B L)
    (hc : X.calm = true := by rfl) (hs : ∀ x, foldedSetIterable iter X.env x = pure x := by intro _; rfl) : kS X (.For tg iter body [] pos) σ B L D :=
  ⟨_, ps_for hp hc pi_c pg_c pss_c hs, fun H s => ⟨B, L, _, s, h, fun J H1 B1 L1 s1 ⟨n, G, Y, Pv, w, p0, hG, ht, hd⟩ =>
    for_it w (fun i σ H => ∃ B L, Sat B L H ∧ Pv i σ B L) ⟨B1, L1, s1, p0⟩ (fun i σ H hi ⟨B, L, s, p⟩ => hG i σ B L H hi p s)
      (fun i x σ H H' hi ⟨B, L, s, p⟩ y => by
        obtain ⟨B', L', s', g⟩ := ht i x σ B L H H' hi p s y
        exact toG s' g fun _ _ _ _ s2 q2 => toSs s2 q2 (fun _ _ z => z) (fun _ _ z => z) (fun _ _ z => z) (fun _ _ z => z))
      fun σ H ⟨B, L, s, p⟩ => ⟨B, L, s, hd σ B L p⟩⟩⟩
theorem k_for_l (Pv : Nat → KN) (hp : PassesOwn (model X.prog X.w) X.A X.env X.xe)
    (h : kE X iter σ B L fun v B1 L1 => ∃ a xs, v = .ref a ∧ Ls X.K B1 L1 a xs ∧ Pv 0 σ B1 L1 ∧ (∀ i σ B L, i ≤ xs.length → Pv i σ B L → Ls X.K B L a xs) ∧
      (∀ i x σ B L, xs[i]? = some x → Pv i σ B L → kG X tg x σ B L fun σ2 B2 L2 => kSs X body σ2 B2 L2 { D with nx := Pv (i + 1), ct := Pv (i + 1), bk := D.nx }) ∧ ∀ σ B L, Pv xs.length σ B L → D.nx σ B L)
    (hc : X.calm = true := by rfl) (hs : ∀ x, foldedSetIterable iter X.env x = pure x := by intro _; rfl) : kS X (.For tg iter body [] pos) σ B L D :=
  k_for hp (r_list (by
    obtain ⟨t, h1, h2⟩ := h
    refine ⟨_, pe_c, fun H s => toE s ⟨t, h1, h2⟩ fun v H' B' L' s' ⟨a, xs, e, hl, p0, hL, ht, hd⟩ => ⟨B', L', s', a, xs, e, hl, xs.length, _, _, Pv, walk_list, p0, fun i σ B L H hi p s => (hL i σ B L hi p).at s, fun i x σ B L H H' hi p s y => ?_, hd⟩⟩
    obtain ⟨rfl, hx⟩ := y
    exact ⟨B, L, s, ht i x σ B L hx p⟩)) hc hs
theorem k_for_t (Pv : Nat → KN) (hp : PassesOwn (model X.prog X.w) X.A X.env X.xe)
    (h : kE X iter σ B L fun v B1 L1 => ∃ a xs, v = .ref a ∧ Tp X.K B1 L1 a xs ∧ Pv 0 σ B1 L1 ∧ (∀ i σ B L, i ≤ xs.length → Pv i σ B L → Tp X.K B L a xs) ∧
      (∀ i x σ B L, xs[i]? = some x → Pv i σ B L → kG X tg x σ B L fun σ2 B2 L2 => kSs X body σ2 B2 L2 { D with nx := Pv (i + 1), ct := Pv (i + 1), bk := D.nx }) ∧ ∀ σ B L, Pv xs.length σ B L → D.nx σ B L)
    (hc : X.calm = true := by rfl) (hs : ∀ x, foldedSetIterable iter X.env x = pure x := by intro _; rfl) : kS X (.For tg iter body [] pos) σ B L D :=
  k_for hp (r_tup (by
    obtain ⟨t, h1, h2⟩ := h
    refine ⟨_, pe_c, fun H s => toE s ⟨t, h1, h2⟩ fun v H' B' L' s' ⟨a, xs, e, hl, p0, hL, ht, hd⟩ => ⟨B', L', s', a, xs, e, hl, xs.length, _, _, Pv, walk_tup, p0, fun i σ B L H hi p s => (hL i σ B L hi p).at s, fun i x σ B L H H' hi p s y => ?_, hd⟩⟩
    obtain ⟨rfl, hx⟩ := y
    exact ⟨B, L, s, ht i x σ B L hx p⟩)) hc hs
theorem k_for_s (Pv : Nat → KN) (hp : PassesOwn (model X.prog X.w) X.A X.env X.xe)
    (h : kE X iter σ B L fun v B1 L1 => ∃ l, v = .str (sOf l) ∧ Pv 0 σ B1 L1 ∧
      (∀ i c σ B L, l[i]? = some c → Pv i σ B L → kG X tg (.str (sOf [c])) σ B L fun σ2 B2 L2 => kSs X body σ2 B2 L2 { D with nx := Pv (i + 1), ct := Pv (i + 1), bk := D.nx }) ∧ ∀ σ B L, Pv l.length σ B L → D.nx σ B L)
    (hc : X.calm = true := by rfl) (hs : ∀ x, foldedSetIterable iter X.env x = pure x := by intro _; rfl) : kS X (.For tg iter body [] pos) σ B L D :=
  k_for hp (r_str (by
    obtain ⟨t, h1, h2⟩ := h
    refine ⟨_, pe_c, fun H s => toE s ⟨t, h1, h2⟩ fun v H' B' L' s' ⟨l, e, p0, ht, hd⟩ => ⟨B', L', s', l, e, (sOf l).cps.size, _, _, Pv, walk_str, p0, fun i σ B L H hi p s => trivial, fun i x σ B L H H' hi p s y => ?_, by rw [sOf_size]; exact hd⟩⟩
    obtain ⟨rfl, c, hx, rfl⟩ := y
    exact ⟨B, L, s, ht i c σ B L (by simpa [sOf] using hx) p⟩)) hc hs
theorem k_for_r1 (Pv : Nat → KN) (hp : PassesOwn (model X.prog X.w) X.A X.env X.xe) (hm : X.mg "range" = none)
    (h : kE X e σ B L fun v B1 L1 => ∃ n : Int, v = .int n ∧ -(2 ^ 62) ≤ n ∧ n < 2 ^ 62 ∧ Pv 0 σ B1 L1 ∧
      (∀ (i : Nat) σ B L, i < n.toNat → Pv i σ B L → kG X tg (.int i) σ B L fun σ2 B2 L2 => kSs X body σ2 B2 L2 { D with nx := Pv (i + 1), ct := Pv (i + 1), bk := D.nx }) ∧ ∀ σ B L, Pv n.toNat σ B L → D.nx σ B L)
    (hg : Gl X "range" := by rfl) (hst : starEach [e] X.env = (false, eval e X.env) :: starEach [] X.env := by rfl) (hst' : starEach [e] X.env = [(false, eval e X.env)] := by rfl) (hc : X.calm = true := by rfl) (hs : ∀ x, foldedSetIterable (.Call (.Name "range" p2) [e] [] pos) X.env x = pure x := by intro _; rfl) :
    kS X (.For tg (.Call (.Name "range" p2) [e] [] pos) body [] pos') σ B L D :=
  k_for hp (r_rng1 hm (by
    obtain ⟨t, h1, h2⟩ := h
    refine ⟨_, pe_c, fun H s => toE s ⟨t, h1, h2⟩ fun v H' B' L' s' ⟨n, e, b1, b2, p0, ht, hd⟩ => ⟨B', L', s', n, e, b1, b2, n.toNat, _, _, Pv, walk_range, p0, fun i σ B L H hi p s => trivial, fun i x σ B L H H' hi p s y => ?_, hd⟩⟩
    obtain ⟨rfl, rfl⟩ := y
    refine ⟨B, L, s, ?_⟩
    have e0 : ((0 : Int) + (i : Int)) = (i : Int) := Int.zero_add _
    show kG X tg (.int ((0 : Int) + (i : Int))) σ B L _
    rw [e0]
    exact ht i σ B L hi p) hg hst hst') hc hs
theorem k_for_r2 (Pv : Nat → KN) (hp : PassesOwn (model X.prog X.w) X.A X.env X.xe) (hm : X.mg "range" = none)
    (h : kA X [a, b] σ B L fun vs B1 L1 => ∃ i0 n : Int, vs = [.int i0, .int n] ∧ (-(2 ^ 62) ≤ i0 ∧ i0 < 2 ^ 62 ∧ -(2 ^ 62) ≤ n ∧ n < 2 ^ 62) ∧ Pv 0 σ B1 L1 ∧
      (∀ (i : Nat) σ B L, i < (n - i0).toNat → Pv i σ B L → kG X tg (.int (i0 + i)) σ B L fun σ2 B2 L2 => kSs X body σ2 B2 L2 { D with nx := Pv (i + 1), ct := Pv (i + 1), bk := D.nx }) ∧ ∀ σ B L, Pv (n - i0).toNat σ B L → D.nx σ B L)
    (hg : Gl X "range" := by rfl) (hs1 : starEach [a, b] X.env = [(false, eval a X.env), (false, eval b X.env)] := by rfl) (hs2 : starEach [b] X.env = [(false, eval b X.env)] := by rfl) (hc : X.calm = true := by rfl) (hs : ∀ x, foldedSetIterable (.Call (.Name "range" p2) [a, b] [] pos) X.env x = pure x := by intro _; rfl) :
    kS X (.For tg (.Call (.Name "range" p2) [a, b] [] pos) body [] pos') σ B L D :=
  k_for hp (r_rng2 hm (by
    obtain ⟨t, h1, h2⟩ := h
    refine ⟨_, pa_c, fun H s => toA s ⟨t, h1, h2⟩ fun v H' B' L' s' ⟨i0, n, e, b1, p0, ht, hd⟩ => ⟨B', L', s', i0, n, e, b1, (n - i0).toNat, _, _, Pv, walk_range, p0, fun i σ B L H hi p s => trivial, fun i x σ B L H H' hi p s y => ?_, hd⟩⟩
    obtain ⟨rfl, rfl⟩ := y
    exact ⟨B, L, s, ht i σ B L hi p⟩) hg hs1 hs2) hc hs
/-- a pair that a walk has made goes to two targets, and is forgotten -/
theorem g_pair {t u : Expr} {kk : Nat} {T : Addr} {x y : V} {Q : KN} (h : kGs X [t, u] [x, y] σ B L Q) (hc : X.calm = true := by rfl) (hn : (assignEach [t, u] X.env).length = 2 := by rfl) (hst : (assignEach [t, u] X.env).findIdx? (·.1) = none := by rfl) :
    kG X (.Tuple [t, u] kk pos) (.ref T) σ B ((T, .tup [x, y]) :: L) Q :=
  ⟨_, pg_tup hc pgs_c hn hst, fun H s => ⟨T, _, rfl, .inl (.inl (s.own _ List.mem_cons_self)), rfl, toGs s.drop h fun _ _ _ _ s q => ⟨_, _, s, q⟩⟩⟩
theorem g_tup {ts : List Expr} {kk n : Nat} {T : Addr} {xs : List V} {Q : KN} (h1 : Tp X.K B L T xs) (hl : xs.length = n) (h : kGs X ts xs σ B L Q) (hc : X.calm = true := by rfl) (hn : (assignEach ts X.env).length = n := by rfl) (hst : (assignEach ts X.env).findIdx? (·.1) = none := by rfl) :
    kG X (.Tuple ts kk pos) (.ref T) σ B L Q :=
  ⟨_, pg_tup hc pgs_c hn hst, fun H s => ⟨T, _, rfl, h1.at s, hl, toGs s h fun _ _ _ _ s q => ⟨_, _, s, q⟩⟩⟩
theorem k_for_en (Pv : Nat → KN) (hp : PassesOwn (model X.prog X.w) X.A X.env X.xe) (hm : X.mg "enumerate" = none) {t u : Expr} {kk : Nat} {tpos : Pos}
    (h : kE X e σ B L fun v B1 L1 => ∃ a xs, v = .ref a ∧ Ls X.K B1 L1 a xs ∧ Pv 0 σ B1 L1 ∧ (∀ i σ B L, i ≤ xs.length → Pv i σ B L → Ls X.K B L a xs) ∧
      (∀ (i : Nat) x σ B L, xs[i]? = some x → Pv i σ B L → kGs X [t, u] [.int i, x] σ B L fun σ2 B2 L2 => kSs X body σ2 B2 L2 { D with nx := Pv (i + 1), ct := Pv (i + 1), bk := D.nx }) ∧ ∀ σ B L, Pv xs.length σ B L → D.nx σ B L)
    (hg : Gl X "enumerate" := by rfl) (hst : starEach [e] X.env = (false, eval e X.env) :: starEach [] X.env := by rfl) (hst' : starEach [e] X.env = [(false, eval e X.env)] := by rfl) (hc : X.calm = true := by rfl) (hs : ∀ x, foldedSetIterable (.Call (.Name "enumerate" p2) [e] [] pos) X.env x = pure x := by intro _; rfl)
    (hn : (assignEach [t, u] X.env).length = 2 := by rfl) (hfi : (assignEach [t, u] X.env).findIdx? (·.1) = none := by rfl) : kS X (.For (.Tuple [t, u] kk tpos) (.Call (.Name "enumerate" p2) [e] [] pos) body [] pos') σ B L D :=
  k_for hp (r_enum hm (by
    obtain ⟨te, h1, h2⟩ := h
    refine ⟨_, pe_c, fun H s => toE s ⟨te, h1, h2⟩ fun v H' B' L' s' ⟨a, xs, e, hl, p0, hL, ht, hd⟩ => ⟨B', L', s', a, xs, e, hl, xs.length, _, _, Pv, walk_enum, p0, fun i σ B L H hi p s => (hL i σ B L hi p).at s, fun i x σ B L H H' hi p s y => ?_, hd⟩⟩
    obtain ⟨T, x1, y1, rfl, hT, rfl, e1, e2⟩ := y
    cases e1
    exact ⟨B, _, s.new hT, g_pair (ht i y1 σ B L e2 p) hc hn hfi⟩) hg hst hst') hc hs

/-! ### while, op= -/
theorem k_while (W : Nat → KN) (m0 : Nat) (hp : PassesOwn (model X.prog X.w) X.A X.env X.xe) (h0 : W m0 σ B L)
    (hs : ∀ m σ B L, W m σ B L → kT X c σ B L fun k B1 L1 => (k = true → kSs X body σ B1 L1 { D with nx := fun σ' B' L' => ∃ m', m' < m ∧ W m' σ' B' L', ct := fun σ' B' L' => ∃ m', m' < m ∧ W m' σ' B' L', bk := D.nx }) ∧ (k = false → D.nx σ B1 L1)) :
    kS X (.While c body [] pos) σ B L D :=
  ⟨_, ps_while hp pt_c pss_c, fun H s => ⟨fun m σ H => ∃ B L, Sat B L H ∧ W m σ B L, ⟨m0, B, L, s, h0⟩, fun m σ H ⟨B, L, s, w⟩ => toT s (hs m σ B L w) fun k H' B' L' s' q => by
    cases k with
    | true =>
      refine iteT ⟨_, fun σ' H' ⟨B2, L2, s2, m', hm, w'⟩ => ⟨m', hm, B2, L2, s2, w'⟩, toSs s' (q.1 rfl) (fun _ _ z => z) (fun _ _ z => z) (fun _ _ z => z) (fun _ _ z => z)⟩
    | false => exact iteF ⟨_, _, s', q.2 rfl⟩⟩⟩
theorem k_aug_add (i : Nat) {x : Str} {pos' : Pos} {n : Int} (h : kE X e σ B L fun v B1 L1 => ∃ m, v = .int m ∧ D.nx (σ.set i (some (.int (n + m)))) B1 L1) (hN : X.N.Nodup) (hx : σ[i]? = some (some (.int n)) := by rfl) (hi : X.N[i]? = some x := by rfl) (hl : Loc X.env.scope x := by first | exact Or.inl rfl | exact Or.inr rfl)
    (hf : X.fn x = true ∨ X.env.scope.names.lookup x = some .local := by first | exact .inl rfl | exact .inr rfl | assumption) : kS X (.AugAssign (.Name x pos') .Add e pos) σ B L D := ⟨_, ps_aug hN hi hl pe_c ip_add (hf := hf), fun H s => ⟨_, hx, toE s h fun _ _ _ _ s ⟨m, e, q⟩ => ⟨n, m, rfl, e, _, _, s, q⟩⟩⟩
theorem k_aug_sub (i : Nat) {x : Str} {pos' : Pos} {n : Int} (h : kE X e σ B L fun v B1 L1 => ∃ m, v = .int m ∧ D.nx (σ.set i (some (.int (n - m)))) B1 L1) (hN : X.N.Nodup) (hx : σ[i]? = some (some (.int n)) := by rfl) (hi : X.N[i]? = some x := by rfl) (hl : Loc X.env.scope x := by first | exact Or.inl rfl | exact Or.inr rfl)
    (hf : X.fn x = true ∨ X.env.scope.names.lookup x = some .local := by first | exact .inl rfl | exact .inr rfl | assumption) : kS X (.AugAssign (.Name x pos') .Sub e pos) σ B L D := ⟨_, ps_aug hN hi hl pe_c ip_sub (hf := hf), fun H s => ⟨_, hx, toE s h fun _ _ _ _ s ⟨m, e, q⟩ => ⟨n, m, rfl, e, _, _, s, q⟩⟩⟩
/-- xs[i] = v, xs ours -/
theorem g_setl {v : V} {Q : KN} (h : kE X a σ B L fun x B1 L1 => kE X b σ B1 L1 fun y B2 L2 => ∃ p xs k j L3, x = .ref p ∧ y = .int k ∧ ixN xs.length k = some j ∧ Rep L2 p (.lst xs) (.lst (xs.set j v)) L3 ∧ Q σ B2 L3)
    (ha : ∀ v, assign (.Subscript a b pos) X.env v = (do
      let ov ← holding [v] (eval a X.env)
      let iv ← holding [v, ov] (eval b X.env)
      standAt pos
      holding [v, ov, iv] (setItem ov iv v)
      release [v, ov, iv] []) := by intro _; rfl) : kG X (.Subscript a b pos) v σ B L Q :=
  ⟨_, pg_sub pe_c pe_c set_list ha, fun H s => toE s h fun _ _ _ _ s q => toE s q fun _ _ _ _ s ⟨p, xs, k, j, L3, e1, e2, hj, r, q⟩ => ⟨p, xs, k, j, e1, e2, s.own _ r.mem, hj, _, _, s.rep r, q⟩⟩

/-! ### methods of built-in types -/
def kMt (X : Cx) (id : String) (x : V) (vs : List V) (B : Hp) (L : HL) (Q : KQ) : Prop := ∃ r, MtR X id r ∧ ∀ H, Sat B L H → r x vs H (up Q)
def cMt (X : Cx) (id : String) : V → List V → Hp → VK → Prop := fun x vs H Q => ∃ B L Q', Sat B L H ∧ kMt X id x vs B L Q' ∧ ∀ v H', up Q' v H' → Q v H'
theorem mt_c {id : String} : MtR X id (cMt X id) := fun pins s σ H x xs v us Q I rx r ⟨B, L, Q', sat, ⟨k, h, q⟩, m⟩ =>
  thn (h pins s σ H x xs v us _ I rx r (q H sat)) fun _ _ ⟨v, H', I', r, z⟩ => ⟨v, H', I', r, m v H' z⟩
theorem k_m {T id : String} {name : Str} {apos : Pos} (pa : PlainAttrs T) (slot : Slot T name id) (hty : typeOf (.builtin id) = pure (.type "method_descriptor"))
    (h : kE X a σ B L fun x B1 L1 => (∀ H, Sat B1 L1 H → tyV X.K T x H) ∧ kA X (e :: es) σ B1 L1 fun vs B2 L2 => kMt X id x vs B2 L2 Q)
    (hbase : attributeBase a name X.env (eval a X.env) = eval a X.env := by rfl)
    (hfew : ((backTo pos (starEach (e :: es) X.env)).all (fun x => !x.1) && (backToKw pos (keywordEach [] X.env)).all (fun x => x.1.isSome)
      && decide ((e :: es).length + ([] : List Keyword).length + (if ([] : List Keyword).isEmpty then 0 else 1) < 30)) = true := by rfl)
    (hline : (apos.endLine == pos.line) = true := by rfl) (hs : starEach (e :: es) X.env = (false, eval e X.env) :: starEach es X.env := by rfl) (hplain : (backTo pos (starEach es X.env)).any (·.1) = false := by rfl) :
    kE X (.Call (.Attribute a name apos) (e :: es) [] pos) σ B L Q :=
  ⟨_, pe_bm pa slot hty mt_c pe_c pa_c hbase hfew hline hs hplain, fun H s => toE s h fun x H' _ _ s ⟨ty, q⟩ => ⟨ty H' s, toA s q fun _ _ _ _ s q => ⟨_, _, _, s, q, fun _ _ z => z⟩⟩⟩
theorem k_m0 {T id : String} {name : Str} {apos : Pos} (pa : PlainAttrs T) (slot : Slot T name id) (hty : typeOf (.builtin id) = pure (.type "method_descriptor"))
    (h : kE X a σ B L fun x B1 L1 => (∀ H, Sat B1 L1 H → tyV X.K T x H) ∧ kMt X id x [] B1 L1 Q)
    (hbase : attributeBase a name X.env (eval a X.env) = eval a X.env := by rfl) (hline : (apos.endLine == pos.line) = true := by rfl) :
    kE X (.Call (.Attribute a name apos) [] [] pos) σ B L Q :=
  ⟨_, pe_bm0 pa slot hty mt_c pe_c hbase hline, fun H s => toE s h fun x H' _ _ s ⟨ty, q⟩ => ⟨ty H' s, ⟨_, _, _, s, q, fun _ _ z => z⟩⟩⟩
theorem m_append {p : Addr} {xs : List V} {v : V} {L' : HL} (r : Rep L p (.lst xs) (.lst (xs ++ [v])) L') (q : Q .non B L') (hl : xs.length < 16777216) : kMt X "list.append" (.ref p) [v] B L Q :=
  ⟨_, mt_append, fun H s => ⟨p, xs, v, rfl, rfl, s.own _ r.mem, small' hl, _, _, s.rep r, q⟩⟩
theorem m_pop {p : Addr} {xs : List V} {v : V} {L' : HL} (hv : xs[xs.length - 1]? = some v) (r : Rep L p (.lst xs) (.lst xs.dropLast) L') (q : Q v B L') : kMt X "list.pop" (.ref p) [] B L Q :=
  ⟨_, mt_pop, fun H s => ⟨p, xs, v, rfl, rfl, s.own _ r.mem, hv, _, _, s.rep r, q⟩⟩
theorem m_clear {p : Addr} {xs : List V} {L' : HL} (r : Rep L p (.lst xs) (.lst []) L') (q : Q .non B L') : kMt X "list.clear" (.ref p) [] B L Q :=
  ⟨_, mt_clear, fun H s => ⟨p, xs, rfl, rfl, s.own _ r.mem, _, _, s.rep r, q⟩⟩
theorem ty_l {p : Addr} {xs : List V} (h : Ls X.K B L p xs) : ∀ H, Sat B L H → tyV X.K "list" (.ref p) H := fun H s => .inl ⟨rfl, xs, h.at s⟩
theorem ty_s {l : Str} : ∀ H, Sat B L H → tyV X.K "str" (.str l) H := fun H s => rfl
end
end Kv

namespace Kv
open PySem PySem.Spec PyProof.Rows L2

/-- a comprehension's block -/
abbrev Bk (X : Cx) (scope : Scope) (s : Shared) (H : Hp) (C : Addr) (cl : List (Str × Addr)) (fp : List Addr) : Cx := X.blk s H scope (compEnvC scope cl C X.env) fp
def gB (X : Cx) (scope : Scope) (tg : Expr) : TG := fun v σ H Q => ∀ s H0 C cl fp, cG (Bk X scope s H0 C cl fp) tg v σ H Q
def eB (X : Cx) (scope : Scope) (e : Expr) : TE := fun σ H Q => ∀ s H0 C cl fp, cE (Bk X scope s H0 C cl fp) e σ H Q
def tBk (X : Cx) (scope : Scope) (e : Expr) : TT := fun σ H Q => ∀ s H0 C cl fp, cT (Bk X scope s H0 C cl fp) e σ H Q
section
variable {X : Cx} {σ : L2.St} {B : Hp} {L : HL} {Q : KQ} {D : KD} {pos p2 : Pos} {e a b c tg iter elt : Expr} {es : List Expr} {body : List Stmt} {scope : Scope} {own : List (Str × Nat)}
theorem pg_b : ∀ (s : Shared) (H : Hp) (C : Addr) (cl : List (Str × Addr)) (fp : List Addr), PG (X.blk s H scope (compEnvC scope cl C X.env) fp) tg (gB X scope tg) := fun s H0 C cl fp => ⟨fun pins s' σ H v u Q I r h => pg_c.run pins s' σ H v u Q I r (h s H0 C cl fp)⟩
theorem pe_b : ∀ (s : Shared) (H : Hp) (C : Addr) (cl : List (Str × Addr)) (fp : List Addr), PE (X.blk s H scope (compEnvC scope cl C X.env) fp) e (eB X scope e) := fun s H0 C cl fp => ⟨fun pins s' σ H Q I h => pe_c.run pins s' σ H Q I (h s H0 C cl fp)⟩
theorem pt_b : ∀ (s : Shared) (H : Hp) (C : Addr) (cl : List (Str × Addr)) (fp : List Addr), PT (X.blk s H scope (compEnvC scope cl C X.env) fp) e (tBk X scope e) := fun s H0 C cl fp => ⟨fun pins s' σ H Q I h => pt_c.run pins s' σ H Q I (h s H0 C cl fp)⟩
theorem pe_bu {e : Expr} {σ : L2.St} {H : Hp} {Q' : KQ} {Q : VK} (sat : Sat B L H) (h : ∀ s H0 C cl fp, kE (Bk X scope s H0 C cl fp) e σ B L Q') (m : ∀ v H' B' L', Sat B' L' H' → Q' v B' L' → Q v H') : eB X scope e σ H Q := fun s H0 C cl fp => toE sat (h s H0 C cl fp) m

/-- the slots of a comprehension with one name of its own -/
theorem wipe1 (σ : L2.St) (j : Nat) (x : V) : wipe ((wipe σ [j]).set j (some x)) [j] = wipe σ [j] := by simp [wipe, List.set_set]
theorem wipe1' (σ : L2.St) (j : Nat) (x : V) : (wipe σ [j]).set j (some x) = σ.set j (some x) := by simp [wipe, List.set_set]

theorem tyes {σ : L2.St} {H : Hp} {Q : Bool → Hp → Prop} (h : Q true H) : tYes σ H Q := h
/-- [elt for tg in iter if ..], of a list of names of its own -/
def kL (X : Cx) (elt tg iter : Expr) (ifs : List Expr) (scope : Scope) (own : List (Str × Nat)) (σ : L2.St) (B : Hp) (L : HL) (Q : KQ) : Prop :=
  X.calm = true ∧ X.N.Nodup ∧ BlkOk X.N X.env.scope scope own ∧ (∀ x, foldedSetIterable iter X.env x = pure x) ∧ ∃ tt, (∀ (s : Shared) (H : Hp) (C : Addr) (cl : List (Str × Addr)) (fp : List Addr), PTs (X.blk s H scope (compEnvC scope cl C X.env) fp) ifs tt) ∧
    ∀ H, Sat B L H → tLc (cR X tg iter) (gB X scope tg) tt (eB X scope elt) (own.map (·.2)) σ H (up Q)
theorem k_le {ifs : List Expr} (h : kL X elt tg iter ifs scope own σ B L Q) : kE X (.ListComp elt [⟨tg, iter, ifs, 0⟩] scope pos) σ B L Q := by
  obtain ⟨hc, hN, ok, hs, tt, ht, q⟩ := h
  exact ⟨_, pe_lc hc hN pi_c ok pg_b ht pe_b hs, q⟩
/-- name = [..] on one row -/
theorem k_sle (i : Nat) {y : Str} {py spos : Pos} {ifs : List Expr} (h : kL X elt tg iter ifs scope own σ B L fun v B1 L1 => D.nx (σ.set i (some v)) B1 L1)
    (hy : X.N[i]? = some y := by rfl) (hyl : X.env.scope.names.lookup y = some .local := by rfl) (hk : X.env.scope.kind = .function := by rfl) (hl : (py.line == pos.line) = true := by rfl) (ha : (scope.names.any fun (n, k) => n == y && (k == .local || k == .cell)) = false := by decide +kernel) :
    kS X (.Assign [.Name y py] (.ListComp elt [⟨tg, iter, ifs, 0⟩] scope pos) spos) σ B L D := by
  obtain ⟨hc, hN, ok, hs, tt, ht, q⟩ := h
  exact ⟨_, ps_setLc hc hN hy hyl (sw_true hk hyl hl ha) pi_c ok pg_b ht pe_b hs, fun H s => q H s⟩
/-- [elt for tg in iter] -/
theorem k_lc (hN : X.N.Nodup) (ok : BlkOk X.N X.env.scope scope own)
    (h : kR X tg iter σ B L fun J B1 L1 => ∃ (n : Nat) (G : Hp → Prop) (Y : Nat → Hp → V → Hp → Prop) (Pv : Nat → List V → Hp → HL → Prop), Walk J n G Y ∧ Pv 0 [] B1 L1 ∧ (∀ i acc B L H, i ≤ n → Pv i acc B L → Sat B L H → G H) ∧
      (∀ D i acc x B L H H', i < n → Pv i acc B L → Sat B ((D, .lst acc) :: L) H → Y i H x H' → ∃ B' L', Sat B' L' H' ∧ ∀ s H0 C cl fp, kG (Bk X scope s H0 C cl fp) tg x (wipe σ (own.map (·.2))) B' L' fun σ2 B2 L2 => wipe σ2 (own.map (·.2)) = wipe σ (own.map (·.2)) ∧
        ∀ s H0 C cl fp, kE (Bk X scope s H0 C cl fp) elt σ2 B2 L2 fun y B3 L3 => acc.length < 16777216 ∧ ∃ L4, L3 = (D, .lst acc) :: L4 ∧ Pv (i + 1) (acc ++ [y]) B3 L4) ∧
      ∀ acc B L D, Pv n acc B L → Q (.ref D) B ((D, .lst acc) :: L))
    (hc : X.calm = true := by rfl) (hs : ∀ x, foldedSetIterable iter X.env x = pure x := by intro _; rfl) : kL X elt tg iter [] scope own σ B L Q :=
  ⟨hc, hN, ok, hs, _, (fun _ _ _ _ _ => pts_nil), fun H s => ⟨B, L, _, s, h, fun J H1 B1 L1 s1 ⟨n, G, Y, Pv, w, p0, hG, ht, hd⟩ D hD =>
    lc_it w (fun i H => ∃ acc B L, Sat B ((D, .lst acc) :: L) H ∧ Pv i acc B L) ⟨[], B1, L1, s1.new hD, p0⟩ (fun i H hi ⟨acc, B, L, s, p⟩ => hG i acc B L H hi p s.drop)
      (fun i x H H' hi ⟨acc, B, L, s, p⟩ y => by
        obtain ⟨B', L', s', g⟩ := ht D i acc x B L H H' hi p s y
        intro sa Ha Ca cla fpa
        refine toG s' (g sa Ha Ca cla fpa) fun σ2 H2 B2 L2 s2 ⟨hw, q2⟩ => ⟨hw, ?_⟩
        refine tyes ?_
        rw [if_pos rfl]
        refine pe_bu s2 q2 fun v H3 B3 L3 s3 ⟨hl, L4, eL, q3⟩ => ?_
        subst eL
        exact ⟨acc, s3.own _ List.mem_cons_self, small' hl, acc ++ [v], B3, L4, s3.rep .here, q3⟩)
      fun H ⟨acc, B, L, s, p⟩ => ⟨_, _, s, hd acc B L D p⟩⟩⟩
/-- .. with one test -/
theorem k_lcf (hN : X.N.Nodup) (ok : BlkOk X.N X.env.scope scope own)
    (h : kR X tg iter σ B L fun J B1 L1 => ∃ (n : Nat) (G : Hp → Prop) (Y : Nat → Hp → V → Hp → Prop) (Pv : Nat → List V → Hp → HL → Prop), Walk J n G Y ∧ Pv 0 [] B1 L1 ∧ (∀ i acc B L H, i ≤ n → Pv i acc B L → Sat B L H → G H) ∧
      (∀ D i acc x B L H H', i < n → Pv i acc B L → Sat B ((D, .lst acc) :: L) H → Y i H x H' → ∃ B' L', Sat B' L' H' ∧ ∀ s H0 C cl fp, kG (Bk X scope s H0 C cl fp) tg x (wipe σ (own.map (·.2))) B' L' fun σ2 B2 L2 => wipe σ2 (own.map (·.2)) = wipe σ (own.map (·.2)) ∧
        ∀ s H0 C cl fp, kT (Bk X scope s H0 C cl fp) c σ2 B2 L2 fun k B3 L3 => (k = true → ∀ s H0 C cl fp, kE (Bk X scope s H0 C cl fp) elt σ2 B3 L3 fun y B3 L3 => acc.length < 16777216 ∧ ∃ L4, L3 = (D, .lst acc) :: L4 ∧ Pv (i + 1) (acc ++ [y]) B3 L4) ∧
          (k = false → ∃ L4, L3 = (D, .lst acc) :: L4 ∧ Pv (i + 1) acc B3 L4)) ∧
      ∀ acc B L D, Pv n acc B L → Q (.ref D) B ((D, .lst acc) :: L))
    (hc : X.calm = true := by rfl) (hs : ∀ x, foldedSetIterable iter X.env x = pure x := by intro _; rfl) : kL X elt tg iter [c] scope own σ B L Q :=
  ⟨hc, hN, ok, hs, _, (fun s H C cl fp => pts_one (pt_b s H C cl fp)), fun H s => ⟨B, L, _, s, h, fun J H1 B1 L1 s1 ⟨n, G, Y, Pv, w, p0, hG, ht, hd⟩ D hD =>
    lc_it w (fun i H => ∃ acc B L, Sat B ((D, .lst acc) :: L) H ∧ Pv i acc B L) ⟨[], B1, L1, s1.new hD, p0⟩ (fun i H hi ⟨acc, B, L, s, p⟩ => hG i acc B L H hi p s.drop)
      (fun i x H H' hi ⟨acc, B, L, s, p⟩ y => by
        obtain ⟨B', L', s', g⟩ := ht D i acc x B L H H' hi p s y
        intro sa Ha Ca cla fpa
        refine toG s' (g sa Ha Ca cla fpa) fun σ2 H2 B2 L2 s2 ⟨hw, q2⟩ => ⟨hw, ?_⟩
        intro sb Hb Cb clb fpb
        refine toT s2 (q2 sb Hb Cb clb fpb) fun k H3 B3 L3 s3 ⟨q3, q4⟩ => ?_
        cases k with
        | true =>
          rw [if_pos rfl]
          refine pe_bu s3 (q3 rfl) fun v H3 B3 L3 s3 ⟨hl, L4, eL, q3⟩ => ?_
          subst eL
          exact ⟨acc, s3.own _ List.mem_cons_self, small' hl, acc ++ [v], B3, L4, s3.rep .here, q3⟩
        | false =>
          obtain ⟨L4, eL, q5⟩ := q4 rfl
          subst eL
          rw [if_neg Bool.false_ne_true]
          exact ⟨acc, B3, L4, s3, q5⟩)
      fun H ⟨acc, B, L, s, p⟩ => ⟨_, _, s, hd acc B L D p⟩⟩⟩

/-! ### comprehensions that reckon each item by itself -/
/-- .. over a text -/
theorem k_lcm_s {x : Str} {j : Nat} {px : Pos} (g : Nat → V) (hN : X.N.Nodup) (ok : BlkOk X.N X.env.scope scope [(x, j)])
    (h : kE X iter σ B L fun v B1 L1 => ∃ l, v = .str (sOf l) ∧ l.length ≤ 16777216 ∧ (∀ c ∈ l, ∀ D acc s H0 C cl fp, kE (Bk X scope s H0 C cl fp) elt (σ.set j (some (.str (sOf [c])))) B1 ((D, .lst acc) :: L1) fun y B3 L3 => y = g c ∧ B3 = B1 ∧ L3 = (D, .lst acc) :: L1) ∧
      ∀ D, Q (.ref D) B1 ((D, .lst (l.map g)) :: L1))
    (hp : ∀ s H0 C cl fp, Loc (Bk X scope s H0 C cl fp).env.scope x := by intro _ _ _ _ _; first | exact Or.inl rfl | exact Or.inr rfl) (hf : ∀ s H0 C cl fp, (Bk X scope s H0 C cl fp).fn x = true ∨ (Bk X scope s H0 C cl fp).env.scope.names.lookup x = some .local := by intro _ _ _ _ _; first | exact .inr rfl | exact .inl rfl)
    (hj : X.N[j]? = some x := by rfl) (hc : X.calm = true := by rfl) (hs : ∀ x, foldedSetIterable iter X.env x = pure x := by intro _; rfl) : kL X elt (.Name x px) iter [] scope [(x, j)] σ B L Q :=
  k_lc hN ok (r_str (by
    obtain ⟨t, h1, h2⟩ := h
    refine ⟨_, pe_c, fun H s => toE s ⟨t, h1, h2⟩ fun v H' B1 L1 s' ⟨l, e, hl, ht, hd⟩ => ⟨B1, L1, s', l, e, (sOf l).cps.size, _, _, fun i acc B L => B = B1 ∧ L = L1 ∧ acc = (l.take i).map g, walk_str, ⟨rfl, rfl, by simp⟩, fun i acc B L H hi p s => trivial, ?_, ?_⟩⟩
    · rintro D i acc x B L H H' hi ⟨rfl, rfl, rfl⟩ s ⟨rfl, c, hx, rfl⟩
      have hx' : l[i]? = some c := by simpa [sOf] using hx
      refine ⟨_, _, s, fun sa Ha Ca cla fpa => g_name j ?_ hN hj (hp sa Ha Ca cla fpa) (hf sa Ha Ca cla fpa)⟩
      refine ⟨wipe1 σ j _, fun sb Hb Cb clb fpb => ?_⟩
      show kE _ _ ((wipe σ [j]).set j _) _ _ _
      rw [wipe1']
      obtain ⟨t2, k1, k2⟩ := ht c (List.mem_of_getElem? hx') D ((l.take i).map g) sb Hb Cb clb fpb
      refine ⟨_, pe_c, fun H s => toE s ⟨t2, k1, k2⟩ fun y H2 B2 L2 s2 ⟨e1, e2, e3⟩ => ⟨B2, L2, s2, ?_, L, e3, e2, rfl, ?_⟩⟩
      · have := (List.getElem?_eq_some_iff.mp hx').1
        simp; omega
      · rw [e1, List.take_add_one, hx']; simp
    · rintro acc B L D ⟨rfl, rfl, rfl⟩
      rw [sOf_size, List.take_length]
      exact hd D)) hc hs
/-- .. over a list -/
theorem k_lcm_l {x : Str} {j : Nat} {px : Pos} (g : V → V) (hN : X.N.Nodup) (ok : BlkOk X.N X.env.scope scope [(x, j)])
    (h : kE X iter σ B L fun v B1 L1 => ∃ a xs, v = .ref a ∧ Ls X.K B1 L1 a xs ∧ xs.length ≤ 16777216 ∧ (∀ z ∈ xs, ∀ D acc s H0 C cl fp, kE (Bk X scope s H0 C cl fp) elt (σ.set j (some z)) B1 ((D, .lst acc) :: L1) fun y B3 L3 => y = g z ∧ B3 = B1 ∧ L3 = (D, .lst acc) :: L1) ∧
      ∀ D, Q (.ref D) B1 ((D, .lst (xs.map g)) :: L1))
    (hp : ∀ s H0 C cl fp, Loc (Bk X scope s H0 C cl fp).env.scope x := by intro _ _ _ _ _; first | exact Or.inl rfl | exact Or.inr rfl) (hf : ∀ s H0 C cl fp, (Bk X scope s H0 C cl fp).fn x = true ∨ (Bk X scope s H0 C cl fp).env.scope.names.lookup x = some .local := by intro _ _ _ _ _; first | exact .inr rfl | exact .inl rfl)
    (hj : X.N[j]? = some x := by rfl) (hc : X.calm = true := by rfl) (hs : ∀ x, foldedSetIterable iter X.env x = pure x := by intro _; rfl) : kL X elt (.Name x px) iter [] scope [(x, j)] σ B L Q :=
  k_lc hN ok (r_list (by
    obtain ⟨t, h1, h2⟩ := h
    refine ⟨_, pe_c, fun H s => toE s ⟨t, h1, h2⟩ fun v H' B1 L1 s' ⟨a, xs, e, hls, hl, ht, hd⟩ => ⟨B1, L1, s', a, xs, e, hls, xs.length, _, _, fun i acc B L => B = B1 ∧ L = L1 ∧ acc = (xs.take i).map g, walk_list, ⟨rfl, rfl, by simp⟩, ?_, ?_, ?_⟩⟩
    · rintro i acc B L H hi ⟨rfl, rfl, _⟩ s
      exact hls.at s
    · rintro D i acc x B L H H' hi ⟨rfl, rfl, rfl⟩ s ⟨rfl, hx⟩
      refine ⟨_, _, s, fun sa Ha Ca cla fpa => g_name j ?_ hN hj (hp sa Ha Ca cla fpa) (hf sa Ha Ca cla fpa)⟩
      refine ⟨wipe1 σ j _, fun sb Hb Cb clb fpb => ?_⟩
      show kE _ _ ((wipe σ [j]).set j _) _ _ _
      rw [wipe1']
      obtain ⟨t2, k1, k2⟩ := ht x (List.mem_of_getElem? hx) D ((xs.take i).map g) sb Hb Cb clb fpb
      refine ⟨_, pe_c, fun H s => toE s ⟨t2, k1, k2⟩ fun y H2 B2 L2 s2 ⟨e1, e2, e3⟩ => ⟨B2, L2, s2, ?_, L, e3, e2, rfl, ?_⟩⟩
      · simp; omega
      · rw [e1, List.take_add_one, hx]; simp
    · rintro acc B L D ⟨rfl, rfl, rfl⟩
      rw [List.take_length]
      exact hd D)) hc hs

/-! ### a def's promise by its body -/
/-- what a def wants behind its body -/
def fD (Q : VK) : KD := { nx := fun _ B L => ∀ H, Sat B L H → Q .non H, rt := fun v B L => ∀ H, Sat B L H → Q v H }
theorem fn_okF {P : Program} {w : World} {K : PySem.W.Frag} {mg : Str → Option Value} {base : Heap} {x qual : Str} {st : Stmt} {f : Addr} {fd : FuncData} {N ps : List Str} {k : Nat} {sp : Sp} (F : Fun K x qual st f fd) (S : FnScope N ps (defScope st))
    (len : ∀ vs H Q E, sp vs H Q E → vs.length = ps.length)
    (hbody : ∀ (cdv : Value) (A : Around) (outer : List Env) (s : Shared) (H : Hp) (vs : List V) (Q : VK) (E : XK), Room k (A.deeper (envOfC qual (defScope st) s.heap.objs.size f cdv)) → sp vs H Q E →
      Takes (cxOf (L2.CX P w) P w K mg base N qual (defScope st) f cdv A outer s H E) (fun cls d _ H => E cls d H) →
      PassesOwn (model P w) (A.deeper (envOfC qual (defScope st) s.heap.objs.size f cdv)) (envOfC qual (defScope st) s.heap.objs.size f cdv) (cxOf (L2.CX P w) P w K mg base N qual (defScope st) f cdv A outer s H E).xe →
      ∃ B L, Sat B L H ∧ kSs (cxOf (L2.CX P w) P w K mg base N qual (defScope st) f cdv A outer s H E) (defBody st) (start N vs) B L (fD Q)) : FnOk P w K mg base (L2.CX P w) (k + 1) f fd ps sp := by
  refine F.okX S len fun cdv A outer s H vs Q E hr h => ?_
  obtain ⟨B, L, sat, t, h1, h2⟩ := hbody cdv A outer s H vs Q E hr h (takes_of rfl rfl rfl rfl) (passes_of rfl)
  refine ⟨_, pss_c, B, L, fD Q, sat, ⟨t, h1, h2⟩, ?_, ?_, ?_, ?_⟩
  · rintro σ' H' ⟨B', L', s', q⟩
    exact q H' s'
  · rintro v H' ⟨B', L', s', q⟩
    exact q H' s'
  · rintro σ' H' ⟨B', L', s', q⟩
    exact q.elim
  · rintro σ' H' ⟨B', L', s', q⟩
    exact q.elim
theorem fn_ok {P : Program} {w : World} {K : PySem.W.Frag} {mg : Str → Option Value} {base : Heap} {x qual : Str} {st : Stmt} {f : Addr} {fd : FuncData} {N ps : List Str} {k : Nat} {sp : Sp} (F : Fun K x qual st f fd) (S : FnScope N ps (defScope st)) (hm : mg x = some (.ref f))
    (hb : ∀ (kV doc pm : Value) (an : Option Addr) (cdv ct : Value) (us : List Value), us.length = ps.length → bindArgs (PySem.W.fnOf x qual (defArgs st) (defBody st) (defScope st) .none kV doc pm an cdv ct) ⟨us, []⟩ = pure (ps.zip us))
    (len : ∀ vs H Q E, sp vs H Q E → vs.length = ps.length)
    (hbody : ∀ (cdv : Value) (A : Around) (outer : List Env) (s : Shared) (H : Hp) (vs : List V) (Q : VK) (E : XK), Room k (A.deeper (envOfC qual (defScope st) s.heap.objs.size f cdv)) → sp vs H Q E →
      Takes (cxOf (L2.CX P w) P w K mg base N qual (defScope st) f cdv A outer s H E) (fun cls d _ H => E cls d H) →
      PassesOwn (model P w) (A.deeper (envOfC qual (defScope st) s.heap.objs.size f cdv)) (envOfC qual (defScope st) s.heap.objs.size f cdv) (cxOf (L2.CX P w) P w K mg base N qual (defScope st) f cdv A outer s H E).xe →
      ∃ B L, Sat B L H ∧ kSs (cxOf (L2.CX P w) P w K mg base N qual (defScope st) f cdv A outer s H E) (defBody st) (start N vs) B L (fD Q)) : Fn P w K mg base (k + 1) x sp := ⟨f, fd, ps, fn_okF F S len hbody, hm, F.kp, F.binds hb⟩
/-- a method of the class at C; the __init__ of one -/
theorem mt_ok {P : Program} {w : World} {K : PySem.W.Frag} {mg : Str → Option Value} {base : Heap} {x qual : Str} {st : Stmt} {C f : Addr} {fd : FuncData} {N ps : List Str} {k : Nat} {sp : Sp} (F : Fun K x qual st f fd) (S : FnScope N ps (defScope st)) (hm : Meth K C x f) (hc : Cls K C)
    (hb : ∀ (kV doc pm : Value) (an : Option Addr) (cdv ct : Value) (us : List Value), us.length = ps.length → bindArgs (PySem.W.fnOf x qual (defArgs st) (defBody st) (defScope st) .none kV doc pm an cdv ct) ⟨us, []⟩ = pure (ps.zip us))
    (len : ∀ vs H Q E, sp vs H Q E → vs.length = ps.length)
    (hbody : ∀ (cdv : Value) (A : Around) (outer : List Env) (s : Shared) (H : Hp) (vs : List V) (Q : VK) (E : XK), Room k (A.deeper (envOfC qual (defScope st) s.heap.objs.size f cdv)) → sp vs H Q E →
      Takes (cxOf (L2.CX P w) P w K mg base N qual (defScope st) f cdv A outer s H E) (fun cls d _ H => E cls d H) →
      PassesOwn (model P w) (A.deeper (envOfC qual (defScope st) s.heap.objs.size f cdv)) (envOfC qual (defScope st) s.heap.objs.size f cdv) (cxOf (L2.CX P w) P w K mg base N qual (defScope st) f cdv A outer s H E).xe →
      ∃ B L, Sat B L H ∧ kSs (cxOf (L2.CX P w) P w K mg base N qual (defScope st) f cdv A outer s H E) (defBody st) (start N vs) B L (fD Q)) : FnOk P w K mg base (L2.CX P w) (k + 1) f fd ps sp ∧ Binds K fd ps [] := ⟨fn_okF F S len hbody, F.binds hb⟩
end
end Kv

namespace Kv
open PySem PySem.Spec PyProof.Rows L2
section
variable {X : Cx} {σ : L2.St} {B : Hp} {L : HL} {Q : KQ} {D : KD} {pos p2 : Pos} {e a b c tg iter elt : Expr} {es : List Expr} {body : List Stmt}
theorem Sat.suf {L' : HL} {H : Hp} (h : L <:+ L') (s : Sat B L' H) : Sat B L H := by
  obtain ⟨t, rfl⟩ := h
  exact ⟨s.ext, fun p hp => s.own p (List.mem_append_right _ hp), fun p hp => s.nb p (List.mem_append_right _ hp), by
    have := s.nd
    rw [List.map_append] at this
    exact (List.nodup_append.mp this).2.1⟩
/-- an expression that comes to v, leaving what there was -/
theorem k_pure {v : V} (h : kE X e σ B L fun y B' L' => y = v ∧ B' = B ∧ L <:+ L') (q : Q v B L) : kE X e σ B L Q := by
  obtain ⟨t, h1, h2⟩ := h
  refine ⟨_, pe_c, fun H s => toE s ⟨t, h1, h2⟩ fun y H' B' L' s' ⟨e1, e2, e3⟩ => ?_⟩
  subst e1 e2
  exact ⟨B', L, s'.suf e3, q⟩
theorem t_pure {v : Bool} {Q : KB} (h : kT X e σ B L fun y B' L' => y = v ∧ B' = B ∧ L <:+ L') (q : Q v B L) : kT X e σ B L Q := by
  obtain ⟨t, h1, h2⟩ := h
  refine ⟨_, pt_c, fun H s => toT s ⟨t, h1, h2⟩ fun y H' B' L' s' ⟨e1, e2, e3⟩ => ?_⟩
  subst e1 e2
  exact ⟨B', L, s'.suf e3, q⟩
theorem w_pure {v : Bool} {Q : KB} (h : kW X e σ B L fun y B' L' => y = v ∧ B' = B ∧ L <:+ L') (q : Q v B L) : kW X e σ B L Q := by
  obtain ⟨t, h1, h2⟩ := h
  refine ⟨_, pw_c, fun H s => toW s ⟨t, h1, h2⟩ fun y H' B' L' s' ⟨e1, e2, e3⟩ => ?_⟩
  subst e1 e2
  exact ⟨B', L, s'.suf e3, q⟩
theorem k_andP (h : kE X a σ B L fun x B1 L1 => ∃ k1, x = .bl k1 ∧ ∃ k2 : Bool, (k1 = true → kE X (.BoolOp .And (b :: es) pos) σ B1 L1 fun y B2 L2 => y = .bl k2 ∧ B2 = B1 ∧ L1 <:+ L2) ∧ Q (.bl (k1 && k2)) B1 L1) : kE X (.BoolOp .And (a :: b :: es) pos) σ B L Q := by
  refine k_and ?_
  obtain ⟨t, h1, h2⟩ := h
  refine ⟨_, pe_c, fun H s => toE s ⟨t, h1, h2⟩ fun x H' B' L' s' ⟨k1, e, k2, h3, q⟩ => ⟨B', L', s', k1, e, fun hk => k_pure (h3 hk) ?_, fun hk => ?_⟩⟩
  · rw [hk] at q; exact q
  · rw [hk] at q; exact q
theorem k_orP (h : kE X a σ B L fun x B1 L1 => ∃ k1, x = .bl k1 ∧ ∃ k2 : Bool, (k1 = false → kE X (.BoolOp .Or (b :: es) pos) σ B1 L1 fun y B2 L2 => y = .bl k2 ∧ B2 = B1 ∧ L1 <:+ L2) ∧ Q (.bl (k1 || k2)) B1 L1) : kE X (.BoolOp .Or (a :: b :: es) pos) σ B L Q := by
  refine k_or ?_
  obtain ⟨t, h1, h2⟩ := h
  refine ⟨_, pe_c, fun H s => toE s ⟨t, h1, h2⟩ fun x H' B' L' s' ⟨k1, e, k2, h3, q⟩ => ⟨B', L', s', k1, e, fun hk => k_pure (h3 hk) ?_, fun hk => ?_⟩⟩
  · rw [hk] at q; exact q
  · rw [hk] at q; exact q
theorem w_andP {Q : KB} (h : kT X a σ B L fun k1 B1 L1 => ∃ k2 : Bool, (k1 = true → kW X (.BoolOp .And (b :: es) pos) σ B1 L1 fun y B2 L2 => y = k2 ∧ B2 = B1 ∧ L1 <:+ L2) ∧ Q (k1 && k2) B1 L1) : kW X (.BoolOp .And (a :: b :: es) pos) σ B L Q := by
  refine w_and ?_
  obtain ⟨t, h1, h2⟩ := h
  refine ⟨_, pt_c, fun H s => toT s ⟨t, h1, h2⟩ fun k1 H' B' L' s' ⟨k2, h3, q⟩ => ⟨B', L', s', fun hk => w_pure (h3 hk) ?_, fun hk => ?_⟩⟩
  · rw [hk] at q; exact q
  · rw [hk] at q; exact q
theorem w_orP {Q : KB} (h : kT X a σ B L fun k1 B1 L1 => ∃ k2 : Bool, (k1 = false → kW X (.BoolOp .Or (b :: es) pos) σ B1 L1 fun y B2 L2 => y = k2 ∧ B2 = B1 ∧ L1 <:+ L2) ∧ Q (k1 || k2) B1 L1) : kW X (.BoolOp .Or (a :: b :: es) pos) σ B L Q := by
  refine w_or ?_
  obtain ⟨t, h1, h2⟩ := h
  refine ⟨_, pt_c, fun H s => toT s ⟨t, h1, h2⟩ fun k1 H' B' L' s' ⟨k2, h3, q⟩ => ⟨B', L', s', fun hk => w_pure (h3 hk) ?_, fun hk => ?_⟩⟩
  · rw [hk] at q; exact q
  · rw [hk] at q; exact q
theorem k_ifeP (h : kT X c σ B L fun k B1 L1 => ∃ v1 v2 : V, (k = true → kE X a σ B1 L1 fun y B2 L2 => y = v1 ∧ B2 = B1 ∧ L1 <:+ L2) ∧ (k = false → kE X b σ B1 L1 fun y B2 L2 => y = v2 ∧ B2 = B1 ∧ L1 <:+ L2) ∧ Q (if k = true then v1 else v2) B1 L1) : kE X (.IfExp c a b pos) σ B L Q := by
  refine k_ife ?_
  obtain ⟨t, h1, h2⟩ := h
  refine ⟨_, pt_c, fun H s => toT s ⟨t, h1, h2⟩ fun k H' B' L' s' ⟨v1, v2, h3, h4, q⟩ => ⟨B', L', s', fun hk => k_pure (h3 hk) ?_, fun hk => k_pure (h4 hk) ?_⟩⟩
  · rw [if_pos hk] at q; exact q
  · rw [if_neg (by rw [hk]; exact Bool.false_ne_true)] at q; exact q
theorem k_neg (h : kE X a σ B L fun x B1 L1 => ∃ i, x = .int i ∧ Q (.int (-i)) B1 L1) : kE X (.UnaryOp .USub a pos) σ B L Q := ⟨_, pe_un un_neg pe_c, fun H s => toE s h fun _ _ _ _ s ⟨i, e, q⟩ => ⟨i, e, _, _, s, q⟩⟩
theorem k_s {x : Str} {j} (l : List Nat) (q : Q (.str (sOf l)) B L) (h : x = sOf l := by decide +kernel) : kE X (.Constant (.str x) j pos) σ B L Q := by
  subst h
  exact k_str q
theorem k_gs {x y : Str} {t : Tok} (hm : X.mg x = some (.str y t)) (q : Q (.str y) B L) (hg : Gl X x := by rfl) (hd : (x == ("__debug__" : Str)) = false := by decide) : kE X (.Name x pos) σ B L Q := k_g (v := .str y) hm ⟨t, rfl⟩ q hg hd
theorem k_gi {x : Str} {y : Int} {t : Tok} (hm : X.mg x = some (.int y t)) (q : Q (.int y) B L) (hg : Gl X x := by rfl) (hd : (x == ("__debug__" : Str)) = false := by decide) : kE X (.Name x pos) σ B L Q := k_g (v := .int y) hm ⟨t, rfl⟩ q hg hd
theorem k_fn {x : Str} {k : Nat} {sp : Sp} (F : Fn X.prog X.w X.K X.mg X.base k x sp) (hr : Room k X.A) (h : kA X (e :: es) σ B L fun vs B1 L1 => ∀ H, Sat B1 L1 H → sp vs H (up Q) (WE (fun _ _ _ _ => False) σ)) (hg : Gl X x := by rfl)
    (hdb : (x == ("__debug__" : Str)) = false := by decide) (he : starEach (e :: es) X.env = (false, eval e X.env) :: starEach es X.env := by rfl) (hpl : (backTo pos (starEach es X.env)).any (·.1) = false := by rfl) : kE X (.Call (.Name x p2) (e :: es) [] pos) σ B L Q := k_call F hr takes0 h hg hdb he hpl
/-- a built-in type's name as a value -/
theorem k_ty {x : Str} {T : String} (hm : X.mg x = none) (q : Q (.ty T) B L) (hv : bootBuiltins x = some (.type T) := by decide +kernel) (hg : Gl X x := by rfl) (hn : x ≠ "__name__" := by decide) (hd : (x == ("__debug__" : Str)) = false := by decide) : kE X (.Name x pos) σ B L Q :=
  ⟨_, pe_bltn (v := .ty T) hg hm hv rfl hn hd, fun H s => ⟨_, _, s, q⟩⟩
theorem i_sN {l : List Nat} {i : Int} (q : Q (.str (sOf [(atI l i).getD 0])) B L) (h : -(l.length : Int) ≤ i ∧ i < l.length) (hl : l.length ≤ 16777216) : kI X (.str (sOf l)) (.int i) B L Q := by
  refine i_str (c := (atI l i).getD 0) ?_ q hl
  unfold atI ixN
  by_cases h0 : 0 ≤ i
  · have : i.toNat < l.length := by omega
    rw [if_pos h0, if_pos h.2]
    simp [this]
  · have : (i + l.length).toNat < l.length := by omega
    rw [if_neg h0, if_pos h.1]
    simp [this]
theorem i_lN {p : Addr} {xs : List V} {i : Int} (h0 : Ls X.K B L p xs) (q : Q ((atI xs i).getD .non) B L) (h : -(xs.length : Int) ≤ i ∧ i < xs.length) : kI X (.ref p) (.int i) B L Q := by
  refine i_list (v := (atI xs i).getD .non) h0 ?_ q
  unfold atI ixN
  by_cases h0 : 0 ≤ i
  · have : i.toNat < xs.length := by omega
    rw [if_pos h0, if_pos h.2]
    simp [this]
  · have : (i + xs.length).toNat < xs.length := by omega
    rw [if_neg h0, if_pos h.1]
    simp [this]
theorem atI_n {α : Type} {l : List α} {j : Nat} : atI l (j : Int) = l[j]? := by
  unfold atI ixN
  rw [if_pos (by omega)]
  by_cases h : j < l.length
  · rw [if_pos (by omega)]; simp
  · rw [if_neg (by omega)]; simp; omega
theorem atI_neg {α : Type} {l : List α} {j : Nat} (h : j < l.length) : atI l (-1 - (j : Int)) = l[l.length - 1 - j]? := by
  unfold atI ixN
  rw [if_neg (by omega), if_pos (by omega)]
  have : (-1 - (j : Int) + (l.length : Int)).toNat = l.length - 1 - j := by omega
  simp [this]
/-- an int of a list of ints at a place -/
theorem i_li {p : Addr} {ns : List Int} {i : Int} (h0 : Ls X.K B L p (ns.map V.int)) (q : Q (.int ((atI ns i).getD 0)) B L) (h : -(ns.length : Int) ≤ i ∧ i < ns.length) : kI X (.ref p) (.int i) B L Q := by
  refine i_lN h0 ?_ (by simpa using h)
  have e : (atI (ns.map V.int) i).getD .non = .int ((atI ns i).getD 0) := by
    unfold atI ixN
    rw [List.length_map]
    by_cases h0 : 0 ≤ i
    · have : i.toNat < ns.length := by omega
      rw [if_pos h0, if_pos h.2]
      simp [this]
    · have : (i + ns.length).toNat < ns.length := by omega
      rw [if_neg h0, if_pos h.1]
      simp [this]
  rw [e]
  exact q
/-- text * number -/
def rep {α : Type} (l : List α) (n : Nat) : List α := (List.replicate n l).flatten
theorem rep_len {α : Type} (l : List α) (n : Nat) : (rep l n).length = n * l.length := by simp [rep]
theorem foldl_rep' (c : List Nat) : ∀ (k : Nat) (acc : List Nat), List.foldl (· ++ ·) acc.toArray (List.replicate k c.toArray) = (acc ++ (List.replicate k c).flatten).toArray
  | 0, acc => by simp
  | k + 1, acc => by
    rw [List.replicate_succ, List.foldl_cons, List.replicate_succ, List.flatten_cons, ← List.append_assoc, ← foldl_rep' c k (acc ++ c)]
    simp
theorem mul_is {l : List Nat} {n : Nat} : Txt.mul (sOf l) (n : Int) = sOf (rep l n) := by
  unfold Txt.mul rep
  by_cases h1 : (n : Int) < 1
  · have : n = 0 := by omega
    subst this
    rw [if_pos h1]
    rfl
  · rw [if_neg h1]
    split
    · rename_i h2
      simp only [Bool.or_eq_true, beq_iff_eq] at h2
      rcases h2 with h2 | h2
      · have : n = 1 := by omega
        subst this
        simp
      · rw [sOf_len] at h2
        have : l = [] := List.length_eq_zero_iff.mp h2
        subst this
        simp
    · have := foldl_rep' l n []
      simp only [List.nil_append] at this
      show (⟨_⟩ : Str) = ⟨_⟩
      congr 1
theorem o_muls {l : List Nat} {n : Nat} (q : Q (.str (sOf (rep l n))) B L) (h : l.length * n ≤ 16777216) (hn : (n : Int) < 2 ^ 62) : kO X (binaryOp .Mult) (.str (sOf l)) (.int (n : Int)) B L Q := by
  refine ⟨fun x y H Q => x = .str (sOf l) ∧ y = .int (n : Int) ∧ Q (.str (sOf (rep l n))) H, fun pins s σ H x y v u Q I rx ry ⟨e1, e2, q⟩ => ?_, fun H s => ⟨rfl, rfl, _, _, s, q⟩⟩
  subst e1 e2
  obtain ⟨t, rfl⟩ := rx
  obtain ⟨t', rfl⟩ := ry
  refine SB.mul ⟨?_, fun _ hh => ?_, fun _ hh => ?_⟩ fun t' k => ?_
  · have h1 : decide ((n : Int) < -(2 ^ 63 : Int)) = false := decide_eq_false (by omega)
    have h2 : decide ((n : Int) ≥ 2 ^ 63) = false := decide_eq_false (by omega)
    rw [h1, h2] <;> rfl
  · rw [sOf_len]
    simp only [Bool.or_eq_false_iff, beq_eq_false_iff_ne, ne_eq] at hh
    have hn0 : (0 : Int) < n := by omega
    intro hgt
    have h3 := Int.lt_mul_of_ediv_lt hn0 hgt
    have h4 : ((l.length * n : Nat) : Int) ≤ 16777216 := Int.ofNat_le.mpr h
    rw [Int.natCast_mul] at h4
    have h5 : (16777216 : Int) < 2 ^ 63 - 1 := by decide
    exact absurd (Int.lt_of_lt_of_le (Int.lt_trans h5 h3) h4) (Int.lt_irrefl _)
  · rw [sOf_len]
    have := small h
    rw [Int.toNat_natCast]
    unfold Builtin.Str.tooLong
    exact decide_eq_false (Nat.not_lt.mpr this)
  · rw [mul_is]
    exact ⟨V.str (sOf (rep l n)), _, I.tok _, ⟨_, rfl⟩, q⟩
end
end Kv

namespace KvR
open PySem PySem.Spec PyProof.Rows
theorem no_rev : typeLookup (.type "str") "__reversed__" = pure none := by rw [typeLookup_type, builtinLookup_eq_fast]; kernel_rfl
theorem has_get : typeLookup (.type "str") "__getitem__" = pure (some (.builtin "str.__getitem__")) := by rw [typeLookup_type, builtinLookup_eq_fast]; kernel_rfl
theorem not_dict : isSubtype (.type "str") (.type "dict") = pure false := by rw [isSubtype_type]; kernel_rfl
/-- reversed(text): the next place is i -/
def IsRs (h : Heap) (a : Addr) (x : Str) (t : Tok) (i : Int) : Prop := ∃ o, h.get? a = some o ∧ o.cls = .type "reversed" ∧ o.data = .fields #[.str x t, rawInt i]
def rsObj (x : Str) (t : Tok) (i : Int) : Obj := { cls := .type "reversed", data := .fields #[.str x t, rawInt i] }
section
variable {prog : Program} {w : World} {A : Around} {E : Value → Shared → Prop} {s : Shared}
theorem IsRs.ty {a : Addr} {x : Str} {t : Tok} {i : Int} (q : IsRs s.heap a x t i) : s.TypeIs (.ref a) "reversed" := let ⟨o, ho, hc, _⟩ := q; ⟨o, ho, hc⟩
theorem code_rev {x : Str} {t : Tok} {Q₁ : Value → Shared → Prop}
    (hlen : ∀ (A : Around) (E : Value → Shared → Prop) (Q : Value → Shared → Prop), (∀ tk u, Q (.int x.length u) { s with toks := tk }) → wpAny (model prog w) A (call (.builtin "len") [.str x t]) Q E s)
    (h : ∀ tk, Q₁ (.ref s.heap.objs.size) { s with heap := s.heap.push (rsObj x t ((x.length : Int) - 1)), toks := tk }) :
    codeAny (model prog w) A (.call (.builtin "reversed.__new__") ⟨[.type "reversed", .str x t], []⟩) (wants Q₁ E) s := by
  have hT : s.TypeIs (.str x t) "str" := typeIs_str s x t
  refine codeAny_of_tree ?_
  show wpAny _ A.in1 (do checkBuiltinCall "reversed.__new__" ⟨[.type "reversed", .str x t], []⟩; again (.builtin "reversed.__new__" ⟨[.type "reversed", .str x t], []⟩)) _ _ s
  refine wpAny_bind (wpAny_of_eq (F.newCall_reversed_1 _) (wpAny_pure ⟨plainId_quiet F.plain_reversed_new _, codeAny_builtin F.entry_reversed_new ?_⟩))
  rw [Around.under_plainId F.plain_reversed_new _]
  unfold Builtin.«reversed.__new__»
  refine wpAny_bind (wpAny_of_eq (newClass_reversed _) ?_)
  refine wpAny_bind (wpAny_of_eq (a := ()) (by first | rfl | kernel_rfl) ?_)
  refine wpAny_bind (wpAny_of_eq (a := ()) (by first | rfl | kernel_rfl) ?_)
  refine wpAny_bind (wpAny_specialOf hT no_rev ?_)
  refine wpAny_bind ?_
  wp_delta
  refine wpAny_bind (wpAny_isInstance (T := "str") (U := "dict") (b := false) hT not_dict ?_)
  try rw [if_neg Bool.false_ne_true]
  refine wpAny_bind (wpAny_specialOf hT has_get ?_)
  try rw [if_pos (by decide +kernel)]
  refine wpAny_pure ?_
  try rw [if_neg (by decide)]
  refine wpAny_bind (hlen _ _ _ fun tk u => ?_)
  refine wpAny_bind (wpAny_of_eq (a := some ((x.length : Nat) : Int)) rfl ?_)
  refine wpAny_bind ?_
  show wpAny _ _ (newObj (.type "reversed") (.fields #[.str x t, rawInt ((x.length : Int) - 1)])) _ _ _
  refine wpAny_newObj_type ?_
  exact wpAny_pure (h tk)
theorem call_rev {x : Str} {t : Tok} {Q : Value → Shared → Prop}
    (hlen : ∀ (A : Around) (E : Value → Shared → Prop) (Q : Value → Shared → Prop), (∀ tk u, Q (.int x.length u) { s with toks := tk }) → wpAny (model prog w) A (call (.builtin "len") [.str x t]) Q E s)
    (h : ∀ tk, Q (.ref s.heap.objs.size) { s with heap := s.heap.push (rsObj x t ((x.length : Int) - 1)), toks := tk }) : wpAny (model prog w) A (call (.type "reversed") [.str x t]) Q E s := by
  refine callType_codes (Q₁ := fun obj s₁ => s₁.TypeIs obj "reversed" ∧ Q obj s₁) RT.called_rt (F.typeCall_reversed_1 _) F.entry_object_init
    (code_rev (A := A.in1) hlen fun tk => ⟨⟨_, Heap.get?_push_size _ rfl, rfl⟩, h tk⟩) fun obj s₁ h₁ => ?_
  exact ⟨h₁.1, F.args_object_init_2 obj _, object_init_meets RT.called_rt.init.lookup RT.called_rt.made (by decide) prog w A.in1 _ s₁ ⟨h₁.1, rfl, h₁.2⟩⟩
theorem next_item {it : Addr} {i : Nat} {x : Str} {t : Tok} {c : Nat} {Q : Option Value → Shared → Prop} (hit : IsRs s.heap it x t (i : Int)) (hx : x.cps[i]? = some c) (hsz : x.length ≤ sizeLine)
    (hQ : ∀ h' tk u, IsRs h' it x t ((i : Int) - 1) → Heap.SameBut it s.heap h' → Q (some (.str ⟨#[c]⟩ u)) { s with heap := h', toks := tk }) : wpAny (model prog w) A (pyNext (.ref it)) Q E s := by
  obtain ⟨o, ho, hc, hd⟩ := id hit
  have hi : i < x.length := (Array.getElem?_eq_some_iff.mp hx).1
  have hT : s.TypeIs (.str x t) "str" := typeIs_str s x t
  rw [sizeLine_eq] at hsz
  unfold pyNext
  refine wpAny_bind (wpAny_attempt (wpAny_callSpecial?_slot (name := Str.ofString "__next__") hit.ty RT.slot_rt_next (wpAny_call_entry RT.slot_rt_next hit.ty RT.entry_rt_next ?_ (RT.args_rt_next _))))
  unfold Builtin.«reversed.__next__»
  refine wpAny_bind (wpAny_of_eq (a := (Value.ref it, [])) rfl ?_)
  refine wpAny_bind (wpAny_field ho hd (x := .str x t) rfl ?_)
  refine wpAny_bind (wpAny_field ho hd (x := rawInt (i : Int)) rfl ?_)
  show wpAny _ _ (if (i : Int) < 0 then _ else _) _ _ s
  rw [if_neg (by omega)]
  refine wpAny_bind (wpAny_specialOf hT has_get ?_)
  try rw [if_neg (by decide)]
  refine wpAny_bind (wpAny_mkInt ?_)
  refine wpAny_bind (wpAny_attempt ?_)
  have fin : seqIndex? (i : Int) x.length = some i := PySem.StrLaws.seqIndex_nonneg (by omega) (by omega)
  have e1 : decide ((i : Int) < -(2 ^ 63 : Int)) = false := decide_eq_false (by omega)
  have e2 : decide ((i : Int) ≥ 2 ^ 63) = false := decide_eq_false (by omega)
  refine getItem_str (s := { s with toks := s.toks + 1 }) (c := c) (by rw [e1, e2] <;> rfl) (by rw [fin]; exact hx) ?_
  try dsimp only
  refine wpAny_bind (wpAny_field (s := { s with toks := s.toks + 1 + 1 }) ho hd (x := rawInt (i : Int)) rfl ?_)
  try dsimp only
  refine wpAny_bind (wpAny_setField (s := { s with toks := s.toks + 1 + 1 }) ho hd (by simp) ?_)
  first
  | refine wpAny_pure ⟨_, rfl, wpAny_pure (hQ _ _ _ ?_ (Heap.SameBut.update ..))⟩
  | refine wpAny_bind (wpAny_pure (wpAny_pure ⟨_, rfl, wpAny_pure (hQ _ _ _ ?_ (Heap.SameBut.update ..))⟩))
  exact ⟨_, Heap.get?_update_self _ ho (Obj.isFreed_of_fields (Obj.data_mapFields hd _)), (Obj.cls_mapFields ..).trans hc, by
    rw [Obj.data_mapFields hd]; simp⟩
theorem next_end {it : Addr} {x : Str} {t : Tok} {Q : Option Value → Shared → Prop} (hh : A.handled = none) (hit : IsRs s.heap it x t (-1))
    (hQ : ∀ h', Heap.ExtBut it s.heap h' → Q none { s with heap := h' }) : wpAny (model prog w) A (pyNext (.ref it)) Q E s := by
  obtain ⟨o, ho, hc, hd⟩ := id hit
  unfold pyNext
  refine wpAny_bind (wpAny_attempt (wpAny_callSpecial?_slot (name := Str.ofString "__next__") hit.ty RT.slot_rt_next (wpAny_call_entry RT.slot_rt_next hit.ty RT.entry_rt_next ?_ (RT.args_rt_next _))))
  unfold Builtin.«reversed.__next__»
  refine wpAny_bind (wpAny_of_eq (a := (Value.ref it, [])) rfl ?_)
  refine wpAny_bind (wpAny_field ho hd (x := .str x t) rfl ?_)
  refine wpAny_bind (wpAny_field ho hd (x := rawInt (-1)) rfl ?_)
  show wpAny _ _ (if (-1 : Int) < 0 then _ else _) _ _ s
  rw [if_pos (by decide)]
  refine wpAny_bind (wpAny_rule ?_)
  refine wpAny_bind ?_
  wp_delta
  refine wpAny_bind (wpAny_setField ho hd (by simp) ?_)
  have ho2 := Heap.get?_update_self (Obj.mapFields (·.setIfInBounds 1 (rawInt (-1)))) ho (Obj.isFreed_of_fields (Obj.data_mapFields hd _))
  refine wpAny_setField (s := { s with heap := s.heap.update it (Obj.mapFields (·.setIfInBounds 1 (rawInt (-1)))) }) ho2 (Obj.data_mapFields hd _) (by simp) ?_
  first
  | show wpAny _ _ (newExc (.type "StopIteration") [] >>= _) _ _ _
  | (refine wpAny_bind ?_; show wpAny _ _ (newExc (.type "StopIteration") [] >>= _) _ _ _)
  | (refine wpAny_bind ?_; wp_delta; show wpAny _ _ (newExc (.type "StopIteration") [] >>= _) _ _ _)
  refine wpAny_bind ?_
  simp only [newExc, newTuple]
  refine wpAny_bind (wpAny_newObj_type ?_ (by size_fits))
  refine wpAny_bind (m := firstArgMember _ _) (wpAny_of_eq (a := Value.none) (by first | rfl | (simp only [firstArgMember]; rfl)) ?_)
  refine wpAny_newObj_type ?_ (by size_fits)
  simp only [raiseNew]
  refine wpAny_bind (wpAny_handled ?_)
  first | rw [show A.in1.handled = none from hh] | rw [hh]
  refine wpAny_bind (wpAny_pure (wpAny_throw ?_))
  refine wpAny_bind (wpAny_isInstance (T := "StopIteration") (b := true) ⟨_, Heap.get?_push_size _ rfl, rfl⟩ isSubtype_stop ?_)
  refine wpAny_pure (hQ _ ?_)
  refine ((?_ : Heap.ExtBut it s.heap _).push _).push _
  exact fun b ob hb e => (Heap.get?_update_other _ _ (Ne.symm hb)).trans ((Heap.get?_update_other _ _ (Ne.symm hb)).trans e)
theorem iter_self {it : Addr} {x : Str} {t : Tok} {i : Int} {Q : Value → Shared → Prop} (hit : IsRs s.heap it x t i) (h : Q (.ref it) s) : wpAny (model prog w) A (pyIter (.ref it)) Q E s := by
  refine wpAny_pyIter_slot hit.ty RT.slot_rt_iter (wpAny_call_entry RT.slot_rt_iter hit.ty RT.entry_rt_iter ?_ (RT.args_rt_iter _))
  show wpAny _ _ (ret (.ref it)) _ _ s
  exact wpAny_pure ⟨_, rfl, "reversed", _, hit.ty, RT.slot_rt_next.lookup, h⟩
end
end KvR
namespace Kv
open PySem PySem.Spec PyProof.Rows L2
/-- a text's signs from behind -/
def Irs (x : Str) : It := ⟨fun i _ => i < x.cps.size, fun i H v H' => H' = H ∧ ∃ c, x.cps[x.cps.size - 1 - i]? = some c ∧ v = .str ⟨#[c]⟩, fun i _ => i = x.cps.size⟩
theorem turn_rs {P : Program} {w : World} {K : PySem.W.Frag} {tg : Expr} (it : Addr) (x : Str) (t : Tok) (hsz : x.length ≤ sizeLine) :
    Turn P w K tg (Irs x) [it] it (fun i h => KvR.IsRs h it x t ((x.cps.size : Int) - 1 - (i : Nat))) where
  mem := by simp
  obj := fun i h st b hb => by
    have e : b = it := by simpa using hb
    subst e
    obtain ⟨o, e, c, d⟩ := st
    exact ⟨o, e, fun v z => by rw [d] at z; cases z⟩
  keep := fun i h h' st k => let ⟨o, ho, r⟩ := st; ⟨o, k it (by simp) o ho, r⟩
  item := by
    intro X hP hw hK hc i pins s σ H E I hf st hg
    subst hP hw hK
    obtain ⟨f0, f1, f2, f3, f4, f5⟩ := hf it (by simp)
    have hi : i < x.cps.size := hg
    have e0 : ((x.cps.size : Int) - 1 - (i : Nat)) = ((x.cps.size - 1 - i : Nat) : Int) := by omega
    have st' : KvR.IsRs s.heap it x t ((x.cps.size - 1 - i : Nat) : Int) := by rw [← e0]; exact st
    have hx : x.cps[x.cps.size - 1 - i]? = some (x.cps[x.cps.size - 1 - i]'(by omega)) := by simp [show x.cps.size - 1 - i < x.cps.size by omega]
    refine KvR.next_item st' hx hsz fun h' tk u hit hs => ?_
    have I1 : Inv X pins σ H { s with heap := h', toks := tk } := I.turned (fun b o hb e => (hs.2 b (by simpa using hb)).trans e) f0 f1 f3 f4 f5
    obtain ⟨oi, e, cc, dd⟩ := id hit
    refine ⟨_, rfl, go_of (s := { s with heap := h', toks := tk }) e cc dd (by decide) ⟨.str ⟨#[_]⟩, H, I1, ⟨u, rfl⟩, ⟨rfl, _, hx, rfl⟩, ?_, fun b hb => (hf b hb).1⟩⟩
    have e1 : ((x.cps.size : Int) - 1 - ((i + 1 : Nat) : Int)) = ((x.cps.size - 1 - i : Nat) : Int) - 1 := by omega
    rw [e1]
    exact hit
  done := by
    intro X hP hw hK hc i pins s σ H E I hf st hg
    subst hP hw hK
    obtain ⟨f0, f1, f2, f3, f4, f5⟩ := hf it (by simp)
    have hi : i = x.cps.size := hg
    have e0 : ((x.cps.size : Int) - 1 - (i : Nat)) = -1 := by omega
    rw [e0] at st
    exact KvR.next_end (I.ok.hd hc) st fun h' eb => ⟨rfl, I.turned (t' := s.toks) (fun b o hb e => eb b o (by simpa using hb) e) f0 f1 f3 f4 f5⟩
  self := fun A i s Q E st h => KvR.iter_self st h
theorem walk_rs {x : Str} : Walk (Irs x) x.cps.size (fun _ => True) (fun i H v H' => H' = H ∧ ∃ c, x.cps[x.cps.size - 1 - i]? = some c ∧ v = .str ⟨#[c]⟩) := ⟨fun _ _ hi _ => hi, fun _ _ => rfl, fun _ _ _ _ _ _ y => y⟩
theorem pi_rs {X : Cx} {tg e : Expr} {te : TE} {p pos : Pos} (hg : Gl X "reversed") (hm : X.mg "reversed" = none) (he : PE X e te) (hs : starEach [e] X.env = (false, eval e X.env) :: starEach [] X.env := by rfl) (hs' : starEach [e] X.env = [(false, eval e X.env)] := by rfl) :
    PI X tg (.Call (.Name "reversed" p) [e] [] pos) (fun σ H R => te σ H fun v H1 => ∃ x, v = .str x ∧ x.length ≤ sizeLine ∧ R (Irs x) H1) := by
  refine ⟨fun pins s σ H R I h => ?_⟩
  refine Call_ (ld_blt I hg hm PyProof.Rows.boot_reversed (PyProof.Rows.callWith_type1 (thn ((pa_cons he pa_nil hs).run pos pins s σ H (fun vs H1 => ∃ x, vs = [.str x] ∧ x.length ≤ sizeLine ∧ R (Irs x) H1) I ?_) fun us s1 ⟨vs, H1, I1, r1, q1⟩ => ?_) hs' rfl))
  · have hh : (fun v H1 => ∃ x, v = V.str x ∧ x.length ≤ sizeLine ∧ R (Irs x) H1) = fun v H1 => tNil σ H1 fun xs H2 => ∃ x, v :: xs = [V.str x] ∧ x.length ≤ sizeLine ∧ R (Irs x) H2 := by
      funext v H1
      simp [tNil]
    show te σ H _
    rw [← hh]
    exact h
  obtain ⟨x, ex, hl, q⟩ := q1
  subst ex
  cases r1 with
  | cons r rr =>
    cases rr
    obtain ⟨t, rfl⟩ := r
    refine KvR.call_rev (fun A E Q hq => ?_) fun tk => ?_
    · have hn := line63
      exact P.len_str (by omega) (hq _ _)
    · have I2 : Inv X pins σ H1 { s1 with heap := s1.heap.push (KvR.rsObj x t ((x.length : Int) - 1)), toks := tk } := I1.kept (t' := tk) fun b o z => Heap.get?_push_of_some _ z
      have st : KvR.IsRs (s1.heap.push (KvR.rsObj x t ((x.length : Int) - 1))) s1.heap.objs.size x t ((x.length : Int) - 1) := ⟨_, Heap.get?_push_size _ rfl, rfl, rfl⟩
      refine KvR.iter_self st (pi_one (tk := tk) I1 _ (turn_rs _ x t hl) ?_ q)
      have e0 : ((x.cps.size : Int) - 1 - ((0 : Nat) : Int)) = (x.length : Int) - 1 := by show _ = (x.cps.size : Int) - 1; omega
      show KvR.IsRs _ _ _ _ ((x.cps.size : Int) - 1 - ((0 : Nat) : Int))
      rw [e0]
      exact st
section
variable {X : Cx} {σ : L2.St} {B : Hp} {L : HL} {Q : KQ} {D : KD} {pos p2 pos' : Pos} {e a b c tg iter elt : Expr} {es : List Expr} {body : List Stmt} {scope : Scope}
theorem r_rs {R : It → Hp → HL → Prop} (hm : X.mg "reversed" = none) (h : kE X e σ B L fun v B1 L1 => ∃ l, v = .str (sOf l) ∧ l.length ≤ 16777216 ∧ R (Irs (sOf l)) B1 L1) (hg : Gl X "reversed" := by rfl) (hs : starEach [e] X.env = (false, eval e X.env) :: starEach [] X.env := by rfl) (hs' : starEach [e] X.env = [(false, eval e X.env)] := by rfl) :
    kR X tg (.Call (.Name "reversed" p2) [e] [] pos) σ B L R := ⟨_, pi_rs hg hm pe_c hs hs', fun H s => toE s h fun _ _ _ _ s ⟨l, e, hl, q⟩ => ⟨_, e, by rw [sOf_len]; exact small hl, _, _, s, q⟩⟩
/-- a comprehension over a text from behind -/
theorem k_lcm_rs {x : Str} {j : Nat} {px : Pos} (g : Nat → V) (hN : X.N.Nodup) (ok : BlkOk X.N X.env.scope scope [(x, j)]) (hm : X.mg "reversed" = none)
    (h : kE X e σ B L fun v B1 L1 => ∃ l, v = .str (sOf l) ∧ l.length ≤ 16777216 ∧ (∀ c ∈ l, ∀ D acc s H0 C cl fp, kE (Bk X scope s H0 C cl fp) elt (σ.set j (some (.str (sOf [c])))) B1 ((D, .lst acc) :: L1) fun y B3 L3 => y = g c ∧ B3 = B1 ∧ L3 = (D, .lst acc) :: L1) ∧
      ∀ D, Q (.ref D) B1 ((D, .lst (l.reverse.map g)) :: L1))
    (hp : ∀ s H0 C cl fp, Loc (Bk X scope s H0 C cl fp).env.scope x := by intro _ _ _ _ _; first | exact Or.inl rfl | exact Or.inr rfl) (hf : ∀ s H0 C cl fp, (Bk X scope s H0 C cl fp).fn x = true ∨ (Bk X scope s H0 C cl fp).env.scope.names.lookup x = some .local := by intro _ _ _ _ _; first | exact .inr rfl | exact .inl rfl)
    (hg : Gl X "reversed" := by rfl) (hst : starEach [e] X.env = (false, eval e X.env) :: starEach [] X.env := by rfl) (hst' : starEach [e] X.env = [(false, eval e X.env)] := by rfl)
    (hj : X.N[j]? = some x := by rfl) (hc : X.calm = true := by rfl) (hs : ∀ x, foldedSetIterable (.Call (.Name "reversed" p2) [e] [] pos') X.env x = pure x := by intro _; rfl) :
    kL X elt (.Name x px) (.Call (.Name "reversed" p2) [e] [] pos') [] scope [(x, j)] σ B L Q :=
  k_lc hN ok (r_rs hm (by
    obtain ⟨t, h1, h2⟩ := h
    refine ⟨_, pe_c, fun H s => toE s ⟨t, h1, h2⟩ fun v H' B1 L1 s' ⟨l, e, hl, ht, hd⟩ => ⟨B1, L1, s', l, e, hl, (sOf l).cps.size, _, _, fun i acc B L => B = B1 ∧ L = L1 ∧ acc = (l.reverse.take i).map g, walk_rs, ⟨rfl, rfl, by simp⟩, fun i acc B L H hi p s => trivial, ?_, ?_⟩⟩
    · rintro D i acc x B L H H' hi ⟨rfl, rfl, rfl⟩ s ⟨rfl, c, hx, rfl⟩
      rw [sOf_size] at hi
      have hx1 : l[l.length - 1 - i]? = some c := by simpa [sOf] using hx
      have hx' : l.reverse[i]? = some c := by rw [List.getElem?_reverse hi]; exact hx1
      refine ⟨_, _, s, fun sa Ha Ca cla fpa => g_name j ?_ hN hj (hp sa Ha Ca cla fpa) (hf sa Ha Ca cla fpa)⟩
      refine ⟨wipe1 σ j _, fun sb Hb Cb clb fpb => ?_⟩
      show kE _ _ ((wipe σ [j]).set j _) _ _ _
      rw [wipe1']
      obtain ⟨t2, k1, k2⟩ := ht c (List.mem_of_getElem? hx1) D ((l.reverse.take i).map g) sb Hb Cb clb fpb
      refine ⟨_, pe_c, fun H s => toE s ⟨t2, k1, k2⟩ fun y H2 B2 L2 s2 ⟨e1, e2, e3⟩ => ⟨B2, L2, s2, ?_, L, e3, e2, rfl, ?_⟩⟩
      · simp; omega
      · rw [e1, List.take_add_one, hx']; simp
    · rintro acc B L D ⟨rfl, rfl, rfl⟩
      rw [sOf_size, show l.length = l.reverse.length by simp, List.take_length]
      exact hd D) hg hst hst') hc hs
theorem k_for_rs (Pv : Nat → KN) (hp : PassesOwn (model X.prog X.w) X.A X.env X.xe) (hm : X.mg "reversed" = none)
    (h : kE X e σ B L fun v B1 L1 => ∃ l, v = .str (sOf l) ∧ l.length ≤ 16777216 ∧ Pv 0 σ B1 L1 ∧
      (∀ i c σ B L, l.reverse[i]? = some c → Pv i σ B L → kG X tg (.str (sOf [c])) σ B L fun σ2 B2 L2 => kSs X body σ2 B2 L2 { D with nx := Pv (i + 1), ct := Pv (i + 1), bk := D.nx }) ∧ ∀ σ B L, Pv l.length σ B L → D.nx σ B L)
    (hg : Gl X "reversed" := by rfl) (hst : starEach [e] X.env = (false, eval e X.env) :: starEach [] X.env := by rfl) (hst' : starEach [e] X.env = [(false, eval e X.env)] := by rfl)
    (hc : X.calm = true := by rfl) (hs : ∀ x, foldedSetIterable (.Call (.Name "reversed" p2) [e] [] pos') X.env x = pure x := by intro _; rfl) : kS X (.For tg (.Call (.Name "reversed" p2) [e] [] pos') body [] pos) σ B L D :=
  k_for hp (r_rs hm (by
    obtain ⟨t, h1, h2⟩ := h
    refine ⟨_, pe_c, fun H s => toE s ⟨t, h1, h2⟩ fun v H' B' L' s' ⟨l, e, hl, p0, ht, hd⟩ => ⟨B', L', s', l, e, hl, (sOf l).cps.size, _, _, Pv, walk_rs, p0, fun i σ B L H hi p s => trivial, fun i x σ B L H H' hi p s y => ?_, by rw [sOf_size]; exact hd⟩⟩
    obtain ⟨rfl, c, hx, rfl⟩ := y
    rw [sOf_size] at hi
    have hx1 : l[l.length - 1 - i]? = some c := by simpa [sOf] using hx
    exact ⟨B, L, s, ht i c σ B L (by rw [List.getElem?_reverse hi]; exact hx1) p⟩) hg hst hst') hc hs
end
end Kv

namespace Kv
open PySem PySem.Spec PyProof.Rows L2 TL
theorem rev_is (l : List Nat) (u : Tok) : Txt.sliceBy (sOf l) none none (-1, u) = sOf l.reverse := by
  apply ext_toList
  rw [step_rev_list, sOf_len]
  show _ = l.reverse.toArray.toList
  rw [List.toList_toArray]
  apply List.ext_getElem
  · simp
  · intro i h1 h2
    simp at h1 h2
    simp [sOf, Array.getD, List.getElem_reverse, show l.length - 1 - i < l.length by omega]
section
variable {X : Cx} {σ : L2.St} {B : Hp} {L : HL} {Q : KQ} {D : KD} {pos p2 pos' p1 p3 : Pos} {e a b c tg iter elt : Expr} {es : List Expr} {body : List Stmt} {scope : Scope}
/-- text[::-1] -/
theorem k_revs {k : Nat} (h : kE X e σ B L fun v B1 L1 => ∃ l, v = .str (sOf l) ∧ l.length ≤ 16777216 ∧ Q (.str (sOf l.reverse)) B1 L1) : kE X (.Subscript e (.Slice none none (some (.UnaryOp .USub (.Constant (.int 1) k p1) p2)) p3) pos) σ B L Q := by
  refine ⟨fun σ H Q => cE X e σ H fun v H1 => ∃ l, v = .str (sOf l) ∧ l.length ≤ 16777216 ∧ Q (.str (sOf l.reverse)) H1, ⟨fun pins s σ H Q I h => ?_⟩, fun H s => toE s h fun _ _ _ _ s ⟨l, e, hl, q⟩ => ⟨l, e, hl, _, _, s, q⟩⟩
  refine Subscript_ (thn (pe_c.run pins s σ H _ I h) fun v s1 ⟨x, H1, I1, r1, l, ex, hl, q⟩ => ?_)
  subst ex
  obtain ⟨t, rfl⟩ := r1
  have part : PO X (some (.UnaryOp .USub (.Constant (.int 1) k p1) p2)) (tPart (tUn (rU fun i => .int (-i)) (tC (.int 1)))) := po_some (pe_un un_neg pe_int)
  refine wpAny_Slice (thn (po_none.run pins s1 σ H1 (fun o H2 => o = none ∧ H2 = H1) I1 ⟨rfl, rfl⟩) fun vl s2 ⟨o1, H2, I2, pl, e1, e2⟩ => ?_)
  subst e1 e2
  refine thn (po_none.run pins s2 σ H2 (fun o H3 => o = none ∧ H3 = H2) I2 ⟨rfl, rfl⟩) fun vu s3 ⟨o2, H3, I3, pu, e1, e2⟩ => ?_
  subst e1 e2
  refine thn (part.run pins s3 σ H3 (fun o H4 => o = some (-1) ∧ H4 = H3) I3 ⟨1, rfl, -1, rfl, rfl, rfl⟩) fun vs s4 ⟨o3, H4, I4, ps, e1, e2⟩ => ?_
  subst e1 e2
  have I5 : Inv X pins σ H4 { s4 with heap := s4.heap.push { cls := .type "slice", data := .fields #[vl, vu, vs] } } := I4.kept (t' := s4.toks) fun b ob q => Heap.get?_push_of_some _ q
  cases pl
  cases pu
  obtain ⟨st, rfl, hst⟩ := IsPart.raw ps
  cases st with
  | none => cases hst
  | some z =>
    obtain ⟨zk, zu⟩ := z
    have ez : zk = -1 := Option.some.inj hst
    subst ez
    show wpAny (model X.prog X.w) X.A (subscriptTail e (.Slice none none (some (.UnaryOp .USub (.Constant (.int 1) k p1) p2)) p3) (.str (sOf l) t) (.ref s4.heap.objs.size)) (EP X pins σ Q) X.xe { s4 with heap := s4.heap.push { cls := .type "slice", data := .fields #[.none, .none, _] } }
    refine tail_any (ops := [.str (sOf l) t, .ref s4.heap.objs.size]) (typeIs_str _ _ _) (F.slot_str_getitem.lookup) ?_ (by with_unfolding_all rfl)
    refine wpAny_getItem_str_slice (l := none) (u := none) (st := some (-1, zu)) ⟨_, Heap.get?_push_size _ rfl, rfl, rfl⟩ rfl ?_
    refine post_val_or_str ⟨?_, fun t' c => ?_⟩
    · refine Nat.le_trans (Txt.sliceBy_le (sOf l) none none (-1, zu) (by show (-1 : Int) ≠ 0; decide)) ?_
      rw [sOf_len]; exact small hl
    · refine ⟨.str (sOf l.reverse), H4, I5.tok _, ?_, q⟩
      rw [← rev_is l zu]
      exact ⟨_, rfl⟩

/-! ### methods of texts -/
theorem m_index {x y : Str} {k : Nat} (h : Txt.index0 x y = some k) (q : Q (.int k) B L) (hc : X.calm = true := by rfl) : kMt X "str.index" (.str x) [.str y] B L Q :=
  ⟨fun x xs H Q => rIndexX (fun _ _ _ _ => False) [] x xs H Q, fun pins s σ H x xs v us Q I rx rs q => mt_indexX hc takes0 pins s σ H x xs v us Q I rx rs q, fun H s => ⟨x, y, rfl, rfl, fun j hj => by
    rw [h] at hj; cases hj; exact ⟨_, _, s, q⟩, fun hn => by rw [h] at hn; cases hn⟩⟩
theorem k_sindex {name : Str} {apos : Pos} (h : kE X a σ B L fun x B1 L1 => ∃ z, x = .str z ∧ kA X (e :: es) σ B1 L1 fun vs B2 L2 => kMt X "str.index" x vs B2 L2 Q)
    (hbase : attributeBase a "index" X.env (eval a X.env) = eval a X.env := by rfl)
    (hfew : ((backTo pos (starEach (e :: es) X.env)).all (fun x => !x.1) && (backToKw pos (keywordEach [] X.env)).all (fun x => x.1.isSome)
      && decide ((e :: es).length + ([] : List Keyword).length + (if ([] : List Keyword).isEmpty then 0 else 1) < 30)) = true := by rfl)
    (hline : (apos.endLine == pos.line) = true := by rfl) (hs : starEach (e :: es) X.env = (false, eval e X.env) :: starEach es X.env := by rfl) (hplain : (backTo pos (starEach es X.env)).any (·.1) = false := by rfl) :
    kE X (.Call (.Attribute a "index" apos) (e :: es) [] pos) σ B L Q := by
  refine k_m PySem.F.plainAttrs_str PySem.F.slot_str_index PySem.F.type_str_index ?_ hbase hfew hline hs hplain
  obtain ⟨t, h1, h2⟩ := h
  refine ⟨_, pe_c, fun H s => toE s ⟨t, h1, h2⟩ fun x H' B' L' s' ⟨z, e, q⟩ => ⟨B', L', s', ?_, q⟩⟩
  subst e
  exact ty_s
theorem joinN (ls : List (List Nat)) : Txt.join (sOf []) (ls.map sOf) = sOf ls.flatten := by
  rw [join_eq]
  apply ext_toList
  show tl _ = _
  rw [tl_join]
  have e : (ls.map sOf).map tl = ls := by rw [List.map_map]; exact (List.map_congr_left (fun l _ => by simp [tl, sOf])).trans (List.map_id _)
  rw [e]
  have h : ∀ ls : List (List Nat), joinL [] ls = ls.flatten := by
    intro ls
    induction ls with
    | nil => rfl
    | cons a r ih =>
      cases r with
      | nil => simp [joinL]
      | cons b r =>
        have e2 : joinL [] (a :: b :: r) = a ++ ([] ++ joinL [] (b :: r)) := rfl
        rw [e2, ih]; simp
  show joinL [] ls = (sOf ls.flatten).cps.toList
  rw [h]
/-- ''.join(list of texts) -/
theorem m_join0 {p : Addr} {ls : List (List Nat)} (h : Ls X.K B L p (ls.map fun l => V.str (sOf l))) (q : Q (.str (sOf ls.flatten)) B L) (hl : ls.flatten.length ≤ 16777216) : kMt X "str.join" (.str (sOf [])) [.ref p] B L Q :=
  ⟨_, mt_join, fun H s => ⟨sOf [], p, ls.map sOf, rfl, rfl, .inl (by rw [List.map_map]; exact h.at s), by
    have e : ((ls.map sOf).map (·.length)).sum = ls.flatten.length := by rw [List.map_map, List.length_flatten]; congr 1
    rw [e, show (sOf []).length = 0 from rfl]; omega, by rw [joinN]; exact ⟨_, _, s, q⟩⟩⟩
theorem k_join (h : kE X a σ B L fun x B1 L1 => ∃ z, x = .str z ∧ kE X e σ B1 L1 fun v B2 L2 => kMt X "str.join" x [v] B2 L2 Q) {apos : Pos}
    (hbase : attributeBase a "join" X.env (eval a X.env) = eval a X.env := by rfl)
    (hfew : ((backTo pos (starEach [e] X.env)).all (fun x => !x.1) && (backToKw pos (keywordEach [] X.env)).all (fun x => x.1.isSome)
      && decide ([e].length + ([] : List Keyword).length + (if ([] : List Keyword).isEmpty then 0 else 1) < 30)) = true := by rfl)
    (hline : (apos.endLine == pos.line) = true := by rfl) (hs : starEach [e] X.env = (false, eval e X.env) :: starEach [] X.env := by rfl) (hplain : (backTo pos (starEach [] X.env)).any (·.1) = false := by rfl) :
    kE X (.Call (.Attribute a "join" apos) [e] [] pos) σ B L Q := by
  refine k_m PySem.F.plainAttrs_str PySem.F.slot_str_join PySem.F.type_str_join ?_ hbase hfew hline hs hplain
  obtain ⟨t, h1, h2⟩ := h
  refine ⟨_, pe_c, fun H s => toE s ⟨t, h1, h2⟩ fun x H' B' L' s' ⟨z, ez, q⟩ => ⟨B', L', s', ?_, ?_⟩⟩
  · subst ez; exact ty_s
  · refine a_cons ?_ hs
    obtain ⟨t2, k1, k2⟩ := q
    exact ⟨_, pe_c, fun H s => toE s ⟨t2, k1, k2⟩ fun v H2 B2 L2 s2 q2 => ⟨B2, L2, s2, a_nil q2⟩⟩
/-- c.lower() -/
theorem m_lower {x y : Str} (hy : Txt.lower x = y) (q : Q (.str y) B L) (hl : x.length ≤ 5592405) : kMt X "str.lower" (.str x) [] B L Q := ⟨_, mt_lower, fun H s => ⟨x, rfl, rfl, hl, by rw [hy]; exact ⟨_, _, s, q⟩⟩⟩
end
end Kv

namespace Kv
open PySem PySem.Spec PyProof.Rows L2
/-! ### enumerate(text) -/
/-- a text's signs with their places, each pair a new tuple -/
def Ies (x : Str) : It := ⟨fun i _ => i < x.cps.size, fun i H v H' => ∃ T c, v = .ref T ∧ H T = none ∧ H' = upd H T (.tup [.int (i : Nat), .str ⟨#[c]⟩]) ∧ x.cps[i]? = some c, fun i _ => i = x.cps.size⟩
theorem draws_str {prog : Program} {w : World} {A : Around} (hh : A.handled = none) (it : Addr) (x : Str) (t : Tok) (ty : String) (hty : ty = "str_ascii_iterator" ∨ ty = "str_iterator") :
    Draws prog w A it [it] x.cps.size (fun i v => ∃ c u, x.cps[i]? = some c ∧ v = .str ⟨#[c]⟩ u) (fun i h => h.IsStrIter it ty x t i) := by
  rcases hty with e | e
  · rw [e]; exact Draws.strAscii hh it x t
  · rw [e]; exact Draws.strWide hh it x t
theorem turn_es {P : Program} {w : World} {K : PySem.W.Frag} {elts : List Expr} {kk : Nat} {tpos : Pos} (x : Str) (t : Tok) (e it : Addr) (ty : String) (hty : ty = "str_ascii_iterator" ∨ ty = "str_iterator") :
    Turn P w K (.Tuple elts kk tpos) (Ies x) [e, it] e (fun i h => (∃ old, IsEnum h e it ((i : Nat) : Int) old) ∧ h.IsStrIter it ty x t i ∧ e ≠ it) where
  mem := by simp
  obj := fun i h st b hb => by
    obtain ⟨⟨old, he⟩, ⟨o, ho, hc, hd⟩, _⟩ := st
    have e' : b = e ∨ b = it := by simpa using hb
    rcases e' with z | z
    · subst z; exact ⟨_, he, fun v q => nomatch q⟩
    · subst z; exact ⟨o, ho, fun v q => by rw [hd] at q; cases q⟩
  keep := fun i h h' st k => by
    obtain ⟨⟨old, he⟩, ⟨o, ho, r⟩, hne⟩ := st
    exact ⟨⟨old, k e (by simp) _ he⟩, ⟨o, k it (by simp) o ho, r⟩, hne⟩
  item := by
    intro X hP hw hK hc i pins s σ H E I hf st hg
    subst hP hw hK
    obtain ⟨⟨old, he⟩, hit, hne⟩ := st
    have D := draws_str (prog := X.prog) (w := X.w) (A := X.A.in1) (I.ok.hd hc) it x t ty hty
    have hel : e < s.heap.objs.size := Heap.lt_size he
    have hil : it < s.heap.objs.size := by obtain ⟨_, q, _⟩ := hit; exact Heap.lt_size q
    refine wpAny_pyNext_enum_itemD D he hit hg hne (by simpa using hne) fun v h' tk hv ho hit' hT hsz hk => ?_
    obtain ⟨c, u, hcx, rfl⟩ := hv
    refine ⟨_, rfl, wpAny_letOwnedTupleGo_enum (s := { s with heap := h', toks := tk + 1 }) ho fun h2 he2 sb => ?_⟩
    have hT2 : h2.get? s.heap.objs.size = some { cls := .type "tuple", data := .seq #[.int i tk, .str ⟨#[c]⟩ u] } := (sb.2 _ (Nat.ne_of_gt hel)).trans hT
    have nw : ObjOk X.prog X.w (upd H s.heap.objs.size (.tup [.int (i : Nat), .str ⟨#[c]⟩])) h2 s.heap.objs.size (.tup [.int (i : Nat), .str ⟨#[c]⟩]) :=
      ⟨by show 2 ≤ sizeLine; decide, [.int i tk, .str ⟨#[c]⟩ u], .cons ⟨_, rfl⟩ (.cons ⟨_, rfl⟩ .nil), ⟨_, hT2, rfl, _, rfl⟩⟩
    have J : Inv X pins σ (upd H s.heap.objs.size (.tup [.int (i : Nat), .str ⟨#[c]⟩])) { s with heap := h2, toks := tk + 1 } :=
      I.turnedNew (ch := [e, it]) (fun b ob hb q => (sb.2 b (fun z => hb (by simp [z]))).trans (hk b ob (fun z => hb (by simp [z])) (fun z => hb (by simp [z])) q)) hf (Nat.le_refl _) nw
    refine ⟨.ref s.heap.objs.size, _, J, rfl, ⟨_, c, rfl, I.hok.fresh (Nat.le_refl _), rfl, hcx⟩, ⟨⟨.str ⟨#[c]⟩ u, ?_⟩, ?_, hne⟩, fun b hb => ?_⟩
    · have e1 : ((i + 1 : Nat) : Int) = (i : Int) + 1 := by omega
      rw [e1]; exact he2
    · obtain ⟨o, ho1, r⟩ := hit'
      exact ⟨o, (sb.2 it (Ne.symm hne)).trans ho1, r⟩
    · have hb' : b < s.heap.objs.size := by
        have e' : b = e ∨ b = it := by simpa using hb
        rcases e' with z | z
        · rw [z]; exact hel
        · rw [z]; exact hil
      rw [upd_ne (Nat.ne_of_lt hb')]
      exact (hf b hb).1
  done := by
    intro X hP hw hK hc i pins s σ H E I hf st hg
    subst hP hw hK
    obtain ⟨⟨old, he⟩, hit, hne⟩ := st
    have D := draws_str (prog := X.prog) (w := X.w) (A := X.A.in1) (I.ok.hd hc) it x t ty hty
    obtain ⟨f0, f1, f2, f3, f4, f5⟩ := hf it (by simp)
    have hi : i = x.cps.size := hg
    subst hi
    exact wpAny_pyNext_enum_endD D he hit fun h' eb => ⟨rfl, I.turned (t' := s.toks) (fun b o hb q => eb b o hb q) f0 f1 f3 f4 f5⟩
  self := fun A i s Q E st h => let ⟨⟨_, he⟩, _⟩ := st; wpAny_pyIter_enum he h
theorem walk_es {x : Str} : Walk (Ies x) x.cps.size (fun _ => True) (fun i H v H' => ∃ T c, v = .ref T ∧ H T = none ∧ H' = upd H T (.tup [.int (i : Nat), .str ⟨#[c]⟩]) ∧ x.cps[i]? = some c) := ⟨fun _ _ hi _ => hi, fun _ _ => rfl, fun _ _ _ _ _ _ y => y⟩
theorem pi_es {X : Cx} {e : Expr} {te : TE} {p pos tpos : Pos} {elts : List Expr} {kk : Nat} (hg : Gl X "enumerate") (hm : X.mg "enumerate" = none) (he : PE X e te) (hs : starEach [e] X.env = (false, eval e X.env) :: starEach [] X.env := by rfl) (hs' : starEach [e] X.env = [(false, eval e X.env)] := by rfl) :
    PI X (.Tuple elts kk tpos) (.Call (.Name "enumerate" p) [e] [] pos) (fun σ H R => te σ H fun v H1 => ∃ x, v = .str x ∧ R (Ies x) H1) := by
  refine ⟨fun pins s σ H R I h => ?_⟩
  refine Call_ (ld_blt I hg hm boot_enumerate (PyProof.Rows.callWith_type1 (thn ((pa_cons he pa_nil hs).run pos pins s σ H (fun vs H1 => ∃ x, vs = [.str x] ∧ R (Ies x) H1) I ?_) fun us s1 ⟨vs, H1, I1, r1, q1⟩ => ?_) hs' rfl))
  · have hh : (fun v H1 => ∃ x, v = V.str x ∧ R (Ies x) H1) = fun v H1 => tNil σ H1 fun xs H2 => ∃ x, v :: xs = [V.str x] ∧ R (Ies x) H2 := by
      funext v H1
      simp [tNil]
    show te σ H _
    rw [← hh]
    exact h
  obtain ⟨x, ex, q⟩ := q1
  subst ex
  cases r1 with
  | cons r rr =>
    cases rr
    obtain ⟨t, rfl⟩ := r
    refine call_enumerate_str fun h' he hit hsz hk => wpAny_pyIter_enum he ?_
    have I2 : Inv X pins σ H1 { s1 with heap := h' } := I1.kept (t' := s1.toks) hk
    have hty : strIterType x = "str_ascii_iterator" ∨ strIterType x = "str_iterator" := by unfold strIterType; split <;> simp
    refine ⟨s1.heap.objs.size + 1, [s1.heap.objs.size + 1, s1.heap.objs.size], _, _, H1, rfl, I2, turn_es x t (s1.heap.objs.size + 1) s1.heap.objs.size _ hty, ⟨⟨.none, he⟩, hit, Nat.succ_ne_self _⟩, fun b hb => ?_, q⟩
    have hle : s1.heap.objs.size ≤ b := by
      have e' : b = s1.heap.objs.size + 1 ∨ b = s1.heap.objs.size := by simpa using hb
      rcases e' with z | z
      · rw [z]; exact Nat.le_add_right _ _
      · rw [z]; exact Nat.le_refl _
    exact I1.fpOk hle (I1.hok.fresh hle)
section
variable {X : Cx} {σ : L2.St} {B : Hp} {L : HL} {Q : KQ} {D : KD} {pos p2 pos' : Pos} {e a b c tg iter elt : Expr} {es : List Expr} {body : List Stmt} {scope : Scope}
theorem r_es {R : It → Hp → HL → Prop} {elts : List Expr} {kk : Nat} {tpos : Pos} (hm : X.mg "enumerate" = none) (h : kE X e σ B L fun v B1 L1 => ∃ l, v = .str (sOf l) ∧ R (Ies (sOf l)) B1 L1) (hg : Gl X "enumerate" := by rfl) (hs : starEach [e] X.env = (false, eval e X.env) :: starEach [] X.env := by rfl) (hs' : starEach [e] X.env = [(false, eval e X.env)] := by rfl) :
    kR X (.Tuple elts kk tpos) (.Call (.Name "enumerate" p2) [e] [] pos) σ B L R := ⟨_, pi_es hg hm pe_c hs hs', fun H s => toE s h fun _ _ _ _ s ⟨l, e, q⟩ => ⟨_, e, _, _, s, q⟩⟩
theorem wipe2' (σ : L2.St) (i j : Nat) (x y : V) : ((wipe σ [i, j]).set i (some x)).set j (some y) = (σ.set i (some x)).set j (some y) := by
  by_cases h : i = j
  · subst h; simp [wipe, List.set_set]
  · show (((σ.set j none).set i none).set i (some x)).set j (some y) = _
    rw [List.set_set, List.set_comm none (some x) (Ne.symm h), List.set_set]
theorem wipe2 (σ : L2.St) (i j : Nat) (x y : V) : wipe (((wipe σ [i, j]).set i (some x)).set j (some y)) [i, j] = wipe σ [i, j] := by
  rw [wipe2']
  by_cases h : i = j
  · subst h; simp [wipe, List.set_set]
  · show (((σ.set i (some x)).set j (some y)).set j none).set i none = (σ.set j none).set i none
    rw [List.set_set, List.set_comm (some x) none h, List.set_set]
/-- [elt for i, c in enumerate(text)] -/
theorem k_lcm_es {x y : Str} {i j kk : Nat} {px py tpos : Pos} (g : Nat → Nat → V) (hN : X.N.Nodup) (ok : BlkOk X.N X.env.scope scope [(x, i), (y, j)]) (hm : X.mg "enumerate" = none)
    (h : kE X e σ B L fun v B1 L1 => ∃ l, v = .str (sOf l) ∧ l.length ≤ 16777216 ∧ (∀ (n : Nat) c, l[n]? = some c → ∀ D acc s H0 C cl fp, kE (Bk X scope s H0 C cl fp) elt ((σ.set i (some (.int n))).set j (some (.str (sOf [c])))) B1 ((D, .lst acc) :: L1) fun y B3 L3 => y = g n c ∧ B3 = B1 ∧ L3 = (D, .lst acc) :: L1) ∧
      ∀ D, Q (.ref D) B1 ((D, .lst (l.mapIdx g)) :: L1))
    (hp : ∀ s H0 C cl fp, Loc (Bk X scope s H0 C cl fp).env.scope x ∧ Loc (Bk X scope s H0 C cl fp).env.scope y := by intro _ _ _ _ _; exact ⟨Or.inl rfl, Or.inl rfl⟩) (hf : ∀ s H0 C cl fp, (Bk X scope s H0 C cl fp).env.scope.names.lookup x = some .local ∧ (Bk X scope s H0 C cl fp).env.scope.names.lookup y = some .local := by intro _ _ _ _ _; exact ⟨rfl, rfl⟩)
    (hn : ∀ s H0 C cl fp, (assignEach [.Name x px, .Name y py] (Bk X scope s H0 C cl fp).env).length = 2 := by intro _ _ _ _ _; rfl) (hfi : ∀ s H0 C cl fp, (assignEach [.Name x px, .Name y py] (Bk X scope s H0 C cl fp).env).findIdx? (·.1) = none := by intro _ _ _ _ _; rfl)
    (h1 : ∀ s H0 C cl fp, (assignEach [.Name x px, .Name y py] (Bk X scope s H0 C cl fp).env).map (·.2) = assign (.Name x px) (Bk X scope s H0 C cl fp).env :: (assignEach [.Name y py] (Bk X scope s H0 C cl fp).env).map (·.2) := by intro _ _ _ _ _; rfl)
    (h2 : ∀ s H0 C cl fp, (assignEach [.Name y py] (Bk X scope s H0 C cl fp).env).map (·.2) = assign (.Name y py) (Bk X scope s H0 C cl fp).env :: (assignEach [] (Bk X scope s H0 C cl fp).env).map (·.2) := by intro _ _ _ _ _; rfl)
    (hg : Gl X "enumerate" := by rfl) (hst : starEach [e] X.env = (false, eval e X.env) :: starEach [] X.env := by rfl) (hst' : starEach [e] X.env = [(false, eval e X.env)] := by rfl)
    (hi : X.N[i]? = some x := by rfl) (hj : X.N[j]? = some y := by rfl) (hc : X.calm = true := by rfl) (hs : ∀ x, foldedSetIterable (.Call (.Name "enumerate" p2) [e] [] pos') X.env x = pure x := by intro _; rfl) :
    kL X elt (.Tuple [.Name x px, .Name y py] kk tpos) (.Call (.Name "enumerate" p2) [e] [] pos') [] scope [(x, i), (y, j)] σ B L Q :=
  k_lc hN ok (r_es hm (by
    obtain ⟨t, k1, k2⟩ := h
    refine ⟨_, pe_c, fun H s => toE s ⟨t, k1, k2⟩ fun v H' B1 L1 s' ⟨l, e, hl, ht, hd⟩ => ⟨B1, L1, s', l, e, (sOf l).cps.size, _, _, fun i acc B L => B = B1 ∧ L = L1 ∧ acc = (l.mapIdx g).take i, walk_es, ⟨rfl, rfl, by simp⟩, fun i acc B L H hi p s => trivial, ?_, ?_⟩⟩
    · rintro D n acc z B L H H' hn' ⟨rfl, rfl, rfl⟩ s ⟨T, c, rfl, hT, rfl, hx⟩
      have hx' : l[n]? = some c := by simpa [sOf] using hx
      refine ⟨_, _, s.new hT, fun sa Ha Ca cla fpa => g_pair ?_ hc (hn sa Ha Ca cla fpa) (hfi sa Ha Ca cla fpa)⟩
      refine gs_cons (g_name i ?_ hN hi (hp sa Ha Ca cla fpa).1 (.inr (hf sa Ha Ca cla fpa).1)) (h1 sa Ha Ca cla fpa)
      refine gs_cons (g_name j ?_ hN hj (hp sa Ha Ca cla fpa).2 (.inr (hf sa Ha Ca cla fpa).2)) (h2 sa Ha Ca cla fpa)
      refine gs_nil ⟨wipe2 σ i j _ _, fun sb Hb Cb clb fpb => ?_⟩
      show kE _ _ (((wipe σ [i, j]).set i _).set j _) _ _ _
      rw [wipe2']
      obtain ⟨t2, m1, m2⟩ := ht n c hx' D ((l.mapIdx g).take n) sb Hb Cb clb fpb
      refine ⟨_, pe_c, fun H s => toE s ⟨t2, m1, m2⟩ fun y H2 B2 L2 s2 ⟨e1, e2, e3⟩ => ⟨B2, L2, s2, ?_, L, e3, e2, rfl, ?_⟩⟩
      · have := (List.getElem?_eq_some_iff.mp hx').1
        simp; omega
      · rw [e1, List.take_add_one, List.getElem?_mapIdx, hx']; simp
    · rintro acc B L D ⟨rfl, rfl, rfl⟩
      rw [sOf_size, show l.length = (l.mapIdx g).length by simp, List.take_length]
      exact hd D) hg hst hst') hc hs

/-! ### objects -/
def At (B : Hp) (L : HL) (p : Addr) (o : HO) : Prop := B p = some o ∨ (p, o) ∈ L
theorem At.at {H : Hp} {p : Addr} {o : HO} (h : At B L p o) (s : Sat B L H) : H p = some o := by
  rcases h with h | h
  · exact s.ext _ _ h
  · exact s.own _ h
theorem k_fld {f : Str} {C : Addr} (c : Cls X.K C) (n : NoAttr X.K C f) (h : kE X a σ B L fun x B1 L1 => ∃ p dx fs v, x = .ref p ∧ At B1 L1 p (.ins C dx fs) ∧ fs.lookup f = some v ∧ Q v B1 L1)
    (hb : attributeBase a f X.env (eval a X.env) = eval a X.env := by rfl) : kE X (.Attribute a f pos) σ B L Q := ⟨_, pe_fld pe_c hb, fun H s => toE s h fun _ _ _ _ s ⟨p, dx, fs, v, e, ha, hl, q⟩ => ⟨p, C, dx, fs, v, e, ha.at s, c, n, hl, _, _, s, q⟩⟩
theorem k_setf {f : Str} {C : Addr} (c : Cls X.K C) (n : NoAttr X.K C f) (h : kE X e σ B L fun y B1 L1 => kE X a σ B1 L1 fun x B2 L2 => ∃ p dx fs L3, x = .ref p ∧ Rep L2 p (.ins C dx fs) (.ins C dx (putF f y fs)) L3 ∧ fs.length < 1000 ∧ D.nx σ B2 L3)
    (hs : swapsWith e (some (.Attribute a f pos')) pos.line X.env = pure false := by rfl) : kS X (.Assign [.Attribute a f pos'] e pos) σ B L D :=
  ⟨_, ps_fld pe_c pe_c hs, fun H s => toE s h fun _ _ _ _ s q => toE s q fun _ _ _ _ s ⟨p, dx, fs, L3, e, r, hl, q⟩ => ⟨p, C, dx, fs, e, s.own _ r.mem, c, n, hl, _, _, s.rep r, q⟩⟩
/-- a method of the program's own class at C, an object of that class made -/
structure Mt (P : Program) (w : World) (K : PySem.W.Frag) (mg : Str → Option Value) (base : Heap) (k : Nat) (C : Addr) (m : Str) (sp : Sp) : Prop where
  ex : ∃ f fd ps, FnOk P w K mg base (L2.CX P w) k f fd ps sp ∧ Meth K C m f ∧ Binds K fd ps []
  cls : Cls K C
structure Mkr (P : Program) (w : World) (K : PySem.W.Frag) (mg : Str → Option Value) (base : Heap) (k : Nat) (x : Str) (C : Addr) (sp : Sp) : Prop where
  ex : ∃ f fd ps, FnOk P w K mg base (L2.CX P w) k f fd ps sp ∧ Mk K C f ∧ Binds K fd ps []
  mg : mg x = some (.ref C)
theorem k_meth {m : Str} {C : Addr} {k : Nat} {sp : Sp} {W : WX} {apos : Pos} {pl : Sem Bool} (F : Mt X.prog X.w X.K X.mg X.base k C m sp) (hr : Room k X.A) (tk : Takes X W)
    (h : kE X a σ B L fun x B1 L1 => ∃ p dx fs, x = .ref p ∧ At B1 L1 p (.ins C dx fs) ∧ fs.lookup m = none ∧ kA X (e :: es) σ B1 L1 fun vs B2 L2 => ∀ H, Sat B2 L2 H → sp (.ref p :: vs) H (up Q) (WE W σ))
    (hst : starEach (e :: es) X.env = (false, eval e X.env) :: starEach es X.env := by rfl) (hpl : (backTo pos (starEach es X.env)).any (·.1) = false := by rfl)
    (ht : eval (.Call (.Attribute a m apos) (e :: es) [] pos) X.env = (do
      let ov ← eval a X.env
      standAt apos.atName
      let (f, first) ← holding [ov] (getMethod ov m pl)
      callWith pos f first (backTo pos (starEach (e :: es) X.env)) (backToKw pos (keywordEach [] X.env))) := by rfl) : kE X (.Call (.Attribute a m apos) (e :: es) [] pos) σ B L Q := by
  obtain ⟨f, fd, ps, hF, hm, hb⟩ := F.ex
  refine ⟨fun σ H Q => cE X a σ H fun x H1 => ∃ p dx fs, x = .ref p ∧ H1 p = some (.ins C dx fs) ∧ fs.lookup m = none ∧ cA X (e :: es) σ H1 fun vs H2 => sp (.ref p :: vs) H2 Q (WE W σ), ⟨fun pins s σ H Q I h => ?_⟩, fun H s => toE s h fun _ _ _ _ s ⟨p, dx, fs, e, ha, hl, q⟩ => ⟨p, dx, fs, e, ha.at s, hl, toA s q fun _ _ _ _ s q => q _ s⟩⟩
  refine PySem.W.methodCall_KW (pl := pl) (thn (pe_c.run pins s σ H _ I h) fun u s1 ⟨x, H1, I1, rx, p, dx, fs, ex, ea, l, q⟩ => ?_) ht
  subst ex
  obtain rfl : u = Value.ref p := rx
  refine getmeth_ok I1 ea F.cls hm l ?_
  refine PySem.W.callWith_K (first := [.ref p]) (h₀ := X.base) I.ok.mod.kin hm.kp (thn (pa_c.run pos pins s1 σ H1 _ I1 q) fun us s2 ⟨vs, H2, I2, r, q2⟩ => ⟨I2.kIn, ?_⟩) hst hpl
  exact run_fnS (E := WE W) (us := .ref p :: us) (vs := .ref p :: vs) hF hr hb (passAt tk σ) I2 (.cons rfl r) q2
theorem k_meth0 {m : Str} {C : Addr} {k : Nat} {sp : Sp} {W : WX} {apos : Pos} {pl : Sem Bool} (F : Mt X.prog X.w X.K X.mg X.base k C m sp) (hr : Room k X.A) (tk : Takes X W)
    (h : kE X a σ B L fun x B1 L1 => ∃ p dx fs, x = .ref p ∧ At B1 L1 p (.ins C dx fs) ∧ fs.lookup m = none ∧ ∀ H, Sat B1 L1 H → sp [.ref p] H (up Q) (WE W σ))
    (ht : eval (.Call (.Attribute a m apos) [] [] pos) X.env = (do
      let ov ← eval a X.env
      standAt apos.atName
      let (f, first) ← holding [ov] (getMethod ov m pl)
      callWith pos f first (backTo pos (starEach [] X.env)) (backToKw pos (keywordEach [] X.env))) := by rfl) : kE X (.Call (.Attribute a m apos) [] [] pos) σ B L Q := by
  obtain ⟨f, fd, ps, hF, hm, hb⟩ := F.ex
  refine ⟨fun σ H Q => cE X a σ H fun x H1 => ∃ p dx fs, x = .ref p ∧ H1 p = some (.ins C dx fs) ∧ fs.lookup m = none ∧ sp [.ref p] H1 Q (WE W σ), ⟨fun pins s σ H Q I h => ?_⟩, fun H s => toE s h fun _ _ _ _ s ⟨p, dx, fs, e, ha, hl, q⟩ => ⟨p, dx, fs, e, ha.at s, hl, q _ s⟩⟩
  refine PySem.W.methodCall_KW (pl := pl) (thn (pe_c.run pins s σ H _ I h) fun u s1 ⟨x, H1, I1, rx, p, dx, fs, ex, ea, l, q⟩ => ?_) ht
  subst ex
  obtain rfl : u = Value.ref p := rx
  refine getmeth_ok I1 ea F.cls hm l ?_
  exact PySem.W.callWith_K0 (first := [.ref p]) I1.kIn hm.kp (run_fnS (E := WE W) (us := [.ref p]) (vs := [.ref p]) hF hr hb (passAt tk σ) I1 (.cons rfl .nil) q)
/-- C(e, ..) -/
theorem k_make {x : Str} {C : Addr} {k : Nat} {sp : Sp} {E : XK} (F : Mkr X.prog X.w X.K X.mg X.base k x C sp) (hr : Room (k + 1) X.A) (hx : Passes (L2.CX X.prog X.w) X E)
    (h : kA X (e :: es) σ B L fun vs B1 L1 => ∀ x dx, ∀ H, Sat B1 ((x, .ins C dx []) :: (dx, .own x) :: L1) H → sp (.ref x :: vs) H (fun v H2 => v = .non ∧ up Q (.ref x) H2) E)
    (hg : Gl X x := by rfl) (hdb : (x == ("__debug__" : Str)) = false := by decide) (he : starEach (e :: es) X.env = (false, eval e X.env) :: starEach es X.env := by rfl) (hpl : (backTo pos (starEach es X.env)).any (·.1) = false := by rfl) : kE X (.Call (.Name x p2) (e :: es) [] pos) σ B L Q := by
  obtain ⟨f, fd, ps, hF, hm, hb⟩ := F.ex
  refine ⟨_, pe_make hm hF hr hg F.mg hb .nil hx pa_c hdb he hpl, fun H s => toA s h fun vs H' B' L' s' q => fun x dx nx ndx nex => ?_⟩
  have s2 := s'.new (o := .own x) ndx
  have nx2 : (upd H' dx (.own x)) x = none := by rw [upd_ne (Ne.symm nex)]; exact nx
  have s3 := s2.new (o := .ins C dx []) nx2
  have := q x dx _ s3
  rw [List.append_nil]
  exact this

/-! ### errors -/
/-- what the top says of an own error class without __init__ -/
structure ExK (K : PySem.W.Frag) (mg : Str → Option Value) (x : Str) (C : Addr) : Prop where
  g : mg x = some (.ref C)
  x : PySem.W.excIn K C [.type "ValueError", .type "Exception", .type "BaseException", .type "object"] "ValueError.__new__" = true
  k : PySem.W.keepIn K (.ref C) = true
  b : PySem.W.subIn K (.ref C) (.type "BaseException") = some true
  t : PySem.W.typeIn K (.ref C) = some (.type "type")
theorem k_raise {x m : Str} {j : Nat} {W : WX} {C : Addr} {p p3 : Pos} (T : ExK X.K X.mg x C) (tk : Takes X W) (h : ∀ H, Sat B L H → W (.ref C) none σ H) (hg : Gl X x := by rfl) (hdb : (x == ("__debug__" : Str)) = false := by decide) (hc : X.calm = true := by rfl) :
    kS X (.Raise (some (.Call (.Name x p) [.Constant (.str m) j p2] [] pos)) none p3) σ B L D := ⟨_, ps_raise hc tk (pmk_own PySem.F.excBase_ValueError T.x T.g T.k (raises_own T.b T.t) hg hdb), fun H s => h H s⟩
def tSui (X : Cx) (suite : List Stmt) (a : Addr) (cls : Value) (d : Option Addr) : TS := fun E σ H => ∀ oe pn, Zc cls d oe → (∃ vs, oe.data = .fields vs) → cSs (X.suite a ((a, oe) :: pn)) suite E σ H
/-- try: body / except x: suite -/
theorem k_try_only {x : Str} {cv : Value} {b₀ : Stmt} {suite : List Stmt} {np : Pos} {Wout : WX} (tk : Takes X Wout) (hc : Names X x cv)
    (h : ∀ pn xe, Takes (X.tr pn xe) (wOnly X.K cv (tSui X (b₀ :: suite)) Wout D.dn) → PassesOwn (model X.prog X.w) X.A X.env xe → kSs (X.tr pn xe) body σ B L D)
    (hs : X.stack = X.env :: X.outer := by rfl) (hf : X.env.frame = some X.env.locals := by rfl) : kS X (.Try body [.ExceptHandler (some (.Name x np)) none (b₀ :: suite) pos'] [] [] pos) σ B L D :=
  ⟨_, ps_try_only (tb := fun W E σ H => ∀ pn xe, Takes (X.tr pn xe) W → PassesOwn (model X.prog X.w) X.A X.env xe → cSs (X.tr pn xe) body E σ H) (ts := tSui X (b₀ :: suite)) hs hf hc tk
    (fun W pn xe t po => ⟨fun pins s σ H E I q => pss_c.run pins s σ H E I (q pn xe t po)⟩)
    (fun a oe cls d pn z f => ⟨fun pins s σ H E I q => pss_c.run pins s σ H E I (q oe pn z f)⟩), fun H s => fun pn xe t po => toSs0 s (h pn xe t po)⟩
/-- the wish at a raise of the clause's class -/
theorem w_only {cv : Value} {suite : List Stmt} {Wout : WX} {C : Addr} {H : Hp} (hx : PySem.W.exmOne X.K (.ref C) cv = some true) (s : Sat B L H) (h : ∀ a oe pn, kSs (X.suite a ((a, oe) :: pn)) suite σ B L D) : wOnly X.K cv (tSui X suite) Wout D.dn (.ref C) none σ H :=
  ⟨true, hx, fun _ a _ oe pn _ _ => toSs0 s (h a oe pn), fun z => (Bool.noConfusion z)⟩
end
end Kv

namespace Kv
open PySem PySem.Spec PyProof.Rows L2
section
variable {X : Cx} {σ : L2.St} {B : Hp} {L : HL} {Q : KQ}
/-! ### == and != of lists, tuples -/
/-- x reads as the data d, whatever else the heap holds -/
def Dd (X : Cx) (B : Hp) (L : HL) (x : V) (d : PyData) : Prop := ∀ H, Sat B L H → Dp X.K H x d
def DdA (X : Cx) (B : Hp) (L : HL) (xs : List V) (ds : List PyData) : Prop := ∀ H, Sat B L H → DpAll X.K H xs ds
theorem dd_i {i : Int} : Dd X B L (.int i) (.int i) := fun _ _ => .int i
theorem dd_s {l : Str} : Dd X B L (.str l) (.str l) := fun _ _ => .str l
theorem dd_b {b : Bool} : Dd X B L (.bl b) (.bool b) := fun _ _ => .bl b
theorem dd_n : Dd X B L .non .none := fun _ _ => .non
theorem dd_l {p : Addr} {xs : List V} {ds : List PyData} (h : Ls X.K B L p xs) (ha : DdA X B L xs ds) : Dd X B L (.ref p) (.list ds) := fun H s => .lst (h.at s) (ha H s)
theorem dd_t {p : Addr} {xs : List V} {ds : List PyData} (h : Tp X.K B L p xs) (ha : DdA X B L xs ds) : Dd X B L (.ref p) (.tuple ds) := fun H s => .tup (h.at s) (ha H s)
theorem da_nil : DdA X B L [] [] := fun _ _ => .nil
theorem da_cons {x : V} {xs : List V} {d : PyData} {ds : List PyData} (h : Dd X B L x d) (ha : DdA X B L xs ds) : DdA X B L (x :: xs) (d :: ds) := fun H s => .cons (h H s) (ha H s)
theorem da_map {α : Type} {f : α → V} {g : α → PyData} (h : ∀ a, Dd X B L (f a) (g a)) : ∀ l : List α, DdA X B L (l.map f) (l.map g)
  | [] => da_nil
  | a :: l => da_cons (h a) (da_map h l)
theorem o_eqD {x y : V} {d e : PyData} (hu : X.A.units + 64 < cLine) (hd : Dd X B L x d) (he : Dd X B L y e) (q : Q (.bl (PyData.eqv d e)) B L) (sd : SeqAt.shaped d = true) (se : SeqAt.shaped e = true) : kO X (compareOp .Eq) x y B L Q :=
  ⟨_, op_eqD hu, fun H s => ⟨d, e, hd H s, he H s, sd, se, _, _, s, q⟩⟩
theorem o_neD {x y : V} {d e : PyData} (hu : X.A.units + 64 < cLine) (hd : Dd X B L x d) (he : Dd X B L y e) (q : Q (.bl (!PyData.eqv d e)) B L) (sd : SeqAt.shaped d = true) (se : SeqAt.shaped e = true) : kO X (compareOp .NotEq) x y B L Q :=
  ⟨_, op_neD hu, fun H s => ⟨d, e, hd H s, he H s, sd, se, _, _, s, q⟩⟩
/-- a list of texts, of ints -/
def dSs (ls : List (List Nat)) : List PyData := ls.map fun l => .str (sOf l)
theorem eqv_ss : ∀ a b : List (List Nat), PyData.eqvAll (dSs a) (dSs b) = decide (a = b)
  | [], [] => rfl
  | [], _ :: _ => by simp [dSs, PyData.eqvAll]
  | _ :: _, [] => by simp [dSs, PyData.eqvAll]
  | x :: a, y :: b => by
    have ih := eqv_ss a b
    show PyData.eqvAll (.str (sOf x) :: dSs a) (.str (sOf y) :: dSs b) = _
    unfold PyData.eqvAll
    rw [ih]
    show ((sOf x == sOf y) && decide (a = b)) = _
    have e : (sOf x == sOf y) = decide (x = y) := by
      rw [Bool.eq_iff_iff]; simp [sOf]
    rw [e]
    by_cases h1 : x = y <;> by_cases h2 : a = b <;> simp [h1, h2]
theorem lay_ss {a : List (List Nat)} (h : ∀ l ∈ a, ∀ c ∈ l, c < 1114112) : PyData.canLayAll0 (dSs a) = true := by
  induction a with
  | nil => rfl
  | cons x a ih =>
    show PyData.canLayAll0 (.str (sOf x) :: dSs a) = true
    unfold PyData.canLayAll0
    rw [ih fun l hl => h l (List.mem_cons_of_mem _ hl), Bool.and_true]
    have := h x List.mem_cons_self
    unfold PyData.canLay0
    unfold PyData.strOk
    simpa [sOf] using this
theorem depth_ss (a : List (List Nat)) : PyData.depthAll (dSs a) = 0 := by
  induction a with
  | nil => rfl
  | cons x a ih =>
    show PyData.depthAll (.str (sOf x) :: dSs a) = 0
    unfold PyData.depthAll
    rw [ih]; rfl
theorem shaped_ss {a : List (List Nat)} (h : ∀ l ∈ a, ∀ c ∈ l, c < 1114112) : SeqAt.shaped (.list (dSs a)) = true := by
  unfold SeqAt.shaped
  have e1 : PyData.canLay0 (.list (dSs a)) = true := by unfold PyData.canLay0; exact lay_ss h
  have e2 : PyData.depth (.list (dSs a)) = 1 := by unfold PyData.depth; rw [depth_ss]
  rw [e1, e2]; rfl
theorem dd_ss {p : Addr} {a : List (List Nat)} (h : Ls X.K B L p (a.map fun l => V.str (sOf l))) : Dd X B L (.ref p) (.list (dSs a)) := dd_l h (da_map (fun _ => dd_s) a)
/-- lists of texts compared -/
theorem o_ness {p q : Addr} {a b : List (List Nat)} (hu : X.A.units + 64 < cLine) (h1 : Ls X.K B L p (a.map fun l => V.str (sOf l))) (h2 : Ls X.K B L q (b.map fun l => V.str (sOf l))) (hq : Q (.bl (!decide (a = b))) B L) (ha : ∀ l ∈ a, ∀ c ∈ l, c < 1114112) (hb : ∀ l ∈ b, ∀ c ∈ l, c < 1114112) :
    kO X (compareOp .NotEq) (.ref p) (.ref q) B L Q := o_neD hu (dd_ss h1) (dd_ss h2) (by show Q (.bl (!PyData.eqvAll (dSs a) (dSs b))) B L; rw [eqv_ss]; exact hq) (shaped_ss ha) (shaped_ss hb)
theorem o_eqss {p q : Addr} {a b : List (List Nat)} (hu : X.A.units + 64 < cLine) (h1 : Ls X.K B L p (a.map fun l => V.str (sOf l))) (h2 : Ls X.K B L q (b.map fun l => V.str (sOf l))) (hq : Q (.bl (decide (a = b))) B L) (ha : ∀ l ∈ a, ∀ c ∈ l, c < 1114112) (hb : ∀ l ∈ b, ∀ c ∈ l, c < 1114112) :
    kO X (compareOp .Eq) (.ref p) (.ref q) B L Q := o_eqD hu (dd_ss h1) (dd_ss h2) (by show Q (.bl (PyData.eqvAll (dSs a) (dSs b))) B L; rw [eqv_ss]; exact hq) (shaped_ss ha) (shaped_ss hb)
end
end Kv

namespace Kv
open PySem PySem.Spec PyProof.Rows L2
section
variable {X : Cx} {σ : L2.St} {B : Hp} {L : HL} {Q : KQ} {D : KD} {pos p2 : Pos} {e a b c tg iter elt : Expr} {es : List Expr} {body : List Stmt}
theorem k_gsE {x y : Str} (hm : ∃ t, X.mg x = some (.str y t)) (q : Q (.str y) B L) (hg : Gl X x := by rfl) (hd : (x == ("__debug__" : Str)) = false := by decide) : kE X (.Name x pos) σ B L Q := by
  obtain ⟨t, hm⟩ := hm
  exact k_gs hm q hg hd
theorem k_giE {x : Str} {y : Int} (hm : ∃ t, X.mg x = some (.int y t)) (q : Q (.int y) B L) (hg : Gl X x := by rfl) (hd : (x == ("__debug__" : Str)) = false := by decide) : kE X (.Name x pos) σ B L Q := by
  obtain ⟨t, hm⟩ := hm
  exact k_gi hm q hg hd
theorem i_sv {l : List Nat} {i : Int} (c : Nat) (q : Q (.str (sOf [c])) B L) (hv : atI l i = some c) (hl : l.length ≤ 16777216) : kI X (.str (sOf l)) (.int i) B L Q := i_str hv q hl
theorem i_lv {p : Addr} {xs : List V} {i : Int} (v : V) (h : Ls X.K B L p xs) (q : Q v B L) (hv : atI xs i = some v) : kI X (.ref p) (.int i) B L Q := i_list h hv q
theorem i_tv {p : Addr} {xs : List V} {i : Int} (v : V) (h : Tp X.K B L p xs) (q : Q v B L) (hv : atI xs i = some v) : kI X (.ref p) (.int i) B L Q := i_tup h hv q
theorem k_chainP {op op' : CmpOp} (h : kE X a σ B L fun x B1 L1 => kE X b σ B1 L1 fun y B2 L2 => kO X (compareOp op) x y B2 L2 fun z B3 L3 => ∃ k, z = .bl k ∧ ∃ k2 : Bool, (k = true → kE X c σ B3 L3 fun w B4 L4 => kO X (compareOp op') y w B4 L4 fun u B5 L5 => u = .bl k2 ∧ B5 = B3 ∧ L3 <:+ L5) ∧ Q (.bl (k && k2)) B3 L3)
    (hm : lastMarks [op, op'] [b, c] = false := by with_unfolding_all rfl) : kE X (.Compare a [op, op'] [b, c] pos) σ B L Q :=
  ⟨_, pe_chain or_c or_c pe_c pe_c pe_c hm, fun H s => toE s h fun _ _ _ _ s q => toE s q fun _ _ _ _ s q => toO s q fun z H3 B3 L3 s ⟨k, e, k2, h3, q⟩ => ⟨k, e, by
    cases k with
    | true =>
      refine iteT (toE s (h3 rfl) fun _ _ _ _ s q4 => toO s q4 fun u H5 B5 L5 s5 ⟨e1, e2, e3⟩ => ?_)
      subst e1 e2
      exact ⟨B5, L3, s5.suf e3, by rw [Bool.true_and] at q; exact q⟩
    | false => exact iteF ⟨_, _, s, by rw [Bool.false_and] at q; exact q⟩⟩⟩
theorem t_chainP {op op' : CmpOp} {Q : KB} (h : kE X a σ B L fun x B1 L1 => kE X b σ B1 L1 fun y B2 L2 => kO X (compareOp op) x y B2 L2 fun z B3 L3 => ∃ k, z = .bl k ∧ ∃ k2 : Bool, (k = true → kE X c σ B3 L3 fun w B4 L4 => kO X (compareOp op') y w B4 L4 fun u B5 L5 => u = .bl k2 ∧ B5 = B3 ∧ L3 <:+ L5) ∧ Q (k && k2) B3 L3)
    (hm : lastMarks [op, op'] [b, c] = false := by with_unfolding_all rfl) : kT X (.Compare a [op, op'] [b, c] pos) σ B L Q :=
  ⟨_, pt_chain or_c or_c pe_c pe_c pe_c hm, fun H s => toE s h fun _ _ _ _ s q => toE s q fun _ _ _ _ s q => toO s q fun z H3 B3 L3 s ⟨k, e, k2, h3, q⟩ => ⟨k, e, by
    cases k with
    | true =>
      refine iteT (toE s (h3 rfl) fun _ _ _ _ s q4 => toO s q4 fun u H5 B5 L5 s5 ⟨e1, e2, e3⟩ => ?_)
      subst e1 e2
      exact ⟨k2, rfl, B5, L3, s5.suf e3, by rw [Bool.true_and] at q; exact q⟩
    | false => exact iteF ⟨false, rfl, _, _, s, by rw [Bool.false_and] at q; exact q⟩⟩⟩
theorem tyx_l {K : PySem.W.Frag} {H : Hp} {p : Addr} {xs : List V} (h : SqL K H p xs) : TyX K H (.ref p) (.type "list") := by
  rcases h with (h | ⟨o, h⟩) | ⟨o, _, _, h, hc, _⟩
  · exact .base (.lst h)
  · exact .base (.frz h)
  · exact .kList h hc
theorem tyx_t {K : PySem.W.Frag} {H : Hp} {p : Addr} {xs : List V} (h : SqT K H p xs) : TyX K H (.ref p) (.type "tuple") := by
  rcases h with (h | ⟨o, h⟩) | ⟨o, _, _, h, hc, _⟩
  · exact .base (.tup h)
  · exact .fTuple h
  · exact .kTuple h hc
theorem c_isS {l : Str} {T : String} {k : Bool} (q : Q (.bl k) B L) (hk : kitB "str" T = some k := by decide +kernel) : kC X (.builtin "isinstance") [.str l, .ty T] B L Q := c_isi (.ty T) (fun _ _ => .base (.str l)) (kit_ty hk) q
theorem c_isI {i : Int} {T : String} {k : Bool} (q : Q (.bl k) B L) (hk : kitB "int" T = some k := by decide +kernel) : kC X (.builtin "isinstance") [.int i, .ty T] B L Q := c_isi (.ty T) (fun _ _ => .base (.int i)) (kit_ty hk) q
theorem c_isB {b : Bool} {T : String} {k : Bool} (q : Q (.bl k) B L) (hk : kitB "bool" T = some k := by decide +kernel) : kC X (.builtin "isinstance") [.bl b, .ty T] B L Q := c_isi (.ty T) (fun _ _ => .base (.bl b)) (kit_ty hk) q
theorem c_isN {T : String} {k : Bool} (q : Q (.bl k) B L) (hk : kitB "NoneType" T = some k := by decide +kernel) : kC X (.builtin "isinstance") [.non, .ty T] B L Q := c_isi (.ty T) (fun _ _ => .base .non) (kit_ty hk) q
theorem c_isL {p : Addr} {xs : List V} {T : String} {k : Bool} (h : Ls X.K B L p xs) (q : Q (.bl k) B L) (hk : kitB "list" T = some k := by decide +kernel) : kC X (.builtin "isinstance") [.ref p, .ty T] B L Q := c_isi (.ty T) (fun _ s => tyx_l (h.at s)) (kit_ty hk) q
theorem c_isT {p : Addr} {xs : List V} {T : String} {k : Bool} (h : Tp X.K B L p xs) (q : Q (.bl k) B L) (hk : kitB "tuple" T = some k := by decide +kernel) : kC X (.builtin "isinstance") [.ref p, .ty T] B L Q := c_isi (.ty T) (fun _ s => tyx_t (h.at s)) (kit_ty hk) q
/-- a def as it stands behind the top -/
def DefAt (K : PySem.W.Frag) (x qual : Str) (st : Stmt) (f : Addr) : Prop := ∃ (oc : Value) (od : Option Addr) (kV doc pm : Value) (an : Option Addr) (cdv ct : Value) (osl : Array (Option Value)),
  K.lookup f = some ⟨oc, od, .func (PySem.W.fnOf x qual (defArgs st) (defBody st) (defScope st) .none kV doc pm an cdv ct), osl⟩ ∧ PySem.W.codeIn K cdv qual = true ∧ PySem.W.keepIn K (.ref f) = true
theorem DefAt.fn {K : PySem.W.Frag} {x qual : Str} {st : Stmt} {f : Addr} (h : DefAt K x qual st f) : ∃ fd, Fun K x qual st f fd := by
  obtain ⟨oc, od, kV, doc, pm, an, cdv, ct, osl, h1, h2, h3⟩ := h
  exact ⟨_, fun_mk h1 h2 h3⟩
end
end Kv

namespace Kv
open PySem PySem.Spec PyProof.Rows L2
section
variable {X : Cx} {σ : L2.St} {B : Hp} {L : HL} {Q : KQ} {D : KD} {pos p2 : Pos} {e a b c tg iter elt : Expr} {es : List Expr} {body : List Stmt}
variable {P : Program} {w : World} {K : PySem.W.Frag} {mg : Str → Option Value} {base : Heap}
theorem mt_okM {x qual : Str} {st : Stmt} {C f : Addr} {fd : FuncData} {N ps : List Str} {k : Nat} {sp : Sp} (F : Fun K x qual st f fd) (S : FnScope N ps (defScope st)) (hm : Meth K C x f) (hc : Cls K C)
    (hb : ∀ (kV doc pm : Value) (an : Option Addr) (cdv ct : Value) (us : List Value), us.length = ps.length → bindArgs (PySem.W.fnOf x qual (defArgs st) (defBody st) (defScope st) .none kV doc pm an cdv ct) ⟨us, []⟩ = pure (ps.zip us))
    (len : ∀ vs H Q E, sp vs H Q E → vs.length = ps.length)
    (hbody : ∀ (cdv : Value) (A : Around) (outer : List Env) (s : Shared) (H : Hp) (vs : List V) (Q : VK) (E : XK), Room k (A.deeper (envOfC qual (defScope st) s.heap.objs.size f cdv)) → sp vs H Q E →
      Takes (cxOf (L2.CX P w) P w K mg base N qual (defScope st) f cdv A outer s H E) (fun cls d _ H => E cls d H) →
      PassesOwn (model P w) (A.deeper (envOfC qual (defScope st) s.heap.objs.size f cdv)) (envOfC qual (defScope st) s.heap.objs.size f cdv) (cxOf (L2.CX P w) P w K mg base N qual (defScope st) f cdv A outer s H E).xe →
      ∃ B L, Sat B L H ∧ kSs (cxOf (L2.CX P w) P w K mg base N qual (defScope st) f cdv A outer s H E) (defBody st) (start N vs) B L (fD Q)) : Mt P w K mg base (k + 1) C x sp := ⟨⟨f, fd, ps, fn_okF F S len hbody, hm, F.binds hb⟩, hc⟩
theorem mk_okM {x y qual : Str} {st : Stmt} {C f : Addr} {fd : FuncData} {ps : List Str} {k : Nat} {sp : Sp} (F : Fun K y qual st f fd) (h : FnOk P w K mg base (L2.CX P w) k f fd ps sp) (hk : Mk K C f) (hg : mg x = some (.ref C))
    (hb : ∀ (kV doc pm : Value) (an : Option Addr) (cdv ct : Value) (us : List Value), us.length = ps.length → bindArgs (PySem.W.fnOf y qual (defArgs st) (defBody st) (defScope st) .none kV doc pm an cdv ct) ⟨us, []⟩ = pure (ps.zip us)) : Mkr P w K mg base k x C sp := ⟨⟨f, fd, ps, h, hk, F.binds hb⟩, hg⟩
/-- what B holds, B' holds -/
abbrev Le (B B' : Hp) : Prop := ∀ b o, B b = some o → B' b = some o
theorem Ls.le {K : PySem.W.Frag} {B B' : Hp} {L : HL} {a : Addr} {xs : List V} (h : Ls K B L a xs) (e : Le B B') : Ls K B' L a xs := by
  rcases h with ((h | ⟨o, h⟩) | h) | h
  · exact .inl (.inl (.inl (e _ _ h)))
  · exact .inl (.inl (.inr ⟨o, e _ _ h⟩))
  · exact .inl (.inr h)
  · exact .inr h
theorem Tp.le {K : PySem.W.Frag} {B B' : Hp} {L : HL} {a : Addr} {xs : List V} (h : Tp K B L a xs) (e : Le B B') : Tp K B' L a xs := by
  rcases h with ((h | ⟨o, h⟩) | h) | h
  · exact .inl (.inl (.inl (e _ _ h)))
  · exact .inl (.inl (.inr ⟨o, e _ _ h⟩))
  · exact .inl (.inr h)
  · exact .inr h
/-- an object of ours goes to the base -/
theorem Sat.give {H : Hp} {p : Addr} {o : HO} (s : Sat B ((p, o) :: L) H) : Sat (upd B p o) L H ∧ Le B (upd B p o) := by
  have hb : B p = none := s.nb _ List.mem_cons_self
  have hnd := s.nd
  rw [List.map_cons, List.nodup_cons] at hnd
  refine ⟨⟨fun a u e => ?_, fun q hq => s.own q (List.mem_cons_of_mem _ hq), fun q hq => ?_, hnd.2⟩, fun b u e => ?_⟩
  · by_cases ha : a = p
    · subst ha
      rw [upd_same] at e
      cases e
      exact s.own _ List.mem_cons_self
    · rw [upd_ne ha] at e; exact s.ext a u e
  · have hq2 : q.1 ≠ p := fun e => hnd.1 (List.mem_map.mpr ⟨q, hq, e⟩)
    rw [upd_ne hq2]; exact s.nb q (List.mem_cons_of_mem _ hq)
  · rw [upd_ne (ne_of_none e hb)]; exact e
theorem Sat.new'' {H H' : Hp} {p : Addr} {o : HO} (s : Sat B L H) (h : H p = none) (e : ∀ b o, H b = some o → H' b = some o) (h' : H' p = some o) : Sat (upd B p o) L H' ∧ Le B (upd B p o) := (s.new' h e h').give
theorem Sat.give1 {H : Hp} {p : Addr} {o : HO} (s : Sat B ((p, o) :: L) H) : ∃ B', Sat B' L H ∧ Le B B' ∧ B' p = some o := ⟨_, s.give.1, s.give.2, upd_same⟩
end
end Kv
namespace Kv
open PySem PySem.Spec PyProof.Rows L2
section
variable {X : Cx} {σ : L2.St} {B : Hp} {L : HL} {Q : KQ} {D : KD} {pos p2 : Pos}
/-- isinstance of an own object by its own class -/
structure IsO (K : PySem.W.Frag) (C : Addr) : Prop where
  cl : Cls K C
  ha : PySem.W.findIn K (.ref C) "__class__" = some (some (.builtin "object.__class__"))
  hn : PySem.W.specialIn K (.builtin "object.__class__") "__get__" = some (some (.builtin "getset_descriptor.__get__"))
  ht : PySem.W.takesIn K (.builtin "object.__class__") = some true
  hm : PySem.W.mroIn K C (.type "object") = some true
  kit : PySem.W.kitOne K (.ref C) (.ref C) = some true
theorem c_isO {p C dx : Addr} {fs : List (Str × V)} (O : IsO X.K C) (h : At B L p (.ins C dx fs)) (q : Q (.bl true) B L) : kC X (.builtin "isinstance") [.ref p, .ref C] B L Q :=
  c_isi (.own C) (fun H s => .base (.ins (h.at s) O.cl O.ha O.hn O.ht O.hm)) O.kit q
theorem k_cls {x : Str} {C : Addr} (hm : X.mg x = some (.ref C)) (q : Q (.ref C) B L) (hg : Gl X x := by rfl) (hd : (x == ("__debug__" : Str)) = false := by decide) : kE X (.Name x pos) σ B L Q := k_g (v := .ref C) hm rfl q hg hd
end
end Kv
namespace Kv
open PySem PySem.Spec PyProof.Rows L2
section
variable {X : Cx} {σ : L2.St} {B : Hp} {L : HL} {Q : KQ} {D : KD} {pos p2 pos' : Pos} {e a b c tg iter elt : Expr} {es : List Expr} {body : List Stmt} {scope : Scope}
/-- .. over a tuple -/
theorem k_lcm_t {x : Str} {j : Nat} {px : Pos} (g : V → V) (hN : X.N.Nodup) (ok : BlkOk X.N X.env.scope scope [(x, j)])
    (h : kE X iter σ B L fun v B1 L1 => ∃ a xs, v = .ref a ∧ Tp X.K B1 L1 a xs ∧ xs.length ≤ 16777216 ∧ (∀ z ∈ xs, ∀ D acc s H0 C cl fp, kE (Bk X scope s H0 C cl fp) elt (σ.set j (some z)) B1 ((D, .lst acc) :: L1) fun y B3 L3 => y = g z ∧ B3 = B1 ∧ L3 = (D, .lst acc) :: L1) ∧
      ∀ D, Q (.ref D) B1 ((D, .lst (xs.map g)) :: L1))
    (hp : ∀ s H0 C cl fp, Loc (Bk X scope s H0 C cl fp).env.scope x := by intro _ _ _ _ _; first | exact Or.inl rfl | exact Or.inr rfl) (hf : ∀ s H0 C cl fp, (Bk X scope s H0 C cl fp).fn x = true ∨ (Bk X scope s H0 C cl fp).env.scope.names.lookup x = some .local := by intro _ _ _ _ _; first | exact .inr rfl | exact .inl rfl)
    (hj : X.N[j]? = some x := by rfl) (hc : X.calm = true := by rfl) (hs : ∀ x, foldedSetIterable iter X.env x = pure x := by intro _; rfl) : kL X elt (.Name x px) iter [] scope [(x, j)] σ B L Q :=
  k_lc hN ok (r_tup (by
    obtain ⟨t, h1, h2⟩ := h
    refine ⟨_, pe_c, fun H s => toE s ⟨t, h1, h2⟩ fun v H' B1 L1 s' ⟨a, xs, e, hls, hl, ht, hd⟩ => ⟨B1, L1, s', a, xs, e, hls, xs.length, _, _, fun i acc B L => B = B1 ∧ L = L1 ∧ acc = (xs.take i).map g, walk_tup, ⟨rfl, rfl, by simp⟩, ?_, ?_, ?_⟩⟩
    · rintro i acc B L H hi ⟨rfl, rfl, _⟩ s
      exact hls.at s
    · rintro D i acc x B L H H' hi ⟨rfl, rfl, rfl⟩ s ⟨rfl, hx⟩
      refine ⟨_, _, s, fun sa Ha Ca cla fpa => g_name j ?_ hN hj (hp sa Ha Ca cla fpa) (hf sa Ha Ca cla fpa)⟩
      refine ⟨wipe1 σ j _, fun sb Hb Cb clb fpb => ?_⟩
      show kE _ _ ((wipe σ [j]).set j _) _ _ _
      rw [wipe1']
      obtain ⟨t2, k1, k2⟩ := ht x (List.mem_of_getElem? hx) D ((xs.take i).map g) sb Hb Cb clb fpb
      refine ⟨_, pe_c, fun H s => toE s ⟨t2, k1, k2⟩ fun y H2 B2 L2 s2 ⟨e1, e2, e3⟩ => ⟨B2, L2, s2, ?_, L, e3, e2, rfl, ?_⟩⟩
      · simp; omega
      · rw [e1, List.take_add_one, hx]; simp
    · rintro acc B L D ⟨rfl, rfl, rfl⟩
      rw [List.take_length]
      exact hd D)) hc hs

/-- [elt for i in range(e)], the element's work may change the heap -/
theorem k_lcv_r1 {x : Str} {j : Nat} {px : Pos} (Pv : Nat → List V → Hp → HL → Prop) (hN : X.N.Nodup) (ok : BlkOk X.N X.env.scope scope [(x, j)]) (hm : X.mg "range" = none)
    (h : kE X e σ B L fun v B1 L1 => ∃ n : Nat, v = .int n ∧ n < 2 ^ 24 ∧ Pv 0 [] B1 L1 ∧ (∀ i acc B L, i < n → Pv i acc B L → acc.length = i ∧ ∀ D s H0 C cl fp, kE (Bk X scope s H0 C cl fp) elt (σ.set j (some (.int i))) B ((D, .lst acc) :: L) fun y B3 L3 => ∃ L4, L3 = (D, .lst acc) :: L4 ∧ Pv (i + 1) (acc ++ [y]) B3 L4) ∧
      ∀ acc B L D, Pv n acc B L → Q (.ref D) B ((D, .lst acc) :: L))
    (hp : ∀ s H0 C cl fp, Loc (Bk X scope s H0 C cl fp).env.scope x := by intro _ _ _ _ _; first | exact Or.inl rfl | exact Or.inr rfl) (hf : ∀ s H0 C cl fp, (Bk X scope s H0 C cl fp).fn x = true ∨ (Bk X scope s H0 C cl fp).env.scope.names.lookup x = some .local := by intro _ _ _ _ _; first | exact .inr rfl | exact .inl rfl)
    (hg : Gl X "range" := by rfl) (hst : starEach [e] X.env = (false, eval e X.env) :: starEach [] X.env := by rfl) (hst' : starEach [e] X.env = [(false, eval e X.env)] := by rfl)
    (hj : X.N[j]? = some x := by rfl) (hc : X.calm = true := by rfl) (hs : ∀ x, foldedSetIterable (.Call (.Name "range" p2) [e] [] pos') X.env x = pure x := by intro _; rfl) : kL X elt (.Name x px) (.Call (.Name "range" p2) [e] [] pos') [] scope [(x, j)] σ B L Q :=
  k_lc hN ok (r_rng1 hm (by
    obtain ⟨t, h1, h2⟩ := h
    refine ⟨_, pe_c, fun H s => toE s ⟨t, h1, h2⟩ fun v H' B1 L1 s' ⟨n, e, hl, p0, ht, hd⟩ => ⟨B1, L1, s', (n : Int), e, by omega, by omega, (n : Int).toNat, _, _, Pv, walk_range, p0, fun i acc B L H hi p s => trivial, ?_, ?_⟩⟩
    · rintro D i acc x B L H H' hi p s ⟨rfl, rfl⟩
      have hi' : i < n := by omega
      obtain ⟨hac, ht⟩ := ht i acc B L hi' p
      have e0 : ((0 : Int) + (i : Int)) = (i : Int) := Int.zero_add _
      refine ⟨_, _, s, fun sa Ha Ca cla fpa => g_name j ?_ hN hj (hp sa Ha Ca cla fpa) (hf sa Ha Ca cla fpa)⟩
      refine ⟨wipe1 σ j _, fun sb Hb Cb clb fpb => ?_⟩
      show kE _ _ ((wipe σ [j]).set j (some (.int ((0 : Int) + (i : Int))))) _ _ _
      rw [wipe1', e0]
      obtain ⟨t2, k1, k2⟩ := ht D sb Hb Cb clb fpb
      refine ⟨_, pe_c, fun H s => toE s ⟨t2, k1, k2⟩ fun y H2 B2 L2 s2 ⟨L4, e1, q⟩ => ⟨B2, L2, s2, by omega, L4, e1, q⟩⟩
    · intro acc B L D p
      exact hd acc B L D (by simpa using p)) hg hst hst') hc hs
end
end Kv
namespace Kv
open PySem PySem.Spec PyProof.Rows L2
section
variable {X : Cx} {σ : L2.St} {B : Hp} {L : HL} {Q : KQ} {D : KD} {pos p2 : Pos} {e a b c tg iter elt : Expr}
theorem k_slower {apos : Pos} (h : kE X a σ B L fun x B1 L1 => ∃ l, x = .str (sOf l) ∧ kMt X "str.lower" x [] B1 L1 Q)
    (hbase : attributeBase a "lower" X.env (eval a X.env) = eval a X.env := by rfl) (hline : (apos.endLine == pos.line) = true := by rfl) : kE X (.Call (.Attribute a "lower" apos) [] [] pos) σ B L Q := by
  refine k_m0 PySem.F.plainAttrs_str PySem.F.slot_str_lower PySem.F.type_str_lower ?_ hbase hline
  obtain ⟨t, h1, h2⟩ := h
  refine ⟨_, pe_c, fun H s => toE s ⟨t, h1, h2⟩ fun x H' B' L' s' ⟨z, e, q⟩ => ⟨B', L', s', ?_, q⟩⟩
  subst e
  exact ty_s
theorem k_sisupper {apos : Pos} (h : kE X a σ B L fun x B1 L1 => ∃ l, x = .str (sOf l) ∧ kMt X "str.isupper" x [] B1 L1 Q)
    (hbase : attributeBase a "isupper" X.env (eval a X.env) = eval a X.env := by rfl) (hline : (apos.endLine == pos.line) = true := by rfl) : kE X (.Call (.Attribute a "isupper" apos) [] [] pos) σ B L Q := by
  refine k_m0 PySem.F.plainAttrs_str PySem.F.slot_str_isupper PySem.F.type_str_isupper ?_ hbase hline
  obtain ⟨t, h1, h2⟩ := h
  refine ⟨_, pe_c, fun H s => toE s ⟨t, h1, h2⟩ fun x H' B' L' s' ⟨z, e, q⟩ => ⟨B', L', s', ?_, q⟩⟩
  subst e
  exact ty_s
theorem m_isupper {x : Str} {k : Bool} (hy : Txt.isupper x = k) (q : Q (.bl k) B L) : kMt X "str.isupper" (.str x) [] B L Q := ⟨_, mt_isupper, fun H s => ⟨x, rfl, rfl, trivial, by rw [hy]; exact ⟨_, _, s, q⟩⟩⟩
theorem c_maxl {p : Addr} {ns : List Int} (h : Ls X.K B L p (ns.map V.int)) (hn : 0 < ns.length) (q : ∀ m, m ∈ ns → (∀ y, y ∈ ns → y ≤ m) → Q (.int m) B L) (hc : X.calm = true := by rfl) : kC X (.builtin "max") [.ref p] B L Q :=
  ⟨_, cr_max hc, fun H s => ⟨p, ns, rfl, h.at s, hn, fun m h1 h2 => ⟨_, _, s, q m h1 h2⟩⟩⟩
theorem Sat.take {H : Hp} {p : Addr} {o : HO} (s : Sat B L H) (h : H p = some o) (hn : p ∉ L.map (·.1)) : Sat (upd B p o) L H := by
  refine ⟨fun a u e => ?_, s.own, fun q hq => ?_, s.nd⟩
  · by_cases ha : a = p
    · subst ha
      rw [upd_same] at e
      cases e
      exact h
    · rw [upd_ne ha] at e; exact s.ext a u e
  · have hq2 : q.1 ≠ p := fun e => hn (List.mem_map.mpr ⟨q, hq, e⟩)
    rw [upd_ne hq2]; exact s.nb q hq
theorem le_upd {p : Addr} {o : HO} (h : B p = none) : Le B (upd B p o) := fun b u e => by
  rw [upd_ne (ne_of_none e h)]; exact e
/-- the heap without x -/
def rmH (H : Hp) (x : Addr) : Hp := fun b => if b = x then none else H b
theorem rm_ne {H : Hp} {x b : Addr} (h : b ≠ x) : rmH H x b = H b := if_neg h
theorem rm_eq {H : Hp} {x : Addr} : rmH H x x = none := if_pos rfl
theorem sat_rm {H : Hp} {x : Addr} {o : HO} (h : H x = some o) : Sat (rmH H x) [(x, o)] H :=
  ⟨fun a u e => by
    by_cases ha : a = x
    · rw [ha] at e; unfold rmH at e; rw [if_pos rfl] at e; cases e
    · rw [rm_ne ha] at e; exact e, fun p hp => by rw [List.mem_singleton.mp hp]; exact h, fun p hp => by rw [List.mem_singleton.mp hp]; unfold rmH; rw [if_pos rfl], by simp⟩
end
end Kv
namespace Kv
open PySem PySem.Spec PyProof.Rows L2
section
variable {X : Cx} {σ : L2.St} {B : Hp} {L L' : HL} {Q : KQ} {D : KD} {ss : List Stmt}
theorem Sat.sub {H : Hp} (h : List.Sublist L' L) (s : Sat B L H) : Sat B L' H := ⟨s.ext, fun p hp => s.own p (h.subset hp), fun p hp => s.nb p (h.subset hp), (h.map _).nodup s.nd⟩
/-- some of ours are forgotten -/
theorem k_sub (h : List.Sublist L' L) (k : kSs X ss σ B L' D) : kSs X ss σ B L D := by
  obtain ⟨t, h1, h2⟩ := k
  exact ⟨t, h1, fun H s => h2 H (s.sub h)⟩
end
end Kv
namespace Kv
open PySem PySem.Spec PyProof.Rows L2
section
variable {X : Cx} {σ σ' : L2.St} {B : Hp} {L : HL} {D : KD} {ss : List Stmt}
/-- the slots written out -/
theorem k_norm (h : σ = σ') (k : kSs X ss σ' B L D) : kSs X ss σ B L D := by rw [h]; exact k
end
end Kv

/-! The head: facts of the top by names. -/
namespace Kv
open PySem PySem.Spec PyProof.Rows L2
section
variable {K : PySem.W.Frag} {h : Heap} {mg : Str → Option Value}
theorem fun_d {x qual : Str} {st : Stmt} {f : Addr} {fd : FuncData} (F : FunD K x qual (defArgs st) (defBody st) (defScope st) [] [] f fd) : Fun K x qual st f fd := by
  obtain ⟨u, v, dV, kV, doc, pm, an, cv, t, sl, e, q, hc, hD, _⟩ := F.ex
  rcases hD with ⟨_, e2⟩ | ⟨e2, _⟩
  · subst e2
    exact ⟨⟨u, v, kV, doc, pm, an, cv, t, sl, e, q, hc⟩, F.kp⟩
  · exact absurd rfl e2
/-- a def of the top, a method -/
abbrev dTop (x : Str) (st : Stmt) : He.DefD := ⟨(x, none), x, x, defArgs st, defBody st, defScope st, [], []⟩
abbrev dMth (C m q : Str) (st : Stmt) : He.DefD := ⟨(C, some m), m, q, defArgs st, defBody st, defScope st, [], []⟩
theorem d_top {fa : List He.Fa} {fn : List He.DefD} {x : Str} {st : Stmt} (c : He.SaysD fa fn K) (i : Nat) (h : fn[i]? = some (dTop x st)) : ∃ fd, FunD K x x (defArgs st) (defBody st) (defScope st) [] [] (He.ga K x) fd := c.def_ i h
theorem d_mth {fa : List He.Fa} {fn : List He.DefD} {C m q : Str} {st : Stmt} (c : He.SaysD fa fn K) (i : Nat) (h : fn[i]? = some (dMth C m q st)) : ∃ fd, FunD K m q (defArgs st) (defBody st) (defScope st) [] [] (He.ma K (He.ga K C) m) fd := c.def_ i h
def isoB (K : PySem.W.Frag) (x : Str) : Bool :=
  (He.eqO (PySem.W.findIn K (.ref (He.ga K x)) "__class__") (some (some (.builtin "object.__class__"))) && He.eqO (PySem.W.specialIn K (.builtin "object.__class__") "__get__") (some (some (.builtin "getset_descriptor.__get__")))) &&
  ((decide (PySem.W.takesIn K (.builtin "object.__class__") = some true) && decide (PySem.W.mroIn K (He.ga K x) (.type "object") = some true)) && decide (PySem.W.kitOne K (.ref (He.ga K x)) (.ref (He.ga K x)) = some true))
theorem iso_of {x : Str} (c : (He.Fa.cls x).ok K = true) (e : isoB K x = true) : IsO K (He.ga K x) := by
  unfold isoB at e
  obtain ⟨e1, e2⟩ := He.ba e
  obtain ⟨a1, a2⟩ := He.ba e1
  obtain ⟨e3, a5⟩ := He.ba e2
  obtain ⟨a3, a4⟩ := He.ba e3
  exact ⟨He.cls_ok c, He.eqO_ok a1, He.eqO_ok a2, of_decide_eq_true a3, of_decide_eq_true a4, of_decide_eq_true a5⟩
theorem exk_of (X : K.In h) (G : h.Ns mainGlobals mg) {x : Str} (c1 : (He.Fa.glo x).ok K = true) (c2 : (He.Fa.exc x).ok K = true) : ExK K mg x (He.ga K x) := by
  obtain ⟨a1, a2, a3, a4⟩ := He.exc_ok c2
  exact ⟨He.glo_ok X G c1, a1, a2, a3, a4⟩
theorem cx_end {P : Program} {w : World} {H : Hp} {s : Shared} {e : Value} {s' : Shared} (h : L2.CX P w [] H s (fun _ _ _ => False) e s') : False := by
  obtain ⟨_, _, _, _, _, _, _, _, _, _, _, _, z⟩ := h
  exact z
end
/-- the law's def, all that is known of it -/
theorem walk_end {l : PySem.W.OpenLaw} {n k : Nat} {q : Program} {loose : List Str} {XP : (Str → Option Value) → Heap → Prop} {YP : World → Heap → Prop} {d : DefRec} {x : Str} (hn : l.most = some n) (hn2 : n ≤ sizeLine) (hdf : d.params.defaults = []) (hr : Room k callerA)
    (F : ∀ (w : World) (mg : Str → Option Value) (fa : Addr) (h : Heap), YP w h → h.Ns mainGlobals mg → mg d.name = some (.ref fa) → ∃ (K : PySem.W.Frag) (fd : FuncData) (sp : Sp), K.In h ∧ (∀ (s : Shared) (u : Value), BindsTo s fd ⟨[u], []⟩ [(x, u)]) ∧
      (∀ (H : Hp) (a : Addr) (ns : List Int), ns.length ≤ n → Only H → SqL K H a (ns.map V.int) → sp [.ref a] H (fun v _ => v = .bl true) fun _ _ _ => False) ∧ ∀ base : Heap, K.In base → base.Ns mainGlobals mg → FnOk l.prog w K mg base (L2.CX l.prog w) k fa fd [x] sp) :
    PySem.W.WalkO q loose XP YP l.row.toRowW d [] (fun f vs => PySem.call f vs) := by
  refine Att.attach_call hn hdf fun w t0 t1 mg mb fa o u cv dc a vs ns G Y e1 e2 e3 e4 e5 e6 e7 e8 => ?_
  obtain ⟨K, fd, sp, KX, hb, hsp, hF⟩ := F w mg fa _ Y G.T.g e4
  exact law_call KX G.T.g G.T.b G.T.builtins G.T.nolimit e8 e5 e6 (Nat.le_trans e7 hn2) hr hF hb (fun H o1 o2 => hsp H a ns e7 o1 o2) fun H e s' z => cx_end z
end Kv

namespace K82
open PySem PySem.Spec PyProof.Rows L2 Kv Fg
local macro_rules | `(tactic| walk_at "mm") => `(tactic| (repeat (first | exact List.Mem.head _ | apply List.Mem.tail)))
local macro_rules | `(tactic| walk_at "rep") => `(tactic| (repeat (first | exact Rep.here | apply Rep.there)))
local macro_rules | `(tactic| walk_at "sfx") => `(tactic| first | exact List.suffix_refl _ | exact List.suffix_cons _ _ | exact (List.suffix_cons _ _).trans (List.suffix_cons _ _) | exact ((List.suffix_cons _ _).trans (List.suffix_cons _ _)).trans (List.suffix_cons _ _))
local macro_rules | `(tactic| walk_at "ls") => `(tactic| first | assumption | exact Or.inl (by assumption) | (refine Or.inr ?_; walk_at "mm"; done))
local macro_rules | `(tactic| walk_at "tp") => `(tactic| first | assumption | exact Or.inl (by assumption) | (refine Or.inr ?_; walk_at "mm"; done))
local macro_rules | `(tactic| walk_at "at") => `(tactic| first | assumption | exact Or.inl (by assumption) | (refine Or.inr ?_; walk_at "mm"; done))
local macro_rules | `(tactic| walk_at "opAdd") => `(tactic| first | refine o_add ?_ | refine o_adds ?_ ?_)
local macro_rules | `(tactic| walk_at "opSub") => `(tactic| refine o_sub ?_)
local macro_rules | `(tactic| walk_at "opMult") => `(tactic| first | refine o_mul ?_ (.inr (by decide)) | refine o_mul ?_ (.inl (by decide)) | refine o_mul ?_ ?_ | refine o_muls ?_ ?_ ?_)
local macro_rules | `(tactic| walk_at "opMod") => `(tactic| first | refine o_mod ?_ (by decide) | refine o_mod ?_ ?_)
local macro_rules | `(tactic| walk_at "opFloorDiv") => `(tactic| first | refine o_fdiv ?_ (by decide) | refine o_fdiv ?_ ?_)
local macro_rules | `(tactic| walk_at "opPow") => `(tactic| refine o_pow ?_ (by decide))
local macro_rules | `(tactic| walk_at "opLt") => `(tactic| refine o_lt ?_)
local macro_rules | `(tactic| walk_at "opLtE") => `(tactic| refine o_le ?_)
local macro_rules | `(tactic| walk_at "opGt") => `(tactic| refine o_gt ?_)
local macro_rules | `(tactic| walk_at "opGtE") => `(tactic| refine o_ge ?_)
local macro_rules | `(tactic| walk_at "opEq") => `(tactic| first | refine o_eqi ?_ | refine o_eqs ?_ | refine o_eqb ?_)
local macro_rules | `(tactic| walk_at "opNotEq") => `(tactic| first | refine o_nei ?_ | refine o_nes ?_ | refine o_neb ?_)
local macro_rules | `(tactic| walk_at "opIn") => `(tactic| refine o_ins ?_)
local macro_rules | `(tactic| walk_at "opNotIn") => `(tactic| refine o_nins ?_)
local macro_rules | `(tactic| walk_at "opIs") => `(tactic| refine o_isN ?_)
local macro_rules | `(tactic| walk_at "opIsNot") => `(tactic| refine o_notN ?_)
local macro_rules | `(tactic| walk_at "IX") => `(tactic| first | refine i_sN ?_ ?_ ?_ | refine i_li (by walk_at "ls") ?_ ?_ | refine i_lN (by walk_at "ls") ?_ ?_)
local macro_rules | `(tactic| walk_at "SLICE") => `(tactic| first | refine sl_s ?_ ?_ | refine sl_l (by walk_at "ls") fun p => ?_)
local macro_rules | `(tactic| walk_at "c_len") => `(tactic| first | refine c_lens ?_ ?_ | refine c_lenl (by walk_at "ls") ?_ | refine c_lent (by walk_at "tp") ?_)
local macro_rules | `(tactic| walk_at "c_abs") => `(tactic| refine c_abs ?_)
local macro_rules | `(tactic| walk_at "c_min") => `(tactic| refine c_min2 ?_)
local macro_rules | `(tactic| walk_at "c_max") => `(tactic| refine c_max2 ?_)
local macro_rules | `(tactic| walk_at "c_int") => `(tactic| refine c_intb ?_)
local macro_rules | `(tactic| walk_at "c_list") => `(tactic| first | refine c_listl (by walk_at "ls") fun p => ?_ | refine c_listt (by walk_at "tp") fun p => ?_)
local macro_rules | `(tactic| walk_at "c_tuple") => `(tactic| refine c_tupl (by walk_at "ls") fun p => ?_)
local macro_rules | `(tactic| walk_at "c_isinstance") => `(tactic| first | refine c_isS (k := true) ?_ | refine c_isS (k := false) ?_ | refine c_isI (k := true) ?_ | refine c_isI (k := false) ?_ | refine c_isB (k := true) ?_ | refine c_isB (k := false) ?_ | refine c_isN (k := true) ?_ | refine c_isN (k := false) ?_ | refine c_isL (k := true) (by walk_at "ls") ?_ | refine c_isL (k := false) (by walk_at "ls") ?_ | refine c_isT (k := true) (by walk_at "tp") ?_ | refine c_isT (k := false) (by walk_at "tp") ?_)
local macro_rules | `(tactic| walk_at "c_all") => `(tactic| refine c_all (by walk_at "ls") ?_)
local macro_rules | `(tactic| walk_at "c_any") => `(tactic| refine c_any (by walk_at "ls") ?_)
local macro_rules | `(tactic| walk_at "c_sum") => `(tactic| refine c_sum (by walk_at "ls") ?_)
local macro_rules | `(tactic| walk_at "side") => `(tactic| first | assumption | omega | decide | (simp only [List.length_cons, List.length_nil]; omega))
def top (i : Nat) : Stmt := PySem.Challenge.pw_backwords_k82_sent_and_then.main.body.getD i (.Pass ⟨0, 0, 0, 0⟩)
/-! ### letters, words (the plain side) -/
def ordL : List Nat := [97, 65, 98, 66, 99, 67, 100, 68, 101, 69, 102, 70]
def ltL : List Nat := [97, 98, 99, 100, 101, 102]
abbrev Let (l : List Nat) : Prop := ∀ c ∈ l, c ∈ ordL
theorem ord_ix {c : Nat} (h : c ∈ ordL) : Txt.index0 (sOf ordL) (sOf [c]) = some (ordL.idxOf c) := by
  simp only [ordL, List.mem_cons, List.not_mem_nil, or_false] at h
  rcases h with h | h | h | h | h | h | h | h | h | h | h | h <;> subst h <;> decide +kernel
theorem ord_at {c : Nat} (h : c ∈ ordL) : (atI ordL ((ordL.idxOf c : Nat) + 1 - 2 * (((ordL.idxOf c : Nat) : Int) % 2))).getD 0 = bk c := by
  simp only [ordL, List.mem_cons, List.not_mem_nil, or_false] at h
  rcases h with h | h | h | h | h | h | h | h | h | h | h | h <;> subst h <;> decide +kernel
theorem ord_lt {c : Nat} (h : c ∈ ordL) : ordL.idxOf c < 12 := List.idxOf_lt_length_of_mem h
theorem let_bk {c : Nat} (h : c ∈ ordL) : bk c ∈ ordL := by
  simp only [ordL, List.mem_cons, List.not_mem_nil, or_false] at h
  rcases h with h | h | h | h | h | h | h | h | h | h | h | h <;> subst h <;> decide
theorem let_small {l : List Nat} (h : Let l) : ∀ c ∈ l, c < 1114112 := fun c hc => by
  have := h c hc
  simp only [ordL, List.mem_cons, List.not_mem_nil, or_false] at this
  omega
theorem let_red {l : List Nat} (h : Let l) : Let (red l) := fun c hc => h c (red_mem hc)
theorem let_inv {l : List Nat} (h : Let l) : Let (inv l) := fun c hc => by
  unfold inv at hc
  rw [List.mem_reverse, List.mem_map] at hc
  obtain ⟨d, hd, rfl⟩ := hc
  exact let_bk (h d hd)
theorem let_app {a b : List Nat} (ha : Let a) (hb : Let b) : Let (a ++ b) := fun c hc => (List.mem_append.mp hc).elim (ha c) (hb c)
theorem let_cut {l : List Nat} {lo hi : Option Int} (h : Let l) : Let (cut l lo hi) := fun c hc => h c (List.mem_of_mem_drop (List.mem_of_mem_take hc))
/-- the stack as the list of texts that the program keeps -/
def one (c : Nat) : V := .str (sOf [c])
def stk (s : List Nat) : List V := s.reverse.map one
theorem stk_push (s : List Nat) (c : Nat) : stk (c :: s) = stk s ++ [.str (sOf [c])] := by simp [stk, one]
theorem stk_pop (c : Nat) (s : List Nat) : (stk (c :: s)).dropLast = stk s := by rw [stk_push, List.dropLast_concat]
theorem stk_len (s : List Nat) : (stk s).length = s.length := by simp [stk]
theorem flat_one (l : List Nat) : (l.map fun c => [c]).flatten = l := by induction l with | nil => rfl | cons a l ih => simp [ih]
theorem map_one (l : List Nat) : l.map one = (l.map fun c => [c]).map fun l => V.str (sOf l) := by rw [List.map_map]; rfl
theorem act_take {l : List Nat} {i c : Nat} (h : l[i]? = some c) : act (l.take (i + 1)) [] = push (act (l.take i) []) c := by
  rw [List.take_add_one, h, act_app]; rfl
theorem act_len (l st : List Nat) : (act l st).length ≤ st.length + l.length := by
  induction l generalizing st with
  | nil => simp [act_nil]
  | cons c l ih =>
    rw [act_cons]
    have h1 := ih (push st c)
    have h2 : (push st c).length ≤ st.length + 1 := by
      cases st with
      | nil => simp [push]
      | cons x r => rw [push_cons]; split <;> simp <;> omega
    simp only [List.length_cons]
    omega
theorem at_last {α : Type} (xs : List α) (v : α) : atI (xs ++ [v]) (-1) = some v := by
  have h := atI_neg (l := xs ++ [v]) (j := 0) (by simp)
  have e : (-1 - ((0 : Nat) : Int)) = -1 := rfl
  rw [e] at h
  rw [h]; simp
theorem get_last {α : Type} (xs : List α) (v : α) : (xs ++ [v])[(xs ++ [v]).length - 1]? = some v := by simp
/-- what the top leaves of written names -/
structure Tx (mg : Str → Option Value) : Prop where
  g_LETTERS : ∃ t, mg "LETTERS" = some (.str (sOf ltL) t)
  g_ORDER : ∃ t, mg "ORDER" = some (.str (sOf ordL) t)
  g_MOST_LETTERS : ∃ t, mg "MOST_LETTERS" = some (.int 60 t)
  b_ValueError : mg "ValueError" = none
  b_all : mg "all" = none
  b_range : mg "range" = none
  b_list : mg "list" = none
  b_isinstance : mg "isinstance" = none
  b_str : mg "str" = none
  b_any : mg "any" = none
  b_int : mg "int" = none
  b_tuple : mg "tuple" = none
  b_len : mg "len" = none
  b_max : mg "max" = none
  b_bool : mg "bool" = none
  b_reversed : mg "reversed" = none
  b_enumerate : mg "enumerate" = none
  b_sum : mg "sum" = none
section
variable {P : Program} {w : World} {K : PySem.W.Frag} {mg : Str → Option Value} {base : Heap}
abbrev s_back_of : Stmt := top 9
abbrev N_back_of : List Str := ["letter", "at"]
theorem sc_back_of : FnScope N_back_of ["letter"] (defScope s_back_of) := ⟨rfl, rfl, rfl, by decide +kernel, rfl, by decide +kernel, by decide +kernel⟩
def sp_back_of : Sp := fun vs H Q _ => ∃ c, vs = [.str (sOf [c])] ∧ c ∈ ordL ∧ ∀ H', (∀ b o, H b = some o → H' b = some o) → Q (.str (sOf [bk c])) H'
theorem use_back_of {B : Hp} {L : HL} {Q : KQ} {E : XK} {c : Nat} (q : Q (.str (sOf [bk c])) B L) (h : c ∈ ordL) : ∀ H, Sat B L H → sp_back_of [.str (sOf [c])] H (up Q) E := fun H s => ⟨c, rfl, h, fun H' e => s.upq e q⟩
theorem ok_back_of {f : Addr} {fd : FuncData} (F : Fun K "back_of" "back_of" s_back_of f fd) (hm : mg "back_of" = some (.ref f)) (T : Tx mg) : Fn P w K mg base 1 "back_of" sp_back_of := by
  refine fn_ok F sc_back_of hm (fun _ _ _ _ _ _ us hl => match us, hl with | [_], _ => rfl) ?_ fun cdv A outer s H vs Q E hr h tk po => ?_
  · rintro vs H Q E ⟨c, rfl, _⟩; rfl
  obtain ⟨c, rfl, hc, hq⟩ := h
  refine ⟨H, [], Sat.whole, ?_⟩
  refine k_cons ?_      -- at = ORDER.index(letter)
  refine k_set 1 ?_ sc_back_of.nd
  refine k_sindex ?_ (name := "")
  refine k_gsE T.g_ORDER ?_
  refine ⟨_, rfl, ?_⟩
  refine a_cons ?_
  refine k_n 0 ?_
  refine a_nil ?_
  refine m_index (ord_ix hc) ?_
  refine k_one ?_      -- return ORDER[at + 1 - 2 * (at % 2)]
  refine k_ret ?_
  refine k_ix ?_
  refine k_gsE T.g_ORDER ?_
  refine k_bin ?_
  refine k_bin ?_
  refine k_n 1 ?_
  refine k_int ?_
  walk_at "opAdd"
  refine k_bin ?_
  refine k_int ?_
  refine k_bin ?_
  refine k_n 1 ?_
  refine k_int ?_
  walk_at "opMod"
  walk_at "opMult"
  walk_at "opSub"
  walk_at "IX"
  · rw [ord_at hc]
    exact fun H' s => hq H' s.ext
  · have := ord_lt hc
    show -12 ≤ _ ∧ _ < (12 : Int)
    omega
  · decide
abbrev s_put_together : Stmt := top 13
abbrev N_put_together : List Str := ["letters", "found", "letter"]
theorem sc_put_together : FnScope N_put_together ["letters"] (defScope s_put_together) := ⟨rfl, rfl, rfl, by decide +kernel, rfl, by decide +kernel, by decide +kernel⟩
def sp_put_together : Sp := fun vs H Q _ => ∃ l, vs = [.str (sOf l)] ∧ (Let l ∧ l.length ≤ 1000000) ∧ ∀ H', (∀ b o, H b = some o → H' b = some o) → Q (.str (sOf (red l))) H'
theorem use_put_together {B : Hp} {L : HL} {Q : KQ} {E : XK} {l : List Nat} (q : Q (.str (sOf (red l))) B L) (h : Let l ∧ l.length ≤ 1000000) : ∀ H, Sat B L H → sp_put_together [.str (sOf l)] H (up Q) E := fun H s => ⟨l, rfl, h, fun H' e => s.upq e q⟩
theorem ok_put_together {f : Addr} {fd : FuncData} (F : Fun K "put_together" "put_together" s_put_together f fd) (hm : mg "put_together" = some (.ref f)) (T : Tx mg) (F_back_of : Fn P w K mg base 1 "back_of" sp_back_of) : Fn P w K mg base 2 "put_together" sp_put_together := by
  refine fn_ok F sc_put_together hm (fun _ _ _ _ _ _ us hl => match us, hl with | [_], _ => rfl) ?_ fun cdv A outer s H vs Q E hr h tk po => ?_
  · rintro vs H Q E ⟨c, rfl, _⟩; rfl
  obtain ⟨l, rfl, ⟨hl, hn⟩, hq⟩ := h
  refine ⟨H, [], Sat.whole, ?_⟩
  refine k_cons ?_      -- found = []
  refine k_set 1 ?_ sc_put_together.nd
  refine k_lst ?_
  refine a_nil ?_
  refine ⟨by first | decide | simp, fun p => ?_⟩
  refine k_cons ?_
  refine k_for_s (fun i σ B L => ∃ v, σ = [some (.str (sOf l)), some (.ref p), v] ∧ B = H ∧ L = [(p, .lst (stk (act (l.take i) [])))]) po ?_
  refine k_n 0 ?_
  refine ⟨l, rfl, ⟨_, rfl, rfl, rfl⟩, ?_, ?_⟩
  · rintro i c σ B L hi ⟨v, rfl, rfl, rfl⟩
    have hc : c ∈ ordL := hl c (List.mem_of_getElem? hi)
    have hil := (List.getElem?_eq_some_iff.mp hi).1
    have hal := act_len (l.take i) []
    have hst := act_take hi
    rw [List.length_take] at hal
    refine g_name 2 ?_ sc_put_together.nd
    refine k_one ?_
    refine k_if ?_
    cases hs : act (l.take i) [] with
    | nil =>
      rw [hs] at hst
      refine t_pure (v := false) ?_ ⟨fun z => (nomatch z), fun _ => ?_⟩
      · refine t_w ?_
        refine w_and ?_
        refine t_cmp ?_
        refine k_n 1 ?_
        refine k_lst ?_
        refine a_nil ?_
        refine ⟨by first | decide | simp, fun p => ?_⟩
        refine o_ness (a := []) (b := []) hr.units (by walk_at "ls") (by walk_at "ls") ?_ (by simp) (by simp)
        refine ⟨_, rfl, ?_⟩
        exact ⟨fun z => (by simp at z), fun _ => ⟨rfl, rfl, by walk_at "sfx"⟩⟩
      · skip
        refine k_one ?_      -- found.append(letter)
        refine k_expr ?_
        refine k_m PySem.F.plainAttrs_list PySem.F.slot_list_append PySem.F.type_list_append ?_
        refine k_n 1 ?_
        refine ⟨ty_l (by walk_at "ls"), ?_⟩
        refine a_cons ?_
        refine k_n 2 ?_
        refine a_nil ?_
        refine m_append (by walk_at "rep") ?_ (by simp [stk])
        refine ⟨_, rfl, rfl, ?_⟩
        rw [hst]; rfl
    | cons x s =>
      rw [hs, push_cons] at hst
      have hxo : x ∈ ordL := by
        have h1 : x ∈ red (l.take i) := by unfold red; rw [List.mem_reverse, hs]; simp
        exact hl x (List.mem_of_mem_take (red_mem h1))
      refine t_pure (v := decide (x = bk c)) ?_ ⟨fun hk => ?_, fun hk => ?_⟩
      · refine t_w ?_
        refine w_and ?_
        refine t_cmp ?_
        refine k_n 1 ?_
        refine k_lst ?_
        refine a_nil ?_
        refine ⟨by first | decide | simp, fun p => ?_⟩
        refine o_ness (a := (x :: s).reverse.map fun c => [c]) (b := []) hr.units (by rw [← map_one]; walk_at "ls") (by walk_at "ls") ?_ ?_ (by simp)
        refine ⟨_, rfl, ?_⟩
        · refine ⟨fun _ => ?_, fun z => (by simp at z)⟩
          refine w_and1 ?_
          refine t_cmp ?_
          refine k_ix ?_
          refine k_n 1 ?_
          refine k_neg ?_
          refine k_int ?_
          refine ⟨_, rfl, ?_⟩
          refine i_lv (one x) (by walk_at "ls") ?_ ?_
          refine k_fn F_back_of (hr.mono (by decide)) ?_
          refine a_cons ?_
          refine k_n 2 ?_
          refine a_nil ?_
          refine use_back_of ?_ hc
          walk_at "opEq"
          refine ⟨_, rfl, ?_⟩
          · exact ⟨by simp, rfl, by walk_at "sfx"⟩
          · rw [stk_push]; exact at_last _ _
        · intro l' hl' c' hc'
          rw [List.mem_map] at hl'
          obtain ⟨d, hd, rfl⟩ := hl'
          rw [List.mem_singleton.mp hc']
          have h2 : d ∈ act (l.take i) [] := by rw [hs]; exact List.mem_reverse.mp hd
          have h3 : d ∈ red (l.take i) := by unfold red; rw [List.mem_reverse]; exact h2
          exact let_small hl d (List.mem_of_mem_take (red_mem h3))
      · have hx : x = bk c := of_decide_eq_true hk
        rw [if_pos hx] at hst
        refine k_one ?_      -- found.pop()
        refine k_expr ?_
        refine k_m0 PySem.F.plainAttrs_list PySem.F.slot_list_pop PySem.F.type_list_pop ?_
        refine k_n 1 ?_
        refine ⟨ty_l (by walk_at "ls"), ?_⟩
        refine m_pop (xs := stk (x :: s)) (v := one x) (by rw [stk_push]; exact get_last _ _) (by walk_at "rep") ?_
        skip
        refine ⟨_, rfl, rfl, ?_⟩
        rw [hst, stk_pop]
      · have hx : ¬ x = bk c := of_decide_eq_false hk
        rw [if_neg hx] at hst
        refine k_one ?_      -- found.append(letter)
        refine k_expr ?_
        refine k_m PySem.F.plainAttrs_list PySem.F.slot_list_append PySem.F.type_list_append ?_
        refine k_n 1 ?_
        refine ⟨ty_l (by walk_at "ls"), ?_⟩
        refine a_cons ?_
        refine k_n 2 ?_
        refine a_nil ?_
        refine m_append (by walk_at "rep") ?_ ?_
        · refine ⟨_, rfl, rfl, ?_⟩
          rw [hst, stk_push (x :: s) c]
        · rw [stk_len]
          rw [hs] at hal
          simp only [List.length_nil] at hal
          omega
  · rintro σ B L ⟨v, rfl, rfl, rfl⟩
    rw [List.take_length]
    refine k_one ?_      -- return ''.join(found)
    refine k_ret ?_
    refine k_join ?_
    refine k_s [] ?_
    refine ⟨_, rfl, ?_⟩
    skip
    refine k_n 1 ?_
    skip
    refine m_join0 (ls := (red l).map fun c => [c]) ?_ ?_ ?_
    · rw [← map_one]; exact Or.inr (List.Mem.head _)
    · rw [flat_one]
      exact fun H' s => hq H' s.ext
    · rw [flat_one]
      have := red_len l
      omega
abbrev s_are_letters : Stmt := top 10
abbrev N_are_letters : List Str := ["thing", "most", "letter"]
theorem sc_are_letters : FnScope N_are_letters ["thing", "most"] (defScope s_are_letters) := ⟨rfl, rfl, rfl, by decide +kernel, rfl, by decide +kernel, by decide +kernel⟩
def letB (l : List Nat) : Bool := l.all fun c => decide (c ∈ ordL)
theorem letB_iff {l : List Nat} : letB l = true ↔ Let l := by simp [letB]
def sp_are_letters : Sp := fun vs H Q _ => ∃ l n, vs = [.str (sOf l), .int n] ∧ l.length ≤ 1000000 ∧ ∀ H', (∀ b o, H b = some o → H' b = some o) → Q (.bl (decide ((l.length : Int) ≤ n) && letB l)) H'
theorem use_are_letters {B : Hp} {L : HL} {Q : KQ} {E : XK} {l : List Nat} {n : Int} (q : Q (.bl (decide ((l.length : Int) ≤ n) && letB l)) B L) (h : l.length ≤ 1000000) : ∀ H, Sat B L H → sp_are_letters [.str (sOf l), .int n] H (up Q) E := fun H s => ⟨l, n, rfl, h, fun H' e => s.upq e q⟩
theorem ok_are_letters {f : Addr} {fd : FuncData} (F : Fun K "are_letters" "are_letters" s_are_letters f fd) (hm : mg "are_letters" = some (.ref f)) (T : Tx mg) : Fn P w K mg base 1 "are_letters" sp_are_letters := by
  refine fn_ok F sc_are_letters hm (fun _ _ _ _ _ _ us hl => match us, hl with | [_, _], _ => rfl) ?_ fun cdv A outer s H vs Q E hr h tk po => ?_
  · rintro vs H Q E ⟨l, n, rfl, _⟩; rfl
  obtain ⟨l, n, rfl, hn, hq⟩ := h
  refine ⟨H, [], Sat.whole, ?_⟩
  refine k_one ?_      -- return isinstance(thing, str) and len(thing) <= most and all([letter in ORDER for letter in thing])
  refine k_ret ?_
  refine k_andP ?_
  refine k_callB (id := "isinstance") T.b_isinstance ?_
  refine a_cons ?_
  refine k_n 0 ?_
  refine a_cons ?_
  refine k_ty (T := "str") T.b_str ?_
  refine a_nil ?_
  walk_at "c_isinstance"
  refine ⟨_, rfl, ?_⟩; apply Exists.intro; refine ⟨fun hk => ?_, ?_⟩
  {
  refine k_andP ?_
  refine k_cmp ?_
  refine k_callB (id := "len") T.b_len ?_
  refine a_cons ?_
  refine k_n 0 ?_
  refine a_nil ?_
  walk_at "c_len"
  refine k_n 1 ?_
  walk_at "opLtE"
  refine ⟨_, rfl, ?_⟩; apply Exists.intro; refine ⟨fun hk => ?_, ?_⟩
  {
  refine k_and1 ?_
  refine k_callB (id := "all") T.b_all ?_
  refine a_cons ?_
  refine k_le (k_lcm_s (j := 2) (fun c => .bl (decide (c ∈ ordL))) sc_are_letters.nd (blkOk_by (N := N_are_letters) (sc := defScope s_are_letters) (by decide +kernel)) ?_)
  refine k_n 0 ?_
  refine ⟨l, rfl, by omega, fun c hc D acc sb Hb Cb clb fpb => ?_, fun D => ?_⟩
  ·
    refine k_cmp ?_
    refine k_n 2 ?_
    refine k_gsE T.g_ORDER ?_
    walk_at "opIn"
    exact ⟨rfl, rfl, rfl⟩
  refine a_nil ?_
  refine c_all (bs := l.map fun c => decide (c ∈ ordL)) (by rw [List.map_map]; exact Or.inr (List.Mem.head _)) ?_
  exact ⟨rfl, rfl, by walk_at "sfx"⟩
  all_goals (try walk_at "side")
  }
  exact ⟨rfl, rfl, by walk_at "sfx"⟩
  all_goals (try walk_at "side")
  }
  · intro H' s
    have e : (l.map fun c => decide (c ∈ ordL)).all id = letB l := by unfold letB; rw [List.all_map]; rfl
    simp only [Bool.true_and]
    rw [e]
    exact hq H' s.ext
abbrev s_is_word : Stmt := top 11
abbrev N_is_word : List Str := ["thing", "at", "letter"]
theorem sc_is_word : FnScope N_is_word ["thing"] (defScope s_is_word) := ⟨rfl, rfl, rfl, by decide +kernel, rfl, by decide +kernel, by decide +kernel⟩
theorem rd_iff : ∀ {l : List Nat}, Wd l ↔ ∀ (n : Nat) x y, l[n]? = some x → l[n + 1]? = some y → y ≠ bk x
  | [] => by simp [Wd]
  | [a] => by simp [Wd]
  | a :: b :: r => by
    have ih := rd_iff (l := b :: r)
    constructor
    · intro h n x y h1 h2
      cases n with
      | zero =>
        have e1 : a = x := by simpa using h1
        have e2 : b = y := by simpa using h2
        rw [← e1, ← e2]; exact h.1
      | succ n => exact ih.mp h.2 n x y (by simpa using h1) (by simpa using h2)
    · intro h
      exact ⟨h 0 a b rfl rfl, ih.mpr fun n x y h1 h2 => h (n + 1) x y (by simpa using h1) (by simpa using h2)⟩
theorem cut_init (l : List Nat) : cut l none (some (-1)) = l.take (l.length - 1) := by
  unfold cut
  have e : HT.sIx l.length l.length (some (-1)) = l.length - 1 := by
    show (if (-1 : Int) < 0 then ((-1 : Int) + (l.length : Int)).toNat else min (-1 : Int).toNat l.length) = _
    rw [if_pos (by decide)]; omega
  rw [e, HT.sIx_none]
  simp
theorem map_mapIdx' {α β γ : Type} (l : List α) (f : Nat → α → β) (g : β → γ) : (l.mapIdx f).map g = l.mapIdx fun n c => g (f n c) := by apply List.ext_getElem <;> simp
def nbB (l : List Nat) : Bool := !((l.take (l.length - 1)).mapIdx fun n c => decide (l[n + 1]? = some (bk c))).any id
theorem nbB_iff (l : List Nat) : nbB l = true ↔ Wd l := by
  unfold nbB
  rw [rd_iff, Bool.not_eq_true', List.any_eq_false]
  constructor
  · intro h n x y h1 h2 e
    have hn : n + 1 < l.length := (List.getElem?_eq_some_iff.mp h2).1
    refine h (decide (l[n + 1]? = some (bk x))) ?_ (by simp [h2, e])
    rw [List.mem_mapIdx]
    refine ⟨n, by simp; omega, ?_⟩
    have h3 : (l.take (l.length - 1))[n]? = some x := by rw [List.getElem?_take_of_lt (by omega)]; exact h1
    obtain ⟨h4, h5⟩ := List.getElem?_eq_some_iff.mp h3
    rw [h5]
  · intro h b hb
    rw [List.mem_mapIdx] at hb
    obtain ⟨n, hn, rfl⟩ := hb
    rw [List.length_take] at hn
    rw [List.getElem_take]
    simp only [id, Bool.not_eq_true, decide_eq_false_iff_not]
    intro e
    exact h n l[n] (bk l[n]) (by simp) e rfl
/-- a word that may be handed in -/
def isW (l : List Nat) : Bool := decide (l.length ≤ 60) && letB l && nbB l
theorem isW_iff (l : List Nat) : isW l = true ↔ l.length ≤ 60 ∧ Let l ∧ Wd l := by
  unfold isW
  rw [Bool.and_eq_true, Bool.and_eq_true, nbB_iff, letB_iff, decide_eq_true_iff, and_assoc]
def sp_is_word : Sp := fun vs H Q _ => ∃ l, vs = [.str (sOf l)] ∧ l.length ≤ 1000000 ∧ ∀ H', (∀ b o, H b = some o → H' b = some o) → Q (.bl (isW l)) H'
theorem use_is_word {B : Hp} {L : HL} {Q : KQ} {E : XK} {l : List Nat} (q : Q (.bl (isW l)) B L) (h : l.length ≤ 1000000) : ∀ H, Sat B L H → sp_is_word [.str (sOf l)] H (up Q) E := fun H s => ⟨l, rfl, h, fun H' e => s.upq e q⟩
theorem ok_is_word {f : Addr} {fd : FuncData} (F : Fun K "is_word" "is_word" s_is_word f fd) (hm : mg "is_word" = some (.ref f)) (T : Tx mg) (F_are_letters : Fn P w K mg base 1 "are_letters" sp_are_letters) (F_back_of : Fn P w K mg base 1 "back_of" sp_back_of) : Fn P w K mg base 2 "is_word" sp_is_word := by
  refine fn_ok F sc_is_word hm (fun _ _ _ _ _ _ us hl => match us, hl with | [_], _ => rfl) ?_ fun cdv A outer s H vs Q E hr h tk po => ?_
  · rintro vs H Q E ⟨l, rfl, _⟩; rfl
  obtain ⟨l, rfl, hn, hq⟩ := h
  refine ⟨H, [], Sat.whole, ?_⟩
  refine k_cons ?_
  refine k_if ?_
  refine t_not ?_
  refine t_val ?_
  refine k_fn F_are_letters (hr.mono (by decide)) ?_
  refine a_cons ?_
  refine k_n 0 ?_
  refine a_cons ?_
  refine k_giE T.g_MOST_LETTERS ?_
  refine a_nil ?_
  refine use_are_letters ?_ hn
  refine ⟨_, rfl, ?_⟩
  refine ⟨fun hk => ?_, fun hk => ?_⟩
  · skip
    refine k_one ?_      -- return False
    refine k_ret ?_
    refine k_bl ?_
    intro H' s
    have e : isW l = false := by
      unfold isW
      have : ((l.length : Int) ≤ 60) ↔ l.length ≤ 60 := by omega
      simp only [this, Bool.not_eq_true'] at hk
      rw [hk, Bool.false_and]
    rw [← e]
    exact hq H' s.ext
  · refine k_nil ?_
    have h60 : l.length ≤ 60 ∧ Let l := by
      rw [Bool.not_eq_false', Bool.and_eq_true, letB_iff, decide_eq_true_iff] at hk
      exact ⟨by omega, hk.2⟩
    refine k_one ?_      -- return not any([thing[at + 1] == back_of(letter) for at, letter in enumerate(thing[:-1])])
    refine k_ret ?_
    refine k_not ?_
    refine k_callB (id := "any") T.b_any ?_
    refine a_cons ?_
    refine k_le (k_lcm_es (i := 1) (j := 2) (fun n c => .bl (decide (l[n + 1]? = some (bk c)))) sc_is_word.nd (blkOk_by (N := N_is_word) (sc := defScope s_is_word) (by decide +kernel)) T.b_enumerate ?_)
    refine k_slice ?_
    refine k_n 0 ?_
    refine p_none ?_
    refine p_some ?_
    refine k_neg ?_
    refine k_int ?_
    refine ⟨_, rfl, ?_⟩
    refine ⟨_, rfl, ?_⟩
    walk_at "SLICE"
    rw [cut_init]
    refine ⟨_, rfl, by rw [List.length_take]; omega, fun n c hc D acc sb Hb Cb clb fpb => ?_, fun D => ?_⟩
    ·
      have hcl : n < (l.take (l.length - 1)).length := (List.getElem?_eq_some_iff.mp hc).1
      rw [List.length_take] at hcl
      have hc2 : l[n]? = some c := by rw [List.getElem?_take_of_lt (by omega)] at hc; exact hc
      have hn1 : l[n + 1]? = some (l[n + 1]'(by omega)) := by simp [show n + 1 < l.length by omega]
      refine k_cmp ?_
      refine k_ix ?_
      refine k_n 0 ?_
      refine k_bin ?_
      refine k_n 1 ?_
      refine k_int ?_
      walk_at "opAdd"
      refine i_sv (l[n + 1]'(by omega)) ?_ ?_ (by omega)
      refine k_fn F_back_of (hr.mono (by decide)) ?_
      refine a_cons ?_
      refine k_n 2 ?_
      refine a_nil ?_
      refine use_back_of ?_ (h60.2 c (List.mem_of_getElem? hc2))
      walk_at "opEq"
      · refine ⟨?_, rfl, rfl⟩
        rw [hn1]; simp
      · have e : ((n : Int) + 1) = ((n + 1 : Nat) : Int) := by omega
        rw [e, atI_n]; exact hn1
    refine a_nil ?_
    refine c_any (bs := (l.take (l.length - 1)).mapIdx fun n c => decide (l[n + 1]? = some (bk c))) (by rw [map_mapIdx']; exact Or.inr (List.Mem.head _)) ?_
    refine ⟨_, rfl, ?_⟩
    · intro H' s
      have e : isW l = !((l.take (l.length - 1)).mapIdx fun n c => decide (l[n + 1]? = some (bk c))).any id := by
        unfold isW
        rw [decide_eq_true h60.1, letB_iff.mpr h60.2]
        simp [nbB]
      rw [← e]
      exact hq H' s.ext
    · omega
abbrev s_need_word : Stmt := top 12
abbrev N_need_word : List Str := ["thing"]
theorem sc_need_word : FnScope N_need_word ["thing"] (defScope s_need_word) := ⟨rfl, rfl, rfl, by decide +kernel, rfl, by decide +kernel, by decide +kernel⟩
def sp_need_word (C : Addr) : Sp := fun vs H Q E => ∃ l, vs = [.str (sOf l)] ∧ l.length ≤ 1000000 ∧ (isW l = true → ∀ H', (∀ b o, H b = some o → H' b = some o) → Q .non H') ∧ (isW l = false → ∀ H', (∀ b o, H b = some o → H' b = some o) → E (.ref C) none H')
theorem use_need_word {C : Addr} {B : Hp} {L : HL} {Q : KQ} {E : XK} {l : List Nat} (q : Q .non B L) (h : isW l = true) (hn : l.length ≤ 1000000) : ∀ H, Sat B L H → sp_need_word C [.str (sOf l)] H (up Q) E := fun H s => ⟨l, rfl, hn, fun _ H' e => s.upq e q, fun z => by rw [h] at z; cases z⟩
theorem ok_need_word {f C : Addr} {fd : FuncData} (F : Fun K "need_word" "need_word" s_need_word f fd) (hm : mg "need_word" = some (.ref f)) (T : Tx mg) (F_is_word : Fn P w K mg base 2 "is_word" sp_is_word) (eW : ExK K mg "NoWord" C) : Fn P w K mg base 3 "need_word" (sp_need_word C) := by
  refine fn_ok F sc_need_word hm (fun _ _ _ _ _ _ us hl => match us, hl with | [_], _ => rfl) ?_ fun cdv A outer s H vs Q E hr h tk po => ?_
  · rintro vs H Q E ⟨l, rfl, _⟩; rfl
  obtain ⟨l, rfl, hn, hq, he⟩ := h
  refine ⟨H, [], Sat.whole, ?_⟩
  refine k_one ?_
  refine k_if ?_
  refine t_not ?_
  refine t_val ?_
  refine k_fn F_is_word (hr.mono (by decide)) ?_
  refine a_cons ?_
  refine k_n 0 ?_
  refine a_nil ?_
  refine use_is_word ?_ hn
  refine ⟨_, rfl, ?_⟩
  refine ⟨fun hk => ?_, fun hk => ?_⟩
  · refine k_one (k_raise eW tk fun H' s => he (by simpa using hk) H' s.ext)
  · exact k_nil fun H' s => hq (by simpa using hk) H' s.ext
abbrev s_back : Stmt := top 14
abbrev N_back : List Str := ["word", "letter"]
theorem sc_back : FnScope N_back ["word"] (defScope s_back) := ⟨rfl, rfl, rfl, by decide +kernel, rfl, by decide +kernel, by decide +kernel⟩
def sp_back : Sp := fun vs H Q _ => ∃ l, vs = [.str (sOf l)] ∧ (Let l ∧ l.length ≤ 1000000) ∧ ∀ H', (∀ b o, H b = some o → H' b = some o) → Q (.str (sOf (inv l))) H'
theorem use_back {B : Hp} {L : HL} {Q : KQ} {E : XK} {l : List Nat} (q : Q (.str (sOf (inv l))) B L) (h : Let l) (hn : l.length ≤ 1000000) : ∀ H, Sat B L H → sp_back [.str (sOf l)] H (up Q) E := fun H s => ⟨l, rfl, ⟨h, hn⟩, fun H' e => s.upq e q⟩
theorem ok_back {f : Addr} {fd : FuncData} (F : Fun K "back" "back" s_back f fd) (hm : mg "back" = some (.ref f)) (T : Tx mg) (F_back_of : Fn P w K mg base 1 "back_of" sp_back_of) : Fn P w K mg base 2 "back" sp_back := by
  refine fn_ok F sc_back hm (fun _ _ _ _ _ _ us hl => match us, hl with | [_], _ => rfl) ?_ fun cdv A outer s H vs Q E hr h tk po => ?_
  · rintro vs H Q E ⟨l, rfl, _⟩; rfl
  obtain ⟨l, rfl, ⟨hl, hn⟩, hq⟩ := h
  refine ⟨H, [], Sat.whole, ?_⟩
  refine k_one ?_      -- return ''.join([back_of(letter) for letter in reversed(word)])
  refine k_ret ?_
  refine k_join ?_
  refine k_s [] ?_
  refine ⟨_, rfl, ?_⟩
  skip
  refine k_le (k_lcm_rs (j := 1) (fun c => .str (sOf [bk c])) sc_back.nd (blkOk_by (N := N_back) (sc := defScope s_back) (by decide +kernel)) T.b_reversed ?_)
  refine k_n 0 ?_
  refine ⟨l, rfl, by omega, fun c hc D acc sb Hb Cb clb fpb => ?_, fun D => ?_⟩
  ·
    refine k_fn F_back_of (hr.mono (by decide)) ?_
    refine a_cons ?_
    refine k_n 1 ?_
    refine a_nil ?_
    refine use_back_of ?_ (hl c hc)
    exact ⟨rfl, rfl, rfl⟩
  skip
  refine m_join0 (ls := (inv l).map fun c => [c]) ?_ ?_ ?_
  · rw [← map_one]
    have e : l.reverse.map (fun c => V.str (sOf [bk c])) = (inv l).map one := by unfold inv; rw [← List.map_reverse, List.map_map]; rfl
    rw [← e]; exact Or.inr (List.Mem.head _)
  · rw [flat_one]
    exact fun H' s => hq H' s.ext
  · rw [flat_one, inv_len]; omega
abbrev s_is_whole : Stmt := top 15
abbrev N_is_whole : List Str := ["thing"]
theorem sc_is_whole : FnScope N_is_whole ["thing"] (defScope s_is_whole) := ⟨rfl, rfl, rfl, by decide +kernel, rfl, by decide +kernel, by decide +kernel⟩
def sp_is_whole : Sp := fun vs H Q _ => ∃ i : Int, vs = [.int i] ∧ ∀ H', (∀ b o, H b = some o → H' b = some o) → Q (.bl true) H'
theorem use_is_whole {B : Hp} {L : HL} {Q : KQ} {E : XK} {i : Int} (q : Q (.bl true) B L) : ∀ H, Sat B L H → sp_is_whole [.int i] H (up Q) E := fun H s => ⟨i, rfl, fun H' e => s.upq e q⟩
theorem ok_is_whole {f : Addr} {fd : FuncData} (F : Fun K "is_whole" "is_whole" s_is_whole f fd) (hm : mg "is_whole" = some (.ref f)) (T : Tx mg) : Fn P w K mg base 1 "is_whole" sp_is_whole := by
  refine fn_ok F sc_is_whole hm (fun _ _ _ _ _ _ us hl => match us, hl with | [_], _ => rfl) ?_ fun cdv A outer s H vs Q E hr h tk po => ?_
  · rintro vs H Q E ⟨l, rfl, _⟩; rfl
  obtain ⟨i, rfl, hq⟩ := h
  refine ⟨H, [], Sat.whole, ?_⟩
  refine k_one ?_      -- return isinstance(thing, int) and (not isinstance(thing, bool))
  refine k_ret ?_
  refine k_andP ?_
  refine k_callB (id := "isinstance") T.b_isinstance ?_
  refine a_cons ?_
  refine k_n 0 ?_
  refine a_cons ?_
  refine k_ty (T := "int") T.b_int ?_
  refine a_nil ?_
  walk_at "c_isinstance"
  refine ⟨_, rfl, ?_⟩; apply Exists.intro; refine ⟨fun hk => ?_, ?_⟩
  {
  refine k_and1 ?_
  refine k_not ?_
  refine k_callB (id := "isinstance") T.b_isinstance ?_
  refine a_cons ?_
  refine k_n 0 ?_
  refine a_cons ?_
  refine k_ty (T := "bool") T.b_bool ?_
  refine a_nil ?_
  walk_at "c_isinstance"
  refine ⟨_, rfl, ?_⟩
  exact ⟨rfl, rfl, by walk_at "sfx"⟩
  all_goals (try walk_at "side")
  }
  exact fun H' s => hq H' s.ext
abbrev s_has_letters : Stmt := top 17
abbrev N_has_letters : List Str := ["word", "many", "letter"]
theorem sc_has_letters : FnScope N_has_letters ["word", "many"] (defScope s_has_letters) := ⟨rfl, rfl, rfl, by decide +kernel, rfl, by decide +kernel, by decide +kernel⟩
def hasL (n : Nat) (l : List Nat) : Bool := l.all fun c => decide (c ∈ ltL.take n) || decide (bk c ∈ ltL.take n)
theorem cut_to {α : Type} (l : List α) (n : Nat) : cut l none (some (n : Int)) = l.take n := by
  unfold cut
  rw [HT.sIx_none, HT.sIx_nat]
  simp only [List.drop_zero, Nat.sub_zero]
  rcases Nat.le_total n l.length with h | h
  · rw [Nat.min_eq_left h]
  · rw [Nat.min_eq_right h, List.take_of_length_le h, List.take_length]
def sp_has_letters : Sp := fun vs H Q _ => ∃ (l : List Nat) (n : Nat), vs = [.str (sOf l), .int n] ∧ (Let l ∧ l.length ≤ 1000000) ∧ ∀ H', (∀ b o, H b = some o → H' b = some o) → Q (.bl (hasL n l)) H'
theorem use_has_letters {B : Hp} {L : HL} {Q : KQ} {E : XK} {l : List Nat} {n : Nat} (q : Q (.bl (hasL n l)) B L) (h : Let l) (hn : l.length ≤ 1000000) : ∀ H, Sat B L H → sp_has_letters [.str (sOf l), .int n] H (up Q) E := fun H s => ⟨l, n, rfl, ⟨h, hn⟩, fun H' e => s.upq e q⟩
theorem ok_has_letters {f : Addr} {fd : FuncData} (F : Fun K "has_letters" "has_letters" s_has_letters f fd) (hm : mg "has_letters" = some (.ref f)) (T : Tx mg) (F_back_of : Fn P w K mg base 1 "back_of" sp_back_of) : Fn P w K mg base 2 "has_letters" sp_has_letters := by
  refine fn_ok F sc_has_letters hm (fun _ _ _ _ _ _ us hl => match us, hl with | [_, _], _ => rfl) ?_ fun cdv A outer s H vs Q E hr h tk po => ?_
  · rintro vs H Q E ⟨l, n, rfl, _⟩; rfl
  obtain ⟨l, n, rfl, ⟨hl, hn⟩, hq⟩ := h
  refine ⟨H, [], Sat.whole, ?_⟩
  refine k_one ?_      -- return all([letter in LETTERS[:many] or back_of(letter) in LETTERS[:many] for letter in word])
  refine k_ret ?_
  refine k_callB (id := "all") T.b_all ?_
  refine a_cons ?_
  refine k_le (k_lcm_s (j := 2) (fun c => .bl (decide (c ∈ ltL.take n) || decide (bk c ∈ ltL.take n))) sc_has_letters.nd (blkOk_by (N := N_has_letters) (sc := defScope s_has_letters) (by decide +kernel)) ?_)
  refine k_n 0 ?_
  refine ⟨l, rfl, by omega, fun c hc D acc sb Hb Cb clb fpb => ?_, fun D => ?_⟩
  ·
    refine k_orP ?_
    refine k_cmp ?_
    refine k_n 2 ?_
    refine k_slice ?_
    refine k_gsE T.g_LETTERS ?_
    refine p_none ?_
    refine p_some ?_
    refine k_n 1 ?_
    refine ⟨_, rfl, ?_⟩
    walk_at "SLICE"
    walk_at "opIn"
    refine ⟨_, rfl, ?_⟩; apply Exists.intro; refine ⟨fun hk => ?_, ?_⟩
    {
    refine k_or1 ?_
    refine k_cmp ?_
    refine k_fn F_back_of (hr.mono (by decide)) ?_
    refine a_cons ?_
    refine k_n 2 ?_
    refine a_nil ?_
    refine use_back_of ?_ (hl c hc)
    refine k_slice ?_
    refine k_gsE T.g_LETTERS ?_
    refine p_none ?_
    refine p_some ?_
    refine k_n 1 ?_
    refine ⟨_, rfl, ?_⟩
    walk_at "SLICE"
    walk_at "opIn"
    exact ⟨rfl, rfl, by walk_at "sfx"⟩
    all_goals (try walk_at "side")
    }
    · refine ⟨?_, rfl, rfl⟩
      rw [cut_to]
    · decide
  refine a_nil ?_
  refine c_all (bs := l.map fun c => decide (c ∈ ltL.take n) || decide (bk c ∈ ltL.take n)) (by rw [List.map_map]; exact Or.inr (List.Mem.head _)) ?_
  intro H' s
  have e : (l.map fun c => decide (c ∈ ltL.take n) || decide (bk c ∈ ltL.take n)).all id = hasL n l := by unfold hasL; rw [List.all_map]; rfl
  rw [e]
  exact hq H' s.ext
/-! ### class Sending -/
abbrev s_Sending_init : Stmt := inClass (top 18) 0
abbrev N_Sending_init : List Str := ["self", "into", "words", "word"]
theorem sc_Sending_init : FnScope N_Sending_init ["self", "into", "words"] (defScope s_Sending_init) := ⟨rfl, rfl, rfl, by decide +kernel, rfl, by decide +kernel, by decide +kernel⟩
def tS (l : List Nat) : V := .str (sOf l)
/-- good words of the first m letters -/
structure Gd (m : Nat) (ws : List (List Nat)) : Prop where
  m1 : 1 ≤ m
  m6 : m ≤ 6
  w1 : 1 ≤ ws.length
  w6 : ws.length ≤ 6
  ok : ∀ l ∈ ws, isW l = true ∧ hasL m l = true
theorem Gd.let_ {m : Nat} {ws : List (List Nat)} (g : Gd m ws) {l : List Nat} (h : l ∈ ws) : Let l ∧ l.length ≤ 60 ∧ Wd l := by
  have := (isW_iff l).mp (g.ok l h).1
  exact ⟨this.2.1, this.1, this.2.2⟩
def sfs (m : Nat) (t : Addr) : List (Str × V) := [("goal", .int m), ("first_words", .ref t)]
def sp_init (K : PySem.W.Frag) (C : Addr) : Sp := fun vs H Q _ => ∃ (x dx a : Addr) (m : Nat) (ws : List (List Nat)), vs = [.ref x, .int m, .ref a] ∧ H x = some (.ins C dx []) ∧ SqL K (rmH H x) a (ws.map tS) ∧ Gd m ws ∧
  ∀ (H' : Hp) (t : Addr), (∀ b o, b ≠ x → H b = some o → H' b = some o) → H t = none → H' t = some (.tup (ws.map tS)) → H' x = some (.ins C dx (sfs m t)) → Q .non H'
theorem ok_init {f C : Addr} {fd : FuncData} (F : Fun K "__init__" "Sending.__init__" s_Sending_init f fd) (T : Tx mg) (cls : Cls K C) (nG : NoAttr K C "goal") (nW : NoAttr K C "first_words")
    (F_is_whole : Fn P w K mg base 1 "is_whole" sp_is_whole) (F_is_word : Fn P w K mg base 2 "is_word" sp_is_word) (F_has_letters : Fn P w K mg base 2 "has_letters" sp_has_letters) : FnOk P w K mg base (L2.CX P w) 3 f fd ["self", "into", "words"] (sp_init K C) := by
  refine fn_okF F sc_Sending_init ?_ fun cdv A outer s H vs Q E hr h tk po => ?_
  · rintro vs H Q E ⟨_, _, _, _, _, rfl, _⟩; rfl
  obtain ⟨x, dx, a, m, ws, rfl, hx, ha', g, hq⟩ := h
  refine ⟨rmH H x, _, sat_rm hx, ?_⟩
  have g1 := g.m1
  have g6 := g.m6
  have w1 := g.w1
  have w6 := g.w6
  refine k_cons ?_
  refine k_if ?_
  refine t_pure (v := false) ?_ ⟨fun z => (nomatch z), fun _ => ?_⟩
  · skip
    refine t_w ?_
    refine w_orP ?_
    refine t_not ?_
    refine t_val ?_
    refine k_fn F_is_whole (hr.mono (by decide)) ?_
    refine a_cons ?_
    refine k_n 1 ?_
    refine a_nil ?_
    refine use_is_whole ?_
    refine ⟨_, rfl, ?_⟩
    apply Exists.intro; refine ⟨fun hk => ?_, ?_⟩
    {
    refine w_orP ?_
    refine t_not ?_
    refine t_chainP ?_
    refine k_int ?_
    refine k_n 1 ?_
    walk_at "opLtE"
    refine ⟨_, rfl, ?_⟩; apply Exists.intro; refine ⟨fun hk => ?_, ?_⟩
    {
    refine k_callB (id := "len") T.b_len ?_
    refine a_cons ?_
    refine k_gsE T.g_LETTERS ?_
    refine a_nil ?_
    walk_at "c_len"
    walk_at "opLtE"
    exact ⟨rfl, rfl, by walk_at "sfx"⟩
    all_goals (try walk_at "side")
    }
    apply Exists.intro; refine ⟨fun hk => ?_, ?_⟩
    {
    refine w_or1 ?_
    refine t_not ?_
    refine t_val ?_
    refine k_callB (id := "isinstance") T.b_isinstance ?_
    refine a_cons ?_
    refine k_n 2 ?_
    refine a_cons ?_
    refine k_ty (T := "list") T.b_list ?_
    refine a_nil ?_
    walk_at "c_isinstance"
    refine ⟨_, rfl, ?_⟩
    exact ⟨rfl, rfl, by walk_at "sfx"⟩
    all_goals (try walk_at "side")
    }
    exact ⟨rfl, rfl, by walk_at "sfx"⟩
    all_goals (try walk_at "side")
    }
    refine ⟨?_, rfl, by walk_at "sfx"⟩
    have e1 : ((1 : Int) ≤ (m : Int)) := by omega
    have e2 : ((m : Int) ≤ (ltL.length : Nat)) := by show (m : Int) ≤ 6; omega
    simp [e1, e2]
  refine k_nil ?_
  refine k_cons ?_
  refine k_if ?_
  refine t_pure (v := false) ?_ ⟨fun z => (nomatch z), fun _ => ?_⟩
  · skip
    refine t_not ?_
    refine t_chainP ?_
    refine k_int ?_
    refine k_callB (id := "len") T.b_len ?_
    refine a_cons ?_
    refine k_n 2 ?_
    refine a_nil ?_
    walk_at "c_len"
    walk_at "opLtE"
    refine ⟨_, rfl, ?_⟩; apply Exists.intro; refine ⟨fun hk => ?_, ?_⟩
    {
    refine k_callB (id := "len") T.b_len ?_
    refine a_cons ?_
    refine k_gsE T.g_LETTERS ?_
    refine a_nil ?_
    walk_at "c_len"
    walk_at "opLtE"
    exact ⟨rfl, rfl, by walk_at "sfx"⟩
    all_goals (try walk_at "side")
    }
    refine ⟨?_, rfl, by walk_at "sfx"⟩
    have e1 : ((1 : Int) ≤ ((ws.map tS).length : Nat)) := by rw [List.length_map]; omega
    have e2 : (((ws.map tS).length : Nat) : Int) ≤ (ltL.length : Nat) := by rw [List.length_map]; show (ws.length : Int) ≤ 6; omega
    rw [decide_eq_true e1, decide_eq_true e2]; rfl
  refine k_nil ?_
  refine k_cons ?_
  refine k_if ?_
  refine t_pure (v := false) ?_ ⟨fun z => (nomatch z), fun _ => ?_⟩
  · skip
    refine t_not ?_
    refine t_val ?_
    refine k_callB (id := "all") T.b_all ?_
    refine a_cons ?_
    refine k_le (k_lcm_l (j := 3) (fun _ => .bl true) sc_Sending_init.nd (blkOk_by (N := N_Sending_init) (sc := defScope s_Sending_init) (by decide +kernel)) ?_)
    refine k_n 2 ?_
    refine ⟨a, ws.map tS, rfl, by walk_at "ls", by rw [List.length_map]; omega, fun z hz D acc sb Hb Cb clb fpb => ?_, fun D => ?_⟩
    ·
      obtain ⟨l, hl, rfl⟩ := List.mem_map.mp hz
      have hg := g.ok l hl
      have hg2 := g.let_ hl
      refine k_andP ?_
      refine k_fn F_is_word (hr.mono (by decide)) ?_
      refine a_cons ?_
      refine k_n 3 ?_
      refine a_nil ?_
      refine use_is_word ?_ (by omega)
      refine ⟨_, rfl, ?_⟩; apply Exists.intro; refine ⟨fun hk => ?_, ?_⟩
      {
      refine k_and1 ?_
      refine k_fn F_has_letters (hr.mono (by decide)) ?_
      refine a_cons ?_
      refine k_n 3 ?_
      refine a_cons ?_
      refine k_n 1 ?_
      refine a_nil ?_
      refine use_has_letters ?_ hg2.1 (by omega)
      exact ⟨rfl, rfl, by walk_at "sfx"⟩
      all_goals (try walk_at "side")
      }
      rw [hg.1, hg.2]
      exact ⟨rfl, rfl, rfl⟩
    refine a_nil ?_
    refine c_all (bs := ws.map fun _ => true) (by rw [List.map_map]; refine Or.inr ?_; rw [List.map_map]; exact List.Mem.head _) ?_
    refine ⟨_, rfl, ?_⟩
    refine ⟨?_, rfl, by walk_at "sfx"⟩
    simp
  refine k_nil ?_
  refine k_cons ?_      -- self.goal = into
  refine k_setf cls nG ?_
  refine k_n 1 ?_
  refine k_n 0 ?_
  refine ⟨_, _, _, _, rfl, by walk_at "rep", by first | decide | simp [putF], ?_⟩
  refine k_one ?_      -- self.first_words = tuple(words)
  refine k_setf cls nW ?_
  refine k_callT (T := "tuple") T.b_tuple ?_
  refine a_cons ?_
  refine k_n 2 ?_
  refine a_nil ?_
  refine c_tupl (by walk_at "ls") fun p => ?_
  refine k_n 0 ?_
  refine ⟨_, _, _, _, rfl, by walk_at "rep", by first | decide | simp [putF], ?_⟩
  intro H' s
  have hnd : p ≠ x := by have := s.nd; simp at this; exact this
  refine hq H' p (fun b o hb e => s.ext b o (by rw [rm_ne hb]; exact e)) ?_ (s.own _ List.mem_cons_self) (s.own _ (List.mem_cons_of_mem _ List.mem_cons_self))
  have := s.nb _ List.mem_cons_self
  rw [← this]
  exact (rm_ne hnd).symm
/-! ### methods of Sending -/
/-- a sending in the heap -/
def Snd (C : Addr) (H : Hp) (x : Addr) (m : Nat) (ws : List (List Nat)) : Prop := ∃ dx t, H x = some (.ins C dx (sfs m t)) ∧ H t = some (.tup (ws.map tS))
theorem Snd.le {C : Addr} {B B' : Hp} {x : Addr} {m : Nat} {ws : List (List Nat)} (h : Snd C B x m ws) (e : Le B B') : Snd C B' x m ws := by
  obtain ⟨dx, t, h1, h2⟩ := h
  exact ⟨dx, t, e _ _ h1, e _ _ h2⟩
abbrev s_Sending_into : Stmt := inClass (top 18) 1
abbrev N_Sending_into : List Str := ["self"]
theorem sc_Sending_into : FnScope N_Sending_into ["self"] (defScope s_Sending_into) := ⟨rfl, rfl, rfl, by decide +kernel, rfl, by decide +kernel, by decide +kernel⟩
def sp_into (C : Addr) : Sp := fun vs H Q _ => ∃ x m ws, vs = [.ref x] ∧ Snd C H x m ws ∧ ∀ H', (∀ b o, H b = some o → H' b = some o) → Q (.int m) H'
theorem use_into {C : Addr} {B : Hp} {L : HL} {Q : KQ} {E : XK} {x : Addr} {m : Nat} {ws : List (List Nat)} (h : Snd C B x m ws) (q : Q (.int m) B L) : ∀ H, Sat B L H → sp_into C [.ref x] H (up Q) E := fun H s => ⟨x, m, ws, rfl, h.le s.ext, fun H' e => s.upq e q⟩
theorem ok_into {f C : Addr} {fd : FuncData} (F : Fun K "into" "Sending.into" s_Sending_into f fd) (hm : Meth K C "into" f) (cls : Cls K C) (nG : NoAttr K C "goal") : Mt P w K mg base 1 C "into" (sp_into C) := by
  refine mt_okM F sc_Sending_into hm cls (fun _ _ _ _ _ _ us hl => match us, hl with | [_], _ => rfl) ?_ fun cdv A outer s H vs Q E hr h tk po => ?_
  · rintro vs H Q E ⟨_, _, _, rfl, _⟩; rfl
  obtain ⟨x, m, ws, rfl, ⟨dx, t, hx, ht⟩, hq⟩ := h
  refine ⟨H, [], Sat.whole, ?_⟩
  refine k_one ?_      -- return self.goal
  refine k_ret ?_
  refine k_fld cls nG ?_
  refine k_n 0 ?_
  refine ⟨_, _, _, _, rfl, by walk_at "at", rfl, ?_⟩
  exact fun H' s => hq H' s.ext
abbrev s_Sending_many : Stmt := inClass (top 18) 2
abbrev N_Sending_many : List Str := ["self"]
theorem sc_Sending_many : FnScope N_Sending_many ["self"] (defScope s_Sending_many) := ⟨rfl, rfl, rfl, by decide +kernel, rfl, by decide +kernel, by decide +kernel⟩
def sp_many (C : Addr) : Sp := fun vs H Q _ => ∃ x m ws, vs = [.ref x] ∧ Snd C H x m ws ∧ ∀ H', (∀ b o, H b = some o → H' b = some o) → Q (.int (ws.length : Nat)) H'
theorem use_many {C : Addr} {B : Hp} {L : HL} {Q : KQ} {E : XK} {x : Addr} {m : Nat} {ws : List (List Nat)} (h : Snd C B x m ws) (q : Q (.int (ws.length : Nat)) B L) : ∀ H, Sat B L H → sp_many C [.ref x] H (up Q) E := fun H s => ⟨x, m, ws, rfl, h.le s.ext, fun H' e => s.upq e q⟩
theorem ok_many {f C : Addr} {fd : FuncData} (F : Fun K "many" "Sending.many" s_Sending_many f fd) (hm : Meth K C "many" f) (cls : Cls K C) (nW : NoAttr K C "first_words") (T : Tx mg) : Mt P w K mg base 1 C "many" (sp_many C) := by
  refine mt_okM F sc_Sending_many hm cls (fun _ _ _ _ _ _ us hl => match us, hl with | [_], _ => rfl) ?_ fun cdv A outer s H vs Q E hr h tk po => ?_
  · rintro vs H Q E ⟨_, _, _, rfl, _⟩; rfl
  obtain ⟨x, m, ws, rfl, ⟨dx, t, hx, ht⟩, hq⟩ := h
  have ht' : Tp K H [] t (ws.map tS) := .inl (.inl (.inl ht))
  refine ⟨H, [], Sat.whole, ?_⟩
  refine k_one ?_      -- return len(self.first_words)
  refine k_ret ?_
  refine k_callB (id := "len") T.b_len ?_
  refine a_cons ?_
  refine k_fld cls nW ?_
  refine k_n 0 ?_
  refine ⟨_, _, _, _, rfl, by walk_at "at", rfl, ?_⟩
  refine a_nil ?_
  refine c_lent ht' ?_
  rw [List.length_map]
  exact fun H' s => hq H' s.ext
abbrev s_Sending_words : Stmt := inClass (top 18) 3
abbrev N_Sending_words : List Str := ["self"]
theorem sc_Sending_words : FnScope N_Sending_words ["self"] (defScope s_Sending_words) := ⟨rfl, rfl, rfl, by decide +kernel, rfl, by decide +kernel, by decide +kernel⟩
def sp_words (C : Addr) : Sp := fun vs H Q _ => ∃ x m ws, vs = [.ref x] ∧ Snd C H x m ws ∧ ∀ H' p, (∀ b o, H b = some o → H' b = some o) → H p = none → H' p = some (.lst (ws.map tS)) → Q (.ref p) H'
theorem use_words {C : Addr} {B : Hp} {L : HL} {Q : KQ} {E : XK} {x : Addr} {m : Nat} {ws : List (List Nat)} (h : Snd C B x m ws) (q : ∀ p, Q (.ref p) B ((p, .lst (ws.map tS)) :: L)) : ∀ H, Sat B L H → sp_words C [.ref x] H (up Q) E := fun H s => ⟨x, m, ws, rfl, h.le s.ext, fun H' p e h1 h2 => ⟨_, _, s.new' h1 e h2, q p⟩⟩
theorem ok_words {f C : Addr} {fd : FuncData} (F : Fun K "words" "Sending.words" s_Sending_words f fd) (hm : Meth K C "words" f) (cls : Cls K C) (nW : NoAttr K C "first_words") (T : Tx mg) : Mt P w K mg base 1 C "words" (sp_words C) := by
  refine mt_okM F sc_Sending_words hm cls (fun _ _ _ _ _ _ us hl => match us, hl with | [_], _ => rfl) ?_ fun cdv A outer s H vs Q E hr h tk po => ?_
  · rintro vs H Q E ⟨_, _, _, rfl, _⟩; rfl
  obtain ⟨x, m, ws, rfl, ⟨dx, t, hx, ht⟩, hq⟩ := h
  have ht' : Tp K H [] t (ws.map tS) := .inl (.inl (.inl ht))
  refine ⟨H, [], Sat.whole, ?_⟩
  refine k_one ?_      -- return list(self.first_words)
  refine k_ret ?_
  refine k_callT (T := "list") T.b_list ?_
  refine a_cons ?_
  refine k_fld cls nW ?_
  refine k_n 0 ?_
  refine ⟨_, _, _, _, rfl, by walk_at "at", rfl, ?_⟩
  refine a_nil ?_
  refine c_listt ht' fun p => ?_
  exact fun H' s => hq H' p s.ext (s.nb _ List.mem_cons_self) (s.own _ List.mem_cons_self)
/-- the image of a letter -/
def img (ws : List (List Nat)) (c : Nat) : List Nat := if c ∈ ltL then ws.getD (ltL.idxOf c) [] else inv (ws.getD (ltL.idxOf (bk c)) [])
def snt (ws : List (List Nat)) (l : List Nat) : List Nat := red (l.map (img ws)).flatten
theorem lt_ix {c : Nat} (h : c ∈ ltL) : Txt.index0 (sOf ltL) (sOf [c]) = some (ltL.idxOf c) := by
  simp only [ltL, List.mem_cons, List.not_mem_nil, or_false] at h
  rcases h with h | h | h | h | h | h <;> subst h <;> decide +kernel
theorem lt_or {c : Nat} (h : c ∈ ordL) : c ∈ ltL ∨ bk c ∈ ltL := by
  simp only [ordL, List.mem_cons, List.not_mem_nil, or_false] at h
  rcases h with h | h | h | h | h | h | h | h | h | h | h | h <;> subst h <;> decide
theorem lt_ord {c : Nat} (h : c ∈ ltL) : c ∈ ordL := by
  simp only [ltL, List.mem_cons, List.not_mem_nil, or_false] at h
  rcases h with h | h | h | h | h | h <;> subst h <;> decide
theorem lt_bk {c : Nat} (h : c ∈ ltL) : bk c ∉ ltL := by
  simp only [ltL, List.mem_cons, List.not_mem_nil, or_false] at h
  rcases h with h | h | h | h | h | h <;> subst h <;> decide
theorem lt_ixlt {c : Nat} {n : Nat} (h : c ∈ ltL.take n) : c ∈ ltL ∧ ltL.idxOf c < n := by
  have h1 : c ∈ ltL := List.mem_of_mem_take h
  refine ⟨h1, ?_⟩
  obtain ⟨i, hi, e⟩ := List.mem_iff_getElem.mp h
  rw [List.length_take] at hi
  rw [List.getElem_take] at e
  have : ltL.idxOf c = i := by
    rw [← e]
    exact List.Nodup.idxOf_getElem (by decide) i (by omega)
  omega
theorem has_c {n c : Nat} {l : List Nat} (h : hasL n l = true) (hc : c ∈ l) : c ∈ ltL.take n ∨ bk c ∈ ltL.take n := by
  unfold hasL at h
  rw [List.all_eq_true] at h
  have := h c hc
  rw [Bool.or_eq_true, decide_eq_true_iff, decide_eq_true_iff] at this
  exact this
/-- the words' lengths, letters -/
structure Gw (m : Nat) (ws : List (List Nat)) : Prop where
  ok : ∀ l ∈ ws, (Let l ∧ l.length ≤ 60) ∧ Wd l ∧ hasL m l = true
theorem Gd.gw {m : Nat} {ws : List (List Nat)} (g : Gd m ws) : Gw m ws := ⟨fun l hl => ⟨⟨(g.let_ hl).1, (g.let_ hl).2.1⟩, (g.let_ hl).2.2, (g.ok l hl).2⟩⟩
/-- what a letter needs to be sent -/
def InL (ws : List (List Nat)) (c : Nat) : Prop := (c ∈ ltL ∧ ltL.idxOf c < ws.length) ∨ (bk c ∈ ltL ∧ ltL.idxOf (bk c) < ws.length)
theorem inL_of {ws : List (List Nat)} {c : Nat} {l : List Nat} (h : hasL ws.length l = true) (hc : c ∈ l) : InL ws c := by
  rcases has_c h hc with h | h
  · exact .inl (lt_ixlt h)
  · exact .inr (lt_ixlt h)
theorem getD_mem {ws : List (List Nat)} {i : Nat} (h : i < ws.length) : ws.getD i [] ∈ ws := by
  rw [List.getD_eq_getElem?_getD, List.getElem?_eq_getElem h]; exact List.getElem_mem h
theorem img_ok {m : Nat} {ws : List (List Nat)} (g : Gw m ws) {c : Nat} (h : InL ws c) : Let (img ws c) ∧ (img ws c).length ≤ 60 := by
  unfold img
  by_cases hc : c ∈ ltL
  · rw [if_pos hc]
    rcases h with h | h
    · exact (g.ok _ (getD_mem h.2)).1
    · exact absurd h.1 (lt_bk hc)
  · rw [if_neg hc]
    rcases h with h | h
    · exact absurd h.1 hc
    · have := (g.ok _ (getD_mem h.2)).1
      exact ⟨let_inv this.1, by rw [inv_len]; exact this.2⟩
abbrev s_Sending_image : Stmt := inClass (top 18) 4
abbrev N_Sending_image : List Str := ["self", "letter"]
theorem sc_Sending_image : FnScope N_Sending_image ["self", "letter"] (defScope s_Sending_image) := ⟨rfl, rfl, rfl, by decide +kernel, rfl, by decide +kernel, by decide +kernel⟩
def sp_image (C : Addr) : Sp := fun vs H Q _ => ∃ x m ws c, vs = [.ref x, .str (sOf [c])] ∧ Snd C H x m ws ∧ Gd m ws ∧ c ∈ ordL ∧ InL ws c ∧ ∀ H', (∀ b o, H b = some o → H' b = some o) → Q (.str (sOf (img ws c))) H'
theorem use_image {C : Addr} {B : Hp} {L : HL} {Q : KQ} {E : XK} {x : Addr} {m c : Nat} {ws : List (List Nat)} (h : Snd C B x m ws) (q : Q (.str (sOf (img ws c))) B L) (g : Gd m ws) (hc : c ∈ ordL) (hi : InL ws c) : ∀ H, Sat B L H → sp_image C [.ref x, .str (sOf [c])] H (up Q) E := fun H s => ⟨x, m, ws, c, rfl, h.le s.ext, g, hc, hi, fun H' e => s.upq e q⟩
theorem i_tget {X : Cx} {B : Hp} {L : HL} {Q : KQ} {t : Addr} {ws : List (List Nat)} {n : Nat} (h : Tp X.K B L t (ws.map tS)) (hn : n < ws.length) (q : Q (tS (ws.getD n [])) B L) : kI X (.ref t) (.int (n : Nat)) B L Q := by
  refine i_tv _ h q ?_
  rw [atI_n, List.getElem?_map, List.getD_eq_getElem?_getD, List.getElem?_eq_getElem hn]; rfl
theorem ok_image {f C : Addr} {fd : FuncData} (F : Fun K "image" "Sending.image" s_Sending_image f fd) (hm : Meth K C "image" f) (cls : Cls K C) (nW : NoAttr K C "first_words") (T : Tx mg) (F_back_of : Fn P w K mg base 1 "back_of" sp_back_of) (F_back : Fn P w K mg base 2 "back" sp_back) : Mt P w K mg base 3 C "image" (sp_image C) := by
  refine mt_okM F sc_Sending_image hm cls (fun _ _ _ _ _ _ us hl => match us, hl with | [_, _], _ => rfl) ?_ fun cdv A outer s H vs Q E hr h tk po => ?_
  · rintro vs H Q E ⟨_, _, _, _, rfl, _⟩; rfl
  obtain ⟨x, m, ws, c, rfl, ⟨dx, t, hx, ht⟩, g, hc, hi, hq⟩ := h
  have ht' : Tp K H [] t (ws.map tS) := .inl (.inl (.inl ht))
  refine ⟨H, [], Sat.whole, ?_⟩
  refine k_cons ?_
  refine k_if ?_
  refine t_cmp ?_
  refine k_n 1 ?_
  refine k_gsE T.g_LETTERS ?_
  walk_at "opIn"
  refine ⟨_, rfl, ?_⟩
  refine ⟨fun hk => ?_, fun hk => ?_⟩
  · skip
    have hcl : c ∈ ltL := by simpa using hk
    have hlt : ltL.idxOf c < ws.length := by
      rcases hi with h | h
      · exact h.2
      · exact absurd h.1 (lt_bk hcl)
    refine k_one ?_      -- return self.first_words[LETTERS.index(letter)]
    refine k_ret ?_
    refine k_ix ?_
    refine k_fld cls nW ?_
    refine k_n 0 ?_
    refine ⟨_, _, _, _, rfl, by walk_at "at", rfl, ?_⟩
    refine k_sindex ?_ (name := "")
    refine k_gsE T.g_LETTERS ?_
    refine ⟨_, rfl, ?_⟩
    refine a_cons ?_
    refine k_n 1 ?_
    refine a_nil ?_
    refine m_index (lt_ix hcl) ?_
    refine i_tget ht' hlt ?_
    have e : img ws c = ws.getD (ltL.idxOf c) [] := by unfold img; rw [if_pos hcl]
    rw [← e]
    exact fun H' s => hq H' s.ext
  · refine k_nil ?_
    have hcl : c ∉ ltL := by simpa using hk
    have hlt : bk c ∈ ltL ∧ ltL.idxOf (bk c) < ws.length := by
      rcases hi with h | h
      · exact absurd h.1 hcl
      · exact h
    have hw := g.let_ (getD_mem hlt.2)
    refine k_one ?_      -- return back(self.first_words[LETTERS.index(back_of(letter))])
    refine k_ret ?_
    refine k_fn F_back (hr.mono (by decide)) ?_
    refine a_cons ?_
    refine k_ix ?_
    refine k_fld cls nW ?_
    refine k_n 0 ?_
    refine ⟨_, _, _, _, rfl, by walk_at "at", rfl, ?_⟩
    refine k_sindex ?_ (name := "")
    refine k_gsE T.g_LETTERS ?_
    refine ⟨_, rfl, ?_⟩
    refine a_cons ?_
    refine k_fn F_back_of (hr.mono (by decide)) ?_
    refine a_cons ?_
    refine k_n 1 ?_
    refine a_nil ?_
    refine use_back_of ?_ hc
    refine a_nil ?_
    refine m_index (lt_ix hlt.1) ?_
    refine i_tget ht' hlt.2 ?_
    refine a_nil ?_
    refine use_back ?_ hw.1 (by omega)
    have e : img ws c = inv (ws.getD (ltL.idxOf (bk c)) []) := by unfold img; rw [if_neg hcl]
    rw [← e]
    exact fun H' s => hq H' s.ext
theorem flat_len {ls : List (List Nat)} {n : Nat} (h : ∀ l ∈ ls, l.length ≤ n) : ls.flatten.length ≤ n * ls.length := by
  induction ls with
  | nil => simp
  | cons a l ih =>
    have h1 := ih fun x hx => h x (List.mem_cons_of_mem _ hx)
    have h2 := h a List.mem_cons_self
    simp only [List.flatten_cons, List.length_append, List.length_cons, Nat.mul_succ]
    omega
theorem snt_raw {m : Nat} {ws : List (List Nat)} (g : Gw m ws) {l : List Nat} (hl : ∀ c ∈ l, InL ws c) : Let (l.map (img ws)).flatten ∧ (l.map (img ws)).flatten.length ≤ 60 * l.length := by
  constructor
  · intro c hc
    obtain ⟨z, hz, hcz⟩ := List.mem_flatten.mp hc
    obtain ⟨d, hd, rfl⟩ := List.mem_map.mp hz
    exact (img_ok g (hl d hd)).1 c hcz
  · have := flat_len (ls := l.map (img ws)) (n := 60) fun z hz => by
      obtain ⟨d, hd, rfl⟩ := List.mem_map.mp hz
      exact (img_ok g (hl d hd)).2
    rw [List.length_map] at this
    exact this
theorem map_tS (ls : List (List Nat)) : ls.map tS = ls.map fun l => V.str (sOf l) := rfl
abbrev s_Sending_sent : Stmt := inClass (top 18) 5
abbrev N_Sending_sent : List Str := ["self", "word", "letter"]
theorem sc_Sending_sent : FnScope N_Sending_sent ["self", "word"] (defScope s_Sending_sent) := ⟨rfl, rfl, rfl, by decide +kernel, rfl, by decide +kernel, by decide +kernel⟩
def sp_sent (C : Addr) : Sp := fun vs H Q _ => ∃ x m ws l, vs = [.ref x, .str (sOf l)] ∧ Snd C H x m ws ∧ Gd m ws ∧ isW l = true ∧ hasL ws.length l = true ∧ ∀ H', (∀ b o, H b = some o → H' b = some o) → Q (.str (sOf (snt ws l))) H'
theorem use_sent {C : Addr} {B : Hp} {L : HL} {Q : KQ} {E : XK} {x : Addr} {m : Nat} {l : List Nat} {ws : List (List Nat)} (h : Snd C B x m ws) (q : Q (.str (sOf (snt ws l))) B L) (g : Gd m ws) (hw : isW l = true) (hl : hasL ws.length l = true) : ∀ H, Sat B L H → sp_sent C [.ref x, .str (sOf l)] H (up Q) E := fun H s => ⟨x, m, ws, l, rfl, h.le s.ext, g, hw, hl, fun H' e => s.upq e q⟩
theorem ok_sent {f C W : Addr} {fd : FuncData} (F : Fun K "sent" "Sending.sent" s_Sending_sent f fd) (hm : Meth K C "sent" f) (cls : Cls K C) (T : Tx mg)
    (F_need_word : Fn P w K mg base 3 "need_word" (sp_need_word W)) (F_has_letters : Fn P w K mg base 2 "has_letters" sp_has_letters) (F_put_together : Fn P w K mg base 2 "put_together" sp_put_together) (M_many : Mt P w K mg base 1 C "many" (sp_many C)) (M_image : Mt P w K mg base 3 C "image" (sp_image C)) : Mt P w K mg base 4 C "sent" (sp_sent C) := by
  refine mt_okM F sc_Sending_sent hm cls (fun _ _ _ _ _ _ us hl => match us, hl with | [_, _], _ => rfl) ?_ fun cdv A outer s H vs Q E hr h tk po => ?_
  · rintro vs H Q E ⟨_, _, _, _, rfl, _⟩; rfl
  obtain ⟨x, m, ws, l, rfl, hS, g, hw, hl, hq⟩ := h
  have hi := (isW_iff l).mp hw
  have hi1 := hi.1
  have hin : ∀ c ∈ l, InL ws c := fun c hc => inL_of hl hc
  have hraw := snt_raw g.gw hin
  have ⟨dx, t, hx, ht⟩ := hS
  refine ⟨H, [], Sat.whole, ?_⟩
  refine k_cons ?_      -- need_word(word)
  refine k_expr ?_
  refine k_fn F_need_word (hr.mono (by decide)) ?_
  refine a_cons ?_
  refine k_n 1 ?_
  refine a_nil ?_
  refine use_need_word ?_ hw (by omega)
  refine k_cons ?_
  refine k_if ?_
  refine t_not ?_
  refine t_val ?_
  refine k_fn F_has_letters (hr.mono (by decide)) ?_
  refine a_cons ?_
  refine k_n 1 ?_
  refine a_cons ?_
  refine k_meth0 M_many (hr.mono (by decide)) takes0 ?_
  refine k_n 0 ?_
  refine ⟨_, _, _, rfl, .inl hx, rfl, ?_⟩
  skip
  refine use_many hS ?_
  refine a_nil ?_
  refine use_has_letters ?_ hi.2.1 (by omega)
  refine ⟨_, rfl, ?_⟩
  refine ⟨fun hk => ?_, fun hk => ?_⟩
  · rw [hl] at hk; cases hk
  · refine k_nil ?_
    refine k_one ?_      -- return put_together(''.join([self.image(letter) for letter in word]))
    refine k_ret ?_
    refine k_fn F_put_together (hr.mono (by decide)) ?_
    refine a_cons ?_
    refine k_join ?_
    refine k_s [] ?_
    refine ⟨_, rfl, ?_⟩
    skip
    refine k_le (k_lcm_s (j := 2) (fun c => .str (sOf (img ws c))) sc_Sending_sent.nd (blkOk_by (N := N_Sending_sent) (sc := defScope s_Sending_sent) (by decide +kernel)) ?_)
    refine k_n 1 ?_
    refine ⟨l, rfl, by omega, fun c hc D acc sb Hb Cb clb fpb => ?_, fun D => ?_⟩
    ·
      refine k_meth M_image (hr.mono (by decide)) takes0 ?_
      refine k_n 0 ?_
      refine ⟨_, _, _, rfl, .inl hx, rfl, ?_⟩
      refine a_cons ?_
      refine k_n 2 ?_
      refine a_nil ?_
      refine use_image hS ?_ g (hi.2.1 c hc) (hin c hc)
      exact ⟨rfl, rfl, rfl⟩
    skip
    refine m_join0 (ls := l.map (img ws)) (by rw [List.map_map]; exact Or.inr (List.Mem.head _)) ?_ (by omega)
    refine a_nil ?_
    refine use_put_together ?_ ⟨hraw.1, by omega⟩
    exact fun H' s => hq H' s.ext
/-- a sending that is new -/
def SndN (C : Addr) (B H : Hp) (x : Addr) (m : Nat) (ws : List (List Nat)) : Prop := ∃ dx t, H x = some (.ins C dx (sfs m t)) ∧ H t = some (.tup (ws.map tS)) ∧ B x = none ∧ B t = none
theorem SndN.le {C : Addr} {B H H' : Hp} {x : Addr} {m : Nat} {ws : List (List Nat)} (h : SndN C B H x m ws) (e : Le H H') : SndN C B H' x m ws := by
  obtain ⟨dx, t, h1, h2, h3⟩ := h
  exact ⟨dx, t, e _ _ h1, e _ _ h2, h3⟩
theorem SndN.snd {C : Addr} {B H : Hp} {x : Addr} {m : Nat} {ws : List (List Nat)} (h : SndN C B H x m ws) : Snd C H x m ws := by
  obtain ⟨dx, t, h1, h2, _⟩ := h
  exact ⟨dx, t, h1, h2⟩
/-- .. joins the base -/
theorem SndN.join {C : Addr} {B H H' : Hp} {L : HL} {x : Addr} {m : Nat} {ws : List (List Nat)} (h : SndN C H H' x m ws) (s : Sat B L H) (e : Le H H') : ∃ B', Sat B' L H' ∧ Le B B' ∧ SndN C B B' x m ws := by
  obtain ⟨dx, t, h1, h2, h3, h4⟩ := h
  have s1 := s.keep e
  have hne : x ≠ t := fun z => by rw [z, h2] at h1; cases h1
  have s2 := s1.take h2 (s.notin h4)
  have s3 := s2.take h1 (s.notin h3)
  refine ⟨_, s3, fun b o hb => ?_, dx, t, upd_same, by rw [upd_ne (Ne.symm hne)]; exact upd_same, s.free h3, s.free h4⟩
  refine le_upd ?_ b o (le_upd (s.free h4) b o hb)
  rw [upd_ne hne]; exact s.free h3
/-- the words sent on -/
def sntW (ws zs : List (List Nat)) : List (List Nat) := zs.map (snt ws)
theorem snt_let {m : Nat} {ws : List (List Nat)} (g : Gw m ws) {l : List Nat} (hl : ∀ c ∈ l, InL ws c) : Let (snt ws l) := let_red (snt_raw g hl).1
theorem snt_len {m : Nat} {ws : List (List Nat)} (g : Gw m ws) {l : List Nat} (hl : ∀ c ∈ l, InL ws c) : (snt ws l).length ≤ 60 * l.length := Nat.le_trans (red_len _) (snt_raw g hl).2
theorem has_img {m : Nat} {ws : List (List Nat)} (g : Gw m ws) {c : Nat} (h : InL ws c) : hasL m (img ws c) = true := by
  unfold img
  by_cases hc : c ∈ ltL
  · rw [if_pos hc]
    rcases h with h | h
    · exact (g.ok _ (getD_mem h.2)).2.2
    · exact absurd h.1 (lt_bk hc)
  · rw [if_neg hc]
    rcases h with h | h
    · exact absurd h.1 hc
    · have h2 := (g.ok _ (getD_mem h.2)).2.2
      unfold hasL at h2 ⊢
      rw [List.all_eq_true] at h2 ⊢
      intro d hd
      unfold inv at hd
      rw [List.mem_reverse, List.mem_map] at hd
      obtain ⟨y, hy, rfl⟩ := hd
      have := h2 y hy
      rw [bk_bk, Bool.or_comm]; exact this
theorem snt_has {m : Nat} {ws : List (List Nat)} (g : Gw m ws) {l : List Nat} (hl : ∀ c ∈ l, InL ws c) : hasL m (snt ws l) = true := by
  unfold hasL
  rw [List.all_eq_true]
  intro c hc
  have h1 := red_mem hc
  obtain ⟨z, hz, hcz⟩ := List.mem_flatten.mp h1
  obtain ⟨d, hd, rfl⟩ := List.mem_map.mp hz
  have := has_img g (hl d hd)
  unfold hasL at this
  rw [List.all_eq_true] at this
  exact this c hcz
theorem snt_gd {m n : Nat} {ws zs : List (List Nat)} (g : Gd m ws) (gz : Gd n zs) (hn : ws.length = n) (hs : ∀ l ∈ zs, (snt ws l).length ≤ 60) : Gd m (sntW ws zs) := by
  refine ⟨g.m1, g.m6, by unfold sntW; rw [List.length_map]; exact gz.w1, by unfold sntW; rw [List.length_map]; exact gz.w6, fun l hl => ?_⟩
  obtain ⟨z, hz, rfl⟩ := List.mem_map.mp hl
  have hin : ∀ c ∈ z, InL ws c := fun c hc => inL_of (by rw [hn]; exact (gz.ok z hz).2) hc
  exact ⟨(isW_iff _).mpr ⟨hs z hz, snt_let g.gw hin, rd_red _⟩, snt_has g.gw hin⟩
/-- a Sending made -/
theorem use_make {K : PySem.W.Frag} {C : Addr} {B : Hp} {L : HL} {Q : KQ} {E : XK} {a x dx : Addr} {m : Nat} {ws : List (List Nat)} (h : Ls K B L a (ws.map tS)) (g : Gd m ws) (q : ∀ B2, Le B B2 → SndN C B B2 x m ws → Q (.ref x) B2 L) :
    ∀ H, Sat B ((x, .ins C dx []) :: (dx, .own x) :: L) H → sp_init K C [.ref x, .int m, .ref a] H (fun v H2 => v = .non ∧ up Q (.ref x) H2) E := fun H s => by
  have hx : H x = some (.ins C dx []) := s.own _ List.mem_cons_self
  have hb : B x = none := s.nb (x, .ins C dx []) List.mem_cons_self
  have hnd := s.nd
  rw [List.map_cons, List.nodup_cons] at hnd
  refine ⟨x, dx, a, m, ws, rfl, hx, ?_, g, fun H' t e1 ht e2 e3 => ⟨rfl, ?_⟩⟩
  · rcases h with ((h | ⟨o, h⟩) | h) | h
    · have hne : a ≠ x := fun e => by rw [e, hb] at h; cases h
      exact .inl (.inl (by rw [rm_ne hne]; exact s.ext _ _ h))
    · have hne : a ≠ x := fun e => by rw [e, hb] at h; cases h
      exact .inl (.inr ⟨o, by rw [rm_ne hne]; exact s.ext _ _ h⟩)
    · exact .inr h
    · have hne : a ≠ x := fun e => hnd.1 (by rw [← e]; exact List.mem_cons_of_mem _ (List.mem_map.mpr ⟨_, h, rfl⟩))
      exact .inl (.inl (by rw [rm_ne hne]; exact s.own _ (List.mem_cons_of_mem _ (List.mem_cons_of_mem _ h))))
  · have s1 : Sat B ((x, .ins C dx (sfs m t)) :: (dx, .own x) :: L) H' := s.rep' .here e1 e3
    have hxt : x ≠ t := fun e => by rw [← e, hx] at ht; cases ht
    have s2 : Sat B ((t, .tup (ws.map tS)) :: (x, .ins C dx (sfs m t)) :: (dx, .own x) :: L) H' := by
      refine ⟨s1.ext, fun p hp => ?_, fun p hp => ?_, ?_⟩
      · rcases List.mem_cons.mp hp with e | hp
        · rw [e]; exact e2
        · exact s1.own p hp
      · rcases List.mem_cons.mp hp with e | hp
        · rw [e]; exact s.free ht
        · exact s1.nb p hp
      · rw [List.map_cons, List.nodup_cons]
        exact ⟨s.notin ht, s1.nd⟩
    obtain ⟨B2, s3, l3, h3⟩ := s2.give1
    obtain ⟨B4, s4, l4, h4⟩ := s3.give1
    obtain ⟨B5, s5, l5, _⟩ := s4.give1
    exact ⟨B5, L, s5, q B5 (fun b o e => l5 _ _ (l4 _ _ (l3 _ _ e))) ⟨dx, t, l5 _ _ h4, l5 _ _ (l4 _ _ h3), hb, s.free ht⟩⟩
abbrev s_Sending_then : Stmt := inClass (top 18) 6
abbrev N_Sending_then : List Str := ["self", "other", "words", "word"]
theorem sc_Sending_then : FnScope N_Sending_then ["self", "other"] (defScope s_Sending_then) := ⟨rfl, rfl, rfl, by decide +kernel, rfl, by decide +kernel, by decide +kernel⟩
def sF (ws : List (List Nat)) (v : V) : V := match v with | .str s => .str (sOf (snt ws s.cps.toList)) | v => v
theorem map_sF (ws zs : List (List Nat)) : (zs.map tS).map (sF ws) = (sntW ws zs).map tS := by
  unfold sntW
  rw [List.map_map, List.map_map]
  apply List.map_congr_left
  intro l _
  simp [sF, tS, sOf]
theorem sF_tS (ws : List (List Nat)) (l : List Nat) : sF ws (tS l) = tS (snt ws l) := by simp [sF, tS, sOf]
def lF (v : V) : V := match v with | .str s => .bl (decide (60 < s.cps.toList.length)) | v => v
theorem map_lF (zs : List (List Nat)) : (zs.map tS).map lF = (zs.map fun l => decide (60 < l.length)).map V.bl := by
  rw [List.map_map, List.map_map]
  apply List.map_congr_left
  intro l _
  simp [lF, tS, sOf]
def sp_then (C CT : Addr) : Sp := fun vs H Q E => ∃ x y n m zs ws, vs = [.ref x, .ref y] ∧ (Snd C H x n zs ∧ Snd C H y m ws ∧ Gd n zs ∧ Gd m ws ∧ ws.length = n) ∧
  ((∀ l ∈ zs, (snt ws l).length ≤ 60) → ∀ H' z, (∀ b o, H b = some o → H' b = some o) → SndN C H H' z m (sntW ws zs) → Q (.ref z) H') ∧
  ((∃ l ∈ zs, 60 < (snt ws l).length) → ∀ H', (∀ b o, H b = some o → H' b = some o) → E (.ref CT) none H')
theorem ok_then {f C CT : Addr} {fd : FuncData} (F : Fun K "then" "Sending.then" s_Sending_then f fd) (hm : Meth K C "then" f) (cls : Cls K C) (nG : NoAttr K C "goal") (nW : NoAttr K C "first_words") (T : Tx mg) (gC : mg "Sending" = some (.ref C)) (O : IsO K C) (eT : ExK K mg "TooMany" CT)
    (M_many : Mt P w K mg base 1 C "many" (sp_many C)) (M_into : Mt P w K mg base 1 C "into" (sp_into C)) (M_sent : Mt P w K mg base 4 C "sent" (sp_sent C)) (mk : Mkr P w K mg base 3 "Sending" C (sp_init K C)) : Mt P w K mg base 5 C "then" (sp_then C CT) := by
  refine mt_okM F sc_Sending_then hm cls (fun _ _ _ _ _ _ us hl => match us, hl with | [_, _], _ => rfl) ?_ fun cdv A outer s H vs Q E hr h tk po => ?_
  · rintro vs H Q E ⟨_, _, _, _, _, _, rfl, _⟩; rfl
  obtain ⟨x, y, n, m, zs, ws, rfl, ⟨hX, hY, gz, gw, hn⟩, hq, he⟩ := h
  have ⟨dx, tx, hx, htx⟩ := hX
  have ⟨dy, ty, hy, hty⟩ := hY
  have ht' : Tp K H [] tx (zs.map tS) := .inl (.inl (.inl htx))
  have hin : ∀ l ∈ zs, ∀ c ∈ l, InL ws c := fun l hl c hc => inL_of (by rw [hn]; exact (gz.ok l hl).2) hc
  have z6 := gz.w6
  refine ⟨H, [], Sat.whole, ?_⟩
  refine k_cons ?_
  refine k_if ?_
  refine t_pure (v := false) ?_ ⟨fun z => (nomatch z), fun _ => ?_⟩
  · skip
    refine t_w ?_
    refine w_orP ?_
    refine t_not ?_
    refine t_val ?_
    refine k_callB (id := "isinstance") T.b_isinstance ?_
    refine a_cons ?_
    refine k_n 1 ?_
    refine a_cons ?_
    refine k_cls gC ?_
    refine a_nil ?_
    refine c_isO O (.inl hy) ?_
    refine ⟨_, rfl, ?_⟩
    apply Exists.intro; refine ⟨fun hk => ?_, ?_⟩
    {
    refine w_or1 ?_
    refine t_cmp ?_
    refine k_meth0 M_many (hr.mono (by decide)) takes0 ?_
    refine k_n 1 ?_
    refine ⟨_, _, _, rfl, .inl hy, rfl, ?_⟩
    skip
    refine use_many hY ?_
    refine k_fld cls nG ?_
    refine k_n 0 ?_
    refine ⟨_, _, _, _, rfl, by walk_at "at", rfl, ?_⟩
    walk_at "opNotEq"
    refine ⟨_, rfl, ?_⟩
    exact ⟨rfl, rfl, by walk_at "sfx"⟩
    all_goals (try walk_at "side")
    }
    refine ⟨?_, rfl, by walk_at "sfx"⟩
    rw [hn]; simp
  refine k_nil ?_
  refine k_cons ?_      -- words = [other.sent(word) for word in self.first_words]
  refine k_sle 2 (k_lcm_t (j := 3) (sF ws) sc_Sending_then.nd (blkOk_by (N := N_Sending_then) (sc := defScope s_Sending_then) (by decide +kernel)) ?_)
  refine k_fld cls nW ?_
  refine k_n 0 ?_
  refine ⟨_, _, _, _, rfl, by walk_at "at", rfl, ?_⟩
  refine ⟨tx, zs.map tS, rfl, ht', by rw [List.length_map]; omega, fun z hz D acc sb Hb Cb clb fpb => ?_, fun D => ?_⟩
  ·
    obtain ⟨l, hl, rfl⟩ := List.mem_map.mp hz
    have hg := gz.ok l hl
    refine k_meth M_sent (hr.mono (by decide)) takes0 ?_
    refine k_n 1 ?_
    refine ⟨_, _, _, rfl, .inl hy, rfl, ?_⟩
    refine a_cons ?_
    refine k_n 3 ?_
    refine a_nil ?_
    refine use_sent hY ?_ gw hg.1 (by rw [hn]; exact hg.2)
    exact ⟨(sF_tS ws l).symm, rfl, rfl⟩
  show kSs _ _ _ _ _ _
  rw [map_sF]
  have hlen : ∀ l ∈ sntW ws zs, l.length ≤ 3600 := fun l hl => by
    obtain ⟨z, hz, rfl⟩ := List.mem_map.mp hl
    have h1 := snt_len gw.gw (hin z hz)
    have h2 := (gz.let_ hz).2.1
    omega
  have hsz : (sntW ws zs).length = zs.length := List.length_map ..
  refine k_cons ?_
  refine k_if ?_
  refine t_val ?_
  refine k_callB (id := "any") T.b_any ?_
  refine a_cons ?_
  refine k_le (k_lcm_l (j := 3) lF sc_Sending_then.nd (blkOk_by (N := N_Sending_then) (sc := defScope s_Sending_then) (by decide +kernel)) ?_)
  refine k_n 2 ?_
  refine ⟨D, _, rfl, .inr List.mem_cons_self, by rw [List.length_map]; omega, fun z hz D2 acc sb Hb Cb clb fpb => ?_, fun D2 => ?_⟩
  ·
    obtain ⟨l, hl, rfl⟩ := List.mem_map.mp hz
    have hg := hlen l hl
    refine k_cmp ?_
    refine k_callB (id := "len") T.b_len ?_
    refine a_cons ?_
    refine k_n 3 ?_
    refine a_nil ?_
    refine c_lens ?_ (by omega)
    refine k_giE T.g_MOST_LETTERS ?_
    walk_at "opGt"
    refine ⟨?_, rfl, rfl⟩
    have e : ((60 : Int) < (l.length : Nat)) ↔ 60 < l.length := by omega
    simp [lF, tS, sOf, e]
  refine a_nil ?_
  refine c_any (bs := (sntW ws zs).map fun l => decide (60 < l.length)) (by rw [map_lF]; exact Or.inr (List.Mem.head _)) ?_
  refine ⟨_, rfl, ?_⟩
  refine ⟨fun hk => ?_, fun hk => ?_⟩
  · refine k_one (k_raise eT tk fun H' s => he ?_ H' s.ext)
    rw [List.any_eq_true] at hk
    obtain ⟨b, hb, hb2⟩ := hk
    obtain ⟨l, hl, rfl⟩ := List.mem_map.mp hb
    obtain ⟨z, hz, rfl⟩ := List.mem_map.mp hl
    exact ⟨z, hz, by simpa using hb2⟩
  · refine k_nil ?_
    have hall : ∀ l ∈ zs, (snt ws l).length ≤ 60 := fun l hl => by
      rw [List.any_eq_false] at hk
      have := hk (decide (60 < (snt ws l).length)) (List.mem_map.mpr ⟨snt ws l, List.mem_map.mpr ⟨l, hl, rfl⟩, rfl⟩)
      simpa using this
    refine k_one ?_      -- return Sending(other.into(), words)
    refine k_ret ?_
    refine k_make mk (hr.mono (by decide)) (passes_call (E := fun _ _ _ => False) takes0 fun _ _ _ _ z => z) ?_
    refine a_cons ?_
    refine k_meth0 M_into (hr.mono (by decide)) takes0 ?_
    refine k_n 1 ?_
    refine ⟨_, _, _, rfl, .inl hy, rfl, ?_⟩
    skip
    refine use_into hY ?_
    refine a_cons ?_
    refine k_n 2 ?_
    refine a_nil ?_
    intro z dz; refine use_make (.inr (List.mem_cons_of_mem _ List.mem_cons_self)) (snt_gd gw gz hn hall) fun B2 l2 hS => ?_
    exact fun H' s => hq hall H' z (fun b o e => s.ext _ _ (l2 _ _ e)) (hS.le s.ext)
theorem use_then {C CT x y : Addr} {B : Hp} {L : HL} {Q : KQ} {E : XK} {n m : Nat} {zs ws : List (List Nat)} (h : Snd C B x n zs ∧ Snd C B y m ws ∧ Gd n zs ∧ Gd m ws ∧ ws.length = n)
    (q : (∀ l ∈ zs, (snt ws l).length ≤ 60) → ∀ B' z, Le B B' → SndN C B B' z m (sntW ws zs) → Q (.ref z) B' L) (qe : (∃ l ∈ zs, 60 < (snt ws l).length) → ∀ H, Sat B L H → E (.ref CT) none H) : ∀ H, Sat B L H → sp_then C CT [.ref x, .ref y] H (up Q) E := fun H s =>
  ⟨x, y, n, m, zs, ws, rfl, ⟨h.1.le s.ext, h.2.1.le s.ext, h.2.2⟩, fun ha H' z e hz => by
    obtain ⟨B', s', l', hS⟩ := hz.join s e
    exact ⟨B', L, s', q ha B' z l' hS⟩, fun he H' e => qe he H' (s.keep e)⟩
/-! ### the law's own defs -/
def St (s : Int) : Prop := 0 ≤ s ∧ s < 2147483647
abbrev s_law_draw : Stmt := top 20
abbrev N_law_draw : List Str := ["_law_state_here", "_law_most"]
theorem sc_law_draw : FnScope N_law_draw ["_law_state_here", "_law_most"] (defScope s_law_draw) := ⟨rfl, rfl, rfl, by decide +kernel, rfl, by decide +kernel, by decide +kernel⟩
def sp_law_draw : Sp := fun vs H Q _ => ∃ (p : Addr) (s m : Int), vs = [.ref p, .int m] ∧ H p = some (.lst [.int s]) ∧ St s ∧ (0 < m ∧ m < 1000000) ∧
  ∀ (H' : Hp) (s' d : Int), (∀ b o, b ≠ p → H b = some o → H' b = some o) → H' p = some (.lst [.int s']) → St s' → 0 ≤ d → d < m → Q (.int d) H'
theorem use_law_draw {B : Hp} {L : HL} {Q : KQ} {E : XK} {p : Addr} {s m : Int} (hs : St s) (hp : (p, HO.lst [.int s]) ∈ L) (hm : 0 < m ∧ m < 1000000) (q : ∀ s' d, St s' → 0 ≤ d → d < m → ∃ L', Rep L p (.lst [.int s]) (.lst [.int s']) L' ∧ Q (.int d) B L') : ∀ H, Sat B L H → sp_law_draw [.ref p, .int m] H (up Q) E :=
  fun H sat => ⟨p, s, m, rfl, sat.own _ hp, hs, hm, fun H' s' d e1 e2 h1 h2 h3 => by
    obtain ⟨L', r, h⟩ := q s' d h1 h2 h3
    exact ⟨B, L', sat.rep' r e1 e2, h⟩⟩
theorem ok_law_draw {f : Addr} {fd : FuncData} (F : Fun K "_law_draw" "_law_draw" s_law_draw f fd) (hm : mg "_law_draw" = some (.ref f)) : Fn P w K mg base 1 "_law_draw" sp_law_draw := by
  refine fn_ok F sc_law_draw hm (fun _ _ _ _ _ _ us hl => match us, hl with | [_, _], _ => rfl) ?_ fun cdv A outer s H vs Q E hr h tk po => ?_
  · rintro vs H Q E ⟨_, _, _, rfl, _⟩; rfl
  obtain ⟨p, s0, m, rfl, hp, hs, hmm, hq⟩ := h
  refine ⟨rmH H p, _, sat_rm hp, ?_⟩
  have ⟨hs1, hs2⟩ := hs
  refine k_cons ?_      -- _law_state_here[0] = (_law_state_here[0] * 48271 + 11) % 2147483647
  refine k_asg ?_
  refine k_bin ?_
  refine k_bin ?_
  refine k_bin ?_
  refine k_ix ?_
  refine k_n 0 ?_
  refine k_int ?_
  refine i_lv (.int s0) (by walk_at "ls") ?_ rfl
  refine k_int ?_
  walk_at "opMult"
  refine k_int ?_
  walk_at "opAdd"
  refine k_int ?_
  walk_at "opMod"
  refine g_setl ?_
  refine k_n 0 ?_
  refine k_int ?_
  refine ⟨_, [.int s0], 0, 0, _, rfl, rfl, rfl, by walk_at "rep", ?_⟩
  show kSs _ _ _ _ _ _
  refine k_one ?_      -- return _law_state_here[0] // 7 % _law_most
  refine k_ret ?_
  refine k_bin ?_
  refine k_bin ?_
  refine k_ix ?_
  refine k_n 0 ?_
  refine k_int ?_
  refine i_lv (.int ((s0 * 48271 + 11) % 2147483647)) (by walk_at "ls") ?_ rfl
  refine k_int ?_
  walk_at "opFloorDiv"
  refine k_n 1 ?_
  refine o_mod ?_ hmm.1
  intro H' s
  have hb := Int.emod_nonneg (s0 * 48271 + 11) (b := 2147483647) (by decide)
  have hb2 := Int.emod_lt_of_pos (s0 * 48271 + 11) (b := 2147483647) (by decide)
  exact hq H' _ _ (fun b o hne e => s.ext b o (by rw [rm_ne hne]; exact e)) (s.own _ List.mem_cons_self) ⟨hb, hb2⟩ (Int.emod_nonneg _ (by omega)) (Int.emod_lt_of_pos _ hmm.1)
abbrev s_law_state : Stmt := top 21
abbrev N_law_state : List Str := ["_law_cells", "_law_k", "_law_mixed"]
theorem sc_law_state : FnScope N_law_state ["_law_cells", "_law_k"] (defScope s_law_state) := ⟨rfl, rfl, rfl, by decide +kernel, rfl, by decide +kernel, by decide +kernel⟩
def sp_law_state : Sp := fun vs H Q _ => ∃ (a : Addr) (c k : Int), vs = [.ref a, .int k] ∧ H a = some (.lst [.int c]) ∧ (0 ≤ k ∧ k < 1000) ∧
  ∀ (H' : Hp) (p : Addr) (s : Int), (∀ b o, H b = some o → H' b = some o) → H p = none → H' p = some (.lst [.int s]) → St s → Q (.ref p) H'
theorem use_law_state {B : Hp} {L : HL} {Q : KQ} {E : XK} {a : Addr} {c k : Int} (h : (a, HO.lst [.int c]) ∈ L) (hk : 0 ≤ k ∧ k < 1000) (q : ∀ p s, St s → Q (.ref p) B ((p, .lst [.int s]) :: L)) : ∀ H, Sat B L H → sp_law_state [.ref a, .int k] H (up Q) E :=
  fun H sat => ⟨a, c, k, rfl, sat.own _ h, hk, fun H' p s e h1 h2 hs => ⟨B, _, sat.new' h1 e h2, q p s hs⟩⟩
theorem ok_law_state {f : Addr} {fd : FuncData} (F : Fun K "_law_state" "_law_state" s_law_state f fd) (hm : mg "_law_state" = some (.ref f)) (T : Tx mg) : Fn P w K mg base 1 "_law_state" sp_law_state := by
  refine fn_ok F sc_law_state hm (fun _ _ _ _ _ _ us hl => match us, hl with | [_, _], _ => rfl) ?_ fun cdv A outer s H vs Q E hr h tk po => ?_
  · rintro vs H Q E ⟨_, _, _, rfl, _⟩; rfl
  obtain ⟨a, c, k, rfl, ha, hk, hq⟩ := h
  have ha' : Ls K H [] a ([c].map V.int) := .inl (.inl (.inl ha))
  refine ⟨H, [], Sat.whole, ?_⟩
  refine k_cons ?_      -- _law_mixed = (sum(_law_cells) * 48271 + len(_law_cells) * 7919 + _law_k * 104729 + 17) % 2147483647
  refine k_set 2 ?_ sc_law_state.nd
  refine k_bin ?_
  refine k_bin ?_
  refine k_bin ?_
  refine k_bin ?_
  refine k_bin ?_
  refine k_callB (id := "sum") T.b_sum ?_
  refine a_cons ?_
  refine k_n 0 ?_
  refine a_nil ?_
  refine c_sum ha' ?_
  refine k_int ?_
  walk_at "opMult"
  refine k_bin ?_
  refine k_callB (id := "len") T.b_len ?_
  refine a_cons ?_
  refine k_n 0 ?_
  refine a_nil ?_
  refine c_lenl ha' ?_
  refine k_int ?_
  walk_at "opMult"
  walk_at "opAdd"
  refine k_bin ?_
  refine k_n 1 ?_
  refine k_int ?_
  walk_at "opMult"
  walk_at "opAdd"
  refine k_int ?_
  walk_at "opAdd"
  refine k_int ?_
  walk_at "opMod"
  show kSs _ _ _ _ _ _
  generalize hmx : (([c].sum * 48271 + ((([c].map V.int).length : Nat) : Int) * 7919 + k * 104729 + 17) % 2147483647) = mx
  have hb := Int.emod_nonneg ([c].sum * 48271 + ((([c].map V.int).length : Nat) : Int) * 7919 + k * 104729 + 17) (b := 2147483647) (by decide)
  have hb2 := Int.emod_lt_of_pos ([c].sum * 48271 + ((([c].map V.int).length : Nat) : Int) * 7919 + k * 104729 + 17) (b := 2147483647) (by decide)
  rw [hmx] at hb hb2
  refine k_one ?_      -- return [1 + (_law_mixed * _law_mixed + 69621 * _law_k) % 2147483629]
  refine k_ret ?_
  refine k_lst ?_
  refine a_cons ?_
  refine k_bin ?_
  refine k_int ?_
  refine k_bin ?_
  refine k_bin ?_
  refine k_bin ?_
  refine k_n 2 ?_
  refine k_n 2 ?_
  refine o_mul ?_ (.inl (by omega))
  refine k_bin ?_
  refine k_int ?_
  refine k_n 1 ?_
  walk_at "opMult"
  walk_at "opAdd"
  refine k_int ?_
  walk_at "opMod"
  walk_at "opAdd"
  refine a_nil ?_
  refine ⟨by first | decide | simp, fun p => ?_⟩
  intro H' s
  have hc := Int.emod_nonneg (mx * mx + 69621 * k) (b := 2147483629) (by decide)
  have hc2 := Int.emod_lt_of_pos (mx * mx + 69621 * k) (b := 2147483629) (by decide)
  exact hq H' p _ s.ext (s.nb _ List.mem_cons_self) (s.own _ List.mem_cons_self) ⟨by omega, by omega⟩
abbrev s_law_contrary : Stmt := top 22
abbrev N_law_contrary : List Str := ["_law_letter", "_law_at"]
theorem sc_law_contrary : FnScope N_law_contrary ["_law_letter"] (defScope s_law_contrary) := ⟨rfl, rfl, rfl, by decide +kernel, rfl, by decide +kernel, by decide +kernel⟩
def sp_law_contrary : Sp := fun vs H Q _ => ∃ c, vs = [.str (sOf [c])] ∧ c ∈ ordL ∧ ∀ H', (∀ b o, H b = some o → H' b = some o) → Q (.str (sOf [bk c])) H'
theorem use_law_contrary {B : Hp} {L : HL} {Q : KQ} {E : XK} {c : Nat} (q : Q (.str (sOf [bk c])) B L) (h : c ∈ ordL) : ∀ H, Sat B L H → sp_law_contrary [.str (sOf [c])] H (up Q) E := fun H s => ⟨c, rfl, h, fun H' e => s.upq e q⟩
theorem ok_law_contrary {f : Addr} {fd : FuncData} (F : Fun K "_law_contrary" "_law_contrary" s_law_contrary f fd) (hm : mg "_law_contrary" = some (.ref f)) : Fn P w K mg base 1 "_law_contrary" sp_law_contrary := by
  refine fn_ok F sc_law_contrary hm (fun _ _ _ _ _ _ us hl => match us, hl with | [_], _ => rfl) ?_ fun cdv A outer s H vs Q E hr h tk po => ?_
  · rintro vs H Q E ⟨c, rfl, _⟩; rfl
  obtain ⟨c, rfl, hc, hq⟩ := h
  refine ⟨H, [], Sat.whole, ?_⟩
  refine k_cons ?_      -- _law_at = 'aAbBcCdDeEfF'.index(_law_letter)
  refine k_set 1 ?_ sc_law_contrary.nd
  refine k_sindex ?_ (name := "")
  refine k_s ordL ?_
  refine ⟨_, rfl, ?_⟩
  refine a_cons ?_
  refine k_n 0 ?_
  refine a_nil ?_
  refine m_index (ord_ix hc) ?_
  refine k_one ?_      -- return 'aAbBcCdDeEfF'[_law_at + 1 - 2 * (_law_at % 2)]
  refine k_ret ?_
  refine k_ix ?_
  refine k_s ordL ?_
  refine k_bin ?_
  refine k_bin ?_
  refine k_n 1 ?_
  refine k_int ?_
  walk_at "opAdd"
  refine k_bin ?_
  refine k_int ?_
  refine k_bin ?_
  refine k_n 1 ?_
  refine k_int ?_
  walk_at "opMod"
  walk_at "opMult"
  walk_at "opSub"
  walk_at "IX"
  · rw [ord_at hc]
    exact fun H' s => hq H' s.ext
  · have := ord_lt hc
    show -12 ≤ _ ∧ _ < (12 : Int)
    omega
  · decide
abbrev s_law_back : Stmt := top 23
abbrev N_law_back : List Str := ["_law_word_here", "_law_letter"]
theorem sc_law_back : FnScope N_law_back ["_law_word_here"] (defScope s_law_back) := ⟨rfl, rfl, rfl, by decide +kernel, rfl, by decide +kernel, by decide +kernel⟩
def sp_law_back : Sp := fun vs H Q _ => ∃ l, vs = [.str (sOf l)] ∧ (Let l ∧ l.length ≤ 1000000) ∧ ∀ H', (∀ b o, H b = some o → H' b = some o) → Q (.str (sOf (inv l))) H'
theorem use_law_back {B : Hp} {L : HL} {Q : KQ} {E : XK} {l : List Nat} (q : Q (.str (sOf (inv l))) B L) (h : Let l) (hn : l.length ≤ 1000000) : ∀ H, Sat B L H → sp_law_back [.str (sOf l)] H (up Q) E := fun H s => ⟨l, rfl, ⟨h, hn⟩, fun H' e => s.upq e q⟩
theorem ok_law_back {f : Addr} {fd : FuncData} (F : Fun K "_law_back" "_law_back" s_law_back f fd) (hm : mg "_law_back" = some (.ref f)) (F_law_contrary : Fn P w K mg base 1 "_law_contrary" sp_law_contrary) : Fn P w K mg base 2 "_law_back" sp_law_back := by
  refine fn_ok F sc_law_back hm (fun _ _ _ _ _ _ us hl => match us, hl with | [_], _ => rfl) ?_ fun cdv A outer s H vs Q E hr h tk po => ?_
  · rintro vs H Q E ⟨l, rfl, _⟩; rfl
  obtain ⟨l, rfl, ⟨hl, hn⟩, hq⟩ := h
  refine ⟨H, [], Sat.whole, ?_⟩
  refine k_one ?_      -- return ''.join([_law_contrary(_law_letter) for _law_letter in _law_word_here[::-1]])
  refine k_ret ?_
  refine k_join ?_
  refine k_s [] ?_
  refine ⟨_, rfl, ?_⟩
  skip
  refine k_le (k_lcm_s (j := 1) (fun c => .str (sOf [bk c])) sc_law_back.nd (blkOk_by (N := N_law_back) (sc := defScope s_law_back) (by decide +kernel)) ?_)
  refine k_revs ?_
  refine k_n 0 ?_
  refine ⟨l, rfl, by omega, ?_⟩
  refine ⟨l.reverse, rfl, by rw [List.length_reverse]; omega, fun c hc D acc sb Hb Cb clb fpb => ?_, fun D => ?_⟩
  ·
    refine k_fn F_law_contrary (hr.mono (by decide)) ?_
    refine a_cons ?_
    refine k_n 1 ?_
    refine a_nil ?_
    refine use_law_contrary ?_ (hl c (List.mem_reverse.mp hc))
    exact ⟨rfl, rfl, rfl⟩
  skip
  refine m_join0 (ls := (inv l).map fun c => [c]) ?_ ?_ ?_
  · rw [← map_one]
    have e : l.reverse.map (fun c => V.str (sOf [bk c])) = (inv l).map one := by unfold inv; rw [← List.map_reverse, List.map_map]; rfl
    rw [← e]; exact Or.inr (List.Mem.head _)
  · rw [flat_one]
    exact fun H' s => hq H' s.ext
  · rw [flat_one, inv_len]; omega
abbrev s_law_free : Stmt := top 24
abbrev N_law_free : List Str := ["_law_text", "_law_found", "_law_letter"]
theorem sc_law_free : FnScope N_law_free ["_law_text"] (defScope s_law_free) := ⟨rfl, rfl, rfl, by decide +kernel, rfl, by decide +kernel, by decide +kernel⟩
def sp_law_free : Sp := fun vs H Q _ => ∃ l, vs = [.str (sOf l)] ∧ (Let l ∧ l.length ≤ 1000000) ∧ ∀ H', (∀ b o, H b = some o → H' b = some o) → Q (.str (sOf (red l))) H'
theorem use_law_free {B : Hp} {L : HL} {Q : KQ} {E : XK} {l : List Nat} (q : Q (.str (sOf (red l))) B L) (h : Let l ∧ l.length ≤ 1000000) : ∀ H, Sat B L H → sp_law_free [.str (sOf l)] H (up Q) E := fun H s => ⟨l, rfl, h, fun H' e => s.upq e q⟩
theorem ok_law_free {f : Addr} {fd : FuncData} (F : Fun K "_law_free" "_law_free" s_law_free f fd) (hm : mg "_law_free" = some (.ref f)) (F_law_contrary : Fn P w K mg base 1 "_law_contrary" sp_law_contrary) : Fn P w K mg base 2 "_law_free" sp_law_free := by
  refine fn_ok F sc_law_free hm (fun _ _ _ _ _ _ us hl => match us, hl with | [_], _ => rfl) ?_ fun cdv A outer s H vs Q E hr h tk po => ?_
  · rintro vs H Q E ⟨c, rfl, _⟩; rfl
  obtain ⟨l, rfl, ⟨hl, hn⟩, hq⟩ := h
  refine ⟨H, [], Sat.whole, ?_⟩
  refine k_cons ?_      -- _law_found = ''
  refine k_set 1 ?_ sc_law_free.nd
  refine k_s [] ?_
  refine k_cons ?_
  refine k_for_s (fun i σ B L => ∃ v, σ = [some (.str (sOf l)), some (.str (sOf (act (l.take i) []).reverse)), v] ∧ B = H ∧ L = []) po ?_
  refine k_n 0 ?_
  refine ⟨l, rfl, ⟨_, rfl, rfl, rfl⟩, ?_, ?_⟩
  · rintro i c σ B L hi ⟨v, rfl, rfl, rfl⟩
    have hc : c ∈ ordL := hl c (List.mem_of_getElem? hi)
    have hil := (List.getElem?_eq_some_iff.mp hi).1
    have hal := act_len (l.take i) []
    have hst := act_take hi
    rw [List.length_take] at hal
    simp only [List.length_nil] at hal
    refine g_name 2 ?_ sc_law_free.nd
    refine k_one ?_
    refine k_if ?_
    cases hs : act (l.take i) [] with
    | nil =>
      rw [hs] at hst
      refine t_pure (v := false) ?_ ⟨fun z => (nomatch z), fun _ => ?_⟩
      · refine t_w ?_
        refine w_and ?_
        refine t_cmp ?_
        refine k_n 1 ?_
        refine k_s [] ?_
        walk_at "opNotEq"
        refine ⟨_, rfl, ?_⟩
        exact ⟨fun z => (by simp at z), fun _ => ⟨rfl, rfl, by walk_at "sfx"⟩⟩
      · skip
        refine k_one ?_      -- _law_found = _law_found + _law_letter
        refine k_set 1 ?_ sc_law_free.nd
        refine k_bin ?_
        refine k_n 1 ?_
        refine k_n 2 ?_
        walk_at "opAdd"
        · refine ⟨some (.str (sOf [c])), ?_, rfl, rfl⟩
          rw [hst]; rfl
        · simp
    | cons x s =>
      rw [hs] at hst hal
      rw [push_cons] at hst
      simp only [List.length_cons] at hal
      refine t_pure (v := decide (x = bk c)) ?_ ⟨fun hk => ?_, fun hk => ?_⟩
      · skip
        refine t_w ?_
        refine w_andP ?_
        refine t_cmp ?_
        refine k_n 1 ?_
        refine k_s [] ?_
        walk_at "opNotEq"
        refine ⟨_, rfl, ?_⟩
        apply Exists.intro; refine ⟨fun hk => ?_, ?_⟩
        {
        refine w_and1 ?_
        refine t_cmp ?_
        refine k_ix ?_
        refine k_n 1 ?_
        refine k_neg ?_
        refine k_int ?_
        refine ⟨_, rfl, ?_⟩
        refine i_sv x ?_ (by rw [List.reverse_cons]; exact at_last _ _) (by simp; omega)
        refine k_fn F_law_contrary (hr.mono (by decide)) ?_
        refine a_cons ?_
        refine k_n 2 ?_
        refine a_nil ?_
        refine use_law_contrary ?_ hc
        walk_at "opEq"
        refine ⟨_, rfl, ?_⟩
        exact ⟨rfl, rfl, by walk_at "sfx"⟩
        all_goals (try walk_at "side")
        }
        refine ⟨?_, rfl, by walk_at "sfx"⟩
        simp
      · have hx : x = bk c := of_decide_eq_true hk
        rw [if_pos hx] at hst
        refine k_one ?_      -- _law_found = _law_found[:-1]
        refine k_set 1 ?_ sc_law_free.nd
        refine k_slice ?_
        refine k_n 1 ?_
        refine p_none ?_
        refine p_some ?_
        refine k_neg ?_
        refine k_int ?_
        refine ⟨_, rfl, ?_⟩
        refine ⟨_, rfl, ?_⟩
        refine sl_s ?_ (by simp; omega)
        refine ⟨some (.str (sOf [c])), ?_, rfl, rfl⟩
        rw [hst, cut_init]
        simp
      · have hx : ¬ x = bk c := of_decide_eq_false hk
        rw [if_neg hx] at hst
        refine k_one ?_      -- _law_found = _law_found + _law_letter
        refine k_set 1 ?_ sc_law_free.nd
        refine k_bin ?_
        refine k_n 1 ?_
        refine k_n 2 ?_
        walk_at "opAdd"
        · refine ⟨some (.str (sOf [c])), ?_, rfl, rfl⟩
          rw [hst]; simp
        · simp; omega
  · rintro σ B L ⟨v, rfl, rfl, rfl⟩
    rw [List.take_length]
    refine k_one ?_      -- return _law_found
    refine k_ret ?_
    refine k_n 1 ?_
    exact fun H' s => hq H' s.ext
theorem ord_pick {m d : Nat} (hm : m ≤ 6) (hd : d < 2 * m) : ∃ c, ordL[d]? = some c ∧ c ∈ ordL ∧ hasL m [c] = true := by
  have h : ∀ m : Fin 7, ∀ d : Fin 12, d.1 < 2 * m.1 → ∃ c ∈ ordL, ordL[d.1]? = some c ∧ hasL m.1 [c] = true := by decide +kernel
  obtain ⟨c, h1, h2, h3⟩ := h ⟨m, by omega⟩ ⟨d, by omega⟩ hd
  exact ⟨c, h2, h1, h3⟩
theorem has_app {m : Nat} {a b : List Nat} (ha : hasL m a = true) (hb : hasL m b = true) : hasL m (a ++ b) = true := by
  unfold hasL at *
  rw [List.all_append, ha, hb]; rfl
theorem has_red {m : Nat} {a : List Nat} (ha : hasL m a = true) : hasL m (red a) = true := by
  unfold hasL at *
  rw [List.all_eq_true] at *
  exact fun c hc => ha c (red_mem hc)
/-- a drawn word -/
structure Dw (m n : Nat) (l : List Nat) : Prop where
  let_ : Let l
  len : l.length ≤ n
  wd : Wd l
  has : hasL m l = true
theorem Dw.isW {m n : Nat} {l : List Nat} (h : Dw m n l) (hn : n ≤ 60) : isW l = true := (isW_iff l).mpr ⟨Nat.le_trans h.len hn, h.let_, h.wd⟩
abbrev s_law_word : Stmt := top 25
abbrev N_law_word : List Str := ["_law_state_here", "_law_many", "_law_longest", "_law_text", "_law_k"]
theorem sc_law_word : FnScope N_law_word ["_law_state_here", "_law_many", "_law_longest"] (defScope s_law_word) := ⟨rfl, rfl, rfl, by decide +kernel, rfl, by decide +kernel, by decide +kernel⟩
def sp_law_word : Sp := fun vs H Q _ => ∃ (p : Addr) (s : Int) (m n : Nat), vs = [.ref p, .int m, .int n] ∧ H p = some (.lst [.int s]) ∧ St s ∧ (1 ≤ m ∧ m ≤ 6 ∧ n ≤ 60) ∧
  ∀ (H' : Hp) (s' : Int) (l : List Nat), (∀ b o, b ≠ p → H b = some o → H' b = some o) → H' p = some (.lst [.int s']) → St s' → Dw m n l → Q (.str (sOf l)) H'
theorem use_law_word {B : Hp} {L : HL} {Q : KQ} {E : XK} {p : Addr} {s : Int} {m n : Nat} (hs : St s) (hp : (p, HO.lst [.int s]) ∈ L) (hm : 1 ≤ m ∧ m ≤ 6 ∧ n ≤ 60) (q : ∀ s' l, St s' → Dw m n l → ∃ L', Rep L p (.lst [.int s]) (.lst [.int s']) L' ∧ Q (.str (sOf l)) B L') : ∀ H, Sat B L H → sp_law_word [.ref p, .int m, .int n] H (up Q) E :=
  fun H sat => ⟨p, s, m, n, rfl, sat.own _ hp, hs, hm, fun H' s' l e1 e2 h1 h2 => by
    obtain ⟨L', r, h⟩ := q s' l h1 h2
    exact ⟨B, L', sat.rep' r e1 e2, h⟩⟩
theorem ok_law_word {f : Addr} {fd : FuncData} (F : Fun K "_law_word" "_law_word" s_law_word f fd) (hm : mg "_law_word" = some (.ref f)) (T : Tx mg) (F_law_draw : Fn P w K mg base 1 "_law_draw" sp_law_draw) (F_law_free : Fn P w K mg base 2 "_law_free" sp_law_free) : Fn P w K mg base 3 "_law_word" sp_law_word := by
  refine fn_ok F sc_law_word hm (fun _ _ _ _ _ _ us hl => match us, hl with | [_, _, _], _ => rfl) ?_ fun cdv A outer s H vs Q E hr h tk po => ?_
  · rintro vs H Q E ⟨_, _, _, _, rfl, _⟩; rfl
  obtain ⟨p, s0, m, n, rfl, hp, hs, hmn, hq⟩ := h
  refine ⟨rmH H p, _, sat_rm hp, ?_⟩
  refine k_cons ?_      -- _law_text = ''
  refine k_set 3 ?_ sc_law_word.nd
  refine k_s [] ?_
  refine k_cons ?_
  refine k_for_r1 (fun i σ B L => ∃ v t s1, σ = [some (.ref p), some (.int m), some (.int n), some (.str (sOf t)), v] ∧ B = rmH H p ∧ L = [(p, .lst [.int s1])] ∧ St s1 ∧ Let t ∧ t.length = i ∧ hasL m t = true) po T.b_range ?_
  refine k_fn F_law_draw (hr.mono (by decide)) ?_
  refine a_cons ?_
  refine k_n 0 ?_
  refine a_cons ?_
  refine k_bin ?_
  refine k_n 2 ?_
  refine k_int ?_
  walk_at "opAdd"
  refine a_nil ?_
  refine use_law_draw hs List.mem_cons_self (by omega) fun s1 d h1 h2 h3 => ⟨_, .here, ?_⟩
  refine ⟨d, rfl, by omega, by omega, ⟨_, [], s1, rfl, rfl, rfl, h1, fun _ h => (by cases h), rfl, rfl⟩, ?_, ?_⟩
  · rintro i σ B L hi ⟨v, t, s2, rfl, rfl, rfl, hs2, hlt, hln, hha⟩
    refine g_name 4 ?_ sc_law_word.nd
    refine k_one ?_      -- _law_text = _law_text + 'aAbBcCdDeEfF'[_law_draw(_law_state_here, 2 * _law_many)]
    refine k_set 3 ?_ sc_law_word.nd
    refine k_bin ?_
    refine k_n 3 ?_
    refine k_ix ?_
    refine k_s ordL ?_
    refine k_fn F_law_draw (hr.mono (by decide)) ?_
    refine a_cons ?_
    refine k_n 0 ?_
    refine a_cons ?_
    refine k_bin ?_
    refine k_int ?_
    refine k_n 1 ?_
    walk_at "opMult"
    refine a_nil ?_
    refine use_law_draw hs2 List.mem_cons_self (by omega) fun s3 d3 h31 h32 h33 => ⟨_, .here, ?_⟩
    skip
    skip
    obtain ⟨c, hc1, hc2, hc3⟩ := ord_pick (m := m) (d := d3.toNat) hmn.2.1 (by omega)
    refine i_sv c ?_ ?_ (by decide)
    · refine o_adds ?_ (by simp; omega)
      refine ⟨_, t ++ [c], s3, rfl, rfl, rfl, h31, let_app hlt ?_, by simp [hln], has_app hha hc3⟩
      intro x hx
      rw [List.mem_singleton.mp hx]; exact hc2
    · have e : d3 = ((d3.toNat : Nat) : Int) := by omega
      rw [e, atI_n]; exact hc1
  · rintro σ B L ⟨v, t, s2, rfl, rfl, rfl, hs2, hlt, hln, hha⟩
    refine k_one ?_      -- return _law_free(_law_text)
    refine k_ret ?_
    refine k_fn F_law_free (hr.mono (by decide)) ?_
    refine a_cons ?_
    refine k_n 3 ?_
    refine a_nil ?_
    refine use_law_free ?_ ⟨hlt, by omega⟩
    exact fun H' s => hq H' s2 _ (fun b o hne e => s.ext b o (by rw [rm_ne hne]; exact e)) (s.own _ List.mem_cons_self) hs2 ⟨let_red hlt, Nat.le_trans (red_len _) (by omega), rd_red _, has_red hha⟩
/-! ### sent, by the law -/
def lo (c : Nat) : Nat := if c ∈ ltL then c else bk c
theorem lo_is {c : Nat} (h : c ∈ ordL) : Txt.lower (sOf [c]) = sOf [lo c] := by
  simp only [ordL, List.mem_cons, List.not_mem_nil, or_false] at h
  rcases h with h | h | h | h | h | h | h | h | h | h | h | h <;> subst h <;> decide +kernel
theorem up_is {c : Nat} (h : c ∈ ordL) : Txt.isupper (sOf [c]) = !decide (c ∈ ltL) := by
  simp only [ordL, List.mem_cons, List.not_mem_nil, or_false] at h
  rcases h with h | h | h | h | h | h | h | h | h | h | h | h <;> subst h <;> decide +kernel
theorem lo_in {ws : List (List Nat)} {c : Nat} (h : InL ws c) : lo c ∈ ltL ∧ ltL.idxOf (lo c) < ws.length := by
  unfold lo
  rcases h with h | h
  · rw [if_pos h.1]; exact h
  · by_cases hc : c ∈ ltL
    · exact absurd h.1 (lt_bk hc)
    · rw [if_neg hc]; exact h
theorem img_lo (ws : List (List Nat)) (c : Nat) : img ws c = if c ∈ ltL then ws.getD (ltL.idxOf (lo c)) [] else inv (ws.getD (ltL.idxOf (lo c)) []) := by
  unfold img lo
  by_cases hc : c ∈ ltL
  · simp only [if_pos hc]
  · simp only [if_neg hc]
theorem i_lget {X : Cx} {B : Hp} {L : HL} {Q : KQ} {t : Addr} {ws : List (List Nat)} {n : Nat} (h : Ls X.K B L t (ws.map tS)) (hn : n < ws.length) (q : Q (tS (ws.getD n [])) B L) : kI X (.ref t) (.int (n : Nat)) B L Q := by
  refine i_lv _ h q ?_
  rw [atI_n, List.getElem?_map, List.getD_eq_getElem?_getD, List.getElem?_eq_getElem hn]; rfl
abbrev s_law_sent : Stmt := top 26
abbrev N_law_sent : List Str := ["_law_words", "_law_word_here", "_law_text", "_law_letter", "_law_one"]
theorem sc_law_sent : FnScope N_law_sent ["_law_words", "_law_word_here"] (defScope s_law_sent) := ⟨rfl, rfl, rfl, by decide +kernel, rfl, by decide +kernel, by decide +kernel⟩
def sp_law_sent (K : PySem.W.Frag) : Sp := fun vs H Q _ => ∃ a l m ws, vs = [.ref a, .str (sOf l)] ∧ SqL K H a (ws.map tS) ∧ Gw m ws ∧ (Let l ∧ l.length ≤ 60 ∧ ∀ c ∈ l, InL ws c) ∧ ∀ H', (∀ b o, H b = some o → H' b = some o) → Q (.str (sOf (snt ws l))) H'
theorem use_law_sent {K : PySem.W.Frag} {B : Hp} {L : HL} {Q : KQ} {E : XK} {a : Addr} {l : List Nat} {ws : List (List Nat)} {m : Nat} (h : Ls K B L a (ws.map tS)) (g : Gw m ws) (hl : Let l ∧ l.length ≤ 60 ∧ ∀ c ∈ l, InL ws c) (q : Q (.str (sOf (snt ws l))) B L) : ∀ H, Sat B L H → sp_law_sent K [.ref a, .str (sOf l)] H (up Q) E := fun H s => ⟨a, l, m, ws, rfl, h.at s, g, hl, fun H' e => s.upq e q⟩
theorem ok_law_sent {f : Addr} {fd : FuncData} (F : Fun K "_law_sent" "_law_sent" s_law_sent f fd) (hm : mg "_law_sent" = some (.ref f)) (T : Tx mg) (F_law_back : Fn P w K mg base 2 "_law_back" sp_law_back) (F_law_free : Fn P w K mg base 2 "_law_free" sp_law_free) : Fn P w K mg base 3 "_law_sent" (sp_law_sent K) := by
  refine fn_ok F sc_law_sent hm (fun _ _ _ _ _ _ us hl => match us, hl with | [_, _], _ => rfl) ?_ fun cdv A outer s H vs Q E hr h tk po => ?_
  · rintro vs H Q E ⟨_, _, _, _, rfl, _⟩; rfl
  obtain ⟨a, l, m, ws, rfl, ha, g, ⟨hl, hn, hin⟩, hq⟩ := h
  have ha' : ∀ L, Ls K H L a (ws.map tS) := fun L => .inl ha
  refine ⟨H, [], Sat.whole, ?_⟩
  refine k_cons ?_      -- _law_text = ''
  refine k_set 2 ?_ sc_law_sent.nd
  refine k_s [] ?_
  refine k_cons ?_
  refine k_for_s (fun i σ B L => ∃ v1 v2, σ = [some (.ref a), some (.str (sOf l)), some (.str (sOf ((l.take i).map (img ws)).flatten)), v1, v2] ∧ B = H) po ?_
  refine k_n 1 ?_
  refine ⟨l, rfl, ⟨_, _, rfl, rfl⟩, ?_, ?_⟩
  · rintro i c σ B L hi ⟨v1, v2, rfl, rfl⟩
    have hcm := List.mem_of_getElem? hi
    have hc : c ∈ ordL := hl c hcm
    have hil := (List.getElem?_eq_some_iff.mp hi).1
    have hlo := lo_in (hin c hcm)
    have hw := g.ok _ (getD_mem hlo.2)
    have hw1 := hw.1.2
    have hr1 := (snt_raw g (l := l.take i) fun c hc => hin c (List.mem_of_mem_take hc)).2
    rw [List.length_take] at hr1
    have himg := img_lo ws c
    have hst : ((l.take (i + 1)).map (img ws)).flatten = ((l.take i).map (img ws)).flatten ++ img ws c := by rw [List.take_add_one, hi]; simp
    have hr2 := (img_ok g (hin c hcm)).2
    refine g_name 3 ?_ sc_law_sent.nd
    refine k_cons ?_      -- _law_one = _law_words['abcdef'.index(_law_letter.lower())]
    refine k_set 4 ?_ sc_law_sent.nd
    refine k_ix ?_
    refine k_n 0 ?_
    refine k_sindex ?_ (name := "")
    refine k_s ltL ?_
    refine ⟨_, rfl, ?_⟩
    refine a_cons ?_
    refine k_slower ?_
    refine k_n 3 ?_
    refine ⟨_, rfl, ?_⟩
    skip
    refine m_lower (lo_is hc) ?_ (by show 1 ≤ _; decide)
    refine a_nil ?_
    refine m_index (lt_ix hlo.1) ?_
    refine i_lget (ha' _) hlo.2 ?_
    show kSs _ _ _ _ _ _
    refine k_one ?_      -- _law_text = _law_text + [_law_one, _law_back(_law_one)][int(_law_letter.isupper())]
    refine k_set 2 ?_ sc_law_sent.nd
    refine k_bin ?_
    refine k_n 2 ?_
    refine k_ix ?_
    refine k_lst ?_
    refine a_cons ?_
    refine k_n 4 ?_
    refine a_cons ?_
    refine k_fn F_law_back (hr.mono (by decide)) ?_
    refine a_cons ?_
    refine k_n 4 ?_
    refine a_nil ?_
    refine use_law_back ?_ hw.1.1 (by omega)
    refine a_nil ?_
    refine ⟨by first | decide | simp, fun p => ?_⟩
    refine k_callT (T := "int") T.b_int ?_
    refine a_cons ?_
    refine k_sisupper ?_
    refine k_n 3 ?_
    refine ⟨_, rfl, ?_⟩
    skip
    refine m_isupper (up_is hc) ?_
    refine a_nil ?_
    walk_at "c_int"
    skip
    skip
    refine i_lv (tS (img ws c)) (.inr List.mem_cons_self) ?_ ?_
    · refine o_adds ?_ (by omega)
      refine ⟨some (.str (sOf [c])), some (tS (ws.getD (ltL.idxOf (lo c)) [])), ?_, rfl⟩
      rw [hst]; rfl
    · rw [himg]
      by_cases hcl : c ∈ ltL
      · simp only [if_pos hcl, decide_eq_true hcl]; rfl
      · simp only [if_neg hcl, decide_eq_false hcl]; rfl
  · rintro σ B L ⟨v1, v2, rfl, rfl⟩
    rw [List.take_length]
    have hra := snt_raw g hin
    refine k_one ?_      -- return _law_free(_law_text)
    refine k_ret ?_
    refine k_fn F_law_free (hr.mono (by decide)) ?_
    refine a_cons ?_
    refine k_n 2 ?_
    refine a_nil ?_
    refine use_law_free ?_ ⟨hra.1, by omega⟩
    exact fun H' s => hq H' s.ext
abbrev s_law_then : Stmt := top 27
abbrev N_law_then : List Str := ["_law_one", "_law_other", "_law_found"]
theorem sc_law_then : FnScope N_law_then ["_law_one", "_law_other"] (defScope s_law_then) := ⟨rfl, rfl, rfl, by decide +kernel, rfl, by decide +kernel, by decide +kernel⟩
def sp_law_then (C : Addr) : Sp := fun vs H Q _ => ∃ x y n m zs ws, vs = [.ref x, .ref y] ∧ (Snd C H x n zs ∧ Snd C H y m ws ∧ Gd n zs ∧ Gd m ws ∧ ws.length = n) ∧
  ((∀ l ∈ zs, (snt ws l).length ≤ 60) → ∀ H' z, (∀ b o, H b = some o → H' b = some o) → SndN C H H' z m (sntW ws zs) → Q (.ref z) H') ∧
  ((∃ l ∈ zs, 60 < (snt ws l).length) → ∀ H', (∀ b o, H b = some o → H' b = some o) → Q .non H')
theorem use_law_then {C x y : Addr} {B : Hp} {L : HL} {Q : KQ} {E : XK} {n m : Nat} {zs ws : List (List Nat)} (h : Snd C B x n zs ∧ Snd C B y m ws ∧ Gd n zs ∧ Gd m ws ∧ ws.length = n)
    (q : (∀ l ∈ zs, (snt ws l).length ≤ 60) → ∀ B' z, Le B B' → SndN C B B' z m (sntW ws zs) → Q (.ref z) B' L) (qe : (∃ l ∈ zs, 60 < (snt ws l).length) → Q .non B L) : ∀ H, Sat B L H → sp_law_then C [.ref x, .ref y] H (up Q) E := fun H s =>
  ⟨x, y, n, m, zs, ws, rfl, ⟨h.1.le s.ext, h.2.1.le s.ext, h.2.2⟩, fun ha H' z e hz => by
    obtain ⟨B', s', l', hS⟩ := hz.join s e
    exact ⟨B', L, s', q ha B' z l' hS⟩, fun he H' e => s.upq e (qe he)⟩
theorem ok_law_then {f C CT : Addr} {fd : FuncData} (F : Fun K "_law_then" "_law_then" s_law_then f fd) (hm : mg "_law_then" = some (.ref f)) (gT : mg "TooMany" = some (.ref CT)) (hx : PySem.W.exmOne K (.ref CT) (.ref CT) = some true) (M_then : Mt P w K mg base 5 C "then" (sp_then C CT)) : Fn P w K mg base 6 "_law_then" (sp_law_then C) := by
  refine fn_ok F sc_law_then hm (fun _ _ _ _ _ _ us hl => match us, hl with | [_, _], _ => rfl) ?_ fun cdv A outer s H vs Q E hr h tk po => ?_
  · rintro vs H Q E ⟨_, _, _, _, _, _, rfl, _⟩; rfl
  obtain ⟨x, y, n, m, zs, ws, rfl, hh, hq, he⟩ := h
  have ⟨⟨dx, tx, hX, htx⟩, hY⟩ := hh
  refine ⟨H, [], Sat.whole, ?_⟩
  refine k_cons ?_      -- _law_found = None
  refine k_set 2 ?_ sc_law_then.nd
  refine k_non ?_
  refine k_cons ?_
  refine k_try_only (cv := .ref CT) takes0 ⟨rfl, rfl, .inl gT⟩ ?_
  intro pn xe tk2 po2
  refine k_one ?_
  refine k_set 2 ?_ sc_law_then.nd
  refine k_meth M_then (hr.mono (by decide)) tk2 ?_
  refine k_n 0 ?_
  refine ⟨_, _, _, rfl, .inl hX, rfl, ?_⟩
  refine a_cons ?_
  refine k_n 1 ?_
  refine a_nil ?_
  refine use_then hh (fun hall B' z l hS => ?_) (fun hex H' s => ?_)
  · show kSs _ _ _ _ _ _
    refine k_one ?_      -- return _law_found
    refine k_ret ?_
    refine k_n 2 ?_
    exact fun H' s => hq hall H' z (fun b o e => s.ext _ _ (l _ _ e)) (hS.le s.ext)
  · refine w_only hx s fun a oe pn => ?_
    refine k_one ?_
    refine k_set 2 ?_ sc_law_then.nd
    refine k_non ?_
    show kSs _ _ _ _ _ _
    refine k_one ?_      -- return _law_found
    refine k_ret ?_
    refine k_n 2 ?_
    exact fun H' s => he hex H' s.ext
theorem img_bk {ws : List (List Nat)} {c : Nat} (h : c ∈ ordL) : img ws (bk c) = inv (img ws c) := by
  unfold img
  by_cases hc : c ∈ ltL
  · rw [if_pos hc, if_neg (lt_bk hc), bk_bk]
  · have hb : bk c ∈ ltL := (lt_or h).resolve_left hc
    rw [if_neg hc, if_pos hb, inv_inv]
theorem snt_inv {ws : List (List Nat)} {l : List Nat} (h : Let l) : snt ws (inv l) = inv (snt ws l) := by
  unfold snt
  rw [← red_inv]
  congr 1
  induction l with
  | nil => rfl
  | cons c l ih =>
    rw [inv_cons, List.map_append, List.flatten_append, ih fun x hx => h x (List.mem_cons_of_mem _ hx)]
    rw [show ((c :: l).map (img ws)).flatten = img ws c ++ (l.map (img ws)).flatten from rfl, inv_app]
    congr 1
    simp [img_bk (h c List.mem_cons_self)]
theorem gd_draw {m n : Nat} {ws : List (List Nat)} (h1 : 1 ≤ m ∧ m ≤ 6) (h2 : 1 ≤ ws.length ∧ ws.length ≤ 6) (hn : n ≤ 60) (h : ∀ l ∈ ws, Dw m n l) : Gd m ws :=
  ⟨h1.1, h1.2, h2.1, h2.2, fun l hl => ⟨(h l hl).isW hn, (h l hl).has⟩⟩
def lenF (v : V) : V := match v with | .str s => .int s.cps.toList.length | v => v
theorem map_lenF (zs : List (List Nat)) : (zs.map tS).map lenF = (zs.map fun l => (l.length : Int)).map V.int := by
  rw [List.map_map, List.map_map]
  apply List.map_congr_left
  intro l _
  simp [lenF, tS, sOf]
theorem let_lt {l : List Nat} (h : Let l) : ∀ c ∈ l, c < 1114112 := let_small h
theorem eqv_pair (i j : Int) (a b : List (List Nat)) : PyData.eqv (.tuple [.int i, .list (dSs a)]) (.tuple [.int j, .list (dSs b)]) = (decide (i = j) && decide (a = b)) := by
  show PyData.eqvAll [.int i, .list (dSs a)] [.int j, .list (dSs b)] = _
  unfold PyData.eqvAll
  unfold PyData.eqvAll
  show ((i == j) && (PyData.eqvAll (dSs a) (dSs b) && true)) = _
  rw [eqv_ss, Bool.and_true]
  rfl
theorem shaped_pair {i : Int} {a : List (List Nat)} (h : ∀ l ∈ a, ∀ c ∈ l, c < 1114112) : SeqAt.shaped (.tuple [.int i, .list (dSs a)]) = true := by
  have h1 := shaped_ss h
  unfold SeqAt.shaped at h1 ⊢
  rw [Bool.and_eq_true] at h1
  have e1 : PyData.canLay0 (.tuple [.int i, .list (dSs a)]) = true := by
    unfold PyData.canLay0
    show PyData.canLayAll0 [.int i, .list (dSs a)] = true
    unfold PyData.canLayAll0
    unfold PyData.canLayAll0
    rw [h1.1]
    rfl
  have e2 : PyData.depth (.tuple [.int i, .list (dSs a)]) = 2 := by
    have e3 : PyData.depth (.list (dSs a)) = 1 := by unfold PyData.depth; rw [depth_ss]
    unfold PyData.depth
    unfold PyData.depthAll
    unfold PyData.depthAll
    rw [e3]; rfl
  rw [e1, e2]; rfl
theorem gdbl : Gd 2 [[97, 97], [98]] := ⟨by decide, by decide, by decide, by decide, by decide +kernel⟩
theorem glng1 : Gd 2 [rep [97] 30] := ⟨by decide, by decide, by decide, by decide, by decide +kernel⟩
theorem glng2 : Gd 2 [rep [97] 30 ++ [98]] := ⟨by decide, by decide, by decide, by decide, by decide +kernel⟩
theorem long1 : ∀ l ∈ [rep [97] 30], (snt [[97, 97], [98]] l).length ≤ 60 := by decide +kernel
theorem long2 : ¬ ∀ l ∈ [rep [97] 30 ++ [98]], (snt [[97, 97], [98]] l).length ≤ 60 := by decide +kernel
abbrev s_law_right : Stmt := top 28
abbrev N_law_right : List Str := ["_law_cell", "_law_k", "_law_state_here", "_law_into", "_law_longest", "_law_words", "_law_handed", "_law_sending", "_law_word_here", "_law_goal", "_law_later", "_law_double", "_law_long", "_law_found", "_law_due", "_law_j", "_law_one"]
theorem sc_law_right : FnScope N_law_right ["_law_cell", "_law_k"] (defScope s_law_right) := ⟨rfl, rfl, rfl, by decide +kernel, rfl, by decide +kernel, by decide +kernel⟩
def sp_law_right : Sp := fun vs H Q _ => ∃ c k : Int, vs = [.int c, .int k] ∧ (0 ≤ k ∧ k < 1000) ∧ ∀ H', (∀ b o, H b = some o → H' b = some o) → Q (.bl true) H'
theorem use_law_right {B : Hp} {L : HL} {Q : KQ} {E : XK} {c k : Int} (hk : 0 ≤ k ∧ k < 1000) (q : Q (.bl true) B L) : ∀ H, Sat B L H → sp_law_right [.int c, .int k] H (up Q) E := fun H s => ⟨c, k, rfl, hk, fun H' e => s.upq e q⟩
theorem ok_law_right {f C : Addr} {fd : FuncData} (F : Fun K "_law_right" "_law_right" s_law_right f fd) (hm : mg "_law_right" = some (.ref f)) (T : Tx mg) (gC : mg "Sending" = some (.ref C)) (O : IsO K C)
    (F_law_state : Fn P w K mg base 1 "_law_state" sp_law_state) (F_law_draw : Fn P w K mg base 1 "_law_draw" sp_law_draw) (F_law_word : Fn P w K mg base 3 "_law_word" sp_law_word) (F_law_sent : Fn P w K mg base 3 "_law_sent" (sp_law_sent K)) (F_law_back : Fn P w K mg base 2 "_law_back" sp_law_back) (F_law_then : Fn P w K mg base 6 "_law_then" (sp_law_then C))
    (M_many : Mt P w K mg base 1 C "many" (sp_many C)) (M_into : Mt P w K mg base 1 C "into" (sp_into C)) (M_words : Mt P w K mg base 1 C "words" (sp_words C)) (M_sent : Mt P w K mg base 4 C "sent" (sp_sent C)) (mk : Mkr P w K mg base 3 "Sending" C (sp_init K C)) : Fn P w K mg base 7 "_law_right" sp_law_right := by
  refine fn_ok F sc_law_right hm (fun _ _ _ _ _ _ us hl => match us, hl with | [_, _], _ => rfl) ?_ fun cdv A outer s H vs Q E hr h tk po => ?_
  · rintro vs H Q E ⟨_, _, rfl, _⟩; rfl
  obtain ⟨c, k, rfl, hk, hq⟩ := h
  have noE : Passes (L2.CX P w) (cxOf (L2.CX P w) P w K mg base N_law_right "_law_right" (defScope s_law_right) f cdv A outer s H E) (fun _ _ _ => False) := passes_call (E := fun _ _ _ => False) takes0 fun _ _ _ _ z => z
  refine ⟨H, [], Sat.whole, ?_⟩
  refine k_cons ?_      -- _law_state_here = _law_state([_law_cell], _law_k)
  refine k_set 2 ?_ sc_law_right.nd
  refine k_fn F_law_state (hr.mono (by decide)) ?_
  refine a_cons ?_
  refine k_lst ?_
  refine a_cons ?_
  refine k_n 0 ?_
  refine a_nil ?_
  refine ⟨by first | decide | simp, fun pc => ?_⟩
  refine a_cons ?_
  refine k_n 1 ?_
  refine a_nil ?_
  refine use_law_state List.mem_cons_self hk fun ps s0 hs0 => ?_
  show kSs _ _ _ _ _ _
  refine k_norm (by simp only [L2.start, N_law_right, List.map_cons, List.map_nil, List.length_cons, List.length_nil, Nat.reduceAdd, Nat.reduceSub, List.replicate_succ, List.replicate_zero, List.cons_append, List.nil_append, List.set_cons_succ, List.set_cons_zero]; exact rfl) ?_
  refine k_cons ?_      -- _law_into = 1 + _law_draw(_law_state_here, 6)
  refine k_set 3 ?_ sc_law_right.nd
  refine k_bin ?_
  refine k_int ?_
  refine k_fn F_law_draw (hr.mono (by decide)) ?_
  refine a_cons ?_
  refine k_n 2 ?_
  refine a_cons ?_
  refine k_int ?_
  refine a_nil ?_
  refine use_law_draw hs0 (by walk_at "mm") (by decide) fun s1 d1 hs1 h11 h12 => ⟨_, by walk_at "rep", ?_⟩
  walk_at "opAdd"
  obtain ⟨m, rfl⟩ : ∃ m : Nat, d1 = (m : Int) - 1 := ⟨(d1 + 1).toNat, by omega⟩
  have hm6 : 1 ≤ m ∧ m ≤ 6 := by omega
  have em : (1 : Int) + ((m : Int) - 1) = (m : Int) := by omega
  rw [em]
  show kSs _ _ _ _ _ _
  refine k_norm (by simp only [L2.start, N_law_right, List.map_cons, List.map_nil, List.length_cons, List.length_nil, Nat.reduceAdd, Nat.reduceSub, List.replicate_succ, List.replicate_zero, List.cons_append, List.nil_append, List.set_cons_succ, List.set_cons_zero]; exact rfl) ?_
  refine k_cons ?_      -- _law_longest = [2, 5, 10][_law_draw(_law_state_here, 3)]
  refine k_set 4 ?_ sc_law_right.nd
  refine k_ix ?_
  refine k_lst ?_
  refine a_cons ?_
  refine k_int ?_
  refine a_cons ?_
  refine k_int ?_
  refine a_cons ?_
  refine k_int ?_
  refine a_nil ?_
  refine ⟨by first | decide | simp, fun pn => ?_⟩
  refine k_fn F_law_draw (hr.mono (by decide)) ?_
  refine a_cons ?_
  refine k_n 2 ?_
  refine a_cons ?_
  refine k_int ?_
  refine a_nil ?_
  refine use_law_draw hs1 (by walk_at "mm") (by decide) fun s2 d2 hs2 h21 h22 => ⟨_, by walk_at "rep", ?_⟩
  skip
  obtain ⟨n, hn10, hn⟩ : ∃ n : Nat, n ≤ 10 ∧ atI ([2, 5, 10] : List Int) d2 = some (n : Int) := by
    have : d2 = 0 ∨ d2 = 1 ∨ d2 = 2 := by omega
    rcases this with rfl | rfl | rfl
    · exact ⟨2, by omega, rfl⟩
    · exact ⟨5, by omega, rfl⟩
    · exact ⟨10, by omega, rfl⟩
  have hn' : atI ([.int 2, .int 5, .int 10] : List V) d2 = some (.int (n : Int)) := by
    have : d2 = 0 ∨ d2 = 1 ∨ d2 = 2 := by omega
    rcases this with rfl | rfl | rfl
    · have e : (2 : Int) = (n : Int) := Option.some.inj hn
      rw [← e]; rfl
    · have e : (5 : Int) = (n : Int) := Option.some.inj hn
      rw [← e]; rfl
    · have e : (10 : Int) = (n : Int) := Option.some.inj hn
      rw [← e]; rfl
  refine i_lv (.int (n : Int)) (.inr (by walk_at "mm")) ?_ hn'
  show kSs _ _ _ _ _ _
  refine k_norm (by simp only [L2.start, N_law_right, List.map_cons, List.map_nil, List.length_cons, List.length_nil, Nat.reduceAdd, Nat.reduceSub, List.replicate_succ, List.replicate_zero, List.cons_append, List.nil_append, List.set_cons_succ, List.set_cons_zero]; exact rfl) ?_
  refine k_cons ?_      -- _law_words = [_law_word(_law_state_here, _law_into, _law_longest) for _law_j in range(1 + _law_draw(
  refine k_sle 5 (k_lcv_r1 (j := 15) (fun i acc B L => ∃ s ls, acc = List.map tS ls ∧ ls.length = i ∧ (∀ l ∈ ls, Dw m n l) ∧ St s ∧ B = H ∧ L = [(pn, .lst [.int 2, .int 5, .int 10]), (ps, .lst [.int s]), (pc, .lst [.int c])]) sc_law_right.nd (blkOk_by (N := N_law_right) (sc := defScope s_law_right) (by decide +kernel)) T.b_range ?_)
  refine k_bin ?_
  refine k_int ?_
  refine k_fn F_law_draw (hr.mono (by decide)) ?_
  refine a_cons ?_
  refine k_n 2 ?_
  refine a_cons ?_
  refine k_int ?_
  refine a_nil ?_
  refine use_law_draw hs2 (by walk_at "mm") (by decide) fun s3 d3 hs3 h31 h32 => ⟨_, by walk_at "rep", ?_⟩
  walk_at "opAdd"
  refine ⟨(1 + d3).toNat, by congr 1; omega, by omega, ⟨s3, [], rfl, rfl, fun _ h => (by cases h), hs3, rfl, rfl⟩, ?_, ?_⟩
  ·
    rintro i acc B L hi ⟨s4, ls, rfl, hll, hdw, hs4, rfl, rfl⟩
    refine ⟨by rw [List.length_map]; exact hll, fun D sb Hb Cb clb fpb => ?_⟩
    refine k_fn F_law_word (hr.mono (by decide)) ?_
    refine a_cons ?_
    refine k_n 2 ?_
    refine a_cons ?_
    refine k_n 3 ?_
    refine a_cons ?_
    refine k_n 4 ?_
    refine a_nil ?_
    refine use_law_word hs4 (by walk_at "mm") ⟨hm6.1, hm6.2, by omega⟩ fun s5 l hs5 hl => ⟨_, by walk_at "rep", ?_⟩
    refine ⟨_, rfl, s5, ls ++ [l], ?_, by simp [hll], ?_, hs5, rfl, rfl⟩
    ·
      rw [List.map_append]; rfl
    ·
      intro x hx
      rcases List.mem_append.mp hx with h | h
      · exact hdw x h
      · rw [List.mem_singleton.mp h]; exact hl
  rintro acc B L pw ⟨s3', ws, rfl, hwl, hdw, hs3', rfl, rfl⟩
  have hw6 : 1 ≤ ws.length ∧ ws.length ≤ 6 := by omega
  have gd : Gd m ws := gd_draw hm6 hw6 (by omega) hdw
  show kSs _ _ _ _ _ _
  refine k_norm (by simp only [L2.start, N_law_right, List.map_cons, List.map_nil, List.length_cons, List.length_nil, Nat.reduceAdd, Nat.reduceSub, List.replicate_succ, List.replicate_zero, List.cons_append, List.nil_append, List.set_cons_succ, List.set_cons_zero]; exact rfl) ?_
  refine k_cons ?_      -- _law_handed = list(_law_words)
  refine k_set 6 ?_ sc_law_right.nd
  refine k_callT (T := "list") T.b_list ?_
  refine a_cons ?_
  refine k_n 5 ?_
  refine a_nil ?_
  refine c_listl (.inr (by walk_at "mm")) fun ph => ?_
  refine k_cons ?_      -- _law_sending = Sending(_law_into, _law_handed)
  refine k_set 7 ?_ sc_law_right.nd
  refine k_make mk (hr.mono (by decide)) noE ?_
  refine a_cons ?_
  refine k_n 3 ?_
  refine a_cons ?_
  refine k_n 6 ?_
  refine a_nil ?_
  intro x dx; refine use_make (.inr (by walk_at "mm")) gd fun B1 l1 hS1' => ?_
  refine k_cons ?_      -- _law_handed.clear()
  refine k_expr ?_
  have hS1 := hS1'.snd; refine k_m0 PySem.F.plainAttrs_list PySem.F.slot_list_clear PySem.F.type_list_clear ?_
  refine k_n 6 ?_
  refine ⟨ty_l (by walk_at "ls"), ?_⟩
  skip
  refine m_clear (by walk_at "rep") ?_
  refine k_cons ?_      -- _law_sending.words().clear()
  refine k_expr ?_
  refine k_m0 PySem.F.plainAttrs_list PySem.F.slot_list_clear PySem.F.type_list_clear ?_
  obtain ⟨dx1, tx1, hx1, ht1⟩ := hS1; refine k_meth0 M_words (hr.mono (by decide)) takes0 ?_
  refine k_n 7 ?_
  refine ⟨_, _, _, rfl, .inl hx1, rfl, ?_⟩
  skip
  refine use_words ⟨dx1, tx1, hx1, ht1⟩ fun pq => ?_
  refine ⟨ty_l (by walk_at "ls"), ?_⟩
  skip
  refine m_clear (by walk_at "rep") ?_
  have hx1 : Snd C B1 x m ws := ⟨dx1, tx1, hx1, ht1⟩
  have hch : ∀ l ∈ ws, ∀ c ∈ l, c < 1114112 := fun l hl => let_lt (hdw l hl).let_
  show kSs _ _ _ _ _ _
  refine k_norm (by simp only [L2.start, N_law_right, List.map_cons, List.map_nil, List.length_cons, List.length_nil, Nat.reduceAdd, Nat.reduceSub, List.replicate_succ, List.replicate_zero, List.cons_append, List.nil_append, List.set_cons_succ, List.set_cons_zero]; exact rfl) ?_
  refine k_sub (L' := [(pw, .lst (ws.map tS)), (ps, .lst [.int s3'])]) (.cons _ (.cons _ (.cons₂ _ (.cons _ (.cons₂ _ (.cons _ .slnil)))))) ?_
  have ⟨dx, tx, hx, ht⟩ := hx1
  refine k_cons ?_
  refine k_if ?_
  refine t_pure (v := false) ?_ ⟨fun z => (nomatch z), fun _ => ?_⟩
  · skip
    refine t_w ?_
    refine w_orP ?_
    refine t_cmp ?_
    refine k_meth0 M_words (hr.mono (by decide)) takes0 ?_
    refine k_n 7 ?_
    refine ⟨_, _, _, rfl, .inl hx, rfl, ?_⟩
    skip
    refine use_words hx1 fun pr => ?_
    refine k_n 5 ?_
    refine o_ness (a := ws) (b := ws) hr.units (.inr (List.Mem.head _)) (.inr (.tail _ (.head _))) ?_ hch hch
    refine ⟨_, rfl, ?_⟩
    apply Exists.intro; refine ⟨fun hk => ?_, ?_⟩
    {
    refine w_orP ?_
    refine t_cmp ?_
    refine k_meth0 M_many (hr.mono (by decide)) takes0 ?_
    refine k_n 7 ?_
    refine ⟨_, _, _, rfl, .inl hx, rfl, ?_⟩
    skip
    refine use_many hx1 ?_
    refine k_callB (id := "len") T.b_len ?_
    refine a_cons ?_
    refine k_n 5 ?_
    refine a_nil ?_
    walk_at "c_len"
    walk_at "opNotEq"
    refine ⟨_, rfl, ?_⟩
    apply Exists.intro; refine ⟨fun hk => ?_, ?_⟩
    {
    refine w_or1 ?_
    refine t_cmp ?_
    refine k_meth0 M_into (hr.mono (by decide)) takes0 ?_
    refine k_n 7 ?_
    refine ⟨_, _, _, rfl, .inl hx, rfl, ?_⟩
    skip
    refine use_into hx1 ?_
    refine k_n 3 ?_
    walk_at "opNotEq"
    refine ⟨_, rfl, ?_⟩
    exact ⟨rfl, rfl, by walk_at "sfx"⟩
    all_goals (try walk_at "side")
    }
    exact ⟨rfl, rfl, by walk_at "sfx"⟩
    all_goals (try walk_at "side")
    }
    refine ⟨?_, rfl, by walk_at "sfx"⟩
    simp
  refine k_nil ?_
  refine k_cons ?_      -- _law_word_here = _law_word(_law_state_here, len(_law_words), 20)
  refine k_set 8 ?_ sc_law_right.nd
  refine k_fn F_law_word (hr.mono (by decide)) ?_
  refine a_cons ?_
  refine k_n 2 ?_
  refine a_cons ?_
  refine k_callB (id := "len") T.b_len ?_
  refine a_cons ?_
  refine k_n 5 ?_
  refine a_nil ?_
  refine c_lenl (.inr (List.Mem.head _)) ?_; rw [List.length_map]
  refine a_cons ?_
  refine k_int ?_
  refine a_nil ?_
  refine use_law_word (n := 20) hs3' (by walk_at "mm") ⟨hw6.1, hw6.2, by omega⟩ fun s5 wh hs5 hwh => ⟨_, by walk_at "rep", ?_⟩
  have hwW : isW wh = true := hwh.isW (by omega)
  have hwl' := hwh.len
  have hwin : ∀ c ∈ wh, InL ws c := fun c hc => inL_of hwh.has hc
  have hsl := snt_len gd.gw hwin
  have hslet := snt_let gd.gw hwin
  show kSs _ _ _ _ _ _
  refine k_norm (by simp only [L2.start, N_law_right, List.map_cons, List.map_nil, List.length_cons, List.length_nil, Nat.reduceAdd, Nat.reduceSub, List.replicate_succ, List.replicate_zero, List.cons_append, List.nil_append, List.set_cons_succ, List.set_cons_zero]; exact rfl) ?_
  refine k_cons ?_
  refine k_if ?_
  refine t_pure (v := false) ?_ ⟨fun z => (nomatch z), fun _ => ?_⟩
  · skip
    refine t_cmp ?_
    refine k_meth M_sent (hr.mono (by decide)) takes0 ?_
    refine k_n 7 ?_
    refine ⟨_, _, _, rfl, .inl hx, rfl, ?_⟩
    refine a_cons ?_
    refine k_n 8 ?_
    refine a_nil ?_
    refine use_sent hx1 ?_ gd hwW hwh.has
    refine k_fn F_law_sent (hr.mono (by decide)) ?_
    refine a_cons ?_
    refine k_n 5 ?_
    refine a_cons ?_
    refine k_n 8 ?_
    refine a_nil ?_
    refine use_law_sent (ws := ws) (.inr (List.Mem.head _)) gd.gw ⟨hwh.let_, by omega, hwin⟩ ?_
    walk_at "opNotEq"
    refine ⟨_, rfl, ?_⟩
    refine ⟨?_, rfl, by walk_at "sfx"⟩
    simp
  refine k_nil ?_
  have hiW : isW (inv wh) = true := (isW_iff _).mpr ⟨by rw [inv_len]; omega, let_inv hwh.let_, rd_map_inv hwh.wd⟩
  have hih : hasL ws.length (inv wh) = true := by
    have h2 := hwh.has
    unfold hasL at h2 ⊢
    rw [List.all_eq_true] at h2 ⊢
    intro d hd
    unfold inv at hd
    rw [List.mem_reverse, List.mem_map] at hd
    obtain ⟨y, hy, rfl⟩ := hd
    have := h2 y hy
    rw [bk_bk, Bool.or_comm]; exact this
  refine k_cons ?_
  refine k_if ?_
  refine t_pure (v := false) ?_ ⟨fun z => (nomatch z), fun _ => ?_⟩
  · skip
    refine t_cmp ?_
    refine k_meth M_sent (hr.mono (by decide)) takes0 ?_
    refine k_n 7 ?_
    refine ⟨_, _, _, rfl, .inl hx, rfl, ?_⟩
    refine a_cons ?_
    refine k_fn F_law_back (hr.mono (by decide)) ?_
    refine a_cons ?_
    refine k_n 8 ?_
    refine a_nil ?_
    refine use_law_back ?_ hwh.let_ (by omega)
    refine a_nil ?_
    refine use_sent hx1 ?_ gd hiW hih
    refine k_fn F_law_back (hr.mono (by decide)) ?_
    refine a_cons ?_
    refine k_meth M_sent (hr.mono (by decide)) takes0 ?_
    refine k_n 7 ?_
    refine ⟨_, _, _, rfl, .inl hx, rfl, ?_⟩
    refine a_cons ?_
    refine k_n 8 ?_
    refine a_nil ?_
    refine use_sent hx1 ?_ gd hwW hwh.has
    refine a_nil ?_
    refine use_law_back ?_ hslet (by omega)
    walk_at "opNotEq"
    refine ⟨_, rfl, ?_⟩
    refine ⟨?_, rfl, by walk_at "sfx"⟩
    rw [snt_inv hwh.let_]; simp
  refine k_nil ?_
  refine k_cons ?_      -- _law_goal = 1 + _law_draw(_law_state_here, 6)
  refine k_set 9 ?_ sc_law_right.nd
  refine k_bin ?_
  refine k_int ?_
  refine k_fn F_law_draw (hr.mono (by decide)) ?_
  refine a_cons ?_
  refine k_n 2 ?_
  refine a_cons ?_
  refine k_int ?_
  refine a_nil ?_
  refine use_law_draw hs5 (by walk_at "mm") (by decide) fun s6 d6 hs6 h61 h62 => ⟨_, by walk_at "rep", ?_⟩
  walk_at "opAdd"
  obtain ⟨g, rfl⟩ : ∃ g : Nat, d6 = (g : Int) - 1 := ⟨(d6 + 1).toNat, by omega⟩
  have hg6 : 1 ≤ g ∧ g ≤ 6 := by omega
  have eg : (1 : Int) + ((g : Int) - 1) = (g : Int) := by omega
  rw [eg]
  show kSs _ _ _ _ _ _
  refine k_norm (by simp only [L2.start, N_law_right, List.map_cons, List.map_nil, List.length_cons, List.length_nil, Nat.reduceAdd, Nat.reduceSub, List.replicate_succ, List.replicate_zero, List.cons_append, List.nil_append, List.set_cons_succ, List.set_cons_zero]; exact rfl) ?_
  refine k_cons ?_      -- _law_later = [_law_word(_law_state_here, _law_goal, _law_longest) for _law_j in range(_law_into)]
  refine k_set 10 (k_le (k_lcv_r1 (j := 15) (fun i acc B L => ∃ s ls, acc = List.map tS ls ∧ ls.length = i ∧ (∀ l ∈ ls, Dw g n l) ∧ St s ∧ B = B1 ∧ L = [(pw, .lst (ws.map tS)), (ps, .lst [.int s])]) sc_law_right.nd (blkOk_by (N := N_law_right) (sc := defScope s_law_right) (by decide +kernel)) T.b_range ?_)) sc_law_right.nd
  refine k_n 3 ?_
  refine ⟨m, rfl, by omega, ⟨s6, [], rfl, rfl, fun _ h => (by cases h), hs6, rfl, rfl⟩, ?_, ?_⟩
  ·
    rintro i acc B L hi ⟨s4, ls, rfl, hll, hdw, hs4, rfl, rfl⟩
    refine ⟨by rw [List.length_map]; exact hll, fun D sb Hb Cb clb fpb => ?_⟩
    refine k_fn F_law_word (hr.mono (by decide)) ?_
    refine a_cons ?_
    refine k_n 2 ?_
    refine a_cons ?_
    refine k_n 9 ?_
    refine a_cons ?_
    refine k_n 4 ?_
    refine a_nil ?_
    refine use_law_word hs4 (by walk_at "mm") ⟨hg6.1, hg6.2, by omega⟩ fun s5 l hs5 hl => ⟨_, by walk_at "rep", ?_⟩
    refine ⟨_, rfl, s5, ls ++ [l], ?_, by simp [hll], ?_, hs5, rfl, rfl⟩
    ·
      rw [List.map_append]; rfl
    ·
      intro x hx
      rcases List.mem_append.mp hx with h | h
      · exact hdw x h
      · rw [List.mem_singleton.mp h]; exact hl
  rintro acc B L pl ⟨s7, vs, rfl, hvl, hdv, hs7, rfl, rfl⟩
  have gv : Gd g vs := gd_draw hg6 (by omega) (by omega) hdv
  show kSs _ _ _ _ _ _
  refine k_norm (by simp only [L2.start, N_law_right, List.map_cons, List.map_nil, List.length_cons, List.length_nil, Nat.reduceAdd, Nat.reduceSub, List.replicate_succ, List.replicate_zero, List.cons_append, List.nil_append, List.set_cons_succ, List.set_cons_zero]; exact rfl) ?_
  refine k_sub (L' := [(pl, .lst (vs.map tS)), (pw, .lst (ws.map tS))]) (.cons₂ _ (.cons₂ _ (.cons _ .slnil))) ?_
  refine k_cons ?_      -- _law_double = Sending(2, ['aa', 'b'])
  refine k_set 11 ?_ sc_law_right.nd
  refine k_make mk (hr.mono (by decide)) noE ?_
  refine a_cons ?_
  refine k_int ?_
  refine a_cons ?_
  refine k_lst ?_
  refine a_cons ?_
  refine k_s [97, 97] ?_
  refine a_cons ?_
  refine k_s [98] ?_
  refine a_nil ?_
  refine ⟨by first | decide | simp, fun pa => ?_⟩
  refine a_nil ?_
  intro y dy; refine use_make (ws := [[97, 97], [98]]) (m := 2) (.inr (.head _)) gdbl fun B2 l2 hS2' => ?_
  have hS2 := hS2'.snd
  show kSs _ _ _ _ _ _
  refine k_norm (by simp only [L2.start, N_law_right, List.map_cons, List.map_nil, List.length_cons, List.length_nil, Nat.reduceAdd, Nat.reduceSub, List.replicate_succ, List.replicate_zero, List.cons_append, List.nil_append, List.set_cons_succ, List.set_cons_zero]; exact rfl) ?_
  refine k_sub (L' := [(pl, .lst (vs.map tS)), (pw, .lst (ws.map tS))]) (.cons _ (.cons₂ _ (.cons₂ _ .slnil))) ?_
  refine k_cons ?_      -- _law_long = [_law_then(Sending(2, ['a' * 30]), _law_double), _law_then(Sending(2, ['a' * 30 + 'b']),
  refine k_set 12 ?_ sc_law_right.nd
  refine k_lst ?_
  refine a_cons ?_
  refine k_fn F_law_then (hr.mono (by decide)) ?_
  refine a_cons ?_
  refine k_make mk (hr.mono (by decide)) noE ?_
  refine a_cons ?_
  refine k_int ?_
  refine a_cons ?_
  refine k_lst ?_
  refine a_cons ?_
  refine k_bin ?_
  refine k_s [97] ?_
  refine k_int ?_
  refine o_muls (n := 30) ?_ (by decide) (by decide)
  refine a_nil ?_
  refine ⟨by first | decide | simp, fun pc2 => ?_⟩
  refine a_nil ?_
  intro y1 dy1; refine use_make (ws := [rep [97] 30]) (m := 2) (.inr (.head _)) glng1 fun B3 l3 hS3 => ?_
  refine a_cons ?_
  refine k_n 11 ?_
  refine a_nil ?_
  refine use_law_then ⟨hS3.snd, hS2.le l3, glng1, gdbl, rfl⟩ (fun _ B4 z1 l4 _ => ?_) (fun hex => absurd long1 (by obtain ⟨l, hl, h2⟩ := hex; exact fun h => absurd (h l hl) (by omega)))
  refine a_cons ?_
  refine k_fn F_law_then (hr.mono (by decide)) ?_
  refine a_cons ?_
  refine k_make mk (hr.mono (by decide)) noE ?_
  refine a_cons ?_
  refine k_int ?_
  refine a_cons ?_
  refine k_lst ?_
  refine a_cons ?_
  refine k_bin ?_
  refine k_bin ?_
  refine k_s [97] ?_
  refine k_int ?_
  refine o_muls (n := 30) ?_ (by decide) (by decide)
  refine k_s [98] ?_
  refine o_adds ?_ (by decide)
  refine a_nil ?_
  refine ⟨by first | decide | simp, fun p => ?_⟩
  refine a_nil ?_
  intro y2 dy2; refine use_make (ws := [rep [97] 30 ++ [98]]) (m := 2) (.inr (.head _)) glng2 fun B5 l5 hS5 => ?_
  refine a_cons ?_
  refine k_n 11 ?_
  refine a_nil ?_
  refine use_law_then ⟨hS5.snd, (hS2.le l3).le l4 |>.le l5, glng2, gdbl, rfl⟩ (fun h => absurd h long2) (fun _ => ?_)
  refine a_nil ?_
  refine ⟨by first | decide | simp, fun p => ?_⟩
  show kSs _ _ _ _ _ _
  refine k_norm (by simp only [L2.start, N_law_right, List.map_cons, List.map_nil, List.length_cons, List.length_nil, Nat.reduceAdd, Nat.reduceSub, List.replicate_succ, List.replicate_zero, List.cons_append, List.nil_append, List.set_cons_succ, List.set_cons_zero]; exact rfl) ?_
  refine k_cons ?_
  refine k_if ?_
  refine t_pure (v := false) ?_ ⟨fun z => (nomatch z), fun _ => ?_⟩
  · skip
    refine t_w ?_
    refine w_orP ?_
    refine t_cmp ?_
    refine k_ix ?_
    refine k_n 12 ?_
    refine k_int ?_
    refine i_lv (.ref z1) (.inr (.head _)) ?_ rfl
    refine k_non ?_
    walk_at "opIs"
    refine ⟨_, rfl, ?_⟩
    apply Exists.intro; refine ⟨fun hk => ?_, ?_⟩
    {
    refine w_or1 ?_
    refine t_cmp ?_
    refine k_ix ?_
    refine k_n 12 ?_
    refine k_int ?_
    refine i_lv .non (.inr (.head _)) ?_ rfl
    refine k_non ?_
    walk_at "opIsNot"
    refine ⟨_, rfl, ?_⟩
    exact ⟨rfl, rfl, by walk_at "sfx"⟩
    all_goals (try walk_at "side")
    }
    refine ⟨?_, rfl, by walk_at "sfx"⟩
    simp
  refine k_nil ?_
  refine k_sub (L' := [(pl, .lst (vs.map tS)), (pw, .lst (ws.map tS))]) (.cons _ (.cons _ (.cons _ (.cons₂ _ (.cons₂ _ .slnil))))) ?_
  have hx5 : Snd C B5 x m ws := ((((hx1.le l2).le l3).le l4).le l5)
  have hwv : ∀ l ∈ ws, ∀ c ∈ l, InL vs c := fun l hl c hc => inL_of (by rw [hvl]; exact (hdw l hl).has) hc
  have hdue : ∀ l ∈ sntW vs ws, Let l ∧ l.length ≤ 3600 := fun l hl => by
    obtain ⟨z, hz, rfl⟩ := List.mem_map.mp hl
    have h1 := snt_len gv.gw (hwv z hz)
    have h2 := (hdw z hz).len
    exact ⟨snt_let gv.gw (hwv z hz), by omega⟩
  have hsz : (sntW vs ws).length = ws.length := List.length_map ..
  have hsch : ∀ l ∈ sntW vs ws, ∀ c ∈ l, c < 1114112 := fun l hl => let_lt (hdue l hl).1
  refine k_cons ?_      -- _law_found = _law_then(_law_sending, Sending(_law_goal, _law_later))
  refine k_set 13 ?_ sc_law_right.nd
  refine k_fn F_law_then (hr.mono (by decide)) ?_
  refine a_cons ?_
  refine k_n 7 ?_
  refine a_cons ?_
  refine k_make mk (hr.mono (by decide)) noE ?_
  refine a_cons ?_
  refine k_n 9 ?_
  refine a_cons ?_
  refine k_n 10 ?_
  refine a_nil ?_
  intro y3 dy3; refine use_make (.inr (.head _)) gv fun B6 l6 hS6 => ?_
  refine a_nil ?_
  refine use_law_then ⟨hx5.le l6, hS6.snd, gd, gv, hvl⟩ (fun hall B7 z7 l7 hS7 => ?_) (fun hex => ?_)
  · show kSs _ _ _ _ _ _
    refine k_norm (by simp only [L2.start, N_law_right, List.map_cons, List.map_nil, List.length_cons, List.length_nil, Nat.reduceAdd, Nat.reduceSub, List.replicate_succ, List.replicate_zero, List.cons_append, List.nil_append, List.set_cons_succ, List.set_cons_zero]; exact rfl) ?_
    have hx7 : Snd C B7 x m ws := (hx5.le l6).le l7
    have hz7 := hS7.snd
    have ⟨dx7, tx7, hxo7, _⟩ := hx7
    have ⟨dz7, tz7, hzo7, _⟩ := hz7
    refine k_cons ?_      -- _law_due = [_law_sent(_law_later, _law_one) for _law_one in _law_words]
    refine k_sle 14 (k_lcm_l (j := 16) (sF vs) sc_law_right.nd (blkOk_by (N := N_law_right) (sc := defScope s_law_right) (by decide +kernel)) ?_)
    refine k_n 5 ?_
    refine ⟨pw, _, rfl, .inr (.tail _ (.head _)), by rw [List.length_map]; omega, fun z hz D acc sb Hb Cb clb fpb => ?_, fun D => ?_⟩
    ·
      obtain ⟨l, hl, rfl⟩ := List.mem_map.mp hz
      have hl2 := (hdw l hl).len
      refine k_fn F_law_sent (hr.mono (by decide)) ?_
      refine a_cons ?_
      refine k_n 10 ?_
      refine a_cons ?_
      refine k_n 16 ?_
      refine a_nil ?_
      refine use_law_sent (ws := vs) (.inr (.tail _ (.head _))) gv.gw ⟨(hdw l hl).let_, by omega, hwv l hl⟩ ?_
      exact ⟨(sF_tS vs l).symm, rfl, rfl⟩
    show kSs _ _ _ _ _ _
    refine k_norm (by simp only [L2.start, N_law_right, List.map_cons, List.map_nil, List.length_cons, List.length_nil, Nat.reduceAdd, Nat.reduceSub, List.replicate_succ, List.replicate_zero, List.cons_append, List.nil_append, List.set_cons_succ, List.set_cons_zero]; exact rfl) ?_
    rw [map_sF]
    refine k_cons ?_
    refine k_if ?_
    refine t_pure (v := false) ?_ ⟨fun z => (nomatch z), fun _ => ?_⟩
    · skip
      refine t_cmp ?_
      refine k_callB (id := "max") T.b_max ?_
      refine a_cons ?_
      refine k_le (k_lcm_l (j := 16) lenF sc_law_right.nd (blkOk_by (N := N_law_right) (sc := defScope s_law_right) (by decide +kernel)) ?_)
      refine k_n 14 ?_
      refine ⟨D, _, rfl, .inr (.head _), by rw [List.length_map]; omega, fun z hz D2 acc sb Hb Cb clb fpb => ?_, fun D2 => ?_⟩
      ·
        obtain ⟨l, hl, rfl⟩ := List.mem_map.mp hz
        have hl2 := (hdue l hl).2
        refine k_callB (id := "len") T.b_len ?_
        refine a_cons ?_
        refine k_n 16 ?_
        refine a_nil ?_
        refine c_lens ?_ (by omega)
        refine ⟨?_, rfl, rfl⟩
        simp [lenF, tS, sOf]
      refine a_nil ?_
      refine c_maxl (ns := (sntW vs ws).map fun l => (l.length : Int)) (by rw [map_lenF]; exact .inr (.head _)) (by rw [List.length_map]; omega) fun mx hm1 hm2 => ?_
      refine k_int ?_
      walk_at "opGt"
      refine ⟨_, rfl, ?_⟩
      refine ⟨?_, rfl, by walk_at "sfx"⟩
      obtain ⟨l, hl, rfl⟩ := List.mem_map.mp hm1
      obtain ⟨z, hz, rfl⟩ := List.mem_map.mp hl
      have := hall z hz
      rw [decide_eq_false]
      omega
    refine k_nil ?_
    refine k_one ?_      -- return isinstance(_law_found, Sending) and (_law_found.into(), _law_found.words()) == (_law_goal, _l
    refine k_ret ?_
    refine k_andP ?_
    refine k_callB (id := "isinstance") T.b_isinstance ?_
    refine a_cons ?_
    refine k_n 13 ?_
    refine a_cons ?_
    refine k_cls gC ?_
    refine a_nil ?_
    refine c_isO O (.inl hzo7) ?_
    refine ⟨_, rfl, ?_⟩; apply Exists.intro; refine ⟨fun hk => ?_, ?_⟩
    {
    refine k_andP ?_
    refine k_cmp ?_
    refine k_tup ?_
    refine a_cons ?_
    refine k_meth0 M_into (hr.mono (by decide)) takes0 ?_
    refine k_n 13 ?_
    refine ⟨_, _, _, rfl, .inl hzo7, rfl, ?_⟩
    skip
    refine use_into hz7 ?_
    refine a_cons ?_
    refine k_meth0 M_words (hr.mono (by decide)) takes0 ?_
    refine k_n 13 ?_
    refine ⟨_, _, _, rfl, .inl hzo7, rfl, ?_⟩
    skip
    refine use_words hz7 fun pz => ?_
    refine a_nil ?_
    refine ⟨by first | decide | simp, fun t1 => ?_⟩
    refine k_tup ?_
    refine a_cons ?_
    refine k_n 9 ?_
    refine a_cons ?_
    refine k_n 14 ?_
    refine a_nil ?_
    refine ⟨by first | decide | simp, fun t2 => ?_⟩
    refine o_eqD hr.units (dd_t (.inr (.tail _ (.head _))) (da_cons dd_i (da_cons (dd_ss (a := sntW vs ws) (.inr (.tail _ (.tail _ (.head _))))) da_nil))) (dd_t (.inr (.head _)) (da_cons dd_i (da_cons (dd_ss (a := sntW vs ws) (.inr (.tail _ (.tail _ (.tail _ (.head _)))))) da_nil))) ?_ (shaped_pair hsch) (shaped_pair hsch)
    refine ⟨_, rfl, ?_⟩; apply Exists.intro; refine ⟨fun hk => ?_, ?_⟩
    {
    refine k_and1 ?_
    refine k_cmp ?_
    refine k_meth0 M_words (hr.mono (by decide)) takes0 ?_
    refine k_n 7 ?_
    refine ⟨_, _, _, rfl, .inl hxo7, rfl, ?_⟩
    skip
    refine use_words hx7 fun pz2 => ?_
    refine k_n 5 ?_
    refine o_eqss (a := ws) (b := ws) hr.units (.inr (List.Mem.head _)) (.inr (by walk_at "mm")) ?_ hch hch
    exact ⟨rfl, rfl, by walk_at "sfx"⟩
    all_goals (try walk_at "side")
    }
    exact ⟨rfl, rfl, by walk_at "sfx"⟩
    all_goals (try walk_at "side")
    }
    intro H' s
    rw [eqv_pair]
    simp only [decide_true, Bool.and_true]
    exact hq H' fun b o e => s.ext b o (l7 _ _ (l6 _ _ (l5 _ _ (l4 _ _ (l3 _ _ (l2 _ _ (l1 _ _ e)))))))
  · show kSs _ _ _ _ _ _
    refine k_norm (by simp only [L2.start, N_law_right, List.map_cons, List.map_nil, List.length_cons, List.length_nil, Nat.reduceAdd, Nat.reduceSub, List.replicate_succ, List.replicate_zero, List.cons_append, List.nil_append, List.set_cons_succ, List.set_cons_zero]; exact rfl) ?_
    refine k_cons ?_      -- _law_due = [_law_sent(_law_later, _law_one) for _law_one in _law_words]
    refine k_sle 14 (k_lcm_l (j := 16) (sF vs) sc_law_right.nd (blkOk_by (N := N_law_right) (sc := defScope s_law_right) (by decide +kernel)) ?_)
    refine k_n 5 ?_
    refine ⟨pw, _, rfl, .inr (.tail _ (.head _)), by rw [List.length_map]; omega, fun z hz D acc sb Hb Cb clb fpb => ?_, fun D => ?_⟩
    ·
      obtain ⟨l, hl, rfl⟩ := List.mem_map.mp hz
      have hl2 := (hdw l hl).len
      refine k_fn F_law_sent (hr.mono (by decide)) ?_
      refine a_cons ?_
      refine k_n 10 ?_
      refine a_cons ?_
      refine k_n 16 ?_
      refine a_nil ?_
      refine use_law_sent (ws := vs) (.inr (.tail _ (.head _))) gv.gw ⟨(hdw l hl).let_, by omega, hwv l hl⟩ ?_
      exact ⟨(sF_tS vs l).symm, rfl, rfl⟩
    show kSs _ _ _ _ _ _
    refine k_norm (by simp only [L2.start, N_law_right, List.map_cons, List.map_nil, List.length_cons, List.length_nil, Nat.reduceAdd, Nat.reduceSub, List.replicate_succ, List.replicate_zero, List.cons_append, List.nil_append, List.set_cons_succ, List.set_cons_zero]; exact rfl) ?_
    rw [map_sF]
    refine k_cons ?_
    refine k_if ?_
    refine t_pure (v := true) ?_ ⟨fun _ => ?_, fun z => (nomatch z)⟩
    · skip
      refine t_cmp ?_
      refine k_callB (id := "max") T.b_max ?_
      refine a_cons ?_
      refine k_le (k_lcm_l (j := 16) lenF sc_law_right.nd (blkOk_by (N := N_law_right) (sc := defScope s_law_right) (by decide +kernel)) ?_)
      refine k_n 14 ?_
      refine ⟨D, _, rfl, .inr (.head _), by rw [List.length_map]; omega, fun z hz D2 acc sb Hb Cb clb fpb => ?_, fun D2 => ?_⟩
      ·
        obtain ⟨l, hl, rfl⟩ := List.mem_map.mp hz
        have hl2 := (hdue l hl).2
        refine k_callB (id := "len") T.b_len ?_
        refine a_cons ?_
        refine k_n 16 ?_
        refine a_nil ?_
        refine c_lens ?_ (by omega)
        refine ⟨?_, rfl, rfl⟩
        simp [lenF, tS, sOf]
      refine a_nil ?_
      refine c_maxl (ns := (sntW vs ws).map fun l => (l.length : Int)) (by rw [map_lenF]; exact .inr (.head _)) (by rw [List.length_map]; omega) fun mx hm1 hm2 => ?_
      refine k_int ?_
      walk_at "opGt"
      refine ⟨_, rfl, ?_⟩
      refine ⟨?_, rfl, by walk_at "sfx"⟩
      obtain ⟨z, hz, hz2⟩ := hex
      have := hm2 ((snt vs z).length : Int) (List.mem_map.mpr ⟨snt vs z, List.mem_map.mpr ⟨z, hz, rfl⟩, rfl⟩)
      rw [decide_eq_true]
      omega
    refine k_one ?_      -- return _law_found is None
    refine k_ret ?_
    refine k_cmp ?_
    refine k_n 13 ?_
    refine k_non ?_
    walk_at "opIs"
    intro H' s
    simp only [decide_true]
    exact hq H' fun b o e => s.ext b o (l6 _ _ (l5 _ _ (l4 _ _ (l3 _ _ (l2 _ _ (l1 _ _ e))))))
abbrev s_law : Stmt := top 29
abbrev N_law : List Str := ["_law_script", "_law_k", "_law_cell"]
theorem sc_law : FnScope N_law ["_law_script"] (defScope s_law) := ⟨rfl, rfl, rfl, by decide +kernel, rfl, by decide +kernel, by decide +kernel⟩
def spLaw (K : PySem.W.Frag) : Sp := fun vs H Q _ => ∃ (a : Addr) (ns : List Int), vs = [.ref a] ∧ SqL K H a (ns.map V.int) ∧ ns.length ≤ 63 ∧ ∀ H', Q (.bl true) H'
theorem ok_law {f : Addr} {fd : FuncData} (F : Fun K "law" "law" s_law f fd) (hm : mg "law" = some (.ref f)) (T : Tx mg) (F_law_right : Fn P w K mg base 7 "_law_right" sp_law_right) : FnOk P w K mg base (L2.CX P w) 8 f fd ["_law_script"] (spLaw K) := by
  refine fn_okF F sc_law ?_ fun cdv A outer s H vs Q E hr h tk po => ?_
  · rintro vs H Q E ⟨_, _, rfl, _⟩; rfl
  obtain ⟨a, ns, rfl, ha, hn, hq⟩ := h
  have ha' : Ls K H [] a (ns.map V.int) := .inl ha
  refine ⟨H, [], Sat.whole, ?_⟩
  refine k_cons ?_
  refine k_for_r1 (fun i σ B L => ∃ v1 v2, σ = [some (.ref a), v1, v2] ∧ B = H ∧ L = []) po T.b_range ?_
  refine k_callB (id := "max") T.b_max ?_
  refine a_cons ?_
  refine k_int ?_
  refine a_cons ?_
  refine k_callB (id := "len") T.b_len ?_
  refine a_cons ?_
  refine k_n 0 ?_
  refine a_nil ?_
  refine c_lenl ha' ?_
  refine a_nil ?_
  walk_at "c_max"
  refine ⟨_, rfl, ?_, ?_, ⟨_, _, rfl, rfl, rfl⟩, ?_, ?_⟩
  · rw [List.length_map]; split <;> omega
  · rw [List.length_map]; split <;> omega
  · rintro i σ B L hi ⟨v1, v2, rfl, rfl, rfl⟩
    have hi63 : i ≤ 63 := by
      rw [List.length_map] at hi
      split at hi <;> omega
    refine g_name 1 ?_ sc_law.nd
    refine k_cons ?_      -- _law_cell = 11
    refine k_set 2 ?_ sc_law.nd
    refine k_int ?_
    show kSs _ _ _ _ _ _
    refine k_cons ?_
    refine k_if ?_
    refine t_cmp ?_
    refine k_n 1 ?_
    refine k_callB (id := "len") T.b_len ?_
    refine a_cons ?_
    refine k_n 0 ?_
    refine a_nil ?_
    refine c_lenl ha' ?_
    walk_at "opLt"
    refine ⟨_, rfl, ?_⟩
    refine ⟨fun hk => ?_, fun hk => ?_⟩
    · have hil : i < ns.length := by
        have := of_decide_eq_true hk
        rw [List.length_map] at this
        omega
      refine k_one ?_      -- _law_cell = _law_script[_law_k]
      refine k_set 2 ?_ sc_law.nd
      refine k_ix ?_
      refine k_n 0 ?_
      refine k_n 1 ?_
      refine i_lv (.int ns[i]) ha' ?_ (by rw [atI_n, List.getElem?_map, List.getElem?_eq_getElem hil]; rfl)
      show kSs _ _ _ _ _ _
      refine k_one ?_
      refine k_if ?_
      refine t_not ?_
      refine t_val ?_
      refine k_fn F_law_right (hr.mono (by decide)) ?_
      refine a_cons ?_
      refine k_n 2 ?_
      refine a_cons ?_
      refine k_n 1 ?_
      refine a_nil ?_
      refine use_law_right (by omega) ?_
      refine ⟨_, rfl, ?_⟩
      refine ⟨fun hk => (by cases hk), fun hk => ?_⟩
      refine k_nil ?_
      exact ⟨_, _, rfl, rfl, rfl⟩
    · refine k_nil ?_
      refine k_one ?_
      refine k_if ?_
      refine t_not ?_
      refine t_val ?_
      refine k_fn F_law_right (hr.mono (by decide)) ?_
      refine a_cons ?_
      refine k_n 2 ?_
      refine a_cons ?_
      refine k_n 1 ?_
      refine a_nil ?_
      refine use_law_right (by omega) ?_
      refine ⟨_, rfl, ?_⟩
      refine ⟨fun hk => (by cases hk), fun hk => ?_⟩
      refine k_nil ?_
      exact ⟨_, _, rfl, rfl, rfl⟩
  · rintro σ B L ⟨v1, v2, rfl, rfl, rfl⟩
    refine k_one ?_      -- return True
    refine k_ret ?_
    refine k_bl ?_
    exact fun H' s => hq H'
end
def hfa0 : List He.Fa := [.glo "back_of", .glo "are_letters", .glo "is_word", .glo "need_word", .glo "put_together", .glo "back", .glo "is_whole", .glo "has_letters", .mkr "Sending", .meth "Sending" "into", .meth "Sending" "many", .meth "Sending" "words", .meth "Sending" "image", .meth "Sending" "sent", .meth "Sending" "then", .glo "_law_draw", .glo "_law_state", .glo "_law_contrary", .glo "_law_back", .glo "_law_free", .glo "_law_word", .glo "_law_sent", .glo "_law_then", .glo "_law_right", .glo "law", .str "LETTERS" (sOf ltL), .str "ORDER" (sOf ordL), .int "MOST_LETTERS" 60, .free "ValueError", .free "all"]
def hfa1 : List He.Fa := [.free "range", .free "list", .free "isinstance", .free "str", .free "any", .free "int", .free "tuple", .free "len", .free "max", .free "bool", .free "reversed", .free "enumerate", .free "sum", .glo "Sending", .cls "Sending", .noat "Sending" "goal", .noat "Sending" "first_words", .glo "NoWord", .exc "NoWord", .glo "TooMany", .exc "TooMany", .exm "TooMany" "TooMany" true]
def hfa : List He.Fa := hfa0 ++ hfa1
def hfn0 : List He.DefD := [dTop "back_of" s_back_of, dTop "are_letters" s_are_letters, dTop "is_word" s_is_word, dTop "need_word" s_need_word, dTop "put_together" s_put_together, dTop "back" s_back, dTop "is_whole" s_is_whole, dTop "has_letters" s_has_letters, dMth "Sending" "__init__" "Sending.__init__" s_Sending_init, dMth "Sending" "into" "Sending.into" s_Sending_into, dMth "Sending" "many" "Sending.many" s_Sending_many, dMth "Sending" "words" "Sending.words" s_Sending_words, dMth "Sending" "image" "Sending.image" s_Sending_image, dMth "Sending" "sent" "Sending.sent" s_Sending_sent, dMth "Sending" "then" "Sending.then" s_Sending_then, dTop "_law_draw" s_law_draw, dTop "_law_state" s_law_state, dTop "_law_contrary" s_law_contrary, dTop "_law_back" s_law_back, dTop "_law_free" s_law_free, dTop "_law_word" s_law_word, dTop "_law_sent" s_law_sent, dTop "_law_then" s_law_then, dTop "_law_right" s_law_right, dTop "law" s_law]
def hfn : List He.DefD := hfn0
def hnm0 : List Str := ["WordError", "NoWord", "NoSending", "TooMany", "LETTERS", "ORDER", "MOST_LETTERS", "back_of", "are_letters", "is_word", "need_word", "put_together", "back", "is_whole", "has_letters", "Sending", "_law_draw", "_law_state", "_law_contrary", "_law_back", "_law_free", "_law_word", "_law_sent", "_law_then", "_law_right"]
def hnm : List Str := hnm0
def hex (K : PySem.W.Frag) : Bool := isoB K "Sending"
abbrev hR : PySem.W.OpenRow := PySem.W.OpenLaw.row PySem.Challenge.rw_backwords_k82_sent_and_then
abbrev hk : PySem.W.Hook := He.hookX 7 hfa hfn [] [] hex
def hob (s : PySem.W.SharedT) : He.AlX := He.obsX 7 hfa hfn [] [] hex (HandSHeadRun.getT s)
theorem hob_eq (s : PySem.W.SharedT) : hob s = hk.obs s.abs := He.obsX_eq (HandSHeadRun.getT_eq s)
abbrev hq : Program := PySem.W.view hR.prog [29]
theorem hrun (w : World) : HandSHeadRun.RunEq hR hq hk hob 20000 hnm w := by
  intro os
  kernel_rfl
theorem facts {P : Program} {w : World} {K : PySem.W.Frag} {h : Heap} {mg : Str → Option Value} {f : Addr} (X : K.In h) (G : h.Ns mainGlobals mg) (hlf : mg ("law" : Str) = some (.ref f)) (c : He.SaysX hfa hfn [] [] hex w h K) :
    ∃ fd : FuncData, (∀ (s : Shared) (v : Value), BindsTo s fd ⟨[v], []⟩ [("_law_script", v)]) ∧ ∀ base : Heap, K.In base → base.Ns mainGlobals mg → FnOk P w K mg base (L2.CX P w) 8 f fd ["_law_script"] (spLaw K) := by
  have cd := c.t.d
  obtain ⟨fd0, G_back_of⟩ := d_top (x := "back_of") (st := s_back_of) cd 0 rfl
  have m_back_of := He.glo_ok X G (cd.fact 0 (f := .glo "back_of") rfl)
  have D_back_of := fun_d G_back_of
  obtain ⟨fd1, G_are_letters⟩ := d_top (x := "are_letters") (st := s_are_letters) cd 1 rfl
  have m_are_letters := He.glo_ok X G (cd.fact 1 (f := .glo "are_letters") rfl)
  have D_are_letters := fun_d G_are_letters
  obtain ⟨fd2, G_is_word⟩ := d_top (x := "is_word") (st := s_is_word) cd 2 rfl
  have m_is_word := He.glo_ok X G (cd.fact 2 (f := .glo "is_word") rfl)
  have D_is_word := fun_d G_is_word
  obtain ⟨fd3, G_need_word⟩ := d_top (x := "need_word") (st := s_need_word) cd 3 rfl
  have m_need_word := He.glo_ok X G (cd.fact 3 (f := .glo "need_word") rfl)
  have D_need_word := fun_d G_need_word
  obtain ⟨fd4, G_put_together⟩ := d_top (x := "put_together") (st := s_put_together) cd 4 rfl
  have m_put_together := He.glo_ok X G (cd.fact 4 (f := .glo "put_together") rfl)
  have D_put_together := fun_d G_put_together
  obtain ⟨fd5, G_back⟩ := d_top (x := "back") (st := s_back) cd 5 rfl
  have m_back := He.glo_ok X G (cd.fact 5 (f := .glo "back") rfl)
  have D_back := fun_d G_back
  obtain ⟨fd6, G_is_whole⟩ := d_top (x := "is_whole") (st := s_is_whole) cd 6 rfl
  have m_is_whole := He.glo_ok X G (cd.fact 6 (f := .glo "is_whole") rfl)
  have D_is_whole := fun_d G_is_whole
  obtain ⟨fd7, G_has_letters⟩ := d_top (x := "has_letters") (st := s_has_letters) cd 7 rfl
  have m_has_letters := He.glo_ok X G (cd.fact 7 (f := .glo "has_letters") rfl)
  have D_has_letters := fun_d G_has_letters
  obtain ⟨fd8, G_Sending_init⟩ := d_mth (C := "Sending") (m := "__init__") (q := "Sending.__init__") (st := s_Sending_init) cd 8 rfl
  have m_Sending_init := He.mkr_ok (cd.fact 8 (f := .mkr "Sending") rfl)
  have D_Sending_init := fun_d G_Sending_init
  obtain ⟨fd9, G_Sending_into⟩ := d_mth (C := "Sending") (m := "into") (q := "Sending.into") (st := s_Sending_into) cd 9 rfl
  have m_Sending_into := He.meth_ok (cd.fact 9 (f := .meth "Sending" "into") rfl)
  have D_Sending_into := fun_d G_Sending_into
  obtain ⟨fd10, G_Sending_many⟩ := d_mth (C := "Sending") (m := "many") (q := "Sending.many") (st := s_Sending_many) cd 10 rfl
  have m_Sending_many := He.meth_ok (cd.fact 10 (f := .meth "Sending" "many") rfl)
  have D_Sending_many := fun_d G_Sending_many
  obtain ⟨fd11, G_Sending_words⟩ := d_mth (C := "Sending") (m := "words") (q := "Sending.words") (st := s_Sending_words) cd 11 rfl
  have m_Sending_words := He.meth_ok (cd.fact 11 (f := .meth "Sending" "words") rfl)
  have D_Sending_words := fun_d G_Sending_words
  obtain ⟨fd12, G_Sending_image⟩ := d_mth (C := "Sending") (m := "image") (q := "Sending.image") (st := s_Sending_image) cd 12 rfl
  have m_Sending_image := He.meth_ok (cd.fact 12 (f := .meth "Sending" "image") rfl)
  have D_Sending_image := fun_d G_Sending_image
  obtain ⟨fd13, G_Sending_sent⟩ := d_mth (C := "Sending") (m := "sent") (q := "Sending.sent") (st := s_Sending_sent) cd 13 rfl
  have m_Sending_sent := He.meth_ok (cd.fact 13 (f := .meth "Sending" "sent") rfl)
  have D_Sending_sent := fun_d G_Sending_sent
  obtain ⟨fd14, G_Sending_then⟩ := d_mth (C := "Sending") (m := "then") (q := "Sending.then") (st := s_Sending_then) cd 14 rfl
  have m_Sending_then := He.meth_ok (cd.fact 14 (f := .meth "Sending" "then") rfl)
  have D_Sending_then := fun_d G_Sending_then
  obtain ⟨fd15, G_law_draw⟩ := d_top (x := "_law_draw") (st := s_law_draw) cd 15 rfl
  have m_law_draw := He.glo_ok X G (cd.fact 15 (f := .glo "_law_draw") rfl)
  have D_law_draw := fun_d G_law_draw
  obtain ⟨fd16, G_law_state⟩ := d_top (x := "_law_state") (st := s_law_state) cd 16 rfl
  have m_law_state := He.glo_ok X G (cd.fact 16 (f := .glo "_law_state") rfl)
  have D_law_state := fun_d G_law_state
  obtain ⟨fd17, G_law_contrary⟩ := d_top (x := "_law_contrary") (st := s_law_contrary) cd 17 rfl
  have m_law_contrary := He.glo_ok X G (cd.fact 17 (f := .glo "_law_contrary") rfl)
  have D_law_contrary := fun_d G_law_contrary
  obtain ⟨fd18, G_law_back⟩ := d_top (x := "_law_back") (st := s_law_back) cd 18 rfl
  have m_law_back := He.glo_ok X G (cd.fact 18 (f := .glo "_law_back") rfl)
  have D_law_back := fun_d G_law_back
  obtain ⟨fd19, G_law_free⟩ := d_top (x := "_law_free") (st := s_law_free) cd 19 rfl
  have m_law_free := He.glo_ok X G (cd.fact 19 (f := .glo "_law_free") rfl)
  have D_law_free := fun_d G_law_free
  obtain ⟨fd20, G_law_word⟩ := d_top (x := "_law_word") (st := s_law_word) cd 20 rfl
  have m_law_word := He.glo_ok X G (cd.fact 20 (f := .glo "_law_word") rfl)
  have D_law_word := fun_d G_law_word
  obtain ⟨fd21, G_law_sent⟩ := d_top (x := "_law_sent") (st := s_law_sent) cd 21 rfl
  have m_law_sent := He.glo_ok X G (cd.fact 21 (f := .glo "_law_sent") rfl)
  have D_law_sent := fun_d G_law_sent
  obtain ⟨fd22, G_law_then⟩ := d_top (x := "_law_then") (st := s_law_then) cd 22 rfl
  have m_law_then := He.glo_ok X G (cd.fact 22 (f := .glo "_law_then") rfl)
  have D_law_then := fun_d G_law_then
  obtain ⟨fd23, G_law_right⟩ := d_top (x := "_law_right") (st := s_law_right) cd 23 rfl
  have m_law_right := He.glo_ok X G (cd.fact 23 (f := .glo "_law_right") rfl)
  have D_law_right := fun_d G_law_right
  obtain ⟨fd24, G_law⟩ := d_top (x := "law") (st := s_law) cd 24 rfl
  have m_law := He.glo_ok X G (cd.fact 24 (f := .glo "law") rfl)
  have D_law := fun_d G_law
  have g_back_of := He.glo_ok X G (cd.fact 0 (f := .glo "back_of") rfl)
  have g_are_letters := He.glo_ok X G (cd.fact 1 (f := .glo "are_letters") rfl)
  have g_is_word := He.glo_ok X G (cd.fact 2 (f := .glo "is_word") rfl)
  have g_need_word := He.glo_ok X G (cd.fact 3 (f := .glo "need_word") rfl)
  have g_put_together := He.glo_ok X G (cd.fact 4 (f := .glo "put_together") rfl)
  have g_back := He.glo_ok X G (cd.fact 5 (f := .glo "back") rfl)
  have g_is_whole := He.glo_ok X G (cd.fact 6 (f := .glo "is_whole") rfl)
  have g_has_letters := He.glo_ok X G (cd.fact 7 (f := .glo "has_letters") rfl)
  have g__law_draw := He.glo_ok X G (cd.fact 15 (f := .glo "_law_draw") rfl)
  have g__law_state := He.glo_ok X G (cd.fact 16 (f := .glo "_law_state") rfl)
  have g__law_contrary := He.glo_ok X G (cd.fact 17 (f := .glo "_law_contrary") rfl)
  have g__law_back := He.glo_ok X G (cd.fact 18 (f := .glo "_law_back") rfl)
  have g__law_free := He.glo_ok X G (cd.fact 19 (f := .glo "_law_free") rfl)
  have g__law_word := He.glo_ok X G (cd.fact 20 (f := .glo "_law_word") rfl)
  have g__law_sent := He.glo_ok X G (cd.fact 21 (f := .glo "_law_sent") rfl)
  have g__law_then := He.glo_ok X G (cd.fact 22 (f := .glo "_law_then") rfl)
  have g__law_right := He.glo_ok X G (cd.fact 23 (f := .glo "_law_right") rfl)
  have g_law := He.glo_ok X G (cd.fact 24 (f := .glo "law") rfl)
  have g_Sending := He.glo_ok X G (cd.fact 43 (f := .glo "Sending") rfl)
  have cls_Sending := He.cls_ok (cd.fact 44 (f := .cls "Sending") rfl)
  have c0_Sending := cd.fact 44 (f := .cls "Sending") rfl
  have no_Sending_goal := He.noat_ok (cd.fact 45 (f := .noat "Sending" "goal") rfl)
  have no_Sending_first_words := He.noat_ok (cd.fact 46 (f := .noat "Sending" "first_words") rfl)
  have g_NoWord := He.glo_ok X G (cd.fact 47 (f := .glo "NoWord") rfl)
  have e_NoWord := exk_of X G (cd.fact 47 (f := .glo "NoWord") rfl) (cd.fact 48 (f := .exc "NoWord") rfl)
  have g_TooMany := He.glo_ok X G (cd.fact 49 (f := .glo "TooMany") rfl)
  have e_TooMany := exk_of X G (cd.fact 49 (f := .glo "TooMany") rfl) (cd.fact 50 (f := .exc "TooMany") rfl)
  have exm_TooMany_TooMany := He.exm_ok (cd.fact 51 (f := .exm "TooMany" "TooMany" true) rfl)
  have T : Tx mg := ⟨He.str_ok X G (cd.fact 25 (f := .str "LETTERS" (sOf ltL)) rfl), He.str_ok X G (cd.fact 26 (f := .str "ORDER" (sOf ordL)) rfl), He.int_ok X G (cd.fact 27 (f := .int "MOST_LETTERS" 60) rfl), He.free_ok X G (cd.fact 28 (f := .free "ValueError") rfl), He.free_ok X G (cd.fact 29 (f := .free "all") rfl), He.free_ok X G (cd.fact 30 (f := .free "range") rfl), He.free_ok X G (cd.fact 31 (f := .free "list") rfl), He.free_ok X G (cd.fact 32 (f := .free "isinstance") rfl), He.free_ok X G (cd.fact 33 (f := .free "str") rfl), He.free_ok X G (cd.fact 34 (f := .free "any") rfl), He.free_ok X G (cd.fact 35 (f := .free "int") rfl), He.free_ok X G (cd.fact 36 (f := .free "tuple") rfl), He.free_ok X G (cd.fact 37 (f := .free "len") rfl), He.free_ok X G (cd.fact 38 (f := .free "max") rfl), He.free_ok X G (cd.fact 39 (f := .free "bool") rfl), He.free_ok X G (cd.fact 40 (f := .free "reversed") rfl), He.free_ok X G (cd.fact 41 (f := .free "enumerate") rfl), He.free_ok X G (cd.fact 42 (f := .free "sum") rfl)⟩
  have O : IsO K (He.ga K "Sending") := iso_of c0_Sending c.more
  have e := hlf.symm.trans m_law
  cases e
  have b := FunD.bindsA (ps := ["_law_script"]) G_law fun _ _ _ _ _ _ us hl => match us, hl with | [_], _ => rfl
  refine ⟨_, fun s v => b s [v] rfl, fun base _ _ => ?_⟩
  have F1 := ok_back_of (P := P) (w := w) (base := base) D_back_of m_back_of T
  have F2 := ok_put_together D_put_together m_put_together T F1
  have F3 := ok_are_letters (P := P) (w := w) (base := base) D_are_letters m_are_letters T
  have F4 := ok_is_word D_is_word m_is_word T F3 F1
  have F5 := ok_need_word D_need_word m_need_word T F4 e_NoWord
  have F6 := ok_back D_back m_back T F1
  have F7 := ok_is_whole (P := P) (w := w) (base := base) D_is_whole m_is_whole T
  have F8 := ok_has_letters D_has_letters m_has_letters T F1
  have F9 := ok_init D_Sending_init T cls_Sending no_Sending_goal no_Sending_first_words F7 F4 F8
  have mk := mk_okM D_Sending_init F9 m_Sending_init g_Sending fun _ _ _ _ _ _ us hl => match us, hl with | [_, _, _], _ => rfl
  have M1 := ok_into (P := P) (w := w) (mg := mg) (base := base) D_Sending_into m_Sending_into cls_Sending no_Sending_goal
  have M2 := ok_many (P := P) (w := w) (base := base) D_Sending_many m_Sending_many cls_Sending no_Sending_first_words T
  have M3 := ok_words (P := P) (w := w) (base := base) D_Sending_words m_Sending_words cls_Sending no_Sending_first_words T
  have M4 := ok_image D_Sending_image m_Sending_image cls_Sending no_Sending_first_words T F1 F6
  have M5 := ok_sent D_Sending_sent m_Sending_sent cls_Sending T F5 F8 F2 M2 M4
  have M6 := ok_then D_Sending_then m_Sending_then cls_Sending no_Sending_goal no_Sending_first_words T g_Sending O e_TooMany M2 M1 M5 mk
  have L1 := ok_law_draw (P := P) (w := w) (base := base) D_law_draw m_law_draw
  have L2 := ok_law_state (P := P) (w := w) (base := base) D_law_state m_law_state T
  have L3 := ok_law_contrary (P := P) (w := w) (base := base) D_law_contrary m_law_contrary
  have L4 := ok_law_back D_law_back m_law_back L3
  have L5 := ok_law_free D_law_free m_law_free L3
  have L6 := ok_law_word D_law_word m_law_word T L1 L5
  have L7 := ok_law_sent D_law_sent m_law_sent T L4 L5
  have L8 := ok_law_then D_law_then m_law_then g_TooMany exm_TooMany_TooMany M6
  have L9 := ok_law_right D_law_right m_law_right T g_Sending O L2 L1 L6 L7 L4 L8 M2 M1 M3 M5 mk
  exact ok_law D_law m_law T L9
end K82
open PySem PySem.W PySem.Calls PyProof.Rows
theorem PySem.Challenge.cw_backwords_k82_sent_and_then_holds : PySem.Challenge.rw_backwords_k82_sent_and_then.Holds := by
  w_on; o_law
  refine HandSHeadRun.head_any (r := OpenLaw.row PySem.Challenge.rw_backwords_k82_sent_and_then) (q := K82.hq) (H := K82.hk) (ob := K82.hob) (M := 20000) (loose := K82.hnm) (d := HandSHeadRun.topDef (OpenLaw.row PySem.Challenge.rw_backwords_k82_sent_and_then).prog 29) (kwd := []) K82.hob_eq
    (by kernel_rfl) (fun s => by kernel_rfl) K82.hrun (by kernel_rfl) (by kernel_rfl) (by kernel_rfl) (by rfl) (by first | assumption | decide +kernel) (by decide +kernel) ⟨rfl, rfl, rfl, rfl, rfl, by decide +kernel⟩ ?hw ?hc
  case hw => w_witness2
  case hc =>
    refine Kv.walk_end (l := PySem.Challenge.rw_backwords_k82_sent_and_then) (n := 63) (k := 8) (x := "_law_script") rfl (by decide) (by kernel_rfl) ⟨rfl, by decide, by decide⟩ ?F
    intro w mg fa h Y G hmg0
    obtain ⟨K, KX, c⟩ := Y
    have hmg : mg ("law" : PySem.Str) = some (.ref fa) := by
      have e : (HandSHeadRun.topDef (OpenLaw.row PySem.Challenge.rw_backwords_k82_sent_and_then).prog 29).name = ("law" : PySem.Str) := by kernel_rfl
      rw [← e]
      exact hmg0
    obtain ⟨fd, hb, hF⟩ := K82.facts (P := (PySem.Challenge.rw_backwords_k82_sent_and_then).prog) (w := w) KX G hmg c
    exact ⟨K, fd, K82.spLaw K, KX, hb, fun H a ns hl _ hS => ⟨a, ns, rfl, hS, hl, fun _ => rfl⟩, hF⟩

