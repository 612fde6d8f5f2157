import PyProof.Rows.All
import Wide.All
import OpenK.AllK
import Wide.FinOn
import HandS.ForMost
import HandS.Exc
import HandS.TryOnly
import HandS.ExcOwn
import HandS.WordsExc
import HandS.Walk
import HandS.IsInst
import HandS.StrMore
import HandS.RevTup
import HandS.ExcIs
import KE.KDictZip
import KE.GoesMore
import HandS.TupLe
import KE.DataCmp
import HandS.NoneIn
import KE.SortKeyed
import KE.SortData
import HandS.SortKw
import HandS.Keys
import HandS.CallLocal
import HandS.Flow
import HandS.Dict
import KE.DataFind
import PyProof.ListStr
import HandS.More
import KE.KStateDown
import HandS.Head0
import HandS.Head1
import HandS.Head2
import HandS.HeadEnd
import HandS.HeadHook1
import HandS.HeadHook2
import HandS.HeadHook3
import HandS.HeadHook4
import PySem.Challenge.RW_backwords_k91_whole_movers
set_option Elab.async false
set_option linter.all false
set_option maxRecDepth 100000
set_option maxHeartbeats 0
/-! Words over letters with backs: leaving out, by a stack. -/
namespace Fg
/-- the back of a letter, by codes -/
def bk (c : Nat) : Nat := if 65 ≤ c ∧ c ≤ 90 then c + 32 else if 97 ≤ c ∧ c ≤ 122 then c - 32 else c
theorem bk_bk (c : Nat) : bk (bk c) = c := by
  unfold bk
  repeat' split
  all_goals omega
def push (st : List Nat) (c : Nat) : List Nat := match st with
  | [] => [c]
  | x :: r => if x = bk c then r else c :: x :: r
theorem push_cons (x : Nat) (r : List Nat) (c : Nat) : push (x :: r) c = if x = bk c then r else c :: x :: r := rfl
/-- the word acts on stacks -/
def act (l st : List Nat) : List Nat := l.foldl push st
theorem act_nil (st : List Nat) : act [] st = st := rfl
theorem act_cons (c : Nat) (l st : List Nat) : act (c :: l) st = act l (push st c) := rfl
theorem act_app (a b st : List Nat) : act (a ++ b) st = act b (act a st) := by unfold act; rw [List.foldl_append]
/-- no letter beside its back (read either way the same) -/
def Wd : List Nat → Prop
  | [] => True
  | [_] => True
  | x :: y :: r => y ≠ bk x ∧ Wd (y :: r)
theorem Wd.tail {x : Nat} {r : List Nat} (h : Wd (x :: r)) : Wd r := by
  cases r with
  | nil => trivial
  | cons y r => exact h.2
theorem Wd.cons {x : Nat} {r : List Nat} (h : Wd r) (hn : ∀ y s, r = y :: s → y ≠ bk x) : Wd (x :: r) := by
  cases r with
  | nil => trivial
  | cons y r => exact ⟨hn y r rfl, h⟩
theorem rd_push {st : List Nat} (h : Wd st) (c : Nat) : Wd (push st c) := by
  cases st with
  | nil => trivial
  | cons x r =>
    rw [push_cons]
    split
    · exact h.tail
    · rename_i hx
      exact ⟨hx, h⟩
theorem rd_act {st : List Nat} (h : Wd st) (l : List Nat) : Wd (act l st) := by
  induction l generalizing st with
  | nil => exact h
  | cons c l ih => exact ih (rd_push h c)
theorem push_push {st : List Nat} (h : Wd st) (c : Nat) : push (push st c) (bk c) = st := by
  cases st with
  | nil => show (if c = bk (bk c) then [] else _) = []; rw [bk_bk, if_pos rfl]
  | cons x r =>
    rw [push_cons]
    split
    · rename_i hx
      cases r with
      | nil => rw [hx]; rfl
      | cons y s =>
        rw [push_cons, bk_bk]
        have h1 := h.1
        rw [hx, bk_bk] at h1
        rw [if_neg h1, hx]
    · rw [push_cons, bk_bk, if_pos rfl]
/-- the word that a text comes to -/
def red (l : List Nat) : List Nat := (act l []).reverse
def inv (l : List Nat) : List Nat := (l.map bk).reverse
theorem inv_inv (l : List Nat) : inv (inv l) = l := by
  unfold inv
  rw [List.map_reverse, List.reverse_reverse, List.map_map]
  have : (bk ∘ bk) = id := by funext c; exact bk_bk c
  rw [this, List.map_id]
theorem inv_app (a b : List Nat) : inv (a ++ b) = inv b ++ inv a := by unfold inv; rw [List.map_append, List.reverse_append]
theorem inv_len (l : List Nat) : (inv l).length = l.length := by simp [inv]
theorem inv_cons (c : Nat) (l : List Nat) : inv (c :: l) = inv l ++ [bk c] := by simp [inv]
theorem act_inv {st : List Nat} (h : Wd st) (l : List Nat) : act (inv l) (act l st) = st := by
  induction l generalizing st with
  | nil => rfl
  | cons c l ih =>
    rw [inv_cons, act_cons, act_app, ih (rd_push h c)]
    exact push_push h c
theorem act_inv' {st : List Nat} (h : Wd st) (l : List Nat) : act l (act (inv l) st) = st := by
  have := act_inv h (inv l)
  rwa [inv_inv] at this
/-- what a text comes to acts as the text -/
theorem act_red {st : List Nat} (h : Wd st) (l : List Nat) : act (red l) st = act l st := by
  have key : ∀ r : List Nat, act (act r.reverse []).reverse st = act r.reverse st := by
    intro r
    induction r with
    | nil => rfl
    | cons c r ih =>
      rw [List.reverse_cons, act_app, act_app]
      show act (push (act r.reverse []) c).reverse st = push (act r.reverse st) c
      cases hs : act r.reverse [] with
      | nil =>
        rw [hs] at ih
        show act [c] st = _
        rw [← ih]; rfl
      | cons x s =>
        rw [hs, List.reverse_cons, act_app] at ih
        rw [push_cons]
        split
        · rename_i hx
          rw [← ih]
          show _ = push (push (act s.reverse st) x) c
          have := push_push (rd_act h s.reverse) x
          rw [hx, bk_bk] at this
          rw [hx]
          exact this.symm
        · rw [List.reverse_cons, List.reverse_cons, act_app, act_app, ih]; rfl
  have := key l.reverse
  rw [List.reverse_reverse] at this
  exact this
theorem rd_rev : ∀ {l : List Nat}, Wd l → Wd l.reverse := by
  have snoc : ∀ (l : List Nat) (x : Nat), Wd l → (∀ y s, l.reverse = y :: s → y ≠ bk x) → Wd (l ++ [x]) := by
    intro l
    induction l with
    | nil => intro x _ _; trivial
    | cons a l ih =>
      intro x h hn
      cases l with
      | nil =>
        refine ⟨fun e => ?_, trivial⟩
        exact hn a [] rfl (by rw [e, bk_bk])
      | cons b l =>
        refine ⟨h.1, ih x h.2 fun y s e => ?_⟩
        refine hn y (s ++ [a]) ?_
        rw [List.reverse_cons, e]; rfl
  intro l
  induction l with
  | nil => intro _; trivial
  | cons a l ih =>
    intro h
    rw [List.reverse_cons]
    refine snoc _ a (ih h.tail) fun y s e => ?_
    rw [List.reverse_reverse] at e
    subst e
    exact h.1
theorem rd_red (l : List Nat) : Wd (red l) := rd_rev (rd_act (by trivial) l)
theorem red_len (l : List Nat) : (red l).length ≤ l.length := by
  have : ∀ (l st : List Nat), (act l st).length ≤ st.length + l.length := by
    intro l
    induction l with
    | nil => intro st; simp [act_nil]
    | cons c l ih =>
      intro st
      rw [act_cons]
      have h1 := ih (push st c)
      have h2 : (push st c).length ≤ st.length + 1 := by
        cases st with
        | nil => simp [push]
        | cons x r => rw [push_cons]; split <;> simp <;> omega
      simp only [List.length_cons]
      omega
  have h := this l []
  simpa [red] using h
theorem red_mem {l : List Nat} {c : Nat} (h : c ∈ red l) : c ∈ l := by
  have : ∀ (l st : List Nat) c, c ∈ act l st → c ∈ st ∨ c ∈ l := by
    intro l
    induction l with
    | nil => intro st c h; exact .inl h
    | cons a l ih =>
      intro st c h
      rw [act_cons] at h
      rcases ih _ _ h with h | h
      · cases st with
        | nil =>
          have : c = a := by simpa [push] using h
          exact .inr (by rw [this]; simp)
        | cons x r =>
          rw [push_cons] at h
          split at h
          · exact .inl (List.mem_cons_of_mem _ h)
          · rcases List.mem_cons.mp h with h | h
            · exact .inr (by rw [h]; simp)
            · exact .inl h
      · exact .inr (List.mem_cons_of_mem _ h)
  have h' : c ∈ act l [] := by simpa [red] using h
  rcases this l [] c h' with h | h
  · cases h
  · exact h
/-- a word comes to itself -/
theorem red_of_rd {l : List Nat} (h : Wd l) : red l = l := by
  have : ∀ (l st : List Nat), Wd (l.reverse ++ st) → act l st = l.reverse ++ st := by
    intro l
    induction l with
    | nil => intro st _; rfl
    | cons c l ih =>
      intro st h
      rw [List.reverse_cons, List.append_assoc] at h
      have hp : push st c = c :: st := by
        have h2 : Wd (c :: st) := by
          have : ∀ (a b : List Nat), Wd (a ++ b) → Wd b := by
            intro a
            induction a with
            | nil => intro b h; exact h
            | cons x a ih => intro b h; exact ih b (Wd.tail h)
          exact this _ _ h
        cases st with
        | nil => rfl
        | cons x r => rw [push_cons, if_neg h2.1]
      have h3 : Wd (l.reverse ++ (c :: st)) := h
      rw [act_cons, hp, ih _ h3, List.reverse_cons, List.append_assoc]; rfl
  unfold red
  rw [this l [] (by rw [List.append_nil]; exact rd_rev h), List.append_nil, List.reverse_reverse]
theorem red_red (l : List Nat) : red (red l) = red l := red_of_rd (rd_red l)
theorem red_app (a b : List Nat) : red (a ++ b) = red (red a ++ red b) := by
  unfold red
  rw [act_app, act_app]
  have h1 : act (act a []).reverse [] = act a [] := act_red (st := []) trivial a
  have h2 : act (act b []).reverse (act a []) = act b (act a []) := act_red (rd_act (by trivial) a) b
  rw [h1, h2]
theorem rd_map_inv {l : List Nat} (h : Wd l) : Wd (inv l) := by
  have : ∀ l : List Nat, Wd l → Wd (l.map bk) := by
    intro l
    induction l with
    | nil => intro _; trivial
    | cons a l ih =>
      intro h
      cases l with
      | nil => trivial
      | cons b l =>
        refine ⟨fun e => h.1 ?_, ih h.2⟩
        rw [bk_bk] at e
        rw [← e, bk_bk]
  exact rd_rev (this l h)
theorem act_inv_red {st : List Nat} (h : Wd st) (l : List Nat) : act (inv (red l)) st = act (inv l) st := by
  have h1 : act l (act (inv l) st) = st := act_inv' h l
  have h2 := rd_act h (inv l)
  have h3 := act_inv h2 (red l)
  rw [act_red h2, h1] at h3
  exact h3
theorem red_inv (l : List Nat) : red (inv l) = inv (red l) := by
  have h : red (inv (red l)) = red (inv l) := by
    show (act (inv (red l)) []).reverse = (act (inv l) []).reverse
    rw [act_inv_red (st := []) trivial]
  rw [← h]
  exact red_of_rd (rd_map_inv (rd_red l))
theorem red_flat_inv (ls : List (List Nat)) : red ((ls.map inv).reverse.flatten) = inv (red ls.flatten) := by
  have : (ls.map inv).reverse.flatten = inv ls.flatten := by
    induction ls with
    | nil => rfl
    | cons a r ih => rw [List.map_cons, List.reverse_cons, List.flatten_append, ih, List.flatten_cons, List.flatten_cons, inv_app]; simp
  rw [this, red_inv]
end Fg

namespace Kv
open PySem PySem.Spec PyProof.Rows L2

abbrev HL := List (Addr × HO)
/-- the heap H holds the base B and the named objects L -/
structure Sat (B : Hp) (L : HL) (H : Hp) : Prop where
  ext : ∀ a o, B a = some o → H a = some o
  own : ∀ p ∈ L, H p.1 = some p.2
  nb : ∀ p ∈ L, B p.1 = none
  nd : (L.map (·.1)).Nodup
abbrev KQ := V → Hp → HL → Prop
abbrev KB := Bool → Hp → HL → Prop
abbrev KA := List V → Hp → HL → Prop
abbrev KN := L2.St → Hp → HL → Prop
def up (Q : KQ) : VK := fun v H => ∃ B L, Sat B L H ∧ Q v B L
def upB (Q : KB) : Bool → Hp → Prop := fun v H => ∃ B L, Sat B L H ∧ Q v B L
def upA (Q : KA) : List V → Hp → Prop := fun v H => ∃ B L, Sat B L H ∧ Q v B L
def upN (Q : KN) : L2.St → Hp → Prop := fun v H => ∃ B L, Sat B L H ∧ Q v B L
structure KD where
  nx : KN
  rt : KQ
  bk : KN := fun _ _ _ => False
  ct : KN := fun _ _ _ => False
def KD.dn (D : KD) : Ends := { nx := upN D.nx, rt := up D.rt, bk := upN D.bk, ct := upN D.ct }

section
variable (X : Cx)
def kE (e : Expr) (σ : L2.St) (B : Hp) (L : HL) (Q : KQ) : Prop :=
  ∃ te, PE X e te ∧ ∀ H, Sat B L H → te σ H (up Q)
def kT (e : Expr) (σ : L2.St) (B : Hp) (L : HL) (Q : KB) : Prop :=
  ∃ te, PT X e te ∧ ∀ H, Sat B L H → te σ H (upB Q)
def kW (e : Expr) (σ : L2.St) (B : Hp) (L : HL) (Q : KB) : Prop :=
  ∃ te, PW X e te ∧ ∀ H, Sat B L H → te σ H (upB Q)
def kA (es : List Expr) (σ : L2.St) (B : Hp) (L : HL) (Q : KA) : Prop :=
  ∃ te, PA X es te ∧ ∀ H, Sat B L H → te σ H (upA Q)
def kS (st : Stmt) (σ : L2.St) (B : Hp) (L : HL) (D : KD) : Prop :=
  ∃ t, PS X st t ∧ ∀ H, Sat B L H → t D.dn σ H
def kSs (st : List Stmt) (σ : L2.St) (B : Hp) (L : HL) (D : KD) : Prop :=
  ∃ t, PSs X st t ∧ ∀ H, Sat B L H → t D.dn σ H
def kG (tg : Expr) (v : V) (σ : L2.St) (B : Hp) (L : HL) (Q : KN) : Prop :=
  ∃ t, PG X tg t ∧ ∀ H, Sat B L H → t v σ H (upN Q)
def kGs (ts : List Expr) (vs : List V) (σ : L2.St) (B : Hp) (L : HL) (Q : KN) : Prop :=
  ∃ t, PGs X ts t ∧ ∀ H, Sat B L H → t vs σ H (upN Q)
/-- the canonical readings -/
def cE (e : Expr) : TE := fun σ H Q => ∃ B L Q', Sat B L H ∧ kE X e σ B L Q' ∧ ∀ v H', up Q' v H' → Q v H'
def cT (e : Expr) : TT := fun σ H Q => ∃ B L Q', Sat B L H ∧ kT X e σ B L Q' ∧ ∀ v H', upB Q' v H' → Q v H'
def cW (e : Expr) : TT := fun σ H Q => ∃ B L Q', Sat B L H ∧ kW X e σ B L Q' ∧ ∀ v H', upB Q' v H' → Q v H'
def cA (e : List Expr) : TA := fun σ H Q => ∃ B L Q', Sat B L H ∧ kA X e σ B L Q' ∧ ∀ v H', upA Q' v H' → Q v H'
def cS (st : Stmt) : TS := fun E σ H => ∃ B L D, Sat B L H ∧ kS X st σ B L D ∧ (∀ σ' H', upN D.nx σ' H' → E.nx σ' H') ∧ (∀ v H', up D.rt v H' → E.rt v H') ∧ (∀ σ' H', upN D.bk σ' H' → E.bk σ' H') ∧ (∀ σ' H', upN D.ct σ' H' → E.ct σ' H')
def cSs (st : List Stmt) : TS := fun E σ H => ∃ B L D, Sat B L H ∧ kSs X st σ B L D ∧ (∀ σ' H', upN D.nx σ' H' → E.nx σ' H') ∧ (∀ v H', up D.rt v H' → E.rt v H') ∧ (∀ σ' H', upN D.bk σ' H' → E.bk σ' H') ∧ (∀ σ' H', upN D.ct σ' H' → E.ct σ' H')
def cG (tg : Expr) : TG := fun v σ H Q => ∃ B L Q', Sat B L H ∧ kG X tg v σ B L Q' ∧ ∀ σ' H', upN Q' σ' H' → Q σ' H'
def cGs (tg : List Expr) : TGs := fun v σ H Q => ∃ B L Q', Sat B L H ∧ kGs X tg v σ B L Q' ∧ ∀ σ' H', upN Q' σ' H' → Q σ' H'
end
section
variable {X : Cx} {σ : L2.St} {B : Hp} {L : HL}
theorem pe_c {e : Expr} : PE X e (cE X e) := ⟨fun pins s σ H Q I ⟨B, L, Q', sat, ⟨te, h, q⟩, m⟩ =>
  thn (h.run pins s σ H _ I (q H sat)) fun _ _ ⟨v, H', I', r, z⟩ => ⟨v, H', I', r, m v H' z⟩⟩
theorem pt_c {e : Expr} : PT X e (cT X e) := ⟨fun pins s σ H Q I ⟨B, L, Q', sat, ⟨te, h, q⟩, m⟩ =>
  thn (h.run pins s σ H _ I (q H sat)) fun _ _ ⟨H', I', z⟩ => ⟨H', I', m _ H' z⟩⟩
theorem pw_c {e : Expr} : PW X e (cW X e) := ⟨fun wh pins s σ H Q I ⟨B, L, Q', sat, ⟨te, h, q⟩, m⟩ =>
  thn (h.run wh pins s σ H _ I (q H sat)) fun _ _ ⟨H', I', z⟩ => ⟨H', I', m _ H' z⟩⟩
theorem pa_c {e : List Expr} : PA X e (cA X e) := ⟨fun pos pins s σ H Q I ⟨B, L, Q', sat, ⟨te, h, q⟩, m⟩ =>
  thn (h.run pos pins s σ H _ I (q H sat)) fun _ _ ⟨v, H', I', r, z⟩ => ⟨v, H', I', r, m v H' z⟩⟩
theorem sp_mono {pins : List (Addr × Obj)} {E E' : Ends} (h1 : ∀ σ' H', E.nx σ' H' → E'.nx σ' H') (h2 : ∀ v H', E.rt v H' → E'.rt v H') (h3 : ∀ σ' H', E.bk σ' H' → E'.bk σ' H') (h4 : ∀ σ' H', E.ct σ' H' → E'.ct σ' H') {f : Flow} {s' : Shared} (h : SP X pins E f s') : SP X pins E' f s' := by
  cases f with
  | next => obtain ⟨σ', H', I, q⟩ := h; exact ⟨σ', H', I, h1 _ _ q⟩
  | brk => obtain ⟨σ', H', I, q⟩ := h; exact ⟨σ', H', I, h3 _ _ q⟩
  | cont => obtain ⟨σ', H', I, q⟩ := h; exact ⟨σ', H', I, h4 _ _ q⟩
  | ret u => obtain ⟨v, σ', H', I, r, q⟩ := h; exact ⟨v, σ', H', I, r, h2 _ _ q⟩
theorem ps_c {st : Stmt} : PS X st (cS X st) := ⟨fun pins s σ H E I ⟨B, L, D, sat, ⟨te, h, q⟩, m1, m2, m3, m4⟩ =>
  thn (h.run pins s σ H D.dn I (q H sat)) fun _ _ z => sp_mono m1 m2 m3 m4 z⟩
theorem pss_c {st : List Stmt} : PSs X st (cSs X st) := ⟨fun pins s σ H E I ⟨B, L, D, sat, ⟨te, h, q⟩, m1, m2, m3, m4⟩ =>
  thn (h.run pins s σ H D.dn I (q H sat)) fun _ _ z => sp_mono m1 m2 m3 m4 z⟩
theorem pg_c {tg : Expr} : PG X tg (cG X tg) := ⟨fun pins s σ H v u Q I r ⟨B, L, Q', sat, ⟨te, h, q⟩, m⟩ =>
  thn (h.run pins s σ H v u _ I r (q H sat)) fun _ _ ⟨σ', H', I', z⟩ => ⟨σ', H', I', m σ' H' z⟩⟩
theorem pgs_c {tg : List Expr} : PGs X tg (cGs X tg) := ⟨fun pins s σ H v u Q I r ⟨B, L, Q', sat, ⟨te, h, q⟩, m⟩ =>
  thn (h.run pins s σ H v u _ I r (q H sat)) fun _ _ ⟨σ', H', I', z⟩ => ⟨σ', H', I', m σ' H' z⟩⟩

/-- from a canonical reading's place to the judgement -/
theorem toE {e : Expr} {H : Hp} {Q' : KQ} {Q : VK} (sat : Sat B L H) (h : kE X e σ B L Q') (m : ∀ v H' B' L', Sat B' L' H' → Q' v B' L' → Q v H') : cE X e σ H Q :=
  ⟨B, L, Q', sat, h, fun v H' ⟨B', L', s, q⟩ => m v H' B' L' s q⟩
theorem toT {e : Expr} {H : Hp} {Q' : KB} {Q : Bool → Hp → Prop} (sat : Sat B L H) (h : kT X e σ B L Q') (m : ∀ v H' B' L', Sat B' L' H' → Q' v B' L' → Q v H') : cT X e σ H Q :=
  ⟨B, L, Q', sat, h, fun v H' ⟨B', L', s, q⟩ => m v H' B' L' s q⟩
theorem toW {e : Expr} {H : Hp} {Q' : KB} {Q : Bool → Hp → Prop} (sat : Sat B L H) (h : kW X e σ B L Q') (m : ∀ v H' B' L', Sat B' L' H' → Q' v B' L' → Q v H') : cW X e σ H Q :=
  ⟨B, L, Q', sat, h, fun v H' ⟨B', L', s, q⟩ => m v H' B' L' s q⟩
theorem toA {e : List Expr} {H : Hp} {Q' : KA} {Q : List V → Hp → Prop} (sat : Sat B L H) (h : kA X e σ B L Q') (m : ∀ v H' B' L', Sat B' L' H' → Q' v B' L' → Q v H') : cA X e σ H Q :=
  ⟨B, L, Q', sat, h, fun v H' ⟨B', L', s, q⟩ => m v H' B' L' s q⟩
theorem toG {tg : Expr} {v : V} {H : Hp} {Q' : KN} {Q : L2.St → Hp → Prop} (sat : Sat B L H) (h : kG X tg v σ B L Q') (m : ∀ σ' H' B' L', Sat B' L' H' → Q' σ' B' L' → Q σ' H') : cG X tg v σ H Q :=
  ⟨B, L, Q', sat, h, fun v H' ⟨B', L', s, q⟩ => m v H' B' L' s q⟩
theorem toGs {tg : List Expr} {v : List V} {H : Hp} {Q' : KN} {Q : L2.St → Hp → Prop} (sat : Sat B L H) (h : kGs X tg v σ B L Q') (m : ∀ σ' H' B' L', Sat B' L' H' → Q' σ' B' L' → Q σ' H') : cGs X tg v σ H Q :=
  ⟨B, L, Q', sat, h, fun v H' ⟨B', L', s, q⟩ => m v H' B' L' s q⟩
theorem toS {st : Stmt} {H : Hp} {D : KD} {E : Ends} (sat : Sat B L H) (h : kS X st σ B L D) (m1 : ∀ σ' H' B' L', Sat B' L' H' → D.nx σ' B' L' → E.nx σ' H') (m2 : ∀ v H', up D.rt v H' → E.rt v H') (m3 : ∀ σ' H', upN D.bk σ' H' → E.bk σ' H') (m4 : ∀ σ' H', upN D.ct σ' H' → E.ct σ' H') : cS X st E σ H :=
  ⟨B, L, D, sat, h, fun v H' ⟨B', L', s, q⟩ => m1 v H' B' L' s q, m2, m3, m4⟩
theorem toSs {st : List Stmt} {H : Hp} {D : KD} {E : Ends} (sat : Sat B L H) (h : kSs X st σ B L D) (m1 : ∀ σ' H', upN D.nx σ' H' → E.nx σ' H') (m2 : ∀ v H', up D.rt v H' → E.rt v H') (m3 : ∀ σ' H', upN D.bk σ' H' → E.bk σ' H') (m4 : ∀ σ' H', upN D.ct σ' H' → E.ct σ' H') : cSs X st E σ H :=
  ⟨B, L, D, sat, h, m1, m2, m3, m4⟩
theorem toSs0 {st : List Stmt} {H : Hp} {D : KD} (sat : Sat B L H) (h : kSs X st σ B L D) : cSs X st D.dn σ H :=
  ⟨B, L, D, sat, h, fun _ _ q => q, fun _ _ q => q, fun _ _ q => q, fun _ _ q => q⟩

/-! ### blocks, simple statements -/
variable {D : KD} {st : Stmt} {rest : List Stmt} {pos : Pos} {e a b c : Expr} {Q : KQ}
theorem k_nil (q : D.nx σ B L) : kSs X [] σ B L D := ⟨_, pss_nil, fun H sat => ⟨B, L, sat, q⟩⟩
theorem k_cons (h : kS X st σ B L { D with nx := fun σ' B' L' => kSs X rest σ' B' L' D }) : kSs X (st :: rest) σ B L D :=
  ⟨_, pss_cons ps_c pss_c, fun H sat => toS sat h (fun _ _ _ _ s q => toSs0 s q) (fun _ _ q => q) (fun _ _ q => q) (fun _ _ q => q)⟩
theorem k_one (h : kS X st σ B L D) : kSs X [st] σ B L D := ⟨_, pss_one ps_c, fun H sat => toS sat h (fun _ _ _ _ s q => ⟨_, _, s, q⟩) (fun _ _ q => q) (fun _ _ q => q) (fun _ _ q => q)⟩
theorem k_ret (h : kE X e σ B L D.rt) : kS X (.Return (some e) pos) σ B L D := ⟨_, ps_ret pe_c, fun H sat => toE sat h fun _ _ _ _ s q => ⟨_, _, s, q⟩⟩
theorem k_expr (h : kE X e σ B L fun _ B' L' => D.nx σ B' L') (hs : swapsWith e none pos.line X.env = pure false := by rfl) : kS X (.Expr e pos) σ B L D :=
  ⟨_, ps_expr pe_c hs, fun H sat => toE sat h fun _ _ _ _ s q => ⟨_, _, s, q⟩⟩
theorem k_pass (h : D.nx σ B L) : kS X (.Pass pos) σ B L D := ⟨_, ps_pass, fun H sat => ⟨_, _, sat, h⟩⟩
theorem k_break (h : D.bk σ B L) : kS X (.Break pos) σ B L D := ⟨_, ps_break, fun H sat => ⟨_, _, sat, h⟩⟩
theorem k_continue (h : D.ct σ B L) : kS X (.Continue pos) σ B L D := ⟨_, ps_continue, fun H sat => ⟨_, _, sat, h⟩⟩
theorem k_if {t u : List Stmt} (h : kT X c σ B L fun k B' L' => (k = true → kSs X t σ B' L' D) ∧ (k = false → kSs X u σ B' L' D)) : kS X (.If c t u pos) σ B L D :=
  ⟨_, ps_if pt_c pss_c pss_c, fun H sat => toT sat h fun k H' B' L' s q => by
    cases k with
    | true => exact toSs0 s (q.1 rfl)
    | false => exact toSs0 s (q.2 rfl)⟩
theorem k_set (i : Nat) {x : Str} {pos' : Pos} (h : kE X e σ B L fun v B' L' => D.nx (σ.set i (some v)) B' L') (hN : X.N.Nodup) (hi : X.N[i]? = some x := by rfl) (hx : Loc X.env.scope x := by first | exact Or.inl rfl | exact Or.inr rfl) (hs : swapsWith e (some (.Name x pos')) pos.line X.env = pure false := by rfl)
    (hf : X.fn x = true ∨ X.env.scope.names.lookup x = some .local := by first | exact .inl rfl | exact .inr rfl | assumption) : kS X (.Assign [.Name x pos'] e pos) σ B L D :=
  ⟨_, ps_set hN hi hx pe_c hs hf, fun H sat => toE sat h fun _ _ _ _ s q => ⟨_, _, s, q⟩⟩
theorem k_asg {tg : Expr} (h : kE X e σ B L fun v B' L' => kG X tg v σ B' L' D.nx) (hs : swapsWithSole [tg] e pos.line X.env = pure false := by rfl) (hw : swappedStores [tg] e X.env = pure none := by rfl)
    (h1 : (assignEach [tg] X.env).map (·.2) = [assign tg X.env] := by rfl) : kS X (.Assign [tg] e pos) σ B L D :=
  ⟨_, ps_asg pe_c pg_c hs hw h1, fun H sat => toE sat h fun _ _ _ _ s q => toG s q fun _ _ _ _ s q => ⟨_, _, s, q⟩⟩
theorem g_name (i : Nat) {x : Str} {v : V} {Q : KN} (q : Q (σ.set i (some v)) B L) (hN : X.N.Nodup) (hi : X.N[i]? = some x := by rfl) (hx : Loc X.env.scope x := by first | exact Or.inl rfl | exact Or.inr rfl)
    (hf : X.fn x = true ∨ X.env.scope.names.lookup x = some .local := by first | exact .inl rfl | exact .inr rfl | assumption) : kG X (.Name x pos) v σ B L Q :=
  ⟨_, pg_name hN hi hx hf, fun H sat => ⟨_, _, sat, q⟩⟩
theorem gs_nil {Q : KN} (q : Q σ B L) : kGs X [] [] σ B L Q := ⟨_, pgs_nil, fun H sat => ⟨rfl, _, _, sat, q⟩⟩
theorem gs_cons {t : Expr} {ts : List Expr} {v : V} {vs : List V} {Q : KN} (h : kG X t v σ B L fun σ' B' L' => kGs X ts vs σ' B' L' Q) (hs : (assignEach (t :: ts) X.env).map (·.2) = assign t X.env :: (assignEach ts X.env).map (·.2) := by rfl) : kGs X (t :: ts) (v :: vs) σ B L Q :=
  ⟨_, pgs_cons pg_c pgs_c hs, fun H sat => ⟨_, _, rfl, toG sat h fun _ _ _ _ s q => toGs s q fun _ _ _ _ s q => ⟨_, _, s, q⟩⟩⟩

/-! ### names and constants -/
theorem k_n (i : Nat) {x : Str} {v : V} (q : Q v B L) (hi : X.N[i]? = some x := by rfl) (hs : σ[i]? = some (some v) := by rfl) (hv : Vis X.env.scope x := by first | exact Or.inl rfl | exact Or.inr (Or.inl rfl) | exact Or.inr (Or.inr rfl)) (hd : (x == ("__debug__" : Str)) = false := by decide)
    (hcd : (x == ("__classdict__" : Str)) = false := by decide) : kE X (.Name x pos) σ B L Q := ⟨_, pe_var hi hv hd hcd, fun H sat => ⟨v, hs, _, _, sat, q⟩⟩
theorem k_int {i j} (q : Q (.int i) B L) : kE X (.Constant (.int i) j pos) σ B L Q := ⟨_, pe_int, fun H sat => ⟨_, _, sat, q⟩⟩
theorem k_bl {i j} (q : Q (.bl i) B L) : kE X (.Constant (.bool i) j pos) σ B L Q := ⟨_, pe_bl, fun H sat => ⟨_, _, sat, q⟩⟩
theorem k_non {j} (q : Q .non B L) : kE X (.Constant .none j pos) σ B L Q := ⟨_, pe_non, fun H sat => ⟨_, _, sat, q⟩⟩
theorem k_str {i j} (q : Q (.str i) B L) : kE X (.Constant (.str i) j pos) σ B L Q := ⟨_, pe_str, fun H sat => ⟨_, _, sat, q⟩⟩
/-- a module's name -/
theorem k_g {x : Str} {v : V} {u : Value} (hm : X.mg x = some u) (r : RelV v u) (q : Q v B L) (hg : Gl X x := by rfl) (hd : (x == ("__debug__" : Str)) = false := by decide) : kE X (.Name x pos) σ B L Q := ⟨_, pe_glob hg hm r hd, fun H sat => ⟨_, _, sat, q⟩⟩

/-! ### operators by values -/
def kO (X : Cx) (f : Value → Value → Sem Value) (x y : V) (B : Hp) (L : HL) (Q : KQ) : Prop := ∃ r, OpR X f r ∧ ∀ H, Sat B L H → r x y H (up Q)
def cO (X : Cx) (f : Value → Value → Sem Value) : R2 := fun x y H Q => ∃ B L Q', Sat B L H ∧ kO X f x y B L Q' ∧ ∀ v H', up Q' v H' → Q v H'
theorem or_c {f : Value → Value → Sem Value} : OpR X f (cO X f) := fun pins s σ H x y v u Q I rx ry ⟨B, L, Q', sat, ⟨r, h, q⟩, m⟩ =>
  thn (h pins s σ H x y v u _ I rx ry (q H sat)) fun _ _ ⟨v, H', I', r, z⟩ => ⟨v, H', I', r, m v H' z⟩
theorem toO {f : Value → Value → Sem Value} {x y : V} {H : Hp} {Q' : KQ} {Q : VK} (sat : Sat B L H) (h : kO X f x y B L Q') (m : ∀ v H' B' L', Sat B' L' H' → Q' v B' L' → Q v H') : cO X f x y H Q :=
  ⟨B, L, Q', sat, h, fun v H' ⟨B', L', s, q⟩ => m v H' B' L' s q⟩
theorem k_bin {op : Operator} (h : kE X a σ B L fun x B1 L1 => kE X b σ B1 L1 fun y B2 L2 => kO X (binaryOp op) x y B2 L2 Q) : kE X (.BinOp a op b pos) σ B L Q :=
  ⟨_, pe_op or_c pe_c pe_c, fun H sat => toE sat h fun _ _ _ _ s q => toE s q fun _ _ _ _ s q => toO s q fun _ _ _ _ s q => ⟨_, _, s, q⟩⟩
theorem k_cmp {op : CmpOp} (h : kE X a σ B L fun x B1 L1 => kE X b σ B1 L1 fun y B2 L2 => kO X (compareOp op) x y B2 L2 Q) (hm : behindInMarks op b = false := by first | rfl | exact nomark _) : kE X (.Compare a [op] [b] pos) σ B L Q :=
  ⟨_, pe_cmpR or_c pe_c pe_c hm, fun H sat => toE sat h fun _ _ _ _ s q => toE s q fun _ _ _ _ s q => toO s q fun _ _ _ _ s q => ⟨_, _, s, q⟩⟩
theorem t_cmp {op : CmpOp} {Q : KB} (h : kE X a σ B L fun x B1 L1 => kE X b σ B1 L1 fun y B2 L2 => kO X (compareOp op) x y B2 L2 fun z B3 L3 => ∃ k, z = .bl k ∧ Q k B3 L3) (hm : behindInMarks op b = false := by first | rfl | exact nomark _) : kT X (.Compare a [op] [b] pos) σ B L Q :=
  ⟨_, pt_cmpR or_c pe_c pe_c hm, fun H sat => toE sat h fun _ _ _ _ s q => toE s q fun _ _ _ _ s q => toO s q fun _ _ _ _ s ⟨k, e, q⟩ => ⟨k, e, _, _, s, q⟩⟩
/-- a test whose value is True or False -/
theorem t_val {Q : KB} (h : kE X e σ B L fun x B1 L1 => ∃ k, x = .bl k ∧ Q k B1 L1) (he : ∀ whole, isTrue e X.env whole = (do let v ← whole; standAt e.pos; holding [v] (truthy v)) := by intro _; rfl) : kT X e σ B L Q :=
  ⟨_, pt_val pe_c he, fun H sat => toE sat h fun _ _ _ _ s ⟨k, e, q⟩ => ⟨k, e, _, _, s, q⟩⟩
theorem t_not {Q : KB} (h : kT X a σ B L fun k B1 L1 => Q (!k) B1 L1) : kT X (.UnaryOp .Not a pos) σ B L Q := ⟨_, pt_not pt_c, fun H sat => toT sat h fun _ _ _ _ s q => ⟨_, _, s, q⟩⟩
theorem t_w {Q : KB} (h : kW X e σ B L Q) : kT X e σ B L Q := by
  obtain ⟨t, p, q⟩ := h
  exact ⟨t, p.pt, q⟩
theorem w_and {Q : KB} {es : List Expr} (h : kT X a σ B L fun k B1 L1 => (k = true → kW X (.BoolOp .And (b :: es) pos) σ B1 L1 Q) ∧ (k = false → Q false B1 L1)) : kW X (.BoolOp .And (a :: b :: es) pos) σ B L Q :=
  ⟨_, pw_and pt_c pw_c, fun H sat => toT sat h fun k H' _ _ s q => by
    cases k with
    | true => exact iteT (toW s (q.1 rfl) fun _ _ _ _ s q => ⟨_, _, s, q⟩)
    | false => exact iteF ⟨_, _, s, q.2 rfl⟩⟩
theorem w_and1 {Q : KB} (h : kT X a σ B L Q) : kW X (.BoolOp .And [a] pos) σ B L Q := ⟨_, pw_and1 pt_c, fun H sat => toT sat h fun _ _ _ _ s q => ⟨_, _, s, q⟩⟩
theorem w_or {Q : KB} {es : List Expr} (h : kT X a σ B L fun k B1 L1 => (k = false → kW X (.BoolOp .Or (b :: es) pos) σ B1 L1 Q) ∧ (k = true → Q true B1 L1)) : kW X (.BoolOp .Or (a :: b :: es) pos) σ B L Q :=
  ⟨_, pw_or pt_c pw_c, fun H sat => toT sat h fun k H' _ _ s q => by
    cases k with
    | false => exact iteF (toW s (q.1 rfl) fun _ _ _ _ s q => ⟨_, _, s, q⟩)
    | true => exact iteT ⟨_, _, s, q.2 rfl⟩⟩
theorem w_or1 {Q : KB} (h : kT X a σ B L Q) : kW X (.BoolOp .Or [a] pos) σ B L Q := ⟨_, pw_or1 pt_c, fun H sat => toT sat h fun _ _ _ _ s q => ⟨_, _, s, q⟩⟩
theorem k_and {es : List Expr} (h : kE X a σ B L fun x B1 L1 => ∃ k, x = .bl k ∧ (k = true → kE X (.BoolOp .And (b :: es) pos) σ B1 L1 Q) ∧ (k = false → Q (.bl false) B1 L1)) : kE X (.BoolOp .And (a :: b :: es) pos) σ B L Q :=
  ⟨_, pe_and pe_c pe_c, fun H sat => toE sat h fun x H' _ _ s ⟨k, e, q1, q2⟩ => ⟨k, e, by
    cases k with
    | true => exact iteT (toE s (q1 rfl) fun _ _ _ _ s q => ⟨_, _, s, q⟩)
    | false => exact iteF ⟨_, _, s, q2 rfl⟩⟩⟩
theorem k_or {es : List Expr} (h : kE X a σ B L fun x B1 L1 => ∃ k, x = .bl k ∧ (k = false → kE X (.BoolOp .Or (b :: es) pos) σ B1 L1 Q) ∧ (k = true → Q (.bl true) B1 L1)) : kE X (.BoolOp .Or (a :: b :: es) pos) σ B L Q :=
  ⟨_, pe_or pe_c pe_c, fun H sat => toE sat h fun x H' _ _ s ⟨k, e, q1, q2⟩ => ⟨k, e, by
    cases k with
    | false => exact iteF (toE s (q1 rfl) fun _ _ _ _ s q => ⟨_, _, s, q⟩)
    | true => exact iteT ⟨_, _, s, q2 rfl⟩⟩⟩
theorem k_and1 (h : kE X a σ B L Q) : kE X (.BoolOp .And [a] pos) σ B L Q := ⟨_, pe_one pe_c, fun H sat => toE sat h fun _ _ _ _ s q => ⟨_, _, s, q⟩⟩
theorem k_or1 (h : kE X a σ B L Q) : kE X (.BoolOp .Or [a] pos) σ B L Q := ⟨_, pe_one pe_c, fun H sat => toE sat h fun _ _ _ _ s q => ⟨_, _, s, q⟩⟩
theorem k_not (h : kE X a σ B L fun x B1 L1 => ∃ k, x = .bl k ∧ Q (.bl (!k)) B1 L1) : kE X (.UnaryOp .Not a pos) σ B L Q := ⟨_, pe_not pe_c, fun H sat => toE sat h fun _ _ _ _ s ⟨k, e, q⟩ => ⟨k, e, _, _, s, q⟩⟩
theorem k_ife (h : kT X c σ B L fun k B1 L1 => (k = true → kE X a σ B1 L1 Q) ∧ (k = false → kE X b σ B1 L1 Q)) : kE X (.IfExp c a b pos) σ B L Q :=
  ⟨_, pe_ifExp pt_c pe_c pe_c, fun H sat => toT sat h fun k H' _ _ s q => by
    cases k with
    | true => exact iteT (toE s (q.1 rfl) fun _ _ _ _ s q => ⟨_, _, s, q⟩)
    | false => exact iteF (toE s (q.2 rfl) fun _ _ _ _ s q => ⟨_, _, s, q⟩)⟩
end
end Kv

namespace Kv
open PySem PySem.Spec PyProof.Rows L2

/-- a text by its codes -/
abbrev sOf (l : List Nat) : Str := ⟨l.toArray⟩
theorem sOf_len (l : List Nat) : (sOf l).length = l.length := by simp [Str.length]
theorem sOf_inj {a b : List Nat} : V.str (sOf a) = V.str (sOf b) ↔ a = b := by simp [sOf]
theorem sOf_app (a b : List Nat) : sOf a ++ sOf b = sOf (a ++ b) := by
  show Str.append _ _ = _
  simp [Str.append, sOf]
theorem sOf_size (l : List Nat) : (sOf l).cps.size = l.length := by simp [sOf]
theorem small {n : Nat} (h : n ≤ 16777216) : n ≤ sizeLine := by rw [sizeLine_eq]; exact h
theorem small' {n : Nat} (h : n < 16777216) : n < sizeLine := by rw [sizeLine_eq]; exact h

section
variable {X : Cx} {σ : L2.St} {B : Hp} {L : HL} {Q : KQ} {D : KD} {pos p2 : Pos} {e a b c : Expr} {es : List Expr}
theorem Sat.keep {H H' : Hp} (s : Sat B L H) (e : ∀ b o, H b = some o → H' b = some o) : Sat B L H' := ⟨fun a o h => e a o (s.ext a o h), fun p hp => e _ _ (s.own p hp), s.nb, s.nd⟩
/-- behind a call that keeps all -/
theorem Sat.upq {H H' : Hp} {v : V} (s : Sat B L H) (e : ∀ b o, H b = some o → H' b = some o) (q : Q v B L) : up Q v H' := ⟨B, L, s.keep e, q⟩
theorem Sat.free {H : Hp} {p : Addr} (s : Sat B L H) (h : H p = none) : B p = none := by
  cases e : B p with
  | none => rfl
  | some o => rw [s.ext p o e] at h; cases h
theorem Sat.notin {H : Hp} {p : Addr} (s : Sat B L H) (h : H p = none) : p ∉ L.map (·.1) := fun hm => by
  obtain ⟨q, hq, e⟩ := List.mem_map.mp hm
  have := s.own q hq
  rw [e, h] at this
  cases this
/-- a new object -/
theorem Sat.new {H : Hp} {p : Addr} {o : HO} (s : Sat B L H) (h : H p = none) : Sat B ((p, o) :: L) (upd H p o) := by
  refine ⟨fun a u e => ?_, fun q hq => ?_, fun q hq => ?_, ?_⟩
  · rw [upd_ne (ne_of_none (s.ext a u e) h)]; exact s.ext a u e
  · rcases List.mem_cons.mp hq with e | hq
    · rw [e]; exact upd_same
    · rw [upd_ne (ne_of_none (s.own q hq) h)]; exact s.own q hq
  · rcases List.mem_cons.mp hq with e | hq
    · rw [e]; exact s.free h
    · exact s.nb q hq
  · exact List.nodup_cons.mpr ⟨s.notin h, s.nd⟩
/-- the same, the rest of the heap grown as well -/
theorem Sat.new' {H H' : Hp} {p : Addr} {o : HO} (s : Sat B L H) (h : H p = none) (e : ∀ b o, H b = some o → H' b = some o) (h' : H' p = some o) : Sat B ((p, o) :: L) H' :=
  ⟨fun a u q => e a u (s.ext a u q), fun q hq => by
    rcases List.mem_cons.mp hq with z | hq
    · rw [z]; exact h'
    · exact e _ _ (s.own q hq), fun q hq => by
    rcases List.mem_cons.mp hq with z | hq
    · rw [z]; exact s.free h
    · exact s.nb q hq, List.nodup_cons.mpr ⟨s.notin h, s.nd⟩⟩
/-- a store to an object of ours -/
theorem Sat.set {H : Hp} {p : Addr} {o o' : HO} {L1 L2 : HL} (s : Sat B (L1 ++ (p, o) :: L2) H) : Sat B (L1 ++ (p, o') :: L2) (upd H p o') := by
  have nd := s.nd
  rw [List.map_append, List.map_cons] at nd
  have hd : ∀ q ∈ L1 ++ L2, q.1 ≠ p := by
    intro q hq e
    have h1 := List.nodup_append.mp nd
    rcases List.mem_append.mp hq with h | h
    · exact h1.2.2 q.1 (List.mem_map.mpr ⟨q, h, rfl⟩) p (by simp) e
    · exact (List.nodup_cons.mp h1.2.1).1 (e ▸ List.mem_map.mpr ⟨q, h, rfl⟩)
  refine ⟨fun a u e => ?_, fun q hq => ?_, fun q hq => ?_, by rw [List.map_append, List.map_cons]; exact nd⟩
  · have hp := s.nb (p, o) (by simp)
    rw [upd_ne (fun z => by rw [z, hp] at e; cases e)]; exact s.ext a u e
  · rcases List.mem_append.mp hq with h | h
    · rw [upd_ne (hd q (List.mem_append_left _ h))]; exact s.own q (List.mem_append_left _ h)
    · rcases List.mem_cons.mp h with z | h
      · rw [z]; exact upd_same
      · rw [upd_ne (hd q (List.mem_append_right _ h))]; exact s.own q (List.mem_append_right _ (List.mem_cons_of_mem _ h))
  · rcases List.mem_append.mp hq with h | h
    · exact s.nb q (List.mem_append_left _ h)
    · rcases List.mem_cons.mp h with z | h
      · rw [z]; exact s.nb (p, o) (by simp)
      · exact s.nb q (List.mem_append_right _ (List.mem_cons_of_mem _ h))
/-- forget an object of ours -/
theorem Sat.drop {H : Hp} {p : Addr × HO} (s : Sat B (p :: L) H) : Sat B L H := ⟨s.ext, fun q hq => s.own q (List.mem_cons_of_mem _ hq), fun q hq => s.nb q (List.mem_cons_of_mem _ hq), (List.nodup_cons.mp s.nd).2⟩
theorem Sat.whole {H : Hp} : Sat H [] H := ⟨fun _ _ h => h, fun _ h => (by cases h), fun _ h => (by cases h), List.nodup_nil⟩
/-- the whole heap is the base -/
theorem Sat.base {H : Hp} (s : Sat B L H) : ∃ B', (∀ a o, B a = some o → B' a = some o) ∧ (∀ p ∈ L, B' p.1 = some p.2) ∧ Sat B' [] H := ⟨H, s.ext, s.own, Sat.whole⟩

/-- a list, a tuple that is read: of the base, or ours -/
def Ls (K : PySem.W.Frag) (B : Hp) (L : HL) (a : Addr) (xs : List V) : Prop := SqL K B a xs ∨ (a, HO.lst xs) ∈ L
def Tp (K : PySem.W.Frag) (B : Hp) (L : HL) (a : Addr) (xs : List V) : Prop := SqT K B a xs ∨ (a, HO.tup xs) ∈ L
theorem ext_l {K : PySem.W.Frag} {H H' : Hp} {a : Addr} {xs : List V} (e : ∀ b o, H b = some o → H' b = some o) (h : SqL K H a xs) : SqL K H' a xs := by
  rcases h with (h | ⟨o, h⟩) | h
  · exact .inl (.inl (e _ _ h))
  · exact .inl (.inr ⟨o, e _ _ h⟩)
  · exact .inr h
theorem ext_t {K : PySem.W.Frag} {H H' : Hp} {a : Addr} {xs : List V} (e : ∀ b o, H b = some o → H' b = some o) (h : SqT K H a xs) : SqT K H' a xs := by
  rcases h with (h | ⟨o, h⟩) | h
  · exact .inl (.inl (e _ _ h))
  · exact .inl (.inr ⟨o, e _ _ h⟩)
  · exact .inr h
theorem Ls.at {K : PySem.W.Frag} {H : Hp} {p : Addr} {xs : List V} (h : Ls K B L p xs) (s : Sat B L H) : SqL K H p xs := by
  rcases h with h | h
  · exact ext_l s.ext h
  · exact .inl (.inl (s.own _ h))
theorem Tp.at {K : PySem.W.Frag} {H : Hp} {p : Addr} {xs : List V} (h : Tp K B L p xs) (s : Sat B L H) : SqT K H p xs := by
  rcases h with h | h
  · exact ext_t s.ext h
  · exact .inl (.inl (s.own _ h))

/-! ### values' operators -/
theorem o_of {f : Value → Value → Sem Value} {x y : V} {r : R2} (h : OpR X f r) (q : ∀ H, Sat B L H → r x y H (up Q)) : kO X f x y B L Q := ⟨r, h, q⟩
theorem o_add {i j : Int} (q : Q (.int (i + j)) B L) : kO X (binaryOp .Add) (.int i) (.int j) B L Q := ⟨_, op_add, fun H s => ⟨i, j, rfl, rfl, _, _, s, q⟩⟩
theorem o_sub {i j : Int} (q : Q (.int (i - j)) B L) : kO X (binaryOp .Sub) (.int i) (.int j) B L Q := ⟨_, op_sub, fun H s => ⟨i, j, rfl, rfl, _, _, s, q⟩⟩
theorem o_mul {i j : Int} (q : Q (.int (i * j)) B L) (h : CMul i j) : kO X (binaryOp .Mult) (.int i) (.int j) B L Q := ⟨_, op_mul, fun H s => ⟨i, j, rfl, rfl, h, _, _, s, q⟩⟩
theorem o_mod {i j : Int} (q : Q (.int (i % j)) B L) (h : 0 < j) : kO X (binaryOp .Mod) (.int i) (.int j) B L Q := ⟨_, op_mod, fun H s => ⟨i, j, rfl, rfl, h, _, _, s, q⟩⟩
theorem o_fdiv {i j : Int} (q : Q (.int (i / j)) B L) (h : 0 < j ∧ j < 1073741824) : kO X (binaryOp .FloorDiv) (.int i) (.int j) B L Q := ⟨_, op_fdiv, fun H s => ⟨i, j, rfl, rfl, h, _, _, s, q⟩⟩
theorem o_pow {i j : Int} (q : Q (.int (i ^ j.toNat)) B L) (h : CPow i j) : kO X (binaryOp .Pow) (.int i) (.int j) B L Q := ⟨_, op_pow, fun H s => ⟨i, j, rfl, rfl, h, _, _, s, q⟩⟩
theorem o_adds {i j : List Nat} (q : Q (.str (sOf (i ++ j))) B L) (h : i.length + j.length ≤ 16777216) : kO X (binaryOp .Add) (.str (sOf i)) (.str (sOf j)) B L Q :=
  ⟨_, op_add_str, fun H s => ⟨_, _, rfl, rfl, by rw [sOf_len, sOf_len]; exact small h, by rw [sOf_app]; exact ⟨_, _, s, q⟩⟩⟩
theorem o_lt {i j : Int} (q : Q (.bl (decide (i < j))) B L) : kO X (compareOp .Lt) (.int i) (.int j) B L Q := ⟨_, op_lt, fun H s => ⟨i, j, rfl, rfl, _, _, s, q⟩⟩
theorem o_le {i j : Int} (q : Q (.bl (decide (i ≤ j))) B L) : kO X (compareOp .LtE) (.int i) (.int j) B L Q := ⟨_, op_le, fun H s => ⟨i, j, rfl, rfl, _, _, s, q⟩⟩
theorem o_gt {i j : Int} (q : Q (.bl (decide (j < i))) B L) : kO X (compareOp .Gt) (.int i) (.int j) B L Q := ⟨_, op_gt, fun H s => ⟨i, j, rfl, rfl, _, _, s, q⟩⟩
theorem o_ge {i j : Int} (q : Q (.bl (decide (j ≤ i))) B L) : kO X (compareOp .GtE) (.int i) (.int j) B L Q := ⟨_, op_ge, fun H s => ⟨i, j, rfl, rfl, _, _, s, q⟩⟩
theorem o_eqi {i j : Int} (q : Q (.bl (decide (i = j))) B L) : kO X (compareOp .Eq) (.int i) (.int j) B L Q := ⟨_, op_eq, fun H s => ⟨rfl, _, _, s, by
  have e : decide (V.int i = V.int j) = decide (i = j) := by simp
  rw [e]; exact q⟩⟩
theorem o_nei {i j : Int} (q : Q (.bl (!decide (i = j))) B L) : kO X (compareOp .NotEq) (.int i) (.int j) B L Q := ⟨_, op_ne, fun H s => ⟨rfl, _, _, s, by
  have e : decide (V.int i = V.int j) = decide (i = j) := by simp
  rw [e]; exact q⟩⟩
theorem o_eqs {i j : List Nat} (q : Q (.bl (decide (i = j))) B L) : kO X (compareOp .Eq) (.str (sOf i)) (.str (sOf j)) B L Q := ⟨_, op_eq, fun H s => ⟨rfl, _, _, s, by
  have e : decide (V.str (sOf i) = V.str (sOf j)) = decide (i = j) := by simp
  rw [e]; exact q⟩⟩
theorem o_nes {i j : List Nat} (q : Q (.bl (!decide (i = j))) B L) : kO X (compareOp .NotEq) (.str (sOf i)) (.str (sOf j)) B L Q := ⟨_, op_ne, fun H s => ⟨rfl, _, _, s, by
  have e : decide (V.str (sOf i) = V.str (sOf j)) = decide (i = j) := by simp
  rw [e]; exact q⟩⟩
theorem o_eqb {i j : Bool} (q : Q (.bl (decide (i = j))) B L) : kO X (compareOp .Eq) (.bl i) (.bl j) B L Q := ⟨_, op_eq, fun H s => ⟨rfl, _, _, s, by
  have e : decide (V.bl i = V.bl j) = decide (i = j) := by simp
  rw [e]; exact q⟩⟩
theorem o_neb {i j : Bool} (q : Q (.bl (!decide (i = j))) B L) : kO X (compareOp .NotEq) (.bl i) (.bl j) B L Q := ⟨_, op_ne, fun H s => ⟨rfl, _, _, s, by
  have e : decide (V.bl i = V.bl j) = decide (i = j) := by simp
  rw [e]; exact q⟩⟩
/-- one sign in a text -/
theorem o_ins {i : Nat} {l : List Nat} (q : Q (.bl (decide (i ∈ l))) B L) : kO X (compareOp .In) (.str (sOf [i])) (.str (sOf l)) B L Q := ⟨_, op_in_sign, fun H s => ⟨i, _, rfl, rfl, _, _, s, q⟩⟩
theorem o_nins {i : Nat} {l : List Nat} (q : Q (.bl (!decide (i ∈ l))) B L) : kO X (compareOp .NotIn) (.str (sOf [i])) (.str (sOf l)) B L Q := ⟨_, op_notIn_sign, fun H s => ⟨i, _, rfl, rfl, _, _, s, q⟩⟩
theorem o_isN {x : V} (q : Q (.bl (decide (x = .non))) B L) : kO X (compareOp .Is) x .non B L Q := ⟨_, op_isN, fun H s => ⟨rfl, _, _, s, q⟩⟩
theorem o_notN {x : V} (q : Q (.bl (!decide (x = .non))) B L) : kO X (compareOp .IsNot) x .non B L Q := ⟨_, op_notN, fun H s => ⟨rfl, _, _, s, q⟩⟩

/-! ### arguments, displays -/
theorem a_nil {Q : KA} (q : Q [] B L) : kA X [] σ B L Q := ⟨_, pa_nil, fun H s => ⟨_, _, s, q⟩⟩
theorem a_cons {Q : KA} (h : kE X e σ B L fun v B1 L1 => kA X es σ B1 L1 fun vs B2 L2 => Q (v :: vs) B2 L2) (hs : starEach (e :: es) X.env = (false, eval e X.env) :: starEach es X.env := by rfl) : kA X (e :: es) σ B L Q :=
  ⟨_, pa_cons pe_c pa_c hs, fun H s => toE s h fun _ _ _ _ s q => toA s q fun _ _ _ _ s q => ⟨_, _, s, q⟩⟩
theorem k_tup {x1} (h : kA X es σ B L fun vs B1 L1 => vs.length ≤ 16777216 ∧ ∀ p, Q (.ref p) B1 ((p, .tup vs) :: L1)) : kE X (.Tuple es x1 pos) σ B L Q :=
  ⟨_, pe_tup pa_c, fun H s => toA s h fun _ _ _ _ s q => ⟨small q.1, fun p hp => ⟨_, _, s.new hp, q.2 p⟩⟩⟩
theorem k_lst (h : kA X es σ B L fun vs B1 L1 => vs.length ≤ 16777216 ∧ ∀ p, Q (.ref p) B1 ((p, .lst vs) :: L1)) : kE X (.List es pos) σ B L Q :=
  ⟨_, pe_lst pa_c, fun H s => toA s h fun _ _ _ _ s q => ⟨small q.1, fun p hp => ⟨_, _, s.new hp, q.2 p⟩⟩⟩

/-! ### calls by values -/
def kC (X : Cx) (f : Value) (vs : List V) (B : Hp) (L : HL) (Q : KQ) : Prop := ∃ r, CallR X f r ∧ ∀ H, Sat B L H → r vs H (up Q)
def cC (X : Cx) (f : Value) : List V → Hp → VK → Prop := fun vs H Q => ∃ B L Q', Sat B L H ∧ kC X f vs B L Q' ∧ ∀ v H', up Q' v H' → Q v H'
theorem cr_c {f : Value} : CallR X f (cC X f) := fun pins s σ H xs us Q I r ⟨B, L, Q', sat, ⟨k, h, q⟩, m⟩ =>
  thn (h pins s σ H xs us _ I r (q H sat)) fun _ _ ⟨v, H', I', r, z⟩ => ⟨v, H', I', r, m v H' z⟩
theorem toC {f : Value} {vs : List V} {H : Hp} {Q' : KQ} {Q : VK} (sat : Sat B L H) (h : kC X f vs B L Q') (m : ∀ v H' B' L', Sat B' L' H' → Q' v B' L' → Q v H') : cC X f vs H Q :=
  ⟨B, L, Q', sat, h, fun v H' ⟨B', L', s, q⟩ => m v H' B' L' s q⟩
theorem k_callB {x : Str} {id : String} (hm : X.mg x = none) (h : kA X (e :: es) σ B L fun vs B1 L1 => kC X (.builtin id) vs B1 L1 Q) (hv : bootBuiltins x = some (.builtin id) := by decide +kernel) (hg : Gl X x := by rfl) (hn : x ≠ "__name__" := by decide) (hdb : (x == ("__debug__" : Str)) = false := by decide)
    (he : starEach (e :: es) X.env = (false, eval e X.env) :: starEach es X.env := by rfl) (hpl : (backTo pos (starEach es X.env)).any (·.1) = false := by rfl) : kE X (.Call (.Name x p2) (e :: es) [] pos) σ B L Q :=
  ⟨_, pe_callB cr_c hg hm hv pa_c hn hdb he hpl, fun H s => toA s h fun _ _ _ _ s q => toC s q fun _ _ _ _ s q => ⟨_, _, s, q⟩⟩
theorem k_callT {x : Str} {T : String} (hm : X.mg x = none) (h : kA X (e :: es) σ B L fun vs B1 L1 => kC X (.type T) vs B1 L1 Q) (hv : bootBuiltins x = some (.type T) := by decide +kernel) (hg : Gl X x := by rfl) (hn : x ≠ "__name__" := by decide) (hdb : (x == ("__debug__" : Str)) = false := by decide)
    (he : starEach (e :: es) X.env = (false, eval e X.env) :: starEach es X.env := by rfl) (hpl : (backTo pos (starEach es X.env)).any (·.1) = false := by rfl) : kE X (.Call (.Name x p2) (e :: es) [] pos) σ B L Q :=
  ⟨_, pe_callTy cr_c hg hm hv pa_c hn hdb he hpl, fun H s => toA s h fun _ _ _ _ s q => toC s q fun _ _ _ _ s q => ⟨_, _, s, q⟩⟩
theorem c_lens {l : List Nat} (q : Q (.int l.length) B L) (h : l.length ≤ 16777216) : kC X (.builtin "len") [.str (sOf l)] B L Q := ⟨_, call_len_str, fun H s => ⟨_, rfl, by rw [sOf_len]; exact small h, by rw [sOf_len]; exact ⟨_, _, s, q⟩⟩⟩
theorem c_lenl {p : Addr} {xs : List V} (h : Ls X.K B L p xs) (q : Q (.int xs.length) B L) : kC X (.builtin "len") [.ref p] B L Q := ⟨_, call_len_seq, fun H s => ⟨p, xs, rfl, .inl (h.at s), _, _, s, q⟩⟩
theorem c_lent {p : Addr} {xs : List V} (h : Tp X.K B L p xs) (q : Q (.int xs.length) B L) : kC X (.builtin "len") [.ref p] B L Q := ⟨_, call_len_seq, fun H s => ⟨p, xs, rfl, .inr (h.at s), _, _, s, q⟩⟩
theorem c_abs {i : Int} (q : Q (.int (if i < 0 then -i else i)) B L) : kC X (.builtin "abs") [.int i] B L Q := ⟨_, call_abs, fun H s => ⟨i, rfl, _, _, s, q⟩⟩
theorem c_min2 {i j : Int} (q : Q (.int (if j < i then j else i)) B L) (hc : X.calm = true := by rfl) : kC X (.builtin "min") [.int i, .int j] B L Q := ⟨_, call_min2 hc, fun H s => ⟨i, j, rfl, _, _, s, q⟩⟩
theorem c_max2 {i j : Int} (q : Q (.int (if j > i then j else i)) B L) (hc : X.calm = true := by rfl) : kC X (.builtin "max") [.int i, .int j] B L Q := ⟨_, call_max2 hc, fun H s => ⟨i, j, rfl, _, _, s, q⟩⟩
theorem c_intb {k : Bool} (q : Q (.int (if k then 1 else 0)) B L) : kC X (.type "int") [.bl k] B L Q := ⟨_, call_int1, fun H s => .inr ⟨k, rfl, _, _, s, q⟩⟩
theorem c_listl {p : Addr} {xs : List V} (h : Ls X.K B L p xs) (q : ∀ l, Q (.ref l) B ((l, .lst xs) :: L)) : kC X (.type "list") [.ref p] B L Q := ⟨_, call_list_of, fun H s => ⟨p, xs, rfl, .inl (h.at s), fun l hl => ⟨_, _, s.new hl, q l⟩⟩⟩
theorem c_listt {p : Addr} {xs : List V} (h : Tp X.K B L p xs) (q : ∀ l, Q (.ref l) B ((l, .lst xs) :: L)) : kC X (.type "list") [.ref p] B L Q := ⟨_, call_list_of, fun H s => ⟨p, xs, rfl, .inr (h.at s), fun l hl => ⟨_, _, s.new hl, q l⟩⟩⟩
theorem c_tupl {p : Addr} {xs : List V} (h : Ls X.K B L p xs) (q : ∀ l, Q (.ref l) B ((l, .tup xs) :: L)) : kC X (.type "tuple") [.ref p] B L Q := ⟨_, call_tuple_of, fun H s => ⟨p, xs, rfl, .inl ⟨h.at s, fun l hl => ⟨_, _, s.new hl, q l⟩⟩⟩⟩
theorem c_all {p : Addr} {bs : List Bool} (h : Ls X.K B L p (bs.map V.bl)) (q : Q (.bl (bs.all id)) B L) (hc : X.calm = true := by rfl) : kC X (.builtin "all") [.ref p] B L Q := ⟨_, cr_all hc, fun H s => ⟨p, bs, rfl, h.at s, _, _, s, q⟩⟩
theorem c_any {p : Addr} {bs : List Bool} (h : Ls X.K B L p (bs.map V.bl)) (q : Q (.bl (bs.any id)) B L) (hc : X.calm = true := by rfl) : kC X (.builtin "any") [.ref p] B L Q := ⟨_, cr_any hc, fun H s => ⟨p, bs, rfl, h.at s, _, _, s, q⟩⟩
theorem c_sum {p : Addr} {ns : List Int} (h : Ls X.K B L p (ns.map V.int)) (q : Q (.int ns.sum) B L) (hc : X.calm = true := by rfl) : kC X (.builtin "sum") [.ref p] B L Q := ⟨_, cr_sum hc, fun H s => ⟨p, ns, rfl, h.at s, _, _, s, q⟩⟩
theorem c_isi {x c : V} {t u : Value} {k : Bool} (hc : ClsV c u) (ht : ∀ H, Sat B L H → TyX X.K H x t) (hk : PySem.W.kitOne X.K t u = some k) (q : Q (.bl k) B L) : kC X (.builtin "isinstance") [x, c] B L Q := ⟨_, call_isi, fun H s => ⟨x, c, t, u, k, rfl, hc, ht H s, hk, _, _, s, q⟩⟩

/-! ### calls of the program's own defs -/
structure Fn (P : Program) (w : World) (K : PySem.W.Frag) (mg : Str → Option Value) (base : Heap) (k : Nat) (x : Str) (sp : Sp) : Prop where
  ex : ∃ f fd ps, FnOk P w K mg base (L2.CX P w) k f fd ps sp ∧ mg x = some (.ref f) ∧ PySem.W.keepIn K (.ref f) = true ∧ Binds K fd ps []
theorem k_call {x : Str} {k : Nat} {sp : Sp} {W : WX} (F : Fn X.prog X.w X.K X.mg X.base k x sp) (hr : Room k X.A) (tk : Takes X W) (h : kA X (e :: es) σ B L fun vs B1 L1 => ∀ H, Sat B1 L1 H → sp vs H (up Q) (WE W σ)) (hg : Gl X x := by rfl)
    (hdb : (x == ("__debug__" : Str)) = false := by decide) (he : starEach (e :: es) X.env = (false, eval e X.env) :: starEach es X.env := by rfl) (hpl : (backTo pos (starEach es X.env)).any (·.1) = false := by rfl) : kE X (.Call (.Name x p2) (e :: es) [] pos) σ B L Q := by
  obtain ⟨f, fd, ps, hF, hm, hk, hb⟩ := F.ex
  exact ⟨_, pe_callS hF hr hg hm hk hb (fun σ => passAt tk σ) pa_c hdb he hpl, fun H s => toA s h fun _ _ _ _ s q => q _ s⟩
theorem k_call0 {x : Str} {k : Nat} {sp : Sp} {W : WX} (F : Fn X.prog X.w X.K X.mg X.base k x sp) (hr : Room k X.A) (h : ∀ H, Sat B L H → sp [] H (up Q) E0) (hg : Gl X x := by rfl)
    (hdb : (x == ("__debug__" : Str)) = false := by decide) : kE X (.Call (.Name x p2) [] [] pos) σ B L Q := by
  obtain ⟨f, fd, ps, hF, hm, hk, hb⟩ := F.ex
  exact ⟨_, pe_call0 hF hr hg hm hk hb .nil passL hdb, fun H s => h H s⟩

/-! ### subscripts -/
def kI (X : Cx) (x y : V) (B : Hp) (L : HL) (Q : KQ) : Prop := ∃ r, IxR X r ∧ ∀ H, Sat B L H → r x y H (up Q)
def cI (X : Cx) : R2 := fun x y H Q => ∃ B L Q', Sat B L H ∧ kI X x y B L Q' ∧ ∀ v H', up Q' v H' → Q v H'
theorem ix_c : IxR X (cI X) := fun v1 s1 pins s σ H x y v u Q I rx ry ⟨B, L, Q', sat, ⟨k, h, q⟩, m⟩ hs =>
  thn (h v1 s1 pins s σ H x y v u _ I rx ry (q H sat) hs) fun _ _ ⟨v, H', I', r, z⟩ => ⟨v, H', I', r, m v H' z⟩
theorem k_ix (h : kE X a σ B L fun x B1 L1 => kE X b σ B1 L1 fun y B2 L2 => kI X x y B2 L2 Q) (hs : PlainIx b := by exact fun _ _ => rfl) : kE X (.Subscript a b pos) σ B L Q :=
  ⟨_, pe_ix ix_c pe_c pe_c hs, fun H s => toE s h fun _ _ _ _ s q => toE s q fun _ _ _ _ s q => ⟨_, _, _, s, q, fun _ _ z => z⟩⟩
theorem i_list {p : Addr} {xs : List V} {i : Int} {v : V} (h : Ls X.K B L p xs) (hv : atI xs i = some v) (q : Q v B L) : kI X (.ref p) (.int i) B L Q := ⟨_, ix_list, fun H s => ⟨p, xs, i, v, rfl, rfl, h.at s, hv, _, _, s, q⟩⟩
theorem i_tup {p : Addr} {xs : List V} {i : Int} {v : V} (h : Tp X.K B L p xs) (hv : atI xs i = some v) (q : Q v B L) : kI X (.ref p) (.int i) B L Q := ⟨_, ix_tup, fun H s => ⟨p, xs, i, v, rfl, rfl, h.at s, hv, _, _, s, q⟩⟩
theorem i_str {l : List Nat} {i : Int} {c : Nat} (hv : atI l i = some c) (q : Q (.str (sOf [c])) B L) (hl : l.length ≤ 16777216) : kI X (.str (sOf l)) (.int i) B L Q := ⟨_, ix_str, fun H s => ⟨_, i, c, rfl, rfl, by rw [sOf_len]; exact small hl, hv, _, _, s, q⟩⟩
def kSl (X : Cx) (x : V) (lo hi : Option Int) (B : Hp) (L : HL) (Q : KQ) : Prop := ∃ r, SlR X r ∧ ∀ H, Sat B L H → r x lo hi H (up Q)
def kP (X : Cx) (e : Option Expr) (σ : L2.St) (B : Hp) (L : HL) (Q : Option Int → Hp → HL → Prop) : Prop := ∃ t, PO X e t ∧ ∀ H, Sat B L H → t σ H fun o H' => ∃ B L, Sat B L H' ∧ Q o B L
theorem p_none {Q : Option Int → Hp → HL → Prop} (q : Q none B L) : kP X none σ B L Q := ⟨_, po_none, fun H s => ⟨_, _, s, q⟩⟩
theorem p_some {Q : Option Int → Hp → HL → Prop} (h : kE X e σ B L fun v B1 L1 => ∃ i, v = .int i ∧ Q (some i) B1 L1) : kP X (some e) σ B L Q := ⟨_, po_some pe_c, fun H s => toE s h fun _ _ _ _ s ⟨i, e, q⟩ => ⟨i, e, _, _, s, q⟩⟩
def cSl (X : Cx) : V → Option Int → Option Int → Hp → VK → Prop := fun x lo hi H Q => ∃ B L Q', Sat B L H ∧ kSl X x lo hi B L Q' ∧ ∀ v H', up Q' v H' → Q v H'
theorem sl_c : SlR X (cSl X) := fun pins s σ H x v vl vu lo hi sl Q I r1 hs pl pu ⟨B, L, Q', sat, ⟨r, h, q⟩, m⟩ => by
  obtain ⟨T, id, h1, h2, h3⟩ := h pins s σ H x v vl vu lo hi sl _ I r1 hs pl pu (q H sat)
  exact ⟨T, id, h1, h2, thn h3 fun _ _ ⟨v, H', I', r, z⟩ => ⟨v, H', I', r, m v H' z⟩⟩
def cP (X : Cx) (e : Option Expr) : TO := fun σ H Q => ∃ B L Q', Sat B L H ∧ kP X e σ B L Q' ∧ ∀ o H' B' L', Sat B' L' H' → Q' o B' L' → Q o H'
theorem po_c {e : Option Expr} : PO X e (cP X e) := ⟨fun pins s σ H Q I ⟨B, L, Q', sat, ⟨t, h, q⟩, m⟩ =>
  thn (h.run pins s σ H _ I (q H sat)) fun _ _ ⟨o, H', I', r, B', L', s, z⟩ => ⟨o, H', I', r, m o H' B' L' s z⟩⟩
theorem k_slice {lo hi : Option Expr} {p3 : Pos} (h : kE X e σ B L fun x B1 L1 => kP X lo σ B1 L1 fun l B2 L2 => kP X hi σ B2 L2 fun u B3 L3 => kSl X x l u B3 L3 Q) : kE X (.Subscript e (.Slice lo hi none p3) pos) σ B L Q :=
  ⟨_, pe_slice sl_c pe_c po_c po_c, fun H s => toE s h fun _ _ _ _ s q => ⟨_, _, _, s, q, fun _ _ _ _ s q => ⟨_, _, _, s, q, fun _ _ _ _ s q => ⟨_, _, _, s, q, fun _ _ z => z⟩⟩⟩⟩
/-- a text's slice, a list's -/
def cut {α : Type} (l : List α) (lo hi : Option Int) : List α := (l.drop (HT.sIx l.length 0 lo)).take (HT.sIx l.length l.length hi - HT.sIx l.length 0 lo)
theorem sl_s {l : List Nat} {lo hi : Option Int} (q : Q (.str (sOf (cut l lo hi))) B L) (hl : l.length ≤ 16777216) : kSl X (.str (sOf l)) lo hi B L Q :=
  ⟨_, sl_str, fun H s => ⟨_, rfl, by rw [sOf_len]; exact small hl, by
    have e : cutS (sOf l) lo hi = sOf (cut l lo hi) := by unfold cutS cut; rw [sOf_len]
    rw [e]; exact ⟨_, _, s, q⟩⟩⟩
theorem sl_l {p : Addr} {xs : List V} {lo hi : Option Int} (h : Ls X.K B L p xs) (q : ∀ l, Q (.ref l) B ((l, .lst (cut xs lo hi)) :: L)) : kSl X (.ref p) lo hi B L Q :=
  ⟨_, sl_list, fun H s => ⟨p, xs, rfl, h.at s, fun l hl => ⟨_, _, s.new hl, q l⟩⟩⟩
end
end Kv

namespace Kv
open PySem PySem.Spec PyProof.Rows L2

/-- where an object of ours stands, and the list with another one there -/
inductive Rep : HL → Addr → HO → HO → HL → Prop where
  | here {p : Addr} {o o' : HO} {L : HL} : Rep ((p, o) :: L) p o o' ((p, o') :: L)
  | there {q : Addr × HO} {p : Addr} {o o' : HO} {L L' : HL} : Rep L p o o' L' → Rep (q :: L) p o o' (q :: L')
theorem Rep.split {L L' : HL} {p : Addr} {o o' : HO} (r : Rep L p o o' L') : ∃ L1 L2, L = L1 ++ (p, o) :: L2 ∧ L' = L1 ++ (p, o') :: L2 := by
  induction r with
  | here => exact ⟨[], _, rfl, rfl⟩
  | there _ ih =>
    obtain ⟨L1, L2, e1, e2⟩ := ih
    exact ⟨_ :: L1, L2, by rw [e1]; rfl, by rw [e2]; rfl⟩
theorem Rep.mem {L L' : HL} {p : Addr} {o o' : HO} (r : Rep L p o o' L') : (p, o) ∈ L := by
  obtain ⟨L1, L2, e1, _⟩ := r.split
  rw [e1]; simp
theorem Sat.rep {B : Hp} {L L' : HL} {H : Hp} {p : Addr} {o o' : HO} (s : Sat B L H) (r : Rep L p o o' L') : Sat B L' (upd H p o') := by
  obtain ⟨L1, L2, e1, e2⟩ := r.split
  rw [e2]
  rw [e1] at s
  exact s.set
/-- the heap changed at p alone, grown elsewhere -/
theorem Sat.rep' {B : Hp} {L L' : HL} {H H' : Hp} {p : Addr} {o o' : HO} (s : Sat B L H) (r : Rep L p o o' L') (e : ∀ b u, b ≠ p → H b = some u → H' b = some u) (h : H' p = some o') : Sat B L' H' := by
  have s2 := s.rep r
  refine s2.keep fun b u q => ?_
  by_cases hb : b = p
  · subst hb
    rw [upd_same] at q
    rw [h]; exact q
  · rw [upd_ne hb] at q
    exact e b u hb q

section
variable {X : Cx} {σ : L2.St} {B : Hp} {L : HL} {Q : KQ} {D : KD} {pos p2 : Pos} {e a b c tg iter elt : Expr} {es : List Expr} {body : List Stmt}
theorem k_drop {p : Addr × HO} (h : kE X e σ B L Q) : kE X e σ B (p :: L) Q := by
  obtain ⟨t, h1, h2⟩ := h
  exact ⟨t, h1, fun H s => h2 H s.drop⟩

/-! ### what is walked -/
def kR (X : Cx) (tg iter : Expr) (σ : L2.St) (B : Hp) (L : HL) (R : It → Hp → HL → Prop) : Prop := ∃ wi, PI X tg iter wi ∧ ∀ H, Sat B L H → wi σ H fun J H' => ∃ B' L', Sat B' L' H' ∧ R J B' L'
def cR (X : Cx) (tg iter : Expr) : TI := fun σ H R => ∃ B L R', Sat B L H ∧ kR X tg iter σ B L R' ∧ ∀ J H' B' L', Sat B' L' H' → R' J B' L' → R J H'
theorem pi_c : PI X tg iter (cR X tg iter) := ⟨fun pins s σ H R I ⟨B, L, R', sat, ⟨wi, h, q⟩, m⟩ =>
  thn (h.run pins s σ H _ I (q H sat)) fun _ _ h1 => thn h1 fun _ _ ⟨it, fp, tn, J, H', e, I', T, t0, f, B', L', s, z⟩ => ⟨it, fp, tn, J, H', e, I', T, t0, f, m J H' B' L' s z⟩⟩
theorem r_list (h : kE X iter σ B L fun v B1 L1 => ∃ a xs, v = .ref a ∧ Ls X.K B1 L1 a xs ∧ R (Itl X.K a) B1 L1) : kR X tg iter σ B L R := ⟨_, pi_list pe_c, fun H s => toE s h fun _ _ _ _ s ⟨a, xs, e, h, q⟩ => ⟨a, e, ⟨xs, h.at s⟩, _, _, s, q⟩⟩
theorem r_tup (h : kE X iter σ B L fun v B1 L1 => ∃ a xs, v = .ref a ∧ Tp X.K B1 L1 a xs ∧ R (Itt X.K a) B1 L1) : kR X tg iter σ B L R := ⟨_, pi_tup pe_c, fun H s => toE s h fun _ _ _ _ s ⟨a, xs, e, h, q⟩ => ⟨a, e, ⟨xs, h.at s⟩, _, _, s, q⟩⟩
theorem r_str (h : kE X iter σ B L fun v B1 L1 => ∃ l, v = .str (sOf l) ∧ R (Its (sOf l)) B1 L1) : kR X tg iter σ B L R := ⟨_, pi_str pe_c, fun H s => toE s h fun _ _ _ _ s ⟨l, e, q⟩ => ⟨_, e, _, _, s, q⟩⟩
theorem r_rng1 (hm : X.mg "range" = none) (h : kE X e σ B L fun v B1 L1 => ∃ n : Int, v = .int n ∧ -(2 ^ 62) ≤ n ∧ n < 2 ^ 62 ∧ R (Itr 0 n.toNat) B1 L1) (hg : Gl X "range" := by rfl) (hs : starEach [e] X.env = (false, eval e X.env) :: starEach [] X.env := by rfl) (hs' : starEach [e] X.env = [(false, eval e X.env)] := by rfl) : kR X tg (.Call (.Name "range" p2) [e] [] pos) σ B L R :=
  ⟨_, pi_range1 hg hm (pa_cons pe_c pa_nil hs) hs', fun H s => toE s h fun _ _ _ _ s ⟨n, e, h1, h2, q⟩ => ⟨n, by rw [e], h1, h2, _, _, s, q⟩⟩
theorem r_rng2 (hm : X.mg "range" = none) (h : kA X [a, b] σ B L fun vs B1 L1 => ∃ i j : Int, vs = [.int i, .int j] ∧ (-(2 ^ 62) ≤ i ∧ i < 2 ^ 62 ∧ -(2 ^ 62) ≤ j ∧ j < 2 ^ 62) ∧ R (Itr i (j - i).toNat) B1 L1) (hg : Gl X "range" := by rfl) (hs1 : starEach [a, b] X.env = [(false, eval a X.env), (false, eval b X.env)] := by rfl) (hs2 : starEach [b] X.env = [(false, eval b X.env)] := by rfl) : kR X tg (.Call (.Name "range" p2) [a, b] [] pos) σ B L R :=
  ⟨_, pi_range2 hg hm pa_c hs1 hs2, fun H s => toA s h fun _ _ _ _ s ⟨i, j, e, h1, q⟩ => ⟨i, j, e, h1, _, _, s, q⟩⟩
theorem r_enum {elts : List Expr} {kk : Nat} {tpos : Pos} (hm : X.mg "enumerate" = none) (h : kE X e σ B L fun v B1 L1 => ∃ a xs, v = .ref a ∧ Ls X.K B1 L1 a xs ∧ R (Ite X.K a) B1 L1) (hg : Gl X "enumerate" := by rfl)
    (hs : starEach [e] X.env = (false, eval e X.env) :: starEach [] X.env := by rfl) (hs' : starEach [e] X.env = [(false, eval e X.env)] := by rfl) : kR X (.Tuple elts kk tpos) (.Call (.Name "enumerate" p2) [e] [] pos) σ B L R :=
  ⟨_, pi_enum hg hm (pa_cons pe_c pa_nil hs) hs', fun H s => toE s h fun _ _ _ _ s ⟨a, xs, e, h, q⟩ => ⟨a, xs, by rw [e], h.at s, _, _, s, q⟩⟩

/-! ### for -/
theorem k_for (hp : PassesOwn (model X.prog X.w) X.A X.env X.xe) (h : kR X tg iter σ B L fun J B1 L1 => ∃ (n : Nat) (G : Hp → Prop) (Y : Nat → Hp → V → Hp → Prop) (Pv : Nat → KN), Walk J n G Y ∧ Pv 0 σ B1 L1 ∧ (∀ i σ B L H, i ≤ n → Pv i σ B L → Sat B L H → G H) ∧
      (∀ i x σ B L H H', i < n → Pv i σ B L → Sat B L H → Y i H x H' → ∃ B' L', Sat B' L' H' ∧ kG X tg x σ B' L' fun σ2 B2 L2 => kSs X body σ2 B2 L2 { D with nx := Pv (i + 1), ct := Pv (i + 1), bk := D.nx }) ∧ ∀ σ B L, Pv n σ B L → D.nx σ B L)
    (hc : X.calm = true := by rfl) (hs : ∀ x, foldedSetIterable iter X.env x = pure x := by intro _; rfl) : kS X (.For tg iter body [] pos) σ B L D :=
  ⟨_, ps_for hp hc pi_c pg_c pss_c hs, fun H s => ⟨B, L, _, s, h, fun J H1 B1 L1 s1 ⟨n, G, Y, Pv, w, p0, hG, ht, hd⟩ =>
    for_it w (fun i σ H => ∃ B L, Sat B L H ∧ Pv i σ B L) ⟨B1, L1, s1, p0⟩ (fun i σ H hi ⟨B, L, s, p⟩ => hG i σ B L H hi p s)
      (fun i x σ H H' hi ⟨B, L, s, p⟩ y => by
        obtain ⟨B', L', s', g⟩ := ht i x σ B L H H' hi p s y
        exact toG s' g fun _ _ _ _ s2 q2 => toSs s2 q2 (fun _ _ z => z) (fun _ _ z => z) (fun _ _ z => z) (fun _ _ z => z))
      fun σ H ⟨B, L, s, p⟩ => ⟨B, L, s, hd σ B L p⟩⟩⟩
theorem k_for_l (Pv : Nat → KN) (hp : PassesOwn (model X.prog X.w) X.A X.env X.xe)
    (h : kE X iter σ B L fun v B1 L1 => ∃ a xs, v = .ref a ∧ Ls X.K B1 L1 a xs ∧ Pv 0 σ B1 L1 ∧ (∀ i σ B L, i ≤ xs.length → Pv i σ B L → Ls X.K B L a xs) ∧
      (∀ i x σ B L, xs[i]? = some x → Pv i σ B L → kG X tg x σ B L fun σ2 B2 L2 => kSs X body σ2 B2 L2 { D with nx := Pv (i + 1), ct := Pv (i + 1), bk := D.nx }) ∧ ∀ σ B L, Pv xs.length σ B L → D.nx σ B L)
    (hc : X.calm = true := by rfl) (hs : ∀ x, foldedSetIterable iter X.env x = pure x := by intro _; rfl) : kS X (.For tg iter body [] pos) σ B L D :=
  k_for hp (r_list (by
    obtain ⟨t, h1, h2⟩ := h
    refine ⟨_, pe_c, fun H s => toE s ⟨t, h1, h2⟩ fun v H' B' L' s' ⟨a, xs, e, hl, p0, hL, ht, hd⟩ => ⟨B', L', s', a, xs, e, hl, xs.length, _, _, Pv, walk_list, p0, fun i σ B L H hi p s => (hL i σ B L hi p).at s, fun i x σ B L H H' hi p s y => ?_, hd⟩⟩
    obtain ⟨rfl, hx⟩ := y
    exact ⟨B, L, s, ht i x σ B L hx p⟩)) hc hs
theorem k_for_t (Pv : Nat → KN) (hp : PassesOwn (model X.prog X.w) X.A X.env X.xe)
    (h : kE X iter σ B L fun v B1 L1 => ∃ a xs, v = .ref a ∧ Tp X.K B1 L1 a xs ∧ Pv 0 σ B1 L1 ∧ (∀ i σ B L, i ≤ xs.length → Pv i σ B L → Tp X.K B L a xs) ∧
      (∀ i x σ B L, xs[i]? = some x → Pv i σ B L → kG X tg x σ B L fun σ2 B2 L2 => kSs X body σ2 B2 L2 { D with nx := Pv (i + 1), ct := Pv (i + 1), bk := D.nx }) ∧ ∀ σ B L, Pv xs.length σ B L → D.nx σ B L)
    (hc : X.calm = true := by rfl) (hs : ∀ x, foldedSetIterable iter X.env x = pure x := by intro _; rfl) : kS X (.For tg iter body [] pos) σ B L D :=
  k_for hp (r_tup (by
    obtain ⟨t, h1, h2⟩ := h
    refine ⟨_, pe_c, fun H s => toE s ⟨t, h1, h2⟩ fun v H' B' L' s' ⟨a, xs, e, hl, p0, hL, ht, hd⟩ => ⟨B', L', s', a, xs, e, hl, xs.length, _, _, Pv, walk_tup, p0, fun i σ B L H hi p s => (hL i σ B L hi p).at s, fun i x σ B L H H' hi p s y => ?_, hd⟩⟩
    obtain ⟨rfl, hx⟩ := y
    exact ⟨B, L, s, ht i x σ B L hx p⟩)) hc hs
theorem k_for_s (Pv : Nat → KN) (hp : PassesOwn (model X.prog X.w) X.A X.env X.xe)
    (h : kE X iter σ B L fun v B1 L1 => ∃ l, v = .str (sOf l) ∧ Pv 0 σ B1 L1 ∧
      (∀ i c σ B L, l[i]? = some c → Pv i σ B L → kG X tg (.str (sOf [c])) σ B L fun σ2 B2 L2 => kSs X body σ2 B2 L2 { D with nx := Pv (i + 1), ct := Pv (i + 1), bk := D.nx }) ∧ ∀ σ B L, Pv l.length σ B L → D.nx σ B L)
    (hc : X.calm = true := by rfl) (hs : ∀ x, foldedSetIterable iter X.env x = pure x := by intro _; rfl) : kS X (.For tg iter body [] pos) σ B L D :=
  k_for hp (r_str (by
    obtain ⟨t, h1, h2⟩ := h
    refine ⟨_, pe_c, fun H s => toE s ⟨t, h1, h2⟩ fun v H' B' L' s' ⟨l, e, p0, ht, hd⟩ => ⟨B', L', s', l, e, (sOf l).cps.size, _, _, Pv, walk_str, p0, fun i σ B L H hi p s => trivial, fun i x σ B L H H' hi p s y => ?_, by rw [sOf_size]; exact hd⟩⟩
    obtain ⟨rfl, c, hx, rfl⟩ := y
    exact ⟨B, L, s, ht i c σ B L (by simpa [sOf] using hx) p⟩)) hc hs
theorem k_for_r1 (Pv : Nat → KN) (hp : PassesOwn (model X.prog X.w) X.A X.env X.xe) (hm : X.mg "range" = none)
    (h : kE X e σ B L fun v B1 L1 => ∃ n : Int, v = .int n ∧ -(2 ^ 62) ≤ n ∧ n < 2 ^ 62 ∧ Pv 0 σ B1 L1 ∧
      (∀ (i : Nat) σ B L, i < n.toNat → Pv i σ B L → kG X tg (.int i) σ B L fun σ2 B2 L2 => kSs X body σ2 B2 L2 { D with nx := Pv (i + 1), ct := Pv (i + 1), bk := D.nx }) ∧ ∀ σ B L, Pv n.toNat σ B L → D.nx σ B L)
    (hg : Gl X "range" := by rfl) (hst : starEach [e] X.env = (false, eval e X.env) :: starEach [] X.env := by rfl) (hst' : starEach [e] X.env = [(false, eval e X.env)] := by rfl) (hc : X.calm = true := by rfl) (hs : ∀ x, foldedSetIterable (.Call (.Name "range" p2) [e] [] pos) X.env x = pure x := by intro _; rfl) :
    kS X (.For tg (.Call (.Name "range" p2) [e] [] pos) body [] pos') σ B L D :=
  k_for hp (r_rng1 hm (by
    obtain ⟨t, h1, h2⟩ := h
    refine ⟨_, pe_c, fun H s => toE s ⟨t, h1, h2⟩ fun v H' B' L' s' ⟨n, e, b1, b2, p0, ht, hd⟩ => ⟨B', L', s', n, e, b1, b2, n.toNat, _, _, Pv, walk_range, p0, fun i σ B L H hi p s => trivial, fun i x σ B L H H' hi p s y => ?_, hd⟩⟩
    obtain ⟨rfl, rfl⟩ := y
    refine ⟨B, L, s, ?_⟩
    have e0 : ((0 : Int) + (i : Int)) = (i : Int) := Int.zero_add _
    show kG X tg (.int ((0 : Int) + (i : Int))) σ B L _
    rw [e0]
    exact ht i σ B L hi p) hg hst hst') hc hs
theorem k_for_r2 (Pv : Nat → KN) (hp : PassesOwn (model X.prog X.w) X.A X.env X.xe) (hm : X.mg "range" = none)
    (h : kA X [a, b] σ B L fun vs B1 L1 => ∃ i0 n : Int, vs = [.int i0, .int n] ∧ (-(2 ^ 62) ≤ i0 ∧ i0 < 2 ^ 62 ∧ -(2 ^ 62) ≤ n ∧ n < 2 ^ 62) ∧ Pv 0 σ B1 L1 ∧
      (∀ (i : Nat) σ B L, i < (n - i0).toNat → Pv i σ B L → kG X tg (.int (i0 + i)) σ B L fun σ2 B2 L2 => kSs X body σ2 B2 L2 { D with nx := Pv (i + 1), ct := Pv (i + 1), bk := D.nx }) ∧ ∀ σ B L, Pv (n - i0).toNat σ B L → D.nx σ B L)
    (hg : Gl X "range" := by rfl) (hs1 : starEach [a, b] X.env = [(false, eval a X.env), (false, eval b X.env)] := by rfl) (hs2 : starEach [b] X.env = [(false, eval b X.env)] := by rfl) (hc : X.calm = true := by rfl) (hs : ∀ x, foldedSetIterable (.Call (.Name "range" p2) [a, b] [] pos) X.env x = pure x := by intro _; rfl) :
    kS X (.For tg (.Call (.Name "range" p2) [a, b] [] pos) body [] pos') σ B L D :=
  k_for hp (r_rng2 hm (by
    obtain ⟨t, h1, h2⟩ := h
    refine ⟨_, pa_c, fun H s => toA s ⟨t, h1, h2⟩ fun v H' B' L' s' ⟨i0, n, e, b1, p0, ht, hd⟩ => ⟨B', L', s', i0, n, e, b1, (n - i0).toNat, _, _, Pv, walk_range, p0, fun i σ B L H hi p s => trivial, fun i x σ B L H H' hi p s y => ?_, hd⟩⟩
    obtain ⟨rfl, rfl⟩ := y
    exact ⟨B, L, s, ht i σ B L hi p⟩) hg hs1 hs2) hc hs
/-- a pair that a walk has made goes to two targets, and is forgotten -/
theorem g_pair {t u : Expr} {kk : Nat} {T : Addr} {x y : V} {Q : KN} (h : kGs X [t, u] [x, y] σ B L Q) (hc : X.calm = true := by rfl) (hn : (assignEach [t, u] X.env).length = 2 := by rfl) (hst : (assignEach [t, u] X.env).findIdx? (·.1) = none := by rfl) :
    kG X (.Tuple [t, u] kk pos) (.ref T) σ B ((T, .tup [x, y]) :: L) Q :=
  ⟨_, pg_tup hc pgs_c hn hst, fun H s => ⟨T, _, rfl, .inl (.inl (s.own _ List.mem_cons_self)), rfl, toGs s.drop h fun _ _ _ _ s q => ⟨_, _, s, q⟩⟩⟩
theorem g_tup {ts : List Expr} {kk n : Nat} {T : Addr} {xs : List V} {Q : KN} (h1 : Tp X.K B L T xs) (hl : xs.length = n) (h : kGs X ts xs σ B L Q) (hc : X.calm = true := by rfl) (hn : (assignEach ts X.env).length = n := by rfl) (hst : (assignEach ts X.env).findIdx? (·.1) = none := by rfl) :
    kG X (.Tuple ts kk pos) (.ref T) σ B L Q :=
  ⟨_, pg_tup hc pgs_c hn hst, fun H s => ⟨T, _, rfl, h1.at s, hl, toGs s h fun _ _ _ _ s q => ⟨_, _, s, q⟩⟩⟩
theorem k_for_en (Pv : Nat → KN) (hp : PassesOwn (model X.prog X.w) X.A X.env X.xe) (hm : X.mg "enumerate" = none) {t u : Expr} {kk : Nat} {tpos : Pos}
    (h : kE X e σ B L fun v B1 L1 => ∃ a xs, v = .ref a ∧ Ls X.K B1 L1 a xs ∧ Pv 0 σ B1 L1 ∧ (∀ i σ B L, i ≤ xs.length → Pv i σ B L → Ls X.K B L a xs) ∧
      (∀ (i : Nat) x σ B L, xs[i]? = some x → Pv i σ B L → kGs X [t, u] [.int i, x] σ B L fun σ2 B2 L2 => kSs X body σ2 B2 L2 { D with nx := Pv (i + 1), ct := Pv (i + 1), bk := D.nx }) ∧ ∀ σ B L, Pv xs.length σ B L → D.nx σ B L)
    (hg : Gl X "enumerate" := by rfl) (hst : starEach [e] X.env = (false, eval e X.env) :: starEach [] X.env := by rfl) (hst' : starEach [e] X.env = [(false, eval e X.env)] := by rfl) (hc : X.calm = true := by rfl) (hs : ∀ x, foldedSetIterable (.Call (.Name "enumerate" p2) [e] [] pos) X.env x = pure x := by intro _; rfl)
    (hn : (assignEach [t, u] X.env).length = 2 := by rfl) (hfi : (assignEach [t, u] X.env).findIdx? (·.1) = none := by rfl) : kS X (.For (.Tuple [t, u] kk tpos) (.Call (.Name "enumerate" p2) [e] [] pos) body [] pos') σ B L D :=
  k_for hp (r_enum hm (by
    obtain ⟨te, h1, h2⟩ := h
    refine ⟨_, pe_c, fun H s => toE s ⟨te, h1, h2⟩ fun v H' B' L' s' ⟨a, xs, e, hl, p0, hL, ht, hd⟩ => ⟨B', L', s', a, xs, e, hl, xs.length, _, _, Pv, walk_enum, p0, fun i σ B L H hi p s => (hL i σ B L hi p).at s, fun i x σ B L H H' hi p s y => ?_, hd⟩⟩
    obtain ⟨T, x1, y1, rfl, hT, rfl, e1, e2⟩ := y
    cases e1
    exact ⟨B, _, s.new hT, g_pair (ht i y1 σ B L e2 p) hc hn hfi⟩) hg hst hst') hc hs

/-! ### while, op= -/
theorem k_while (W : Nat → KN) (m0 : Nat) (hp : PassesOwn (model X.prog X.w) X.A X.env X.xe) (h0 : W m0 σ B L)
    (hs : ∀ m σ B L, W m σ B L → kT X c σ B L fun k B1 L1 => (k = true → kSs X body σ B1 L1 { D with nx := fun σ' B' L' => ∃ m', m' < m ∧ W m' σ' B' L', ct := fun σ' B' L' => ∃ m', m' < m ∧ W m' σ' B' L', bk := D.nx }) ∧ (k = false → D.nx σ B1 L1)) :
    kS X (.While c body [] pos) σ B L D :=
  ⟨_, ps_while hp pt_c pss_c, fun H s => ⟨fun m σ H => ∃ B L, Sat B L H ∧ W m σ B L, ⟨m0, B, L, s, h0⟩, fun m σ H ⟨B, L, s, w⟩ => toT s (hs m σ B L w) fun k H' B' L' s' q => by
    cases k with
    | true =>
      refine iteT ⟨_, fun σ' H' ⟨B2, L2, s2, m', hm, w'⟩ => ⟨m', hm, B2, L2, s2, w'⟩, toSs s' (q.1 rfl) (fun _ _ z => z) (fun _ _ z => z) (fun _ _ z => z) (fun _ _ z => z)⟩
    | false => exact iteF ⟨_, _, s', q.2 rfl⟩⟩⟩
theorem k_aug_add (i : Nat) {x : Str} {pos' : Pos} {n : Int} (h : kE X e σ B L fun v B1 L1 => ∃ m, v = .int m ∧ D.nx (σ.set i (some (.int (n + m)))) B1 L1) (hN : X.N.Nodup) (hx : σ[i]? = some (some (.int n)) := by rfl) (hi : X.N[i]? = some x := by rfl) (hl : Loc X.env.scope x := by first | exact Or.inl rfl | exact Or.inr rfl)
    (hf : X.fn x = true ∨ X.env.scope.names.lookup x = some .local := by first | exact .inl rfl | exact .inr rfl | assumption) : kS X (.AugAssign (.Name x pos') .Add e pos) σ B L D := ⟨_, ps_aug hN hi hl pe_c ip_add (hf := hf), fun H s => ⟨_, hx, toE s h fun _ _ _ _ s ⟨m, e, q⟩ => ⟨n, m, rfl, e, _, _, s, q⟩⟩⟩
theorem k_aug_sub (i : Nat) {x : Str} {pos' : Pos} {n : Int} (h : kE X e σ B L fun v B1 L1 => ∃ m, v = .int m ∧ D.nx (σ.set i (some (.int (n - m)))) B1 L1) (hN : X.N.Nodup) (hx : σ[i]? = some (some (.int n)) := by rfl) (hi : X.N[i]? = some x := by rfl) (hl : Loc X.env.scope x := by first | exact Or.inl rfl | exact Or.inr rfl)
    (hf : X.fn x = true ∨ X.env.scope.names.lookup x = some .local := by first | exact .inl rfl | exact .inr rfl | assumption) : kS X (.AugAssign (.Name x pos') .Sub e pos) σ B L D := ⟨_, ps_aug hN hi hl pe_c ip_sub (hf := hf), fun H s => ⟨_, hx, toE s h fun _ _ _ _ s ⟨m, e, q⟩ => ⟨n, m, rfl, e, _, _, s, q⟩⟩⟩
/-- xs[i] = v, xs ours -/
theorem g_setl {v : V} {Q : KN} (h : kE X a σ B L fun x B1 L1 => kE X b σ B1 L1 fun y B2 L2 => ∃ p xs k j L3, x = .ref p ∧ y = .int k ∧ ixN xs.length k = some j ∧ Rep L2 p (.lst xs) (.lst (xs.set j v)) L3 ∧ Q σ B2 L3)
    (ha : ∀ v, assign (.Subscript a b pos) X.env v = (do
      let ov ← holding [v] (eval a X.env)
      let iv ← holding [v, ov] (eval b X.env)
      standAt pos
      holding [v, ov, iv] (setItem ov iv v)
      release [v, ov, iv] []) := by intro _; rfl) : kG X (.Subscript a b pos) v σ B L Q :=
  ⟨_, pg_sub pe_c pe_c set_list ha, fun H s => toE s h fun _ _ _ _ s q => toE s q fun _ _ _ _ s ⟨p, xs, k, j, L3, e1, e2, hj, r, q⟩ => ⟨p, xs, k, j, e1, e2, s.own _ r.mem, hj, _, _, s.rep r, q⟩⟩

/-! ### methods of built-in types -/
def kMt (X : Cx) (id : String) (x : V) (vs : List V) (B : Hp) (L : HL) (Q : KQ) : Prop := ∃ r, MtR X id r ∧ ∀ H, Sat B L H → r x vs H (up Q)
def cMt (X : Cx) (id : String) : V → List V → Hp → VK → Prop := fun x vs H Q => ∃ B L Q', Sat B L H ∧ kMt X id x vs B L Q' ∧ ∀ v H', up Q' v H' → Q v H'
theorem mt_c {id : String} : MtR X id (cMt X id) := fun pins s σ H x xs v us Q I rx r ⟨B, L, Q', sat, ⟨k, h, q⟩, m⟩ =>
  thn (h pins s σ H x xs v us _ I rx r (q H sat)) fun _ _ ⟨v, H', I', r, z⟩ => ⟨v, H', I', r, m v H' z⟩
theorem k_m {T id : String} {name : Str} {apos : Pos} (pa : PlainAttrs T) (slot : Slot T name id) (hty : typeOf (.builtin id) = pure (.type "method_descriptor"))
    (h : kE X a σ B L fun x B1 L1 => (∀ H, Sat B1 L1 H → tyV X.K T x H) ∧ kA X (e :: es) σ B1 L1 fun vs B2 L2 => kMt X id x vs B2 L2 Q)
    (hbase : attributeBase a name X.env (eval a X.env) = eval a X.env := by rfl)
    (hfew : ((backTo pos (starEach (e :: es) X.env)).all (fun x => !x.1) && (backToKw pos (keywordEach [] X.env)).all (fun x => x.1.isSome)
      && decide ((e :: es).length + ([] : List Keyword).length + (if ([] : List Keyword).isEmpty then 0 else 1) < 30)) = true := by rfl)
    (hline : (apos.endLine == pos.line) = true := by rfl) (hs : starEach (e :: es) X.env = (false, eval e X.env) :: starEach es X.env := by rfl) (hplain : (backTo pos (starEach es X.env)).any (·.1) = false := by rfl) :
    kE X (.Call (.Attribute a name apos) (e :: es) [] pos) σ B L Q :=
  ⟨_, pe_bm pa slot hty mt_c pe_c pa_c hbase hfew hline hs hplain, fun H s => toE s h fun x H' _ _ s ⟨ty, q⟩ => ⟨ty H' s, toA s q fun _ _ _ _ s q => ⟨_, _, _, s, q, fun _ _ z => z⟩⟩⟩
theorem k_m0 {T id : String} {name : Str} {apos : Pos} (pa : PlainAttrs T) (slot : Slot T name id) (hty : typeOf (.builtin id) = pure (.type "method_descriptor"))
    (h : kE X a σ B L fun x B1 L1 => (∀ H, Sat B1 L1 H → tyV X.K T x H) ∧ kMt X id x [] B1 L1 Q)
    (hbase : attributeBase a name X.env (eval a X.env) = eval a X.env := by rfl) (hline : (apos.endLine == pos.line) = true := by rfl) :
    kE X (.Call (.Attribute a name apos) [] [] pos) σ B L Q :=
  ⟨_, pe_bm0 pa slot hty mt_c pe_c hbase hline, fun H s => toE s h fun x H' _ _ s ⟨ty, q⟩ => ⟨ty H' s, ⟨_, _, _, s, q, fun _ _ z => z⟩⟩⟩
theorem m_append {p : Addr} {xs : List V} {v : V} {L' : HL} (r : Rep L p (.lst xs) (.lst (xs ++ [v])) L') (q : Q .non B L') (hl : xs.length < 16777216) : kMt X "list.append" (.ref p) [v] B L Q :=
  ⟨_, mt_append, fun H s => ⟨p, xs, v, rfl, rfl, s.own _ r.mem, small' hl, _, _, s.rep r, q⟩⟩
theorem m_pop {p : Addr} {xs : List V} {v : V} {L' : HL} (hv : xs[xs.length - 1]? = some v) (r : Rep L p (.lst xs) (.lst xs.dropLast) L') (q : Q v B L') : kMt X "list.pop" (.ref p) [] B L Q :=
  ⟨_, mt_pop, fun H s => ⟨p, xs, v, rfl, rfl, s.own _ r.mem, hv, _, _, s.rep r, q⟩⟩
theorem m_clear {p : Addr} {xs : List V} {L' : HL} (r : Rep L p (.lst xs) (.lst []) L') (q : Q .non B L') : kMt X "list.clear" (.ref p) [] B L Q :=
  ⟨_, mt_clear, fun H s => ⟨p, xs, rfl, rfl, s.own _ r.mem, _, _, s.rep r, q⟩⟩
theorem ty_l {p : Addr} {xs : List V} (h : Ls X.K B L p xs) : ∀ H, Sat B L H → tyV X.K "list" (.ref p) H := fun H s => .inl ⟨rfl, xs, h.at s⟩
theorem ty_s {l : Str} : ∀ H, Sat B L H → tyV X.K "str" (.str l) H := fun H s => rfl
end
end Kv

namespace Kv
open PySem PySem.Spec PyProof.Rows L2

/-- a comprehension's block -/
abbrev Bk (X : Cx) (scope : Scope) (s : Shared) (H : Hp) (C : Addr) (cl : List (Str × Addr)) (fp : List Addr) : Cx := X.blk s H scope (compEnvC scope cl C X.env) fp
def gB (X : Cx) (scope : Scope) (tg : Expr) : TG := fun v σ H Q => ∀ s H0 C cl fp, cG (Bk X scope s H0 C cl fp) tg v σ H Q
def eB (X : Cx) (scope : Scope) (e : Expr) : TE := fun σ H Q => ∀ s H0 C cl fp, cE (Bk X scope s H0 C cl fp) e σ H Q
def tBk (X : Cx) (scope : Scope) (e : Expr) : TT := fun σ H Q => ∀ s H0 C cl fp, cT (Bk X scope s H0 C cl fp) e σ H Q
section
variable {X : Cx} {σ : L2.St} {B : Hp} {L : HL} {Q : KQ} {D : KD} {pos p2 : Pos} {e a b c tg iter elt : Expr} {es : List Expr} {body : List Stmt} {scope : Scope} {own : List (Str × Nat)}
theorem pg_b : ∀ (s : Shared) (H : Hp) (C : Addr) (cl : List (Str × Addr)) (fp : List Addr), PG (X.blk s H scope (compEnvC scope cl C X.env) fp) tg (gB X scope tg) := fun s H0 C cl fp => ⟨fun pins s' σ H v u Q I r h => pg_c.run pins s' σ H v u Q I r (h s H0 C cl fp)⟩
theorem pe_b : ∀ (s : Shared) (H : Hp) (C : Addr) (cl : List (Str × Addr)) (fp : List Addr), PE (X.blk s H scope (compEnvC scope cl C X.env) fp) e (eB X scope e) := fun s H0 C cl fp => ⟨fun pins s' σ H Q I h => pe_c.run pins s' σ H Q I (h s H0 C cl fp)⟩
theorem pt_b : ∀ (s : Shared) (H : Hp) (C : Addr) (cl : List (Str × Addr)) (fp : List Addr), PT (X.blk s H scope (compEnvC scope cl C X.env) fp) e (tBk X scope e) := fun s H0 C cl fp => ⟨fun pins s' σ H Q I h => pt_c.run pins s' σ H Q I (h s H0 C cl fp)⟩
theorem pe_bu {e : Expr} {σ : L2.St} {H : Hp} {Q' : KQ} {Q : VK} (sat : Sat B L H) (h : ∀ s H0 C cl fp, kE (Bk X scope s H0 C cl fp) e σ B L Q') (m : ∀ v H' B' L', Sat B' L' H' → Q' v B' L' → Q v H') : eB X scope e σ H Q := fun s H0 C cl fp => toE sat (h s H0 C cl fp) m

/-- the slots of a comprehension with one name of its own -/
theorem wipe1 (σ : L2.St) (j : Nat) (x : V) : wipe ((wipe σ [j]).set j (some x)) [j] = wipe σ [j] := by simp [wipe, List.set_set]
theorem wipe1' (σ : L2.St) (j : Nat) (x : V) : (wipe σ [j]).set j (some x) = σ.set j (some x) := by simp [wipe, List.set_set]

theorem tyes {σ : L2.St} {H : Hp} {Q : Bool → Hp → Prop} (h : Q true H) : tYes σ H Q := h
/-- [elt for tg in iter if ..], of a list of names of its own -/
def kL (X : Cx) (elt tg iter : Expr) (ifs : List Expr) (scope : Scope) (own : List (Str × Nat)) (σ : L2.St) (B : Hp) (L : HL) (Q : KQ) : Prop :=
  X.calm = true ∧ X.N.Nodup ∧ BlkOk X.N X.env.scope scope own ∧ (∀ x, foldedSetIterable iter X.env x = pure x) ∧ ∃ tt, (∀ (s : Shared) (H : Hp) (C : Addr) (cl : List (Str × Addr)) (fp : List Addr), PTs (X.blk s H scope (compEnvC scope cl C X.env) fp) ifs tt) ∧
    ∀ H, Sat B L H → tLc (cR X tg iter) (gB X scope tg) tt (eB X scope elt) (own.map (·.2)) σ H (up Q)
theorem k_le {ifs : List Expr} (h : kL X elt tg iter ifs scope own σ B L Q) : kE X (.ListComp elt [⟨tg, iter, ifs, 0⟩] scope pos) σ B L Q := by
  obtain ⟨hc, hN, ok, hs, tt, ht, q⟩ := h
  exact ⟨_, pe_lc hc hN pi_c ok pg_b ht pe_b hs, q⟩
/-- name = [..] on one row -/
theorem k_sle (i : Nat) {y : Str} {py spos : Pos} {ifs : List Expr} (h : kL X elt tg iter ifs scope own σ B L fun v B1 L1 => D.nx (σ.set i (some v)) B1 L1)
    (hy : X.N[i]? = some y := by rfl) (hyl : X.env.scope.names.lookup y = some .local := by rfl) (hk : X.env.scope.kind = .function := by rfl) (hl : (py.line == pos.line) = true := by rfl) (ha : (scope.names.any fun (n, k) => n == y && (k == .local || k == .cell)) = false := by decide +kernel) :
    kS X (.Assign [.Name y py] (.ListComp elt [⟨tg, iter, ifs, 0⟩] scope pos) spos) σ B L D := by
  obtain ⟨hc, hN, ok, hs, tt, ht, q⟩ := h
  exact ⟨_, ps_setLc hc hN hy hyl (sw_true hk hyl hl ha) pi_c ok pg_b ht pe_b hs, fun H s => q H s⟩
/-- [elt for tg in iter] -/
theorem k_lc (hN : X.N.Nodup) (ok : BlkOk X.N X.env.scope scope own)
    (h : kR X tg iter σ B L fun J B1 L1 => ∃ (n : Nat) (G : Hp → Prop) (Y : Nat → Hp → V → Hp → Prop) (Pv : Nat → List V → Hp → HL → Prop), Walk J n G Y ∧ Pv 0 [] B1 L1 ∧ (∀ i acc B L H, i ≤ n → Pv i acc B L → Sat B L H → G H) ∧
      (∀ D i acc x B L H H', i < n → Pv i acc B L → Sat B ((D, .lst acc) :: L) H → Y i H x H' → ∃ B' L', Sat B' L' H' ∧ ∀ s H0 C cl fp, kG (Bk X scope s H0 C cl fp) tg x (wipe σ (own.map (·.2))) B' L' fun σ2 B2 L2 => wipe σ2 (own.map (·.2)) = wipe σ (own.map (·.2)) ∧
        ∀ s H0 C cl fp, kE (Bk X scope s H0 C cl fp) elt σ2 B2 L2 fun y B3 L3 => acc.length < 16777216 ∧ ∃ L4, L3 = (D, .lst acc) :: L4 ∧ Pv (i + 1) (acc ++ [y]) B3 L4) ∧
      ∀ acc B L D, Pv n acc B L → Q (.ref D) B ((D, .lst acc) :: L))
    (hc : X.calm = true := by rfl) (hs : ∀ x, foldedSetIterable iter X.env x = pure x := by intro _; rfl) : kL X elt tg iter [] scope own σ B L Q :=
  ⟨hc, hN, ok, hs, _, (fun _ _ _ _ _ => pts_nil), fun H s => ⟨B, L, _, s, h, fun J H1 B1 L1 s1 ⟨n, G, Y, Pv, w, p0, hG, ht, hd⟩ D hD =>
    lc_it w (fun i H => ∃ acc B L, Sat B ((D, .lst acc) :: L) H ∧ Pv i acc B L) ⟨[], B1, L1, s1.new hD, p0⟩ (fun i H hi ⟨acc, B, L, s, p⟩ => hG i acc B L H hi p s.drop)
      (fun i x H H' hi ⟨acc, B, L, s, p⟩ y => by
        obtain ⟨B', L', s', g⟩ := ht D i acc x B L H H' hi p s y
        intro sa Ha Ca cla fpa
        refine toG s' (g sa Ha Ca cla fpa) fun σ2 H2 B2 L2 s2 ⟨hw, q2⟩ => ⟨hw, ?_⟩
        refine tyes ?_
        rw [if_pos rfl]
        refine pe_bu s2 q2 fun v H3 B3 L3 s3 ⟨hl, L4, eL, q3⟩ => ?_
        subst eL
        exact ⟨acc, s3.own _ List.mem_cons_self, small' hl, acc ++ [v], B3, L4, s3.rep .here, q3⟩)
      fun H ⟨acc, B, L, s, p⟩ => ⟨_, _, s, hd acc B L D p⟩⟩⟩
/-- .. with one test -/
theorem k_lcf (hN : X.N.Nodup) (ok : BlkOk X.N X.env.scope scope own)
    (h : kR X tg iter σ B L fun J B1 L1 => ∃ (n : Nat) (G : Hp → Prop) (Y : Nat → Hp → V → Hp → Prop) (Pv : Nat → List V → Hp → HL → Prop), Walk J n G Y ∧ Pv 0 [] B1 L1 ∧ (∀ i acc B L H, i ≤ n → Pv i acc B L → Sat B L H → G H) ∧
      (∀ D i acc x B L H H', i < n → Pv i acc B L → Sat B ((D, .lst acc) :: L) H → Y i H x H' → ∃ B' L', Sat B' L' H' ∧ ∀ s H0 C cl fp, kG (Bk X scope s H0 C cl fp) tg x (wipe σ (own.map (·.2))) B' L' fun σ2 B2 L2 => wipe σ2 (own.map (·.2)) = wipe σ (own.map (·.2)) ∧
        ∀ s H0 C cl fp, kT (Bk X scope s H0 C cl fp) c σ2 B2 L2 fun k B3 L3 => (k = true → ∀ s H0 C cl fp, kE (Bk X scope s H0 C cl fp) elt σ2 B3 L3 fun y B3 L3 => acc.length < 16777216 ∧ ∃ L4, L3 = (D, .lst acc) :: L4 ∧ Pv (i + 1) (acc ++ [y]) B3 L4) ∧
          (k = false → ∃ L4, L3 = (D, .lst acc) :: L4 ∧ Pv (i + 1) acc B3 L4)) ∧
      ∀ acc B L D, Pv n acc B L → Q (.ref D) B ((D, .lst acc) :: L))
    (hc : X.calm = true := by rfl) (hs : ∀ x, foldedSetIterable iter X.env x = pure x := by intro _; rfl) : kL X elt tg iter [c] scope own σ B L Q :=
  ⟨hc, hN, ok, hs, _, (fun s H C cl fp => pts_one (pt_b s H C cl fp)), fun H s => ⟨B, L, _, s, h, fun J H1 B1 L1 s1 ⟨n, G, Y, Pv, w, p0, hG, ht, hd⟩ D hD =>
    lc_it w (fun i H => ∃ acc B L, Sat B ((D, .lst acc) :: L) H ∧ Pv i acc B L) ⟨[], B1, L1, s1.new hD, p0⟩ (fun i H hi ⟨acc, B, L, s, p⟩ => hG i acc B L H hi p s.drop)
      (fun i x H H' hi ⟨acc, B, L, s, p⟩ y => by
        obtain ⟨B', L', s', g⟩ := ht D i acc x B L H H' hi p s y
        intro sa Ha Ca cla fpa
        refine toG s' (g sa Ha Ca cla fpa) fun σ2 H2 B2 L2 s2 ⟨hw, q2⟩ => ⟨hw, ?_⟩
        intro sb Hb Cb clb fpb
        refine toT s2 (q2 sb Hb Cb clb fpb) fun k H3 B3 L3 s3 ⟨q3, q4⟩ => ?_
        cases k with
        | true =>
          rw [if_pos rfl]
          refine pe_bu s3 (q3 rfl) fun v H3 B3 L3 s3 ⟨hl, L4, eL, q3⟩ => ?_
          subst eL
          exact ⟨acc, s3.own _ List.mem_cons_self, small' hl, acc ++ [v], B3, L4, s3.rep .here, q3⟩
        | false =>
          obtain ⟨L4, eL, q5⟩ := q4 rfl
          subst eL
          rw [if_neg Bool.false_ne_true]
          exact ⟨acc, B3, L4, s3, q5⟩)
      fun H ⟨acc, B, L, s, p⟩ => ⟨_, _, s, hd acc B L D p⟩⟩⟩

/-! ### comprehensions that reckon each item by itself -/
/-- .. over a text -/
theorem k_lcm_s {x : Str} {j : Nat} {px : Pos} (g : Nat → V) (hN : X.N.Nodup) (ok : BlkOk X.N X.env.scope scope [(x, j)])
    (h : kE X iter σ B L fun v B1 L1 => ∃ l, v = .str (sOf l) ∧ l.length ≤ 16777216 ∧ (∀ c ∈ l, ∀ D acc s H0 C cl fp, kE (Bk X scope s H0 C cl fp) elt (σ.set j (some (.str (sOf [c])))) B1 ((D, .lst acc) :: L1) fun y B3 L3 => y = g c ∧ B3 = B1 ∧ L3 = (D, .lst acc) :: L1) ∧
      ∀ D, Q (.ref D) B1 ((D, .lst (l.map g)) :: L1))
    (hp : ∀ s H0 C cl fp, Loc (Bk X scope s H0 C cl fp).env.scope x := by intro _ _ _ _ _; first | exact Or.inl rfl | exact Or.inr rfl) (hf : ∀ s H0 C cl fp, (Bk X scope s H0 C cl fp).fn x = true ∨ (Bk X scope s H0 C cl fp).env.scope.names.lookup x = some .local := by intro _ _ _ _ _; first | exact .inr rfl | exact .inl rfl)
    (hj : X.N[j]? = some x := by rfl) (hc : X.calm = true := by rfl) (hs : ∀ x, foldedSetIterable iter X.env x = pure x := by intro _; rfl) : kL X elt (.Name x px) iter [] scope [(x, j)] σ B L Q :=
  k_lc hN ok (r_str (by
    obtain ⟨t, h1, h2⟩ := h
    refine ⟨_, pe_c, fun H s => toE s ⟨t, h1, h2⟩ fun v H' B1 L1 s' ⟨l, e, hl, ht, hd⟩ => ⟨B1, L1, s', l, e, (sOf l).cps.size, _, _, fun i acc B L => B = B1 ∧ L = L1 ∧ acc = (l.take i).map g, walk_str, ⟨rfl, rfl, by simp⟩, fun i acc B L H hi p s => trivial, ?_, ?_⟩⟩
    · rintro D i acc x B L H H' hi ⟨rfl, rfl, rfl⟩ s ⟨rfl, c, hx, rfl⟩
      have hx' : l[i]? = some c := by simpa [sOf] using hx
      refine ⟨_, _, s, fun sa Ha Ca cla fpa => g_name j ?_ hN hj (hp sa Ha Ca cla fpa) (hf sa Ha Ca cla fpa)⟩
      refine ⟨wipe1 σ j _, fun sb Hb Cb clb fpb => ?_⟩
      show kE _ _ ((wipe σ [j]).set j _) _ _ _
      rw [wipe1']
      obtain ⟨t2, k1, k2⟩ := ht c (List.mem_of_getElem? hx') D ((l.take i).map g) sb Hb Cb clb fpb
      refine ⟨_, pe_c, fun H s => toE s ⟨t2, k1, k2⟩ fun y H2 B2 L2 s2 ⟨e1, e2, e3⟩ => ⟨B2, L2, s2, ?_, L, e3, e2, rfl, ?_⟩⟩
      · have := (List.getElem?_eq_some_iff.mp hx').1
        simp; omega
      · rw [e1, List.take_add_one, hx']; simp
    · rintro acc B L D ⟨rfl, rfl, rfl⟩
      rw [sOf_size, List.take_length]
      exact hd D)) hc hs
/-- .. over a list -/
theorem k_lcm_l {x : Str} {j : Nat} {px : Pos} (g : V → V) (hN : X.N.Nodup) (ok : BlkOk X.N X.env.scope scope [(x, j)])
    (h : kE X iter σ B L fun v B1 L1 => ∃ a xs, v = .ref a ∧ Ls X.K B1 L1 a xs ∧ xs.length ≤ 16777216 ∧ (∀ z ∈ xs, ∀ D acc s H0 C cl fp, kE (Bk X scope s H0 C cl fp) elt (σ.set j (some z)) B1 ((D, .lst acc) :: L1) fun y B3 L3 => y = g z ∧ B3 = B1 ∧ L3 = (D, .lst acc) :: L1) ∧
      ∀ D, Q (.ref D) B1 ((D, .lst (xs.map g)) :: L1))
    (hp : ∀ s H0 C cl fp, Loc (Bk X scope s H0 C cl fp).env.scope x := by intro _ _ _ _ _; first | exact Or.inl rfl | exact Or.inr rfl) (hf : ∀ s H0 C cl fp, (Bk X scope s H0 C cl fp).fn x = true ∨ (Bk X scope s H0 C cl fp).env.scope.names.lookup x = some .local := by intro _ _ _ _ _; first | exact .inr rfl | exact .inl rfl)
    (hj : X.N[j]? = some x := by rfl) (hc : X.calm = true := by rfl) (hs : ∀ x, foldedSetIterable iter X.env x = pure x := by intro _; rfl) : kL X elt (.Name x px) iter [] scope [(x, j)] σ B L Q :=
  k_lc hN ok (r_list (by
    obtain ⟨t, h1, h2⟩ := h
    refine ⟨_, pe_c, fun H s => toE s ⟨t, h1, h2⟩ fun v H' B1 L1 s' ⟨a, xs, e, hls, hl, ht, hd⟩ => ⟨B1, L1, s', a, xs, e, hls, xs.length, _, _, fun i acc B L => B = B1 ∧ L = L1 ∧ acc = (xs.take i).map g, walk_list, ⟨rfl, rfl, by simp⟩, ?_, ?_, ?_⟩⟩
    · rintro i acc B L H hi ⟨rfl, rfl, _⟩ s
      exact hls.at s
    · rintro D i acc x B L H H' hi ⟨rfl, rfl, rfl⟩ s ⟨rfl, hx⟩
      refine ⟨_, _, s, fun sa Ha Ca cla fpa => g_name j ?_ hN hj (hp sa Ha Ca cla fpa) (hf sa Ha Ca cla fpa)⟩
      refine ⟨wipe1 σ j _, fun sb Hb Cb clb fpb => ?_⟩
      show kE _ _ ((wipe σ [j]).set j _) _ _ _
      rw [wipe1']
      obtain ⟨t2, k1, k2⟩ := ht x (List.mem_of_getElem? hx) D ((xs.take i).map g) sb Hb Cb clb fpb
      refine ⟨_, pe_c, fun H s => toE s ⟨t2, k1, k2⟩ fun y H2 B2 L2 s2 ⟨e1, e2, e3⟩ => ⟨B2, L2, s2, ?_, L, e3, e2, rfl, ?_⟩⟩
      · simp; omega
      · rw [e1, List.take_add_one, hx]; simp
    · rintro acc B L D ⟨rfl, rfl, rfl⟩
      rw [List.take_length]
      exact hd D)) hc hs

/-! ### a def's promise by its body -/
/-- what a def wants behind its body -/
def fD (Q : VK) : KD := { nx := fun _ B L => ∀ H, Sat B L H → Q .non H, rt := fun v B L => ∀ H, Sat B L H → Q v H }
theorem fn_okF {P : Program} {w : World} {K : PySem.W.Frag} {mg : Str → Option Value} {base : Heap} {x qual : Str} {st : Stmt} {f : Addr} {fd : FuncData} {N ps : List Str} {k : Nat} {sp : Sp} (F : Fun K x qual st f fd) (S : FnScope N ps (defScope st))
    (len : ∀ vs H Q E, sp vs H Q E → vs.length = ps.length)
    (hbody : ∀ (cdv : Value) (A : Around) (outer : List Env) (s : Shared) (H : Hp) (vs : List V) (Q : VK) (E : XK), Room k (A.deeper (envOfC qual (defScope st) s.heap.objs.size f cdv)) → sp vs H Q E →
      Takes (cxOf (L2.CX P w) P w K mg base N qual (defScope st) f cdv A outer s H E) (fun cls d _ H => E cls d H) →
      PassesOwn (model P w) (A.deeper (envOfC qual (defScope st) s.heap.objs.size f cdv)) (envOfC qual (defScope st) s.heap.objs.size f cdv) (cxOf (L2.CX P w) P w K mg base N qual (defScope st) f cdv A outer s H E).xe →
      ∃ B L, Sat B L H ∧ kSs (cxOf (L2.CX P w) P w K mg base N qual (defScope st) f cdv A outer s H E) (defBody st) (start N vs) B L (fD Q)) : FnOk P w K mg base (L2.CX P w) (k + 1) f fd ps sp := by
  refine F.okX S len fun cdv A outer s H vs Q E hr h => ?_
  obtain ⟨B, L, sat, t, h1, h2⟩ := hbody cdv A outer s H vs Q E hr h (takes_of rfl rfl rfl rfl) (passes_of rfl)
  refine ⟨_, pss_c, B, L, fD Q, sat, ⟨t, h1, h2⟩, ?_, ?_, ?_, ?_⟩
  · rintro σ' H' ⟨B', L', s', q⟩
    exact q H' s'
  · rintro v H' ⟨B', L', s', q⟩
    exact q H' s'
  · rintro σ' H' ⟨B', L', s', q⟩
    exact q.elim
  · rintro σ' H' ⟨B', L', s', q⟩
    exact q.elim
theorem fn_ok {P : Program} {w : World} {K : PySem.W.Frag} {mg : Str → Option Value} {base : Heap} {x qual : Str} {st : Stmt} {f : Addr} {fd : FuncData} {N ps : List Str} {k : Nat} {sp : Sp} (F : Fun K x qual st f fd) (S : FnScope N ps (defScope st)) (hm : mg x = some (.ref f))
    (hb : ∀ (kV doc pm : Value) (an : Option Addr) (cdv ct : Value) (us : List Value), us.length = ps.length → bindArgs (PySem.W.fnOf x qual (defArgs st) (defBody st) (defScope st) .none kV doc pm an cdv ct) ⟨us, []⟩ = pure (ps.zip us))
    (len : ∀ vs H Q E, sp vs H Q E → vs.length = ps.length)
    (hbody : ∀ (cdv : Value) (A : Around) (outer : List Env) (s : Shared) (H : Hp) (vs : List V) (Q : VK) (E : XK), Room k (A.deeper (envOfC qual (defScope st) s.heap.objs.size f cdv)) → sp vs H Q E →
      Takes (cxOf (L2.CX P w) P w K mg base N qual (defScope st) f cdv A outer s H E) (fun cls d _ H => E cls d H) →
      PassesOwn (model P w) (A.deeper (envOfC qual (defScope st) s.heap.objs.size f cdv)) (envOfC qual (defScope st) s.heap.objs.size f cdv) (cxOf (L2.CX P w) P w K mg base N qual (defScope st) f cdv A outer s H E).xe →
      ∃ B L, Sat B L H ∧ kSs (cxOf (L2.CX P w) P w K mg base N qual (defScope st) f cdv A outer s H E) (defBody st) (start N vs) B L (fD Q)) : Fn P w K mg base (k + 1) x sp := ⟨f, fd, ps, fn_okF F S len hbody, hm, F.kp, F.binds hb⟩
/-- a method of the class at C; the __init__ of one -/
theorem mt_ok {P : Program} {w : World} {K : PySem.W.Frag} {mg : Str → Option Value} {base : Heap} {x qual : Str} {st : Stmt} {C f : Addr} {fd : FuncData} {N ps : List Str} {k : Nat} {sp : Sp} (F : Fun K x qual st f fd) (S : FnScope N ps (defScope st)) (hm : Meth K C x f) (hc : Cls K C)
    (hb : ∀ (kV doc pm : Value) (an : Option Addr) (cdv ct : Value) (us : List Value), us.length = ps.length → bindArgs (PySem.W.fnOf x qual (defArgs st) (defBody st) (defScope st) .none kV doc pm an cdv ct) ⟨us, []⟩ = pure (ps.zip us))
    (len : ∀ vs H Q E, sp vs H Q E → vs.length = ps.length)
    (hbody : ∀ (cdv : Value) (A : Around) (outer : List Env) (s : Shared) (H : Hp) (vs : List V) (Q : VK) (E : XK), Room k (A.deeper (envOfC qual (defScope st) s.heap.objs.size f cdv)) → sp vs H Q E →
      Takes (cxOf (L2.CX P w) P w K mg base N qual (defScope st) f cdv A outer s H E) (fun cls d _ H => E cls d H) →
      PassesOwn (model P w) (A.deeper (envOfC qual (defScope st) s.heap.objs.size f cdv)) (envOfC qual (defScope st) s.heap.objs.size f cdv) (cxOf (L2.CX P w) P w K mg base N qual (defScope st) f cdv A outer s H E).xe →
      ∃ B L, Sat B L H ∧ kSs (cxOf (L2.CX P w) P w K mg base N qual (defScope st) f cdv A outer s H E) (defBody st) (start N vs) B L (fD Q)) : FnOk P w K mg base (L2.CX P w) (k + 1) f fd ps sp ∧ Binds K fd ps [] := ⟨fn_okF F S len hbody, F.binds hb⟩
end
end Kv

namespace Kv
open PySem PySem.Spec PyProof.Rows L2
section
variable {X : Cx} {σ : L2.St} {B : Hp} {L : HL} {Q : KQ} {D : KD} {pos p2 : Pos} {e a b c tg iter elt : Expr} {es : List Expr} {body : List Stmt}
theorem Sat.suf {L' : HL} {H : Hp} (h : L <:+ L') (s : Sat B L' H) : Sat B L H := by
  obtain ⟨t, rfl⟩ := h
  exact ⟨s.ext, fun p hp => s.own p (List.mem_append_right _ hp), fun p hp => s.nb p (List.mem_append_right _ hp), by
    have := s.nd
    rw [List.map_append] at this
    exact (List.nodup_append.mp this).2.1⟩
/-- an expression that comes to v, leaving what there was -/
theorem k_pure {v : V} (h : kE X e σ B L fun y B' L' => y = v ∧ B' = B ∧ L <:+ L') (q : Q v B L) : kE X e σ B L Q := by
  obtain ⟨t, h1, h2⟩ := h
  refine ⟨_, pe_c, fun H s => toE s ⟨t, h1, h2⟩ fun y H' B' L' s' ⟨e1, e2, e3⟩ => ?_⟩
  subst e1 e2
  exact ⟨B', L, s'.suf e3, q⟩
theorem t_pure {v : Bool} {Q : KB} (h : kT X e σ B L fun y B' L' => y = v ∧ B' = B ∧ L <:+ L') (q : Q v B L) : kT X e σ B L Q := by
  obtain ⟨t, h1, h2⟩ := h
  refine ⟨_, pt_c, fun H s => toT s ⟨t, h1, h2⟩ fun y H' B' L' s' ⟨e1, e2, e3⟩ => ?_⟩
  subst e1 e2
  exact ⟨B', L, s'.suf e3, q⟩
theorem w_pure {v : Bool} {Q : KB} (h : kW X e σ B L fun y B' L' => y = v ∧ B' = B ∧ L <:+ L') (q : Q v B L) : kW X e σ B L Q := by
  obtain ⟨t, h1, h2⟩ := h
  refine ⟨_, pw_c, fun H s => toW s ⟨t, h1, h2⟩ fun y H' B' L' s' ⟨e1, e2, e3⟩ => ?_⟩
  subst e1 e2
  exact ⟨B', L, s'.suf e3, q⟩
theorem k_andP (h : kE X a σ B L fun x B1 L1 => ∃ k1, x = .bl k1 ∧ ∃ k2 : Bool, (k1 = true → kE X (.BoolOp .And (b :: es) pos) σ B1 L1 fun y B2 L2 => y = .bl k2 ∧ B2 = B1 ∧ L1 <:+ L2) ∧ Q (.bl (k1 && k2)) B1 L1) : kE X (.BoolOp .And (a :: b :: es) pos) σ B L Q := by
  refine k_and ?_
  obtain ⟨t, h1, h2⟩ := h
  refine ⟨_, pe_c, fun H s => toE s ⟨t, h1, h2⟩ fun x H' B' L' s' ⟨k1, e, k2, h3, q⟩ => ⟨B', L', s', k1, e, fun hk => k_pure (h3 hk) ?_, fun hk => ?_⟩⟩
  · rw [hk] at q; exact q
  · rw [hk] at q; exact q
theorem k_orP (h : kE X a σ B L fun x B1 L1 => ∃ k1, x = .bl k1 ∧ ∃ k2 : Bool, (k1 = false → kE X (.BoolOp .Or (b :: es) pos) σ B1 L1 fun y B2 L2 => y = .bl k2 ∧ B2 = B1 ∧ L1 <:+ L2) ∧ Q (.bl (k1 || k2)) B1 L1) : kE X (.BoolOp .Or (a :: b :: es) pos) σ B L Q := by
  refine k_or ?_
  obtain ⟨t, h1, h2⟩ := h
  refine ⟨_, pe_c, fun H s => toE s ⟨t, h1, h2⟩ fun x H' B' L' s' ⟨k1, e, k2, h3, q⟩ => ⟨B', L', s', k1, e, fun hk => k_pure (h3 hk) ?_, fun hk => ?_⟩⟩
  · rw [hk] at q; exact q
  · rw [hk] at q; exact q
theorem w_andP {Q : KB} (h : kT X a σ B L fun k1 B1 L1 => ∃ k2 : Bool, (k1 = true → kW X (.BoolOp .And (b :: es) pos) σ B1 L1 fun y B2 L2 => y = k2 ∧ B2 = B1 ∧ L1 <:+ L2) ∧ Q (k1 && k2) B1 L1) : kW X (.BoolOp .And (a :: b :: es) pos) σ B L Q := by
  refine w_and ?_
  obtain ⟨t, h1, h2⟩ := h
  refine ⟨_, pt_c, fun H s => toT s ⟨t, h1, h2⟩ fun k1 H' B' L' s' ⟨k2, h3, q⟩ => ⟨B', L', s', fun hk => w_pure (h3 hk) ?_, fun hk => ?_⟩⟩
  · rw [hk] at q; exact q
  · rw [hk] at q; exact q
theorem w_orP {Q : KB} (h : kT X a σ B L fun k1 B1 L1 => ∃ k2 : Bool, (k1 = false → kW X (.BoolOp .Or (b :: es) pos) σ B1 L1 fun y B2 L2 => y = k2 ∧ B2 = B1 ∧ L1 <:+ L2) ∧ Q (k1 || k2) B1 L1) : kW X (.BoolOp .Or (a :: b :: es) pos) σ B L Q := by
  refine w_or ?_
  obtain ⟨t, h1, h2⟩ := h
  refine ⟨_, pt_c, fun H s => toT s ⟨t, h1, h2⟩ fun k1 H' B' L' s' ⟨k2, h3, q⟩ => ⟨B', L', s', fun hk => w_pure (h3 hk) ?_, fun hk => ?_⟩⟩
  · rw [hk] at q; exact q
  · rw [hk] at q; exact q
theorem k_ifeP (h : kT X c σ B L fun k B1 L1 => ∃ v1 v2 : V, (k = true → kE X a σ B1 L1 fun y B2 L2 => y = v1 ∧ B2 = B1 ∧ L1 <:+ L2) ∧ (k = false → kE X b σ B1 L1 fun y B2 L2 => y = v2 ∧ B2 = B1 ∧ L1 <:+ L2) ∧ Q (if k = true then v1 else v2) B1 L1) : kE X (.IfExp c a b pos) σ B L Q := by
  refine k_ife ?_
  obtain ⟨t, h1, h2⟩ := h
  refine ⟨_, pt_c, fun H s => toT s ⟨t, h1, h2⟩ fun k H' B' L' s' ⟨v1, v2, h3, h4, q⟩ => ⟨B', L', s', fun hk => k_pure (h3 hk) ?_, fun hk => k_pure (h4 hk) ?_⟩⟩
  · rw [if_pos hk] at q; exact q
  · rw [if_neg (by rw [hk]; exact Bool.false_ne_true)] at q; exact q
theorem k_neg (h : kE X a σ B L fun x B1 L1 => ∃ i, x = .int i ∧ Q (.int (-i)) B1 L1) : kE X (.UnaryOp .USub a pos) σ B L Q := ⟨_, pe_un un_neg pe_c, fun H s => toE s h fun _ _ _ _ s ⟨i, e, q⟩ => ⟨i, e, _, _, s, q⟩⟩
theorem k_s {x : Str} {j} (l : List Nat) (q : Q (.str (sOf l)) B L) (h : x = sOf l := by decide +kernel) : kE X (.Constant (.str x) j pos) σ B L Q := by
  subst h
  exact k_str q
theorem k_gs {x y : Str} {t : Tok} (hm : X.mg x = some (.str y t)) (q : Q (.str y) B L) (hg : Gl X x := by rfl) (hd : (x == ("__debug__" : Str)) = false := by decide) : kE X (.Name x pos) σ B L Q := k_g (v := .str y) hm ⟨t, rfl⟩ q hg hd
theorem k_gi {x : Str} {y : Int} {t : Tok} (hm : X.mg x = some (.int y t)) (q : Q (.int y) B L) (hg : Gl X x := by rfl) (hd : (x == ("__debug__" : Str)) = false := by decide) : kE X (.Name x pos) σ B L Q := k_g (v := .int y) hm ⟨t, rfl⟩ q hg hd
theorem k_fn {x : Str} {k : Nat} {sp : Sp} (F : Fn X.prog X.w X.K X.mg X.base k x sp) (hr : Room k X.A) (h : kA X (e :: es) σ B L fun vs B1 L1 => ∀ H, Sat B1 L1 H → sp vs H (up Q) (WE (fun _ _ _ _ => False) σ)) (hg : Gl X x := by rfl)
    (hdb : (x == ("__debug__" : Str)) = false := by decide) (he : starEach (e :: es) X.env = (false, eval e X.env) :: starEach es X.env := by rfl) (hpl : (backTo pos (starEach es X.env)).any (·.1) = false := by rfl) : kE X (.Call (.Name x p2) (e :: es) [] pos) σ B L Q := k_call F hr takes0 h hg hdb he hpl
/-- a built-in type's name as a value -/
theorem k_ty {x : Str} {T : String} (hm : X.mg x = none) (q : Q (.ty T) B L) (hv : bootBuiltins x = some (.type T) := by decide +kernel) (hg : Gl X x := by rfl) (hn : x ≠ "__name__" := by decide) (hd : (x == ("__debug__" : Str)) = false := by decide) : kE X (.Name x pos) σ B L Q :=
  ⟨_, pe_bltn (v := .ty T) hg hm hv rfl hn hd, fun H s => ⟨_, _, s, q⟩⟩
theorem i_sN {l : List Nat} {i : Int} (q : Q (.str (sOf [(atI l i).getD 0])) B L) (h : -(l.length : Int) ≤ i ∧ i < l.length) (hl : l.length ≤ 16777216) : kI X (.str (sOf l)) (.int i) B L Q := by
  refine i_str (c := (atI l i).getD 0) ?_ q hl
  unfold atI ixN
  by_cases h0 : 0 ≤ i
  · have : i.toNat < l.length := by omega
    rw [if_pos h0, if_pos h.2]
    simp [this]
  · have : (i + l.length).toNat < l.length := by omega
    rw [if_neg h0, if_pos h.1]
    simp [this]
theorem i_lN {p : Addr} {xs : List V} {i : Int} (h0 : Ls X.K B L p xs) (q : Q ((atI xs i).getD .non) B L) (h : -(xs.length : Int) ≤ i ∧ i < xs.length) : kI X (.ref p) (.int i) B L Q := by
  refine i_list (v := (atI xs i).getD .non) h0 ?_ q
  unfold atI ixN
  by_cases h0 : 0 ≤ i
  · have : i.toNat < xs.length := by omega
    rw [if_pos h0, if_pos h.2]
    simp [this]
  · have : (i + xs.length).toNat < xs.length := by omega
    rw [if_neg h0, if_pos h.1]
    simp [this]
theorem atI_n {α : Type} {l : List α} {j : Nat} : atI l (j : Int) = l[j]? := by
  unfold atI ixN
  rw [if_pos (by omega)]
  by_cases h : j < l.length
  · rw [if_pos (by omega)]; simp
  · rw [if_neg (by omega)]; simp; omega
theorem atI_neg {α : Type} {l : List α} {j : Nat} (h : j < l.length) : atI l (-1 - (j : Int)) = l[l.length - 1 - j]? := by
  unfold atI ixN
  rw [if_neg (by omega), if_pos (by omega)]
  have : (-1 - (j : Int) + (l.length : Int)).toNat = l.length - 1 - j := by omega
  simp [this]
/-- an int of a list of ints at a place -/
theorem i_li {p : Addr} {ns : List Int} {i : Int} (h0 : Ls X.K B L p (ns.map V.int)) (q : Q (.int ((atI ns i).getD 0)) B L) (h : -(ns.length : Int) ≤ i ∧ i < ns.length) : kI X (.ref p) (.int i) B L Q := by
  refine i_lN h0 ?_ (by simpa using h)
  have e : (atI (ns.map V.int) i).getD .non = .int ((atI ns i).getD 0) := by
    unfold atI ixN
    rw [List.length_map]
    by_cases h0 : 0 ≤ i
    · have : i.toNat < ns.length := by omega
      rw [if_pos h0, if_pos h.2]
      simp [this]
    · have : (i + ns.length).toNat < ns.length := by omega
      rw [if_neg h0, if_pos h.1]
      simp [this]
  rw [e]
  exact q
/-- text * number -/
def rep {α : Type} (l : List α) (n : Nat) : List α := (List.replicate n l).flatten
theorem rep_len {α : Type} (l : List α) (n : Nat) : (rep l n).length = n * l.length := by simp [rep]
theorem foldl_rep' (c : List Nat) : ∀ (k : Nat) (acc : List Nat), List.foldl (· ++ ·) acc.toArray (List.replicate k c.toArray) = (acc ++ (List.replicate k c).flatten).toArray
  | 0, acc => by simp
  | k + 1, acc => by
    rw [List.replicate_succ, List.foldl_cons, List.replicate_succ, List.flatten_cons, ← List.append_assoc, ← foldl_rep' c k (acc ++ c)]
    simp
theorem mul_is {l : List Nat} {n : Nat} : Txt.mul (sOf l) (n : Int) = sOf (rep l n) := by
  unfold Txt.mul rep
  by_cases h1 : (n : Int) < 1
  · have : n = 0 := by omega
    subst this
    rw [if_pos h1]
    rfl
  · rw [if_neg h1]
    split
    · rename_i h2
      simp only [Bool.or_eq_true, beq_iff_eq] at h2
      rcases h2 with h2 | h2
      · have : n = 1 := by omega
        subst this
        simp
      · rw [sOf_len] at h2
        have : l = [] := List.length_eq_zero_iff.mp h2
        subst this
        simp
    · have := foldl_rep' l n []
      simp only [List.nil_append] at this
      show (⟨_⟩ : Str) = ⟨_⟩
      congr 1
theorem o_muls {l : List Nat} {n : Nat} (q : Q (.str (sOf (rep l n))) B L) (h : l.length * n ≤ 16777216) (hn : (n : Int) < 2 ^ 62) : kO X (binaryOp .Mult) (.str (sOf l)) (.int (n : Int)) B L Q := by
  refine ⟨fun x y H Q => x = .str (sOf l) ∧ y = .int (n : Int) ∧ Q (.str (sOf (rep l n))) H, fun pins s σ H x y v u Q I rx ry ⟨e1, e2, q⟩ => ?_, fun H s => ⟨rfl, rfl, _, _, s, q⟩⟩
  subst e1 e2
  obtain ⟨t, rfl⟩ := rx
  obtain ⟨t', rfl⟩ := ry
  refine SB.mul ⟨?_, fun _ hh => ?_, fun _ hh => ?_⟩ fun t' k => ?_
  · have h1 : decide ((n : Int) < -(2 ^ 63 : Int)) = false := decide_eq_false (by omega)
    have h2 : decide ((n : Int) ≥ 2 ^ 63) = false := decide_eq_false (by omega)
    rw [h1, h2] <;> rfl
  · rw [sOf_len]
    simp only [Bool.or_eq_false_iff, beq_eq_false_iff_ne, ne_eq] at hh
    have hn0 : (0 : Int) < n := by omega
    intro hgt
    have h3 := Int.lt_mul_of_ediv_lt hn0 hgt
    have h4 : ((l.length * n : Nat) : Int) ≤ 16777216 := Int.ofNat_le.mpr h
    rw [Int.natCast_mul] at h4
    have h5 : (16777216 : Int) < 2 ^ 63 - 1 := by decide
    exact absurd (Int.lt_of_lt_of_le (Int.lt_trans h5 h3) h4) (Int.lt_irrefl _)
  · rw [sOf_len]
    have := small h
    rw [Int.toNat_natCast]
    unfold Builtin.Str.tooLong
    exact decide_eq_false (Nat.not_lt.mpr this)
  · rw [mul_is]
    exact ⟨V.str (sOf (rep l n)), _, I.tok _, ⟨_, rfl⟩, q⟩
end
end Kv

namespace KvR
open PySem PySem.Spec PyProof.Rows
theorem no_rev : typeLookup (.type "str") "__reversed__" = pure none := by rw [typeLookup_type, builtinLookup_eq_fast]; kernel_rfl
theorem has_get : typeLookup (.type "str") "__getitem__" = pure (some (.builtin "str.__getitem__")) := by rw [typeLookup_type, builtinLookup_eq_fast]; kernel_rfl
theorem not_dict : isSubtype (.type "str") (.type "dict") = pure false := by rw [isSubtype_type]; kernel_rfl
/-- reversed(text): the next place is i -/
def IsRs (h : Heap) (a : Addr) (x : Str) (t : Tok) (i : Int) : Prop := ∃ o, h.get? a = some o ∧ o.cls = .type "reversed" ∧ o.data = .fields #[.str x t, rawInt i]
def rsObj (x : Str) (t : Tok) (i : Int) : Obj := { cls := .type "reversed", data := .fields #[.str x t, rawInt i] }
section
variable {prog : Program} {w : World} {A : Around} {E : Value → Shared → Prop} {s : Shared}
theorem IsRs.ty {a : Addr} {x : Str} {t : Tok} {i : Int} (q : IsRs s.heap a x t i) : s.TypeIs (.ref a) "reversed" := let ⟨o, ho, hc, _⟩ := q; ⟨o, ho, hc⟩
theorem code_rev {x : Str} {t : Tok} {Q₁ : Value → Shared → Prop}
    (hlen : ∀ (A : Around) (E : Value → Shared → Prop) (Q : Value → Shared → Prop), (∀ tk u, Q (.int x.length u) { s with toks := tk }) → wpAny (model prog w) A (call (.builtin "len") [.str x t]) Q E s)
    (h : ∀ tk, Q₁ (.ref s.heap.objs.size) { s with heap := s.heap.push (rsObj x t ((x.length : Int) - 1)), toks := tk }) :
    codeAny (model prog w) A (.call (.builtin "reversed.__new__") ⟨[.type "reversed", .str x t], []⟩) (wants Q₁ E) s := by
  have hT : s.TypeIs (.str x t) "str" := typeIs_str s x t
  refine codeAny_of_tree ?_
  show wpAny _ A.in1 (do checkBuiltinCall "reversed.__new__" ⟨[.type "reversed", .str x t], []⟩; again (.builtin "reversed.__new__" ⟨[.type "reversed", .str x t], []⟩)) _ _ s
  refine wpAny_bind (wpAny_of_eq (F.newCall_reversed_1 _) (wpAny_pure ⟨plainId_quiet F.plain_reversed_new _, codeAny_builtin F.entry_reversed_new ?_⟩))
  rw [Around.under_plainId F.plain_reversed_new _]
  unfold Builtin.«reversed.__new__»
  refine wpAny_bind (wpAny_of_eq (newClass_reversed _) ?_)
  refine wpAny_bind (wpAny_of_eq (a := ()) (by first | rfl | kernel_rfl) ?_)
  refine wpAny_bind (wpAny_of_eq (a := ()) (by first | rfl | kernel_rfl) ?_)
  refine wpAny_bind (wpAny_specialOf hT no_rev ?_)
  refine wpAny_bind ?_
  wp_delta
  refine wpAny_bind (wpAny_isInstance (T := "str") (U := "dict") (b := false) hT not_dict ?_)
  try rw [if_neg Bool.false_ne_true]
  refine wpAny_bind (wpAny_specialOf hT has_get ?_)
  try rw [if_pos (by decide +kernel)]
  refine wpAny_pure ?_
  try rw [if_neg (by decide)]
  refine wpAny_bind (hlen _ _ _ fun tk u => ?_)
  refine wpAny_bind (wpAny_of_eq (a := some ((x.length : Nat) : Int)) rfl ?_)
  refine wpAny_bind ?_
  show wpAny _ _ (newObj (.type "reversed") (.fields #[.str x t, rawInt ((x.length : Int) - 1)])) _ _ _
  refine wpAny_newObj_type ?_
  exact wpAny_pure (h tk)
theorem call_rev {x : Str} {t : Tok} {Q : Value → Shared → Prop}
    (hlen : ∀ (A : Around) (E : Value → Shared → Prop) (Q : Value → Shared → Prop), (∀ tk u, Q (.int x.length u) { s with toks := tk }) → wpAny (model prog w) A (call (.builtin "len") [.str x t]) Q E s)
    (h : ∀ tk, Q (.ref s.heap.objs.size) { s with heap := s.heap.push (rsObj x t ((x.length : Int) - 1)), toks := tk }) : wpAny (model prog w) A (call (.type "reversed") [.str x t]) Q E s := by
  refine callType_codes (Q₁ := fun obj s₁ => s₁.TypeIs obj "reversed" ∧ Q obj s₁) RT.called_rt (F.typeCall_reversed_1 _) F.entry_object_init
    (code_rev (A := A.in1) hlen fun tk => ⟨⟨_, Heap.get?_push_size _ rfl, rfl⟩, h tk⟩) fun obj s₁ h₁ => ?_
  exact ⟨h₁.1, F.args_object_init_2 obj _, object_init_meets RT.called_rt.init.lookup RT.called_rt.made (by decide) prog w A.in1 _ s₁ ⟨h₁.1, rfl, h₁.2⟩⟩
theorem next_item {it : Addr} {i : Nat} {x : Str} {t : Tok} {c : Nat} {Q : Option Value → Shared → Prop} (hit : IsRs s.heap it x t (i : Int)) (hx : x.cps[i]? = some c) (hsz : x.length ≤ sizeLine)
    (hQ : ∀ h' tk u, IsRs h' it x t ((i : Int) - 1) → Heap.SameBut it s.heap h' → Q (some (.str ⟨#[c]⟩ u)) { s with heap := h', toks := tk }) : wpAny (model prog w) A (pyNext (.ref it)) Q E s := by
  obtain ⟨o, ho, hc, hd⟩ := id hit
  have hi : i < x.length := (Array.getElem?_eq_some_iff.mp hx).1
  have hT : s.TypeIs (.str x t) "str" := typeIs_str s x t
  rw [sizeLine_eq] at hsz
  unfold pyNext
  refine wpAny_bind (wpAny_attempt (wpAny_callSpecial?_slot (name := Str.ofString "__next__") hit.ty RT.slot_rt_next (wpAny_call_entry RT.slot_rt_next hit.ty RT.entry_rt_next ?_ (RT.args_rt_next _))))
  unfold Builtin.«reversed.__next__»
  refine wpAny_bind (wpAny_of_eq (a := (Value.ref it, [])) rfl ?_)
  refine wpAny_bind (wpAny_field ho hd (x := .str x t) rfl ?_)
  refine wpAny_bind (wpAny_field ho hd (x := rawInt (i : Int)) rfl ?_)
  show wpAny _ _ (if (i : Int) < 0 then _ else _) _ _ s
  rw [if_neg (by omega)]
  refine wpAny_bind (wpAny_specialOf hT has_get ?_)
  try rw [if_neg (by decide)]
  refine wpAny_bind (wpAny_mkInt ?_)
  refine wpAny_bind (wpAny_attempt ?_)
  have fin : seqIndex? (i : Int) x.length = some i := PySem.StrLaws.seqIndex_nonneg (by omega) (by omega)
  have e1 : decide ((i : Int) < -(2 ^ 63 : Int)) = false := decide_eq_false (by omega)
  have e2 : decide ((i : Int) ≥ 2 ^ 63) = false := decide_eq_false (by omega)
  refine getItem_str (s := { s with toks := s.toks + 1 }) (c := c) (by rw [e1, e2] <;> rfl) (by rw [fin]; exact hx) ?_
  try dsimp only
  refine wpAny_bind (wpAny_field (s := { s with toks := s.toks + 1 + 1 }) ho hd (x := rawInt (i : Int)) rfl ?_)
  try dsimp only
  refine wpAny_bind (wpAny_setField (s := { s with toks := s.toks + 1 + 1 }) ho hd (by simp) ?_)
  first
  | refine wpAny_pure ⟨_, rfl, wpAny_pure (hQ _ _ _ ?_ (Heap.SameBut.update ..))⟩
  | refine wpAny_bind (wpAny_pure (wpAny_pure ⟨_, rfl, wpAny_pure (hQ _ _ _ ?_ (Heap.SameBut.update ..))⟩))
  exact ⟨_, Heap.get?_update_self _ ho (Obj.isFreed_of_fields (Obj.data_mapFields hd _)), (Obj.cls_mapFields ..).trans hc, by
    rw [Obj.data_mapFields hd]; simp⟩
theorem next_end {it : Addr} {x : Str} {t : Tok} {Q : Option Value → Shared → Prop} (hh : A.handled = none) (hit : IsRs s.heap it x t (-1))
    (hQ : ∀ h', Heap.ExtBut it s.heap h' → Q none { s with heap := h' }) : wpAny (model prog w) A (pyNext (.ref it)) Q E s := by
  obtain ⟨o, ho, hc, hd⟩ := id hit
  unfold pyNext
  refine wpAny_bind (wpAny_attempt (wpAny_callSpecial?_slot (name := Str.ofString "__next__") hit.ty RT.slot_rt_next (wpAny_call_entry RT.slot_rt_next hit.ty RT.entry_rt_next ?_ (RT.args_rt_next _))))
  unfold Builtin.«reversed.__next__»
  refine wpAny_bind (wpAny_of_eq (a := (Value.ref it, [])) rfl ?_)
  refine wpAny_bind (wpAny_field ho hd (x := .str x t) rfl ?_)
  refine wpAny_bind (wpAny_field ho hd (x := rawInt (-1)) rfl ?_)
  show wpAny _ _ (if (-1 : Int) < 0 then _ else _) _ _ s
  rw [if_pos (by decide)]
  refine wpAny_bind (wpAny_rule ?_)
  refine wpAny_bind ?_
  wp_delta
  refine wpAny_bind (wpAny_setField ho hd (by simp) ?_)
  have ho2 := Heap.get?_update_self (Obj.mapFields (·.setIfInBounds 1 (rawInt (-1)))) ho (Obj.isFreed_of_fields (Obj.data_mapFields hd _))
  refine wpAny_setField (s := { s with heap := s.heap.update it (Obj.mapFields (·.setIfInBounds 1 (rawInt (-1)))) }) ho2 (Obj.data_mapFields hd _) (by simp) ?_
  first
  | show wpAny _ _ (newExc (.type "StopIteration") [] >>= _) _ _ _
  | (refine wpAny_bind ?_; show wpAny _ _ (newExc (.type "StopIteration") [] >>= _) _ _ _)
  | (refine wpAny_bind ?_; wp_delta; show wpAny _ _ (newExc (.type "StopIteration") [] >>= _) _ _ _)
  refine wpAny_bind ?_
  simp only [newExc, newTuple]
  refine wpAny_bind (wpAny_newObj_type ?_ (by size_fits))
  refine wpAny_bind (m := firstArgMember _ _) (wpAny_of_eq (a := Value.none) (by first | rfl | (simp only [firstArgMember]; rfl)) ?_)
  refine wpAny_newObj_type ?_ (by size_fits)
  simp only [raiseNew]
  refine wpAny_bind (wpAny_handled ?_)
  first | rw [show A.in1.handled = none from hh] | rw [hh]
  refine wpAny_bind (wpAny_pure (wpAny_throw ?_))
  refine wpAny_bind (wpAny_isInstance (T := "StopIteration") (b := true) ⟨_, Heap.get?_push_size _ rfl, rfl⟩ isSubtype_stop ?_)
  refine wpAny_pure (hQ _ ?_)
  refine ((?_ : Heap.ExtBut it s.heap _).push _).push _
  exact fun b ob hb e => (Heap.get?_update_other _ _ (Ne.symm hb)).trans ((Heap.get?_update_other _ _ (Ne.symm hb)).trans e)
theorem iter_self {it : Addr} {x : Str} {t : Tok} {i : Int} {Q : Value → Shared → Prop} (hit : IsRs s.heap it x t i) (h : Q (.ref it) s) : wpAny (model prog w) A (pyIter (.ref it)) Q E s := by
  refine wpAny_pyIter_slot hit.ty RT.slot_rt_iter (wpAny_call_entry RT.slot_rt_iter hit.ty RT.entry_rt_iter ?_ (RT.args_rt_iter _))
  show wpAny _ _ (ret (.ref it)) _ _ s
  exact wpAny_pure ⟨_, rfl, "reversed", _, hit.ty, RT.slot_rt_next.lookup, h⟩
end
end KvR
namespace Kv
open PySem PySem.Spec PyProof.Rows L2
/-- a text's signs from behind -/
def Irs (x : Str) : It := ⟨fun i _ => i < x.cps.size, fun i H v H' => H' = H ∧ ∃ c, x.cps[x.cps.size - 1 - i]? = some c ∧ v = .str ⟨#[c]⟩, fun i _ => i = x.cps.size⟩
theorem turn_rs {P : Program} {w : World} {K : PySem.W.Frag} {tg : Expr} (it : Addr) (x : Str) (t : Tok) (hsz : x.length ≤ sizeLine) :
    Turn P w K tg (Irs x) [it] it (fun i h => KvR.IsRs h it x t ((x.cps.size : Int) - 1 - (i : Nat))) where
  mem := by simp
  obj := fun i h st b hb => by
    have e : b = it := by simpa using hb
    subst e
    obtain ⟨o, e, c, d⟩ := st
    exact ⟨o, e, fun v z => by rw [d] at z; cases z⟩
  keep := fun i h h' st k => let ⟨o, ho, r⟩ := st; ⟨o, k it (by simp) o ho, r⟩
  item := by
    intro X hP hw hK hc i pins s σ H E I hf st hg
    subst hP hw hK
    obtain ⟨f0, f1, f2, f3, f4, f5⟩ := hf it (by simp)
    have hi : i < x.cps.size := hg
    have e0 : ((x.cps.size : Int) - 1 - (i : Nat)) = ((x.cps.size - 1 - i : Nat) : Int) := by omega
    have st' : KvR.IsRs s.heap it x t ((x.cps.size - 1 - i : Nat) : Int) := by rw [← e0]; exact st
    have hx : x.cps[x.cps.size - 1 - i]? = some (x.cps[x.cps.size - 1 - i]'(by omega)) := by simp [show x.cps.size - 1 - i < x.cps.size by omega]
    refine KvR.next_item st' hx hsz fun h' tk u hit hs => ?_
    have I1 : Inv X pins σ H { s with heap := h', toks := tk } := I.turned (fun b o hb e => (hs.2 b (by simpa using hb)).trans e) f0 f1 f3 f4 f5
    obtain ⟨oi, e, cc, dd⟩ := id hit
    refine ⟨_, rfl, go_of (s := { s with heap := h', toks := tk }) e cc dd (by decide) ⟨.str ⟨#[_]⟩, H, I1, ⟨u, rfl⟩, ⟨rfl, _, hx, rfl⟩, ?_, fun b hb => (hf b hb).1⟩⟩
    have e1 : ((x.cps.size : Int) - 1 - ((i + 1 : Nat) : Int)) = ((x.cps.size - 1 - i : Nat) : Int) - 1 := by omega
    rw [e1]
    exact hit
  done := by
    intro X hP hw hK hc i pins s σ H E I hf st hg
    subst hP hw hK
    obtain ⟨f0, f1, f2, f3, f4, f5⟩ := hf it (by simp)
    have hi : i = x.cps.size := hg
    have e0 : ((x.cps.size : Int) - 1 - (i : Nat)) = -1 := by omega
    rw [e0] at st
    exact KvR.next_end (I.ok.hd hc) st fun h' eb => ⟨rfl, I.turned (t' := s.toks) (fun b o hb e => eb b o (by simpa using hb) e) f0 f1 f3 f4 f5⟩
  self := fun A i s Q E st h => KvR.iter_self st h
theorem walk_rs {x : Str} : Walk (Irs x) x.cps.size (fun _ => True) (fun i H v H' => H' = H ∧ ∃ c, x.cps[x.cps.size - 1 - i]? = some c ∧ v = .str ⟨#[c]⟩) := ⟨fun _ _ hi _ => hi, fun _ _ => rfl, fun _ _ _ _ _ _ y => y⟩
theorem pi_rs {X : Cx} {tg e : Expr} {te : TE} {p pos : Pos} (hg : Gl X "reversed") (hm : X.mg "reversed" = none) (he : PE X e te) (hs : starEach [e] X.env = (false, eval e X.env) :: starEach [] X.env := by rfl) (hs' : starEach [e] X.env = [(false, eval e X.env)] := by rfl) :
    PI X tg (.Call (.Name "reversed" p) [e] [] pos) (fun σ H R => te σ H fun v H1 => ∃ x, v = .str x ∧ x.length ≤ sizeLine ∧ R (Irs x) H1) := by
  refine ⟨fun pins s σ H R I h => ?_⟩
  refine Call_ (ld_blt I hg hm PyProof.Rows.boot_reversed (PyProof.Rows.callWith_type1 (thn ((pa_cons he pa_nil hs).run pos pins s σ H (fun vs H1 => ∃ x, vs = [.str x] ∧ x.length ≤ sizeLine ∧ R (Irs x) H1) I ?_) fun us s1 ⟨vs, H1, I1, r1, q1⟩ => ?_) hs' rfl))
  · have hh : (fun v H1 => ∃ x, v = V.str x ∧ x.length ≤ sizeLine ∧ R (Irs x) H1) = fun v H1 => tNil σ H1 fun xs H2 => ∃ x, v :: xs = [V.str x] ∧ x.length ≤ sizeLine ∧ R (Irs x) H2 := by
      funext v H1
      simp [tNil]
    show te σ H _
    rw [← hh]
    exact h
  obtain ⟨x, ex, hl, q⟩ := q1
  subst ex
  cases r1 with
  | cons r rr =>
    cases rr
    obtain ⟨t, rfl⟩ := r
    refine KvR.call_rev (fun A E Q hq => ?_) fun tk => ?_
    · have hn := line63
      exact P.len_str (by omega) (hq _ _)
    · have I2 : Inv X pins σ H1 { s1 with heap := s1.heap.push (KvR.rsObj x t ((x.length : Int) - 1)), toks := tk } := I1.kept (t' := tk) fun b o z => Heap.get?_push_of_some _ z
      have st : KvR.IsRs (s1.heap.push (KvR.rsObj x t ((x.length : Int) - 1))) s1.heap.objs.size x t ((x.length : Int) - 1) := ⟨_, Heap.get?_push_size _ rfl, rfl, rfl⟩
      refine KvR.iter_self st (pi_one (tk := tk) I1 _ (turn_rs _ x t hl) ?_ q)
      have e0 : ((x.cps.size : Int) - 1 - ((0 : Nat) : Int)) = (x.length : Int) - 1 := by show _ = (x.cps.size : Int) - 1; omega
      show KvR.IsRs _ _ _ _ ((x.cps.size : Int) - 1 - ((0 : Nat) : Int))
      rw [e0]
      exact st
section
variable {X : Cx} {σ : L2.St} {B : Hp} {L : HL} {Q : KQ} {D : KD} {pos p2 pos' : Pos} {e a b c tg iter elt : Expr} {es : List Expr} {body : List Stmt} {scope : Scope}
theorem r_rs {R : It → Hp → HL → Prop} (hm : X.mg "reversed" = none) (h : kE X e σ B L fun v B1 L1 => ∃ l, v = .str (sOf l) ∧ l.length ≤ 16777216 ∧ R (Irs (sOf l)) B1 L1) (hg : Gl X "reversed" := by rfl) (hs : starEach [e] X.env = (false, eval e X.env) :: starEach [] X.env := by rfl) (hs' : starEach [e] X.env = [(false, eval e X.env)] := by rfl) :
    kR X tg (.Call (.Name "reversed" p2) [e] [] pos) σ B L R := ⟨_, pi_rs hg hm pe_c hs hs', fun H s => toE s h fun _ _ _ _ s ⟨l, e, hl, q⟩ => ⟨_, e, by rw [sOf_len]; exact small hl, _, _, s, q⟩⟩
/-- a comprehension over a text from behind -/
theorem k_lcm_rs {x : Str} {j : Nat} {px : Pos} (g : Nat → V) (hN : X.N.Nodup) (ok : BlkOk X.N X.env.scope scope [(x, j)]) (hm : X.mg "reversed" = none)
    (h : kE X e σ B L fun v B1 L1 => ∃ l, v = .str (sOf l) ∧ l.length ≤ 16777216 ∧ (∀ c ∈ l, ∀ D acc s H0 C cl fp, kE (Bk X scope s H0 C cl fp) elt (σ.set j (some (.str (sOf [c])))) B1 ((D, .lst acc) :: L1) fun y B3 L3 => y = g c ∧ B3 = B1 ∧ L3 = (D, .lst acc) :: L1) ∧
      ∀ D, Q (.ref D) B1 ((D, .lst (l.reverse.map g)) :: L1))
    (hp : ∀ s H0 C cl fp, Loc (Bk X scope s H0 C cl fp).env.scope x := by intro _ _ _ _ _; first | exact Or.inl rfl | exact Or.inr rfl) (hf : ∀ s H0 C cl fp, (Bk X scope s H0 C cl fp).fn x = true ∨ (Bk X scope s H0 C cl fp).env.scope.names.lookup x = some .local := by intro _ _ _ _ _; first | exact .inr rfl | exact .inl rfl)
    (hg : Gl X "reversed" := by rfl) (hst : starEach [e] X.env = (false, eval e X.env) :: starEach [] X.env := by rfl) (hst' : starEach [e] X.env = [(false, eval e X.env)] := by rfl)
    (hj : X.N[j]? = some x := by rfl) (hc : X.calm = true := by rfl) (hs : ∀ x, foldedSetIterable (.Call (.Name "reversed" p2) [e] [] pos') X.env x = pure x := by intro _; rfl) :
    kL X elt (.Name x px) (.Call (.Name "reversed" p2) [e] [] pos') [] scope [(x, j)] σ B L Q :=
  k_lc hN ok (r_rs hm (by
    obtain ⟨t, h1, h2⟩ := h
    refine ⟨_, pe_c, fun H s => toE s ⟨t, h1, h2⟩ fun v H' B1 L1 s' ⟨l, e, hl, ht, hd⟩ => ⟨B1, L1, s', l, e, hl, (sOf l).cps.size, _, _, fun i acc B L => B = B1 ∧ L = L1 ∧ acc = (l.reverse.take i).map g, walk_rs, ⟨rfl, rfl, by simp⟩, fun i acc B L H hi p s => trivial, ?_, ?_⟩⟩
    · rintro D i acc x B L H H' hi ⟨rfl, rfl, rfl⟩ s ⟨rfl, c, hx, rfl⟩
      rw [sOf_size] at hi
      have hx1 : l[l.length - 1 - i]? = some c := by simpa [sOf] using hx
      have hx' : l.reverse[i]? = some c := by rw [List.getElem?_reverse hi]; exact hx1
      refine ⟨_, _, s, fun sa Ha Ca cla fpa => g_name j ?_ hN hj (hp sa Ha Ca cla fpa) (hf sa Ha Ca cla fpa)⟩
      refine ⟨wipe1 σ j _, fun sb Hb Cb clb fpb => ?_⟩
      show kE _ _ ((wipe σ [j]).set j _) _ _ _
      rw [wipe1']
      obtain ⟨t2, k1, k2⟩ := ht c (List.mem_of_getElem? hx1) D ((l.reverse.take i).map g) sb Hb Cb clb fpb
      refine ⟨_, pe_c, fun H s => toE s ⟨t2, k1, k2⟩ fun y H2 B2 L2 s2 ⟨e1, e2, e3⟩ => ⟨B2, L2, s2, ?_, L, e3, e2, rfl, ?_⟩⟩
      · simp; omega
      · rw [e1, List.take_add_one, hx']; simp
    · rintro acc B L D ⟨rfl, rfl, rfl⟩
      rw [sOf_size, show l.length = l.reverse.length by simp, List.take_length]
      exact hd D) hg hst hst') hc hs
theorem k_for_rs (Pv : Nat → KN) (hp : PassesOwn (model X.prog X.w) X.A X.env X.xe) (hm : X.mg "reversed" = none)
    (h : kE X e σ B L fun v B1 L1 => ∃ l, v = .str (sOf l) ∧ l.length ≤ 16777216 ∧ Pv 0 σ B1 L1 ∧
      (∀ i c σ B L, l.reverse[i]? = some c → Pv i σ B L → kG X tg (.str (sOf [c])) σ B L fun σ2 B2 L2 => kSs X body σ2 B2 L2 { D with nx := Pv (i + 1), ct := Pv (i + 1), bk := D.nx }) ∧ ∀ σ B L, Pv l.length σ B L → D.nx σ B L)
    (hg : Gl X "reversed" := by rfl) (hst : starEach [e] X.env = (false, eval e X.env) :: starEach [] X.env := by rfl) (hst' : starEach [e] X.env = [(false, eval e X.env)] := by rfl)
    (hc : X.calm = true := by rfl) (hs : ∀ x, foldedSetIterable (.Call (.Name "reversed" p2) [e] [] pos') X.env x = pure x := by intro _; rfl) : kS X (.For tg (.Call (.Name "reversed" p2) [e] [] pos') body [] pos) σ B L D :=
  k_for hp (r_rs hm (by
    obtain ⟨t, h1, h2⟩ := h
    refine ⟨_, pe_c, fun H s => toE s ⟨t, h1, h2⟩ fun v H' B' L' s' ⟨l, e, hl, p0, ht, hd⟩ => ⟨B', L', s', l, e, hl, (sOf l).cps.size, _, _, Pv, walk_rs, p0, fun i σ B L H hi p s => trivial, fun i x σ B L H H' hi p s y => ?_, by rw [sOf_size]; exact hd⟩⟩
    obtain ⟨rfl, c, hx, rfl⟩ := y
    rw [sOf_size] at hi
    have hx1 : l[l.length - 1 - i]? = some c := by simpa [sOf] using hx
    exact ⟨B, L, s, ht i c σ B L (by rw [List.getElem?_reverse hi]; exact hx1) p⟩) hg hst hst') hc hs
end
end Kv

namespace Kv
open PySem PySem.Spec PyProof.Rows L2 TL
theorem rev_is (l : List Nat) (u : Tok) : Txt.sliceBy (sOf l) none none (-1, u) = sOf l.reverse := by
  apply ext_toList
  rw [step_rev_list, sOf_len]
  show _ = l.reverse.toArray.toList
  rw [List.toList_toArray]
  apply List.ext_getElem
  · simp
  · intro i h1 h2
    simp at h1 h2
    simp [sOf, Array.getD, List.getElem_reverse, show l.length - 1 - i < l.length by omega]
section
variable {X : Cx} {σ : L2.St} {B : Hp} {L : HL} {Q : KQ} {D : KD} {pos p2 pos' p1 p3 : Pos} {e a b c tg iter elt : Expr} {es : List Expr} {body : List Stmt} {scope : Scope}
/-- text[::-1] -/
theorem k_revs {k : Nat} (h : kE X e σ B L fun v B1 L1 => ∃ l, v = .str (sOf l) ∧ l.length ≤ 16777216 ∧ Q (.str (sOf l.reverse)) B1 L1) : kE X (.Subscript e (.Slice none none (some (.UnaryOp .USub (.Constant (.int 1) k p1) p2)) p3) pos) σ B L Q := by
  refine ⟨fun σ H Q => cE X e σ H fun v H1 => ∃ l, v = .str (sOf l) ∧ l.length ≤ 16777216 ∧ Q (.str (sOf l.reverse)) H1, ⟨fun pins s σ H Q I h => ?_⟩, fun H s => toE s h fun _ _ _ _ s ⟨l, e, hl, q⟩ => ⟨l, e, hl, _, _, s, q⟩⟩
  refine Subscript_ (thn (pe_c.run pins s σ H _ I h) fun v s1 ⟨x, H1, I1, r1, l, ex, hl, q⟩ => ?_)
  subst ex
  obtain ⟨t, rfl⟩ := r1
  have part : PO X (some (.UnaryOp .USub (.Constant (.int 1) k p1) p2)) (tPart (tUn (rU fun i => .int (-i)) (tC (.int 1)))) := po_some (pe_un un_neg pe_int)
  refine wpAny_Slice (thn (po_none.run pins s1 σ H1 (fun o H2 => o = none ∧ H2 = H1) I1 ⟨rfl, rfl⟩) fun vl s2 ⟨o1, H2, I2, pl, e1, e2⟩ => ?_)
  subst e1 e2
  refine thn (po_none.run pins s2 σ H2 (fun o H3 => o = none ∧ H3 = H2) I2 ⟨rfl, rfl⟩) fun vu s3 ⟨o2, H3, I3, pu, e1, e2⟩ => ?_
  subst e1 e2
  refine thn (part.run pins s3 σ H3 (fun o H4 => o = some (-1) ∧ H4 = H3) I3 ⟨1, rfl, -1, rfl, rfl, rfl⟩) fun vs s4 ⟨o3, H4, I4, ps, e1, e2⟩ => ?_
  subst e1 e2
  have I5 : Inv X pins σ H4 { s4 with heap := s4.heap.push { cls := .type "slice", data := .fields #[vl, vu, vs] } } := I4.kept (t' := s4.toks) fun b ob q => Heap.get?_push_of_some _ q
  cases pl
  cases pu
  obtain ⟨st, rfl, hst⟩ := IsPart.raw ps
  cases st with
  | none => cases hst
  | some z =>
    obtain ⟨zk, zu⟩ := z
    have ez : zk = -1 := Option.some.inj hst
    subst ez
    show wpAny (model X.prog X.w) X.A (subscriptTail e (.Slice none none (some (.UnaryOp .USub (.Constant (.int 1) k p1) p2)) p3) (.str (sOf l) t) (.ref s4.heap.objs.size)) (EP X pins σ Q) X.xe { s4 with heap := s4.heap.push { cls := .type "slice", data := .fields #[.none, .none, _] } }
    refine tail_any (ops := [.str (sOf l) t, .ref s4.heap.objs.size]) (typeIs_str _ _ _) (F.slot_str_getitem.lookup) ?_ (by with_unfolding_all rfl)
    refine wpAny_getItem_str_slice (l := none) (u := none) (st := some (-1, zu)) ⟨_, Heap.get?_push_size _ rfl, rfl, rfl⟩ rfl ?_
    refine post_val_or_str ⟨?_, fun t' c => ?_⟩
    · refine Nat.le_trans (Txt.sliceBy_le (sOf l) none none (-1, zu) (by show (-1 : Int) ≠ 0; decide)) ?_
      rw [sOf_len]; exact small hl
    · refine ⟨.str (sOf l.reverse), H4, I5.tok _, ?_, q⟩
      rw [← rev_is l zu]
      exact ⟨_, rfl⟩

/-! ### methods of texts -/
theorem m_index {x y : Str} {k : Nat} (h : Txt.index0 x y = some k) (q : Q (.int k) B L) (hc : X.calm = true := by rfl) : kMt X "str.index" (.str x) [.str y] B L Q :=
  ⟨fun x xs H Q => rIndexX (fun _ _ _ _ => False) [] x xs H Q, fun pins s σ H x xs v us Q I rx rs q => mt_indexX hc takes0 pins s σ H x xs v us Q I rx rs q, fun H s => ⟨x, y, rfl, rfl, fun j hj => by
    rw [h] at hj; cases hj; exact ⟨_, _, s, q⟩, fun hn => by rw [h] at hn; cases hn⟩⟩
theorem k_sindex {name : Str} {apos : Pos} (h : kE X a σ B L fun x B1 L1 => ∃ z, x = .str z ∧ kA X (e :: es) σ B1 L1 fun vs B2 L2 => kMt X "str.index" x vs B2 L2 Q)
    (hbase : attributeBase a "index" X.env (eval a X.env) = eval a X.env := by rfl)
    (hfew : ((backTo pos (starEach (e :: es) X.env)).all (fun x => !x.1) && (backToKw pos (keywordEach [] X.env)).all (fun x => x.1.isSome)
      && decide ((e :: es).length + ([] : List Keyword).length + (if ([] : List Keyword).isEmpty then 0 else 1) < 30)) = true := by rfl)
    (hline : (apos.endLine == pos.line) = true := by rfl) (hs : starEach (e :: es) X.env = (false, eval e X.env) :: starEach es X.env := by rfl) (hplain : (backTo pos (starEach es X.env)).any (·.1) = false := by rfl) :
    kE X (.Call (.Attribute a "index" apos) (e :: es) [] pos) σ B L Q := by
  refine k_m PySem.F.plainAttrs_str PySem.F.slot_str_index PySem.F.type_str_index ?_ hbase hfew hline hs hplain
  obtain ⟨t, h1, h2⟩ := h
  refine ⟨_, pe_c, fun H s => toE s ⟨t, h1, h2⟩ fun x H' B' L' s' ⟨z, e, q⟩ => ⟨B', L', s', ?_, q⟩⟩
  subst e
  exact ty_s
theorem joinN (ls : List (List Nat)) : Txt.join (sOf []) (ls.map sOf) = sOf ls.flatten := by
  rw [join_eq]
  apply ext_toList
  show tl _ = _
  rw [tl_join]
  have e : (ls.map sOf).map tl = ls := by rw [List.map_map]; exact (List.map_congr_left (fun l _ => by simp [tl, sOf])).trans (List.map_id _)
  rw [e]
  have h : ∀ ls : List (List Nat), joinL [] ls = ls.flatten := by
    intro ls
    induction ls with
    | nil => rfl
    | cons a r ih =>
      cases r with
      | nil => simp [joinL]
      | cons b r =>
        have e2 : joinL [] (a :: b :: r) = a ++ ([] ++ joinL [] (b :: r)) := rfl
        rw [e2, ih]; simp
  show joinL [] ls = (sOf ls.flatten).cps.toList
  rw [h]
/-- ''.join(list of texts) -/
theorem m_join0 {p : Addr} {ls : List (List Nat)} (h : Ls X.K B L p (ls.map fun l => V.str (sOf l))) (q : Q (.str (sOf ls.flatten)) B L) (hl : ls.flatten.length ≤ 16777216) : kMt X "str.join" (.str (sOf [])) [.ref p] B L Q :=
  ⟨_, mt_join, fun H s => ⟨sOf [], p, ls.map sOf, rfl, rfl, .inl (by rw [List.map_map]; exact h.at s), by
    have e : ((ls.map sOf).map (·.length)).sum = ls.flatten.length := by rw [List.map_map, List.length_flatten]; congr 1
    rw [e, show (sOf []).length = 0 from rfl]; omega, by rw [joinN]; exact ⟨_, _, s, q⟩⟩⟩
theorem k_join (h : kE X a σ B L fun x B1 L1 => ∃ z, x = .str z ∧ kE X e σ B1 L1 fun v B2 L2 => kMt X "str.join" x [v] B2 L2 Q) {apos : Pos}
    (hbase : attributeBase a "join" X.env (eval a X.env) = eval a X.env := by rfl)
    (hfew : ((backTo pos (starEach [e] X.env)).all (fun x => !x.1) && (backToKw pos (keywordEach [] X.env)).all (fun x => x.1.isSome)
      && decide ([e].length + ([] : List Keyword).length + (if ([] : List Keyword).isEmpty then 0 else 1) < 30)) = true := by rfl)
    (hline : (apos.endLine == pos.line) = true := by rfl) (hs : starEach [e] X.env = (false, eval e X.env) :: starEach [] X.env := by rfl) (hplain : (backTo pos (starEach [] X.env)).any (·.1) = false := by rfl) :
    kE X (.Call (.Attribute a "join" apos) [e] [] pos) σ B L Q := by
  refine k_m PySem.F.plainAttrs_str PySem.F.slot_str_join PySem.F.type_str_join ?_ hbase hfew hline hs hplain
  obtain ⟨t, h1, h2⟩ := h
  refine ⟨_, pe_c, fun H s => toE s ⟨t, h1, h2⟩ fun x H' B' L' s' ⟨z, ez, q⟩ => ⟨B', L', s', ?_, ?_⟩⟩
  · subst ez; exact ty_s
  · refine a_cons ?_ hs
    obtain ⟨t2, k1, k2⟩ := q
    exact ⟨_, pe_c, fun H s => toE s ⟨t2, k1, k2⟩ fun v H2 B2 L2 s2 q2 => ⟨B2, L2, s2, a_nil q2⟩⟩
/-- c.lower() -/
theorem m_lower {x y : Str} (hy : Txt.lower x = y) (q : Q (.str y) B L) (hl : x.length ≤ 5592405) : kMt X "str.lower" (.str x) [] B L Q := ⟨_, mt_lower, fun H s => ⟨x, rfl, rfl, hl, by rw [hy]; exact ⟨_, _, s, q⟩⟩⟩
end
end Kv

namespace Kv
open PySem PySem.Spec PyProof.Rows L2
/-! ### enumerate(text) -/
/-- a text's signs with their places, each pair a new tuple -/
def Ies (x : Str) : It := ⟨fun i _ => i < x.cps.size, fun i H v H' => ∃ T c, v = .ref T ∧ H T = none ∧ H' = upd H T (.tup [.int (i : Nat), .str ⟨#[c]⟩]) ∧ x.cps[i]? = some c, fun i _ => i = x.cps.size⟩
theorem draws_str {prog : Program} {w : World} {A : Around} (hh : A.handled = none) (it : Addr) (x : Str) (t : Tok) (ty : String) (hty : ty = "str_ascii_iterator" ∨ ty = "str_iterator") :
    Draws prog w A it [it] x.cps.size (fun i v => ∃ c u, x.cps[i]? = some c ∧ v = .str ⟨#[c]⟩ u) (fun i h => h.IsStrIter it ty x t i) := by
  rcases hty with e | e
  · rw [e]; exact Draws.strAscii hh it x t
  · rw [e]; exact Draws.strWide hh it x t
theorem turn_es {P : Program} {w : World} {K : PySem.W.Frag} {elts : List Expr} {kk : Nat} {tpos : Pos} (x : Str) (t : Tok) (e it : Addr) (ty : String) (hty : ty = "str_ascii_iterator" ∨ ty = "str_iterator") :
    Turn P w K (.Tuple elts kk tpos) (Ies x) [e, it] e (fun i h => (∃ old, IsEnum h e it ((i : Nat) : Int) old) ∧ h.IsStrIter it ty x t i ∧ e ≠ it) where
  mem := by simp
  obj := fun i h st b hb => by
    obtain ⟨⟨old, he⟩, ⟨o, ho, hc, hd⟩, _⟩ := st
    have e' : b = e ∨ b = it := by simpa using hb
    rcases e' with z | z
    · subst z; exact ⟨_, he, fun v q => nomatch q⟩
    · subst z; exact ⟨o, ho, fun v q => by rw [hd] at q; cases q⟩
  keep := fun i h h' st k => by
    obtain ⟨⟨old, he⟩, ⟨o, ho, r⟩, hne⟩ := st
    exact ⟨⟨old, k e (by simp) _ he⟩, ⟨o, k it (by simp) o ho, r⟩, hne⟩
  item := by
    intro X hP hw hK hc i pins s σ H E I hf st hg
    subst hP hw hK
    obtain ⟨⟨old, he⟩, hit, hne⟩ := st
    have D := draws_str (prog := X.prog) (w := X.w) (A := X.A.in1) (I.ok.hd hc) it x t ty hty
    have hel : e < s.heap.objs.size := Heap.lt_size he
    have hil : it < s.heap.objs.size := by obtain ⟨_, q, _⟩ := hit; exact Heap.lt_size q
    refine wpAny_pyNext_enum_itemD D he hit hg hne (by simpa using hne) fun v h' tk hv ho hit' hT hsz hk => ?_
    obtain ⟨c, u, hcx, rfl⟩ := hv
    refine ⟨_, rfl, wpAny_letOwnedTupleGo_enum (s := { s with heap := h', toks := tk + 1 }) ho fun h2 he2 sb => ?_⟩
    have hT2 : h2.get? s.heap.objs.size = some { cls := .type "tuple", data := .seq #[.int i tk, .str ⟨#[c]⟩ u] } := (sb.2 _ (Nat.ne_of_gt hel)).trans hT
    have nw : ObjOk X.prog X.w (upd H s.heap.objs.size (.tup [.int (i : Nat), .str ⟨#[c]⟩])) h2 s.heap.objs.size (.tup [.int (i : Nat), .str ⟨#[c]⟩]) :=
      ⟨by show 2 ≤ sizeLine; decide, [.int i tk, .str ⟨#[c]⟩ u], .cons ⟨_, rfl⟩ (.cons ⟨_, rfl⟩ .nil), ⟨_, hT2, rfl, _, rfl⟩⟩
    have J : Inv X pins σ (upd H s.heap.objs.size (.tup [.int (i : Nat), .str ⟨#[c]⟩])) { s with heap := h2, toks := tk + 1 } :=
      I.turnedNew (ch := [e, it]) (fun b ob hb q => (sb.2 b (fun z => hb (by simp [z]))).trans (hk b ob (fun z => hb (by simp [z])) (fun z => hb (by simp [z])) q)) hf (Nat.le_refl _) nw
    refine ⟨.ref s.heap.objs.size, _, J, rfl, ⟨_, c, rfl, I.hok.fresh (Nat.le_refl _), rfl, hcx⟩, ⟨⟨.str ⟨#[c]⟩ u, ?_⟩, ?_, hne⟩, fun b hb => ?_⟩
    · have e1 : ((i + 1 : Nat) : Int) = (i : Int) + 1 := by omega
      rw [e1]; exact he2
    · obtain ⟨o, ho1, r⟩ := hit'
      exact ⟨o, (sb.2 it (Ne.symm hne)).trans ho1, r⟩
    · have hb' : b < s.heap.objs.size := by
        have e' : b = e ∨ b = it := by simpa using hb
        rcases e' with z | z
        · rw [z]; exact hel
        · rw [z]; exact hil
      rw [upd_ne (Nat.ne_of_lt hb')]
      exact (hf b hb).1
  done := by
    intro X hP hw hK hc i pins s σ H E I hf st hg
    subst hP hw hK
    obtain ⟨⟨old, he⟩, hit, hne⟩ := st
    have D := draws_str (prog := X.prog) (w := X.w) (A := X.A.in1) (I.ok.hd hc) it x t ty hty
    obtain ⟨f0, f1, f2, f3, f4, f5⟩ := hf it (by simp)
    have hi : i = x.cps.size := hg
    subst hi
    exact wpAny_pyNext_enum_endD D he hit fun h' eb => ⟨rfl, I.turned (t' := s.toks) (fun b o hb q => eb b o hb q) f0 f1 f3 f4 f5⟩
  self := fun A i s Q E st h => let ⟨⟨_, he⟩, _⟩ := st; wpAny_pyIter_enum he h
theorem walk_es {x : Str} : Walk (Ies x) x.cps.size (fun _ => True) (fun i H v H' => ∃ T c, v = .ref T ∧ H T = none ∧ H' = upd H T (.tup [.int (i : Nat), .str ⟨#[c]⟩]) ∧ x.cps[i]? = some c) := ⟨fun _ _ hi _ => hi, fun _ _ => rfl, fun _ _ _ _ _ _ y => y⟩
theorem pi_es {X : Cx} {e : Expr} {te : TE} {p pos tpos : Pos} {elts : List Expr} {kk : Nat} (hg : Gl X "enumerate") (hm : X.mg "enumerate" = none) (he : PE X e te) (hs : starEach [e] X.env = (false, eval e X.env) :: starEach [] X.env := by rfl) (hs' : starEach [e] X.env = [(false, eval e X.env)] := by rfl) :
    PI X (.Tuple elts kk tpos) (.Call (.Name "enumerate" p) [e] [] pos) (fun σ H R => te σ H fun v H1 => ∃ x, v = .str x ∧ R (Ies x) H1) := by
  refine ⟨fun pins s σ H R I h => ?_⟩
  refine Call_ (ld_blt I hg hm boot_enumerate (PyProof.Rows.callWith_type1 (thn ((pa_cons he pa_nil hs).run pos pins s σ H (fun vs H1 => ∃ x, vs = [.str x] ∧ R (Ies x) H1) I ?_) fun us s1 ⟨vs, H1, I1, r1, q1⟩ => ?_) hs' rfl))
  · have hh : (fun v H1 => ∃ x, v = V.str x ∧ R (Ies x) H1) = fun v H1 => tNil σ H1 fun xs H2 => ∃ x, v :: xs = [V.str x] ∧ R (Ies x) H2 := by
      funext v H1
      simp [tNil]
    show te σ H _
    rw [← hh]
    exact h
  obtain ⟨x, ex, q⟩ := q1
  subst ex
  cases r1 with
  | cons r rr =>
    cases rr
    obtain ⟨t, rfl⟩ := r
    refine call_enumerate_str fun h' he hit hsz hk => wpAny_pyIter_enum he ?_
    have I2 : Inv X pins σ H1 { s1 with heap := h' } := I1.kept (t' := s1.toks) hk
    have hty : strIterType x = "str_ascii_iterator" ∨ strIterType x = "str_iterator" := by unfold strIterType; split <;> simp
    refine ⟨s1.heap.objs.size + 1, [s1.heap.objs.size + 1, s1.heap.objs.size], _, _, H1, rfl, I2, turn_es x t (s1.heap.objs.size + 1) s1.heap.objs.size _ hty, ⟨⟨.none, he⟩, hit, Nat.succ_ne_self _⟩, fun b hb => ?_, q⟩
    have hle : s1.heap.objs.size ≤ b := by
      have e' : b = s1.heap.objs.size + 1 ∨ b = s1.heap.objs.size := by simpa using hb
      rcases e' with z | z
      · rw [z]; exact Nat.le_add_right _ _
      · rw [z]; exact Nat.le_refl _
    exact I1.fpOk hle (I1.hok.fresh hle)
section
variable {X : Cx} {σ : L2.St} {B : Hp} {L : HL} {Q : KQ} {D : KD} {pos p2 pos' : Pos} {e a b c tg iter elt : Expr} {es : List Expr} {body : List Stmt} {scope : Scope}
theorem r_es {R : It → Hp → HL → Prop} {elts : List Expr} {kk : Nat} {tpos : Pos} (hm : X.mg "enumerate" = none) (h : kE X e σ B L fun v B1 L1 => ∃ l, v = .str (sOf l) ∧ R (Ies (sOf l)) B1 L1) (hg : Gl X "enumerate" := by rfl) (hs : starEach [e] X.env = (false, eval e X.env) :: starEach [] X.env := by rfl) (hs' : starEach [e] X.env = [(false, eval e X.env)] := by rfl) :
    kR X (.Tuple elts kk tpos) (.Call (.Name "enumerate" p2) [e] [] pos) σ B L R := ⟨_, pi_es hg hm pe_c hs hs', fun H s => toE s h fun _ _ _ _ s ⟨l, e, q⟩ => ⟨_, e, _, _, s, q⟩⟩
theorem wipe2' (σ : L2.St) (i j : Nat) (x y : V) : ((wipe σ [i, j]).set i (some x)).set j (some y) = (σ.set i (some x)).set j (some y) := by
  by_cases h : i = j
  · subst h; simp [wipe, List.set_set]
  · show (((σ.set j none).set i none).set i (some x)).set j (some y) = _
    rw [List.set_set, List.set_comm none (some x) (Ne.symm h), List.set_set]
theorem wipe2 (σ : L2.St) (i j : Nat) (x y : V) : wipe (((wipe σ [i, j]).set i (some x)).set j (some y)) [i, j] = wipe σ [i, j] := by
  rw [wipe2']
  by_cases h : i = j
  · subst h; simp [wipe, List.set_set]
  · show (((σ.set i (some x)).set j (some y)).set j none).set i none = (σ.set j none).set i none
    rw [List.set_set, List.set_comm (some x) none h, List.set_set]
/-- [elt for i, c in enumerate(text)] -/
theorem k_lcm_es {x y : Str} {i j kk : Nat} {px py tpos : Pos} (g : Nat → Nat → V) (hN : X.N.Nodup) (ok : BlkOk X.N X.env.scope scope [(x, i), (y, j)]) (hm : X.mg "enumerate" = none)
    (h : kE X e σ B L fun v B1 L1 => ∃ l, v = .str (sOf l) ∧ l.length ≤ 16777216 ∧ (∀ (n : Nat) c, l[n]? = some c → ∀ D acc s H0 C cl fp, kE (Bk X scope s H0 C cl fp) elt ((σ.set i (some (.int n))).set j (some (.str (sOf [c])))) B1 ((D, .lst acc) :: L1) fun y B3 L3 => y = g n c ∧ B3 = B1 ∧ L3 = (D, .lst acc) :: L1) ∧
      ∀ D, Q (.ref D) B1 ((D, .lst (l.mapIdx g)) :: L1))
    (hp : ∀ s H0 C cl fp, Loc (Bk X scope s H0 C cl fp).env.scope x ∧ Loc (Bk X scope s H0 C cl fp).env.scope y := by intro _ _ _ _ _; exact ⟨Or.inl rfl, Or.inl rfl⟩) (hf : ∀ s H0 C cl fp, (Bk X scope s H0 C cl fp).env.scope.names.lookup x = some .local ∧ (Bk X scope s H0 C cl fp).env.scope.names.lookup y = some .local := by intro _ _ _ _ _; exact ⟨rfl, rfl⟩)
    (hn : ∀ s H0 C cl fp, (assignEach [.Name x px, .Name y py] (Bk X scope s H0 C cl fp).env).length = 2 := by intro _ _ _ _ _; rfl) (hfi : ∀ s H0 C cl fp, (assignEach [.Name x px, .Name y py] (Bk X scope s H0 C cl fp).env).findIdx? (·.1) = none := by intro _ _ _ _ _; rfl)
    (h1 : ∀ s H0 C cl fp, (assignEach [.Name x px, .Name y py] (Bk X scope s H0 C cl fp).env).map (·.2) = assign (.Name x px) (Bk X scope s H0 C cl fp).env :: (assignEach [.Name y py] (Bk X scope s H0 C cl fp).env).map (·.2) := by intro _ _ _ _ _; rfl)
    (h2 : ∀ s H0 C cl fp, (assignEach [.Name y py] (Bk X scope s H0 C cl fp).env).map (·.2) = assign (.Name y py) (Bk X scope s H0 C cl fp).env :: (assignEach [] (Bk X scope s H0 C cl fp).env).map (·.2) := by intro _ _ _ _ _; rfl)
    (hg : Gl X "enumerate" := by rfl) (hst : starEach [e] X.env = (false, eval e X.env) :: starEach [] X.env := by rfl) (hst' : starEach [e] X.env = [(false, eval e X.env)] := by rfl)
    (hi : X.N[i]? = some x := by rfl) (hj : X.N[j]? = some y := by rfl) (hc : X.calm = true := by rfl) (hs : ∀ x, foldedSetIterable (.Call (.Name "enumerate" p2) [e] [] pos') X.env x = pure x := by intro _; rfl) :
    kL X elt (.Tuple [.Name x px, .Name y py] kk tpos) (.Call (.Name "enumerate" p2) [e] [] pos') [] scope [(x, i), (y, j)] σ B L Q :=
  k_lc hN ok (r_es hm (by
    obtain ⟨t, k1, k2⟩ := h
    refine ⟨_, pe_c, fun H s => toE s ⟨t, k1, k2⟩ fun v H' B1 L1 s' ⟨l, e, hl, ht, hd⟩ => ⟨B1, L1, s', l, e, (sOf l).cps.size, _, _, fun i acc B L => B = B1 ∧ L = L1 ∧ acc = (l.mapIdx g).take i, walk_es, ⟨rfl, rfl, by simp⟩, fun i acc B L H hi p s => trivial, ?_, ?_⟩⟩
    · rintro D n acc z B L H H' hn' ⟨rfl, rfl, rfl⟩ s ⟨T, c, rfl, hT, rfl, hx⟩
      have hx' : l[n]? = some c := by simpa [sOf] using hx
      refine ⟨_, _, s.new hT, fun sa Ha Ca cla fpa => g_pair ?_ hc (hn sa Ha Ca cla fpa) (hfi sa Ha Ca cla fpa)⟩
      refine gs_cons (g_name i ?_ hN hi (hp sa Ha Ca cla fpa).1 (.inr (hf sa Ha Ca cla fpa).1)) (h1 sa Ha Ca cla fpa)
      refine gs_cons (g_name j ?_ hN hj (hp sa Ha Ca cla fpa).2 (.inr (hf sa Ha Ca cla fpa).2)) (h2 sa Ha Ca cla fpa)
      refine gs_nil ⟨wipe2 σ i j _ _, fun sb Hb Cb clb fpb => ?_⟩
      show kE _ _ (((wipe σ [i, j]).set i _).set j _) _ _ _
      rw [wipe2']
      obtain ⟨t2, m1, m2⟩ := ht n c hx' D ((l.mapIdx g).take n) sb Hb Cb clb fpb
      refine ⟨_, pe_c, fun H s => toE s ⟨t2, m1, m2⟩ fun y H2 B2 L2 s2 ⟨e1, e2, e3⟩ => ⟨B2, L2, s2, ?_, L, e3, e2, rfl, ?_⟩⟩
      · have := (List.getElem?_eq_some_iff.mp hx').1
        simp; omega
      · rw [e1, List.take_add_one, List.getElem?_mapIdx, hx']; simp
    · rintro acc B L D ⟨rfl, rfl, rfl⟩
      rw [sOf_size, show l.length = (l.mapIdx g).length by simp, List.take_length]
      exact hd D) hg hst hst') hc hs

/-! ### objects -/
def At (B : Hp) (L : HL) (p : Addr) (o : HO) : Prop := B p = some o ∨ (p, o) ∈ L
theorem At.at {H : Hp} {p : Addr} {o : HO} (h : At B L p o) (s : Sat B L H) : H p = some o := by
  rcases h with h | h
  · exact s.ext _ _ h
  · exact s.own _ h
theorem k_fld {f : Str} {C : Addr} (c : Cls X.K C) (n : NoAttr X.K C f) (h : kE X a σ B L fun x B1 L1 => ∃ p dx fs v, x = .ref p ∧ At B1 L1 p (.ins C dx fs) ∧ fs.lookup f = some v ∧ Q v B1 L1)
    (hb : attributeBase a f X.env (eval a X.env) = eval a X.env := by rfl) : kE X (.Attribute a f pos) σ B L Q := ⟨_, pe_fld pe_c hb, fun H s => toE s h fun _ _ _ _ s ⟨p, dx, fs, v, e, ha, hl, q⟩ => ⟨p, C, dx, fs, v, e, ha.at s, c, n, hl, _, _, s, q⟩⟩
theorem k_setf {f : Str} {C : Addr} (c : Cls X.K C) (n : NoAttr X.K C f) (h : kE X e σ B L fun y B1 L1 => kE X a σ B1 L1 fun x B2 L2 => ∃ p dx fs L3, x = .ref p ∧ Rep L2 p (.ins C dx fs) (.ins C dx (putF f y fs)) L3 ∧ fs.length < 1000 ∧ D.nx σ B2 L3)
    (hs : swapsWith e (some (.Attribute a f pos')) pos.line X.env = pure false := by rfl) : kS X (.Assign [.Attribute a f pos'] e pos) σ B L D :=
  ⟨_, ps_fld pe_c pe_c hs, fun H s => toE s h fun _ _ _ _ s q => toE s q fun _ _ _ _ s ⟨p, dx, fs, L3, e, r, hl, q⟩ => ⟨p, C, dx, fs, e, s.own _ r.mem, c, n, hl, _, _, s.rep r, q⟩⟩
/-- a method of the program's own class at C, an object of that class made -/
structure Mt (P : Program) (w : World) (K : PySem.W.Frag) (mg : Str → Option Value) (base : Heap) (k : Nat) (C : Addr) (m : Str) (sp : Sp) : Prop where
  ex : ∃ f fd ps, FnOk P w K mg base (L2.CX P w) k f fd ps sp ∧ Meth K C m f ∧ Binds K fd ps []
  cls : Cls K C
structure Mkr (P : Program) (w : World) (K : PySem.W.Frag) (mg : Str → Option Value) (base : Heap) (k : Nat) (x : Str) (C : Addr) (sp : Sp) : Prop where
  ex : ∃ f fd ps, FnOk P w K mg base (L2.CX P w) k f fd ps sp ∧ Mk K C f ∧ Binds K fd ps []
  mg : mg x = some (.ref C)
theorem k_meth {m : Str} {C : Addr} {k : Nat} {sp : Sp} {W : WX} {apos : Pos} {pl : Sem Bool} (F : Mt X.prog X.w X.K X.mg X.base k C m sp) (hr : Room k X.A) (tk : Takes X W)
    (h : kE X a σ B L fun x B1 L1 => ∃ p dx fs, x = .ref p ∧ At B1 L1 p (.ins C dx fs) ∧ fs.lookup m = none ∧ kA X (e :: es) σ B1 L1 fun vs B2 L2 => ∀ H, Sat B2 L2 H → sp (.ref p :: vs) H (up Q) (WE W σ))
    (hst : starEach (e :: es) X.env = (false, eval e X.env) :: starEach es X.env := by rfl) (hpl : (backTo pos (starEach es X.env)).any (·.1) = false := by rfl)
    (ht : eval (.Call (.Attribute a m apos) (e :: es) [] pos) X.env = (do
      let ov ← eval a X.env
      standAt apos.atName
      let (f, first) ← holding [ov] (getMethod ov m pl)
      callWith pos f first (backTo pos (starEach (e :: es) X.env)) (backToKw pos (keywordEach [] X.env))) := by rfl) : kE X (.Call (.Attribute a m apos) (e :: es) [] pos) σ B L Q := by
  obtain ⟨f, fd, ps, hF, hm, hb⟩ := F.ex
  refine ⟨fun σ H Q => cE X a σ H fun x H1 => ∃ p dx fs, x = .ref p ∧ H1 p = some (.ins C dx fs) ∧ fs.lookup m = none ∧ cA X (e :: es) σ H1 fun vs H2 => sp (.ref p :: vs) H2 Q (WE W σ), ⟨fun pins s σ H Q I h => ?_⟩, fun H s => toE s h fun _ _ _ _ s ⟨p, dx, fs, e, ha, hl, q⟩ => ⟨p, dx, fs, e, ha.at s, hl, toA s q fun _ _ _ _ s q => q _ s⟩⟩
  refine PySem.W.methodCall_KW (pl := pl) (thn (pe_c.run pins s σ H _ I h) fun u s1 ⟨x, H1, I1, rx, p, dx, fs, ex, ea, l, q⟩ => ?_) ht
  subst ex
  obtain rfl : u = Value.ref p := rx
  refine getmeth_ok I1 ea F.cls hm l ?_
  refine PySem.W.callWith_K (first := [.ref p]) (h₀ := X.base) I.ok.mod.kin hm.kp (thn (pa_c.run pos pins s1 σ H1 _ I1 q) fun us s2 ⟨vs, H2, I2, r, q2⟩ => ⟨I2.kIn, ?_⟩) hst hpl
  exact run_fnS (E := WE W) (us := .ref p :: us) (vs := .ref p :: vs) hF hr hb (passAt tk σ) I2 (.cons rfl r) q2
theorem k_meth0 {m : Str} {C : Addr} {k : Nat} {sp : Sp} {W : WX} {apos : Pos} {pl : Sem Bool} (F : Mt X.prog X.w X.K X.mg X.base k C m sp) (hr : Room k X.A) (tk : Takes X W)
    (h : kE X a σ B L fun x B1 L1 => ∃ p dx fs, x = .ref p ∧ At B1 L1 p (.ins C dx fs) ∧ fs.lookup m = none ∧ ∀ H, Sat B1 L1 H → sp [.ref p] H (up Q) (WE W σ))
    (ht : eval (.Call (.Attribute a m apos) [] [] pos) X.env = (do
      let ov ← eval a X.env
      standAt apos.atName
      let (f, first) ← holding [ov] (getMethod ov m pl)
      callWith pos f first (backTo pos (starEach [] X.env)) (backToKw pos (keywordEach [] X.env))) := by rfl) : kE X (.Call (.Attribute a m apos) [] [] pos) σ B L Q := by
  obtain ⟨f, fd, ps, hF, hm, hb⟩ := F.ex
  refine ⟨fun σ H Q => cE X a σ H fun x H1 => ∃ p dx fs, x = .ref p ∧ H1 p = some (.ins C dx fs) ∧ fs.lookup m = none ∧ sp [.ref p] H1 Q (WE W σ), ⟨fun pins s σ H Q I h => ?_⟩, fun H s => toE s h fun _ _ _ _ s ⟨p, dx, fs, e, ha, hl, q⟩ => ⟨p, dx, fs, e, ha.at s, hl, q _ s⟩⟩
  refine PySem.W.methodCall_KW (pl := pl) (thn (pe_c.run pins s σ H _ I h) fun u s1 ⟨x, H1, I1, rx, p, dx, fs, ex, ea, l, q⟩ => ?_) ht
  subst ex
  obtain rfl : u = Value.ref p := rx
  refine getmeth_ok I1 ea F.cls hm l ?_
  exact PySem.W.callWith_K0 (first := [.ref p]) I1.kIn hm.kp (run_fnS (E := WE W) (us := [.ref p]) (vs := [.ref p]) hF hr hb (passAt tk σ) I1 (.cons rfl .nil) q)
/-- C(e, ..) -/
theorem k_make {x : Str} {C : Addr} {k : Nat} {sp : Sp} {E : XK} (F : Mkr X.prog X.w X.K X.mg X.base k x C sp) (hr : Room (k + 1) X.A) (hx : Passes (L2.CX X.prog X.w) X E)
    (h : kA X (e :: es) σ B L fun vs B1 L1 => ∀ x dx, ∀ H, Sat B1 ((x, .ins C dx []) :: (dx, .own x) :: L1) H → sp (.ref x :: vs) H (fun v H2 => v = .non ∧ up Q (.ref x) H2) E)
    (hg : Gl X x := by rfl) (hdb : (x == ("__debug__" : Str)) = false := by decide) (he : starEach (e :: es) X.env = (false, eval e X.env) :: starEach es X.env := by rfl) (hpl : (backTo pos (starEach es X.env)).any (·.1) = false := by rfl) : kE X (.Call (.Name x p2) (e :: es) [] pos) σ B L Q := by
  obtain ⟨f, fd, ps, hF, hm, hb⟩ := F.ex
  refine ⟨_, pe_make hm hF hr hg F.mg hb .nil hx pa_c hdb he hpl, fun H s => toA s h fun vs H' B' L' s' q => fun x dx nx ndx nex => ?_⟩
  have s2 := s'.new (o := .own x) ndx
  have nx2 : (upd H' dx (.own x)) x = none := by rw [upd_ne (Ne.symm nex)]; exact nx
  have s3 := s2.new (o := .ins C dx []) nx2
  have := q x dx _ s3
  rw [List.append_nil]
  exact this

/-! ### errors -/
/-- what the top says of an own error class without __init__ -/
structure ExK (K : PySem.W.Frag) (mg : Str → Option Value) (x : Str) (C : Addr) : Prop where
  g : mg x = some (.ref C)
  x : PySem.W.excIn K C [.type "ValueError", .type "Exception", .type "BaseException", .type "object"] "ValueError.__new__" = true
  k : PySem.W.keepIn K (.ref C) = true
  b : PySem.W.subIn K (.ref C) (.type "BaseException") = some true
  t : PySem.W.typeIn K (.ref C) = some (.type "type")
theorem k_raise {x m : Str} {j : Nat} {W : WX} {C : Addr} {p p3 : Pos} (T : ExK X.K X.mg x C) (tk : Takes X W) (h : ∀ H, Sat B L H → W (.ref C) none σ H) (hg : Gl X x := by rfl) (hdb : (x == ("__debug__" : Str)) = false := by decide) (hc : X.calm = true := by rfl) :
    kS X (.Raise (some (.Call (.Name x p) [.Constant (.str m) j p2] [] pos)) none p3) σ B L D := ⟨_, ps_raise hc tk (pmk_own PySem.F.excBase_ValueError T.x T.g T.k (raises_own T.b T.t) hg hdb), fun H s => h H s⟩
def tSui (X : Cx) (suite : List Stmt) (a : Addr) (cls : Value) (d : Option Addr) : TS := fun E σ H => ∀ oe pn, Zc cls d oe → (∃ vs, oe.data = .fields vs) → cSs (X.suite a ((a, oe) :: pn)) suite E σ H
/-- try: body / except x: suite -/
theorem k_try_only {x : Str} {cv : Value} {b₀ : Stmt} {suite : List Stmt} {np : Pos} {Wout : WX} (tk : Takes X Wout) (hc : Names X x cv)
    (h : ∀ pn xe, Takes (X.tr pn xe) (wOnly X.K cv (tSui X (b₀ :: suite)) Wout D.dn) → PassesOwn (model X.prog X.w) X.A X.env xe → kSs (X.tr pn xe) body σ B L D)
    (hs : X.stack = X.env :: X.outer := by rfl) (hf : X.env.frame = some X.env.locals := by rfl) : kS X (.Try body [.ExceptHandler (some (.Name x np)) none (b₀ :: suite) pos'] [] [] pos) σ B L D :=
  ⟨_, ps_try_only (tb := fun W E σ H => ∀ pn xe, Takes (X.tr pn xe) W → PassesOwn (model X.prog X.w) X.A X.env xe → cSs (X.tr pn xe) body E σ H) (ts := tSui X (b₀ :: suite)) hs hf hc tk
    (fun W pn xe t po => ⟨fun pins s σ H E I q => pss_c.run pins s σ H E I (q pn xe t po)⟩)
    (fun a oe cls d pn z f => ⟨fun pins s σ H E I q => pss_c.run pins s σ H E I (q oe pn z f)⟩), fun H s => fun pn xe t po => toSs0 s (h pn xe t po)⟩
/-- the wish at a raise of the clause's class -/
theorem w_only {cv : Value} {suite : List Stmt} {Wout : WX} {C : Addr} {H : Hp} (hx : PySem.W.exmOne X.K (.ref C) cv = some true) (s : Sat B L H) (h : ∀ a oe pn, kSs (X.suite a ((a, oe) :: pn)) suite σ B L D) : wOnly X.K cv (tSui X suite) Wout D.dn (.ref C) none σ H :=
  ⟨true, hx, fun _ a _ oe pn _ _ => toSs0 s (h a oe pn), fun z => (Bool.noConfusion z)⟩
end
end Kv

namespace Kv
open PySem PySem.Spec PyProof.Rows L2
section
variable {X : Cx} {σ : L2.St} {B : Hp} {L : HL} {Q : KQ}
/-! ### == and != of lists, tuples -/
/-- x reads as the data d, whatever else the heap holds -/
def Dd (X : Cx) (B : Hp) (L : HL) (x : V) (d : PyData) : Prop := ∀ H, Sat B L H → Dp X.K H x d
def DdA (X : Cx) (B : Hp) (L : HL) (xs : List V) (ds : List PyData) : Prop := ∀ H, Sat B L H → DpAll X.K H xs ds
theorem dd_i {i : Int} : Dd X B L (.int i) (.int i) := fun _ _ => .int i
theorem dd_s {l : Str} : Dd X B L (.str l) (.str l) := fun _ _ => .str l
theorem dd_b {b : Bool} : Dd X B L (.bl b) (.bool b) := fun _ _ => .bl b
theorem dd_n : Dd X B L .non .none := fun _ _ => .non
theorem dd_l {p : Addr} {xs : List V} {ds : List PyData} (h : Ls X.K B L p xs) (ha : DdA X B L xs ds) : Dd X B L (.ref p) (.list ds) := fun H s => .lst (h.at s) (ha H s)
theorem dd_t {p : Addr} {xs : List V} {ds : List PyData} (h : Tp X.K B L p xs) (ha : DdA X B L xs ds) : Dd X B L (.ref p) (.tuple ds) := fun H s => .tup (h.at s) (ha H s)
theorem da_nil : DdA X B L [] [] := fun _ _ => .nil
theorem da_cons {x : V} {xs : List V} {d : PyData} {ds : List PyData} (h : Dd X B L x d) (ha : DdA X B L xs ds) : DdA X B L (x :: xs) (d :: ds) := fun H s => .cons (h H s) (ha H s)
theorem da_map {α : Type} {f : α → V} {g : α → PyData} (h : ∀ a, Dd X B L (f a) (g a)) : ∀ l : List α, DdA X B L (l.map f) (l.map g)
  | [] => da_nil
  | a :: l => da_cons (h a) (da_map h l)
theorem o_eqD {x y : V} {d e : PyData} (hu : X.A.units + 64 < cLine) (hd : Dd X B L x d) (he : Dd X B L y e) (q : Q (.bl (PyData.eqv d e)) B L) (sd : SeqAt.shaped d = true) (se : SeqAt.shaped e = true) : kO X (compareOp .Eq) x y B L Q :=
  ⟨_, op_eqD hu, fun H s => ⟨d, e, hd H s, he H s, sd, se, _, _, s, q⟩⟩
theorem o_neD {x y : V} {d e : PyData} (hu : X.A.units + 64 < cLine) (hd : Dd X B L x d) (he : Dd X B L y e) (q : Q (.bl (!PyData.eqv d e)) B L) (sd : SeqAt.shaped d = true) (se : SeqAt.shaped e = true) : kO X (compareOp .NotEq) x y B L Q :=
  ⟨_, op_neD hu, fun H s => ⟨d, e, hd H s, he H s, sd, se, _, _, s, q⟩⟩
/-- a list of texts, of ints -/
def dSs (ls : List (List Nat)) : List PyData := ls.map fun l => .str (sOf l)
theorem eqv_ss : ∀ a b : List (List Nat), PyData.eqvAll (dSs a) (dSs b) = decide (a = b)
  | [], [] => rfl
  | [], _ :: _ => by simp [dSs, PyData.eqvAll]
  | _ :: _, [] => by simp [dSs, PyData.eqvAll]
  | x :: a, y :: b => by
    have ih := eqv_ss a b
    show PyData.eqvAll (.str (sOf x) :: dSs a) (.str (sOf y) :: dSs b) = _
    unfold PyData.eqvAll
    rw [ih]
    show ((sOf x == sOf y) && decide (a = b)) = _
    have e : (sOf x == sOf y) = decide (x = y) := by
      rw [Bool.eq_iff_iff]; simp [sOf]
    rw [e]
    by_cases h1 : x = y <;> by_cases h2 : a = b <;> simp [h1, h2]
theorem lay_ss {a : List (List Nat)} (h : ∀ l ∈ a, ∀ c ∈ l, c < 1114112) : PyData.canLayAll0 (dSs a) = true := by
  induction a with
  | nil => rfl
  | cons x a ih =>
    show PyData.canLayAll0 (.str (sOf x) :: dSs a) = true
    unfold PyData.canLayAll0
    rw [ih fun l hl => h l (List.mem_cons_of_mem _ hl), Bool.and_true]
    have := h x List.mem_cons_self
    unfold PyData.canLay0
    unfold PyData.strOk
    simpa [sOf] using this
theorem depth_ss (a : List (List Nat)) : PyData.depthAll (dSs a) = 0 := by
  induction a with
  | nil => rfl
  | cons x a ih =>
    show PyData.depthAll (.str (sOf x) :: dSs a) = 0
    unfold PyData.depthAll
    rw [ih]; rfl
theorem shaped_ss {a : List (List Nat)} (h : ∀ l ∈ a, ∀ c ∈ l, c < 1114112) : SeqAt.shaped (.list (dSs a)) = true := by
  unfold SeqAt.shaped
  have e1 : PyData.canLay0 (.list (dSs a)) = true := by unfold PyData.canLay0; exact lay_ss h
  have e2 : PyData.depth (.list (dSs a)) = 1 := by unfold PyData.depth; rw [depth_ss]
  rw [e1, e2]; rfl
theorem dd_ss {p : Addr} {a : List (List Nat)} (h : Ls X.K B L p (a.map fun l => V.str (sOf l))) : Dd X B L (.ref p) (.list (dSs a)) := dd_l h (da_map (fun _ => dd_s) a)
/-- lists of texts compared -/
theorem o_ness {p q : Addr} {a b : List (List Nat)} (hu : X.A.units + 64 < cLine) (h1 : Ls X.K B L p (a.map fun l => V.str (sOf l))) (h2 : Ls X.K B L q (b.map fun l => V.str (sOf l))) (hq : Q (.bl (!decide (a = b))) B L) (ha : ∀ l ∈ a, ∀ c ∈ l, c < 1114112) (hb : ∀ l ∈ b, ∀ c ∈ l, c < 1114112) :
    kO X (compareOp .NotEq) (.ref p) (.ref q) B L Q := o_neD hu (dd_ss h1) (dd_ss h2) (by show Q (.bl (!PyData.eqvAll (dSs a) (dSs b))) B L; rw [eqv_ss]; exact hq) (shaped_ss ha) (shaped_ss hb)
theorem o_eqss {p q : Addr} {a b : List (List Nat)} (hu : X.A.units + 64 < cLine) (h1 : Ls X.K B L p (a.map fun l => V.str (sOf l))) (h2 : Ls X.K B L q (b.map fun l => V.str (sOf l))) (hq : Q (.bl (decide (a = b))) B L) (ha : ∀ l ∈ a, ∀ c ∈ l, c < 1114112) (hb : ∀ l ∈ b, ∀ c ∈ l, c < 1114112) :
    kO X (compareOp .Eq) (.ref p) (.ref q) B L Q := o_eqD hu (dd_ss h1) (dd_ss h2) (by show Q (.bl (PyData.eqvAll (dSs a) (dSs b))) B L; rw [eqv_ss]; exact hq) (shaped_ss ha) (shaped_ss hb)
end
end Kv

namespace Kv
open PySem PySem.Spec PyProof.Rows L2
section
variable {X : Cx} {σ : L2.St} {B : Hp} {L : HL} {Q : KQ} {D : KD} {pos p2 : Pos} {e a b c tg iter elt : Expr} {es : List Expr} {body : List Stmt}
theorem k_gsE {x y : Str} (hm : ∃ t, X.mg x = some (.str y t)) (q : Q (.str y) B L) (hg : Gl X x := by rfl) (hd : (x == ("__debug__" : Str)) = false := by decide) : kE X (.Name x pos) σ B L Q := by
  obtain ⟨t, hm⟩ := hm
  exact k_gs hm q hg hd
theorem k_giE {x : Str} {y : Int} (hm : ∃ t, X.mg x = some (.int y t)) (q : Q (.int y) B L) (hg : Gl X x := by rfl) (hd : (x == ("__debug__" : Str)) = false := by decide) : kE X (.Name x pos) σ B L Q := by
  obtain ⟨t, hm⟩ := hm
  exact k_gi hm q hg hd
theorem i_sv {l : List Nat} {i : Int} (c : Nat) (q : Q (.str (sOf [c])) B L) (hv : atI l i = some c) (hl : l.length ≤ 16777216) : kI X (.str (sOf l)) (.int i) B L Q := i_str hv q hl
theorem i_lv {p : Addr} {xs : List V} {i : Int} (v : V) (h : Ls X.K B L p xs) (q : Q v B L) (hv : atI xs i = some v) : kI X (.ref p) (.int i) B L Q := i_list h hv q
theorem i_tv {p : Addr} {xs : List V} {i : Int} (v : V) (h : Tp X.K B L p xs) (q : Q v B L) (hv : atI xs i = some v) : kI X (.ref p) (.int i) B L Q := i_tup h hv q
theorem k_chainP {op op' : CmpOp} (h : kE X a σ B L fun x B1 L1 => kE X b σ B1 L1 fun y B2 L2 => kO X (compareOp op) x y B2 L2 fun z B3 L3 => ∃ k, z = .bl k ∧ ∃ k2 : Bool, (k = true → kE X c σ B3 L3 fun w B4 L4 => kO X (compareOp op') y w B4 L4 fun u B5 L5 => u = .bl k2 ∧ B5 = B3 ∧ L3 <:+ L5) ∧ Q (.bl (k && k2)) B3 L3)
    (hm : lastMarks [op, op'] [b, c] = false := by with_unfolding_all rfl) : kE X (.Compare a [op, op'] [b, c] pos) σ B L Q :=
  ⟨_, pe_chain or_c or_c pe_c pe_c pe_c hm, fun H s => toE s h fun _ _ _ _ s q => toE s q fun _ _ _ _ s q => toO s q fun z H3 B3 L3 s ⟨k, e, k2, h3, q⟩ => ⟨k, e, by
    cases k with
    | true =>
      refine iteT (toE s (h3 rfl) fun _ _ _ _ s q4 => toO s q4 fun u H5 B5 L5 s5 ⟨e1, e2, e3⟩ => ?_)
      subst e1 e2
      exact ⟨B5, L3, s5.suf e3, by rw [Bool.true_and] at q; exact q⟩
    | false => exact iteF ⟨_, _, s, by rw [Bool.false_and] at q; exact q⟩⟩⟩
theorem t_chainP {op op' : CmpOp} {Q : KB} (h : kE X a σ B L fun x B1 L1 => kE X b σ B1 L1 fun y B2 L2 => kO X (compareOp op) x y B2 L2 fun z B3 L3 => ∃ k, z = .bl k ∧ ∃ k2 : Bool, (k = true → kE X c σ B3 L3 fun w B4 L4 => kO X (compareOp op') y w B4 L4 fun u B5 L5 => u = .bl k2 ∧ B5 = B3 ∧ L3 <:+ L5) ∧ Q (k && k2) B3 L3)
    (hm : lastMarks [op, op'] [b, c] = false := by with_unfolding_all rfl) : kT X (.Compare a [op, op'] [b, c] pos) σ B L Q :=
  ⟨_, pt_chain or_c or_c pe_c pe_c pe_c hm, fun H s => toE s h fun _ _ _ _ s q => toE s q fun _ _ _ _ s q => toO s q fun z H3 B3 L3 s ⟨k, e, k2, h3, q⟩ => ⟨k, e, by
    cases k with
    | true =>
      refine iteT (toE s (h3 rfl) fun _ _ _ _ s q4 => toO s q4 fun u H5 B5 L5 s5 ⟨e1, e2, e3⟩ => ?_)
      subst e1 e2
      exact ⟨k2, rfl, B5, L3, s5.suf e3, by rw [Bool.true_and] at q; exact q⟩
    | false => exact iteF ⟨false, rfl, _, _, s, by rw [Bool.false_and] at q; exact q⟩⟩⟩
theorem tyx_l {K : PySem.W.Frag} {H : Hp} {p : Addr} {xs : List V} (h : SqL K H p xs) : TyX K H (.ref p) (.type "list") := by
  rcases h with (h | ⟨o, h⟩) | ⟨o, _, _, h, hc, _⟩
  · exact .base (.lst h)
  · exact .base (.frz h)
  · exact .kList h hc
theorem tyx_t {K : PySem.W.Frag} {H : Hp} {p : Addr} {xs : List V} (h : SqT K H p xs) : TyX K H (.ref p) (.type "tuple") := by
  rcases h with (h | ⟨o, h⟩) | ⟨o, _, _, h, hc, _⟩
  · exact .base (.tup h)
  · exact .fTuple h
  · exact .kTuple h hc
theorem c_isS {l : Str} {T : String} {k : Bool} (q : Q (.bl k) B L) (hk : kitB "str" T = some k := by decide +kernel) : kC X (.builtin "isinstance") [.str l, .ty T] B L Q := c_isi (.ty T) (fun _ _ => .base (.str l)) (kit_ty hk) q
theorem c_isI {i : Int} {T : String} {k : Bool} (q : Q (.bl k) B L) (hk : kitB "int" T = some k := by decide +kernel) : kC X (.builtin "isinstance") [.int i, .ty T] B L Q := c_isi (.ty T) (fun _ _ => .base (.int i)) (kit_ty hk) q
theorem c_isB {b : Bool} {T : String} {k : Bool} (q : Q (.bl k) B L) (hk : kitB "bool" T = some k := by decide +kernel) : kC X (.builtin "isinstance") [.bl b, .ty T] B L Q := c_isi (.ty T) (fun _ _ => .base (.bl b)) (kit_ty hk) q
theorem c_isN {T : String} {k : Bool} (q : Q (.bl k) B L) (hk : kitB "NoneType" T = some k := by decide +kernel) : kC X (.builtin "isinstance") [.non, .ty T] B L Q := c_isi (.ty T) (fun _ _ => .base .non) (kit_ty hk) q
theorem c_isL {p : Addr} {xs : List V} {T : String} {k : Bool} (h : Ls X.K B L p xs) (q : Q (.bl k) B L) (hk : kitB "list" T = some k := by decide +kernel) : kC X (.builtin "isinstance") [.ref p, .ty T] B L Q := c_isi (.ty T) (fun _ s => tyx_l (h.at s)) (kit_ty hk) q
theorem c_isT {p : Addr} {xs : List V} {T : String} {k : Bool} (h : Tp X.K B L p xs) (q : Q (.bl k) B L) (hk : kitB "tuple" T = some k := by decide +kernel) : kC X (.builtin "isinstance") [.ref p, .ty T] B L Q := c_isi (.ty T) (fun _ s => tyx_t (h.at s)) (kit_ty hk) q
/-- a def as it stands behind the top -/
def DefAt (K : PySem.W.Frag) (x qual : Str) (st : Stmt) (f : Addr) : Prop := ∃ (oc : Value) (od : Option Addr) (kV doc pm : Value) (an : Option Addr) (cdv ct : Value) (osl : Array (Option Value)),
  K.lookup f = some ⟨oc, od, .func (PySem.W.fnOf x qual (defArgs st) (defBody st) (defScope st) .none kV doc pm an cdv ct), osl⟩ ∧ PySem.W.codeIn K cdv qual = true ∧ PySem.W.keepIn K (.ref f) = true
theorem DefAt.fn {K : PySem.W.Frag} {x qual : Str} {st : Stmt} {f : Addr} (h : DefAt K x qual st f) : ∃ fd, Fun K x qual st f fd := by
  obtain ⟨oc, od, kV, doc, pm, an, cdv, ct, osl, h1, h2, h3⟩ := h
  exact ⟨_, fun_mk h1 h2 h3⟩
end
end Kv

namespace Kv
open PySem PySem.Spec PyProof.Rows L2
section
variable {X : Cx} {σ : L2.St} {B : Hp} {L : HL} {Q : KQ} {D : KD} {pos p2 : Pos} {e a b c tg iter elt : Expr} {es : List Expr} {body : List Stmt}
variable {P : Program} {w : World} {K : PySem.W.Frag} {mg : Str → Option Value} {base : Heap}
theorem mt_okM {x qual : Str} {st : Stmt} {C f : Addr} {fd : FuncData} {N ps : List Str} {k : Nat} {sp : Sp} (F : Fun K x qual st f fd) (S : FnScope N ps (defScope st)) (hm : Meth K C x f) (hc : Cls K C)
    (hb : ∀ (kV doc pm : Value) (an : Option Addr) (cdv ct : Value) (us : List Value), us.length = ps.length → bindArgs (PySem.W.fnOf x qual (defArgs st) (defBody st) (defScope st) .none kV doc pm an cdv ct) ⟨us, []⟩ = pure (ps.zip us))
    (len : ∀ vs H Q E, sp vs H Q E → vs.length = ps.length)
    (hbody : ∀ (cdv : Value) (A : Around) (outer : List Env) (s : Shared) (H : Hp) (vs : List V) (Q : VK) (E : XK), Room k (A.deeper (envOfC qual (defScope st) s.heap.objs.size f cdv)) → sp vs H Q E →
      Takes (cxOf (L2.CX P w) P w K mg base N qual (defScope st) f cdv A outer s H E) (fun cls d _ H => E cls d H) →
      PassesOwn (model P w) (A.deeper (envOfC qual (defScope st) s.heap.objs.size f cdv)) (envOfC qual (defScope st) s.heap.objs.size f cdv) (cxOf (L2.CX P w) P w K mg base N qual (defScope st) f cdv A outer s H E).xe →
      ∃ B L, Sat B L H ∧ kSs (cxOf (L2.CX P w) P w K mg base N qual (defScope st) f cdv A outer s H E) (defBody st) (start N vs) B L (fD Q)) : Mt P w K mg base (k + 1) C x sp := ⟨⟨f, fd, ps, fn_okF F S len hbody, hm, F.binds hb⟩, hc⟩
theorem mk_okM {x y qual : Str} {st : Stmt} {C f : Addr} {fd : FuncData} {ps : List Str} {k : Nat} {sp : Sp} (F : Fun K y qual st f fd) (h : FnOk P w K mg base (L2.CX P w) k f fd ps sp) (hk : Mk K C f) (hg : mg x = some (.ref C))
    (hb : ∀ (kV doc pm : Value) (an : Option Addr) (cdv ct : Value) (us : List Value), us.length = ps.length → bindArgs (PySem.W.fnOf y qual (defArgs st) (defBody st) (defScope st) .none kV doc pm an cdv ct) ⟨us, []⟩ = pure (ps.zip us)) : Mkr P w K mg base k x C sp := ⟨⟨f, fd, ps, h, hk, F.binds hb⟩, hg⟩
/-- what B holds, B' holds -/
abbrev Le (B B' : Hp) : Prop := ∀ b o, B b = some o → B' b = some o
theorem Ls.le {K : PySem.W.Frag} {B B' : Hp} {L : HL} {a : Addr} {xs : List V} (h : Ls K B L a xs) (e : Le B B') : Ls K B' L a xs := by
  rcases h with ((h | ⟨o, h⟩) | h) | h
  · exact .inl (.inl (.inl (e _ _ h)))
  · exact .inl (.inl (.inr ⟨o, e _ _ h⟩))
  · exact .inl (.inr h)
  · exact .inr h
theorem Tp.le {K : PySem.W.Frag} {B B' : Hp} {L : HL} {a : Addr} {xs : List V} (h : Tp K B L a xs) (e : Le B B') : Tp K B' L a xs := by
  rcases h with ((h | ⟨o, h⟩) | h) | h
  · exact .inl (.inl (.inl (e _ _ h)))
  · exact .inl (.inl (.inr ⟨o, e _ _ h⟩))
  · exact .inl (.inr h)
  · exact .inr h
/-- an object of ours goes to the base -/
theorem Sat.give {H : Hp} {p : Addr} {o : HO} (s : Sat B ((p, o) :: L) H) : Sat (upd B p o) L H ∧ Le B (upd B p o) := by
  have hb : B p = none := s.nb _ List.mem_cons_self
  have hnd := s.nd
  rw [List.map_cons, List.nodup_cons] at hnd
  refine ⟨⟨fun a u e => ?_, fun q hq => s.own q (List.mem_cons_of_mem _ hq), fun q hq => ?_, hnd.2⟩, fun b u e => ?_⟩
  · by_cases ha : a = p
    · subst ha
      rw [upd_same] at e
      cases e
      exact s.own _ List.mem_cons_self
    · rw [upd_ne ha] at e; exact s.ext a u e
  · have hq2 : q.1 ≠ p := fun e => hnd.1 (List.mem_map.mpr ⟨q, hq, e⟩)
    rw [upd_ne hq2]; exact s.nb q (List.mem_cons_of_mem _ hq)
  · rw [upd_ne (ne_of_none e hb)]; exact e
theorem Sat.new'' {H H' : Hp} {p : Addr} {o : HO} (s : Sat B L H) (h : H p = none) (e : ∀ b o, H b = some o → H' b = some o) (h' : H' p = some o) : Sat (upd B p o) L H' ∧ Le B (upd B p o) := (s.new' h e h').give
theorem Sat.give1 {H : Hp} {p : Addr} {o : HO} (s : Sat B ((p, o) :: L) H) : ∃ B', Sat B' L H ∧ Le B B' ∧ B' p = some o := ⟨_, s.give.1, s.give.2, upd_same⟩
end
end Kv
namespace Kv
open PySem PySem.Spec PyProof.Rows L2
section
variable {X : Cx} {σ : L2.St} {B : Hp} {L : HL} {Q : KQ} {D : KD} {pos p2 : Pos}
/-- isinstance of an own object by its own class -/
structure IsO (K : PySem.W.Frag) (C : Addr) : Prop where
  cl : Cls K C
  ha : PySem.W.findIn K (.ref C) "__class__" = some (some (.builtin "object.__class__"))
  hn : PySem.W.specialIn K (.builtin "object.__class__") "__get__" = some (some (.builtin "getset_descriptor.__get__"))
  ht : PySem.W.takesIn K (.builtin "object.__class__") = some true
  hm : PySem.W.mroIn K C (.type "object") = some true
  kit : PySem.W.kitOne K (.ref C) (.ref C) = some true
theorem c_isO {p C dx : Addr} {fs : List (Str × V)} (O : IsO X.K C) (h : At B L p (.ins C dx fs)) (q : Q (.bl true) B L) : kC X (.builtin "isinstance") [.ref p, .ref C] B L Q :=
  c_isi (.own C) (fun H s => .base (.ins (h.at s) O.cl O.ha O.hn O.ht O.hm)) O.kit q
theorem k_cls {x : Str} {C : Addr} (hm : X.mg x = some (.ref C)) (q : Q (.ref C) B L) (hg : Gl X x := by rfl) (hd : (x == ("__debug__" : Str)) = false := by decide) : kE X (.Name x pos) σ B L Q := k_g (v := .ref C) hm rfl q hg hd
end
end Kv
namespace Kv
open PySem PySem.Spec PyProof.Rows L2
section
variable {X : Cx} {σ : L2.St} {B : Hp} {L : HL} {Q : KQ} {D : KD} {pos p2 pos' : Pos} {e a b c tg iter elt : Expr} {es : List Expr} {body : List Stmt} {scope : Scope}
/-- .. over a tuple -/
theorem k_lcm_t {x : Str} {j : Nat} {px : Pos} (g : V → V) (hN : X.N.Nodup) (ok : BlkOk X.N X.env.scope scope [(x, j)])
    (h : kE X iter σ B L fun v B1 L1 => ∃ a xs, v = .ref a ∧ Tp X.K B1 L1 a xs ∧ xs.length ≤ 16777216 ∧ (∀ z ∈ xs, ∀ D acc s H0 C cl fp, kE (Bk X scope s H0 C cl fp) elt (σ.set j (some z)) B1 ((D, .lst acc) :: L1) fun y B3 L3 => y = g z ∧ B3 = B1 ∧ L3 = (D, .lst acc) :: L1) ∧
      ∀ D, Q (.ref D) B1 ((D, .lst (xs.map g)) :: L1))
    (hp : ∀ s H0 C cl fp, Loc (Bk X scope s H0 C cl fp).env.scope x := by intro _ _ _ _ _; first | exact Or.inl rfl | exact Or.inr rfl) (hf : ∀ s H0 C cl fp, (Bk X scope s H0 C cl fp).fn x = true ∨ (Bk X scope s H0 C cl fp).env.scope.names.lookup x = some .local := by intro _ _ _ _ _; first | exact .inr rfl | exact .inl rfl)
    (hj : X.N[j]? = some x := by rfl) (hc : X.calm = true := by rfl) (hs : ∀ x, foldedSetIterable iter X.env x = pure x := by intro _; rfl) : kL X elt (.Name x px) iter [] scope [(x, j)] σ B L Q :=
  k_lc hN ok (r_tup (by
    obtain ⟨t, h1, h2⟩ := h
    refine ⟨_, pe_c, fun H s => toE s ⟨t, h1, h2⟩ fun v H' B1 L1 s' ⟨a, xs, e, hls, hl, ht, hd⟩ => ⟨B1, L1, s', a, xs, e, hls, xs.length, _, _, fun i acc B L => B = B1 ∧ L = L1 ∧ acc = (xs.take i).map g, walk_tup, ⟨rfl, rfl, by simp⟩, ?_, ?_, ?_⟩⟩
    · rintro i acc B L H hi ⟨rfl, rfl, _⟩ s
      exact hls.at s
    · rintro D i acc x B L H H' hi ⟨rfl, rfl, rfl⟩ s ⟨rfl, hx⟩
      refine ⟨_, _, s, fun sa Ha Ca cla fpa => g_name j ?_ hN hj (hp sa Ha Ca cla fpa) (hf sa Ha Ca cla fpa)⟩
      refine ⟨wipe1 σ j _, fun sb Hb Cb clb fpb => ?_⟩
      show kE _ _ ((wipe σ [j]).set j _) _ _ _
      rw [wipe1']
      obtain ⟨t2, k1, k2⟩ := ht x (List.mem_of_getElem? hx) D ((xs.take i).map g) sb Hb Cb clb fpb
      refine ⟨_, pe_c, fun H s => toE s ⟨t2, k1, k2⟩ fun y H2 B2 L2 s2 ⟨e1, e2, e3⟩ => ⟨B2, L2, s2, ?_, L, e3, e2, rfl, ?_⟩⟩
      · simp; omega
      · rw [e1, List.take_add_one, hx]; simp
    · rintro acc B L D ⟨rfl, rfl, rfl⟩
      rw [List.take_length]
      exact hd D)) hc hs

/-- [elt for i in range(e)], the element's work may change the heap -/
theorem k_lcv_r1 {x : Str} {j : Nat} {px : Pos} (Pv : Nat → List V → Hp → HL → Prop) (hN : X.N.Nodup) (ok : BlkOk X.N X.env.scope scope [(x, j)]) (hm : X.mg "range" = none)
    (h : kE X e σ B L fun v B1 L1 => ∃ n : Nat, v = .int n ∧ n < 2 ^ 24 ∧ Pv 0 [] B1 L1 ∧ (∀ i acc B L, i < n → Pv i acc B L → acc.length = i ∧ ∀ D s H0 C cl fp, kE (Bk X scope s H0 C cl fp) elt (σ.set j (some (.int i))) B ((D, .lst acc) :: L) fun y B3 L3 => ∃ L4, L3 = (D, .lst acc) :: L4 ∧ Pv (i + 1) (acc ++ [y]) B3 L4) ∧
      ∀ acc B L D, Pv n acc B L → Q (.ref D) B ((D, .lst acc) :: L))
    (hp : ∀ s H0 C cl fp, Loc (Bk X scope s H0 C cl fp).env.scope x := by intro _ _ _ _ _; first | exact Or.inl rfl | exact Or.inr rfl) (hf : ∀ s H0 C cl fp, (Bk X scope s H0 C cl fp).fn x = true ∨ (Bk X scope s H0 C cl fp).env.scope.names.lookup x = some .local := by intro _ _ _ _ _; first | exact .inr rfl | exact .inl rfl)
    (hg : Gl X "range" := by rfl) (hst : starEach [e] X.env = (false, eval e X.env) :: starEach [] X.env := by rfl) (hst' : starEach [e] X.env = [(false, eval e X.env)] := by rfl)
    (hj : X.N[j]? = some x := by rfl) (hc : X.calm = true := by rfl) (hs : ∀ x, foldedSetIterable (.Call (.Name "range" p2) [e] [] pos') X.env x = pure x := by intro _; rfl) : kL X elt (.Name x px) (.Call (.Name "range" p2) [e] [] pos') [] scope [(x, j)] σ B L Q :=
  k_lc hN ok (r_rng1 hm (by
    obtain ⟨t, h1, h2⟩ := h
    refine ⟨_, pe_c, fun H s => toE s ⟨t, h1, h2⟩ fun v H' B1 L1 s' ⟨n, e, hl, p0, ht, hd⟩ => ⟨B1, L1, s', (n : Int), e, by omega, by omega, (n : Int).toNat, _, _, Pv, walk_range, p0, fun i acc B L H hi p s => trivial, ?_, ?_⟩⟩
    · rintro D i acc x B L H H' hi p s ⟨rfl, rfl⟩
      have hi' : i < n := by omega
      obtain ⟨hac, ht⟩ := ht i acc B L hi' p
      have e0 : ((0 : Int) + (i : Int)) = (i : Int) := Int.zero_add _
      refine ⟨_, _, s, fun sa Ha Ca cla fpa => g_name j ?_ hN hj (hp sa Ha Ca cla fpa) (hf sa Ha Ca cla fpa)⟩
      refine ⟨wipe1 σ j _, fun sb Hb Cb clb fpb => ?_⟩
      show kE _ _ ((wipe σ [j]).set j (some (.int ((0 : Int) + (i : Int))))) _ _ _
      rw [wipe1', e0]
      obtain ⟨t2, k1, k2⟩ := ht D sb Hb Cb clb fpb
      refine ⟨_, pe_c, fun H s => toE s ⟨t2, k1, k2⟩ fun y H2 B2 L2 s2 ⟨L4, e1, q⟩ => ⟨B2, L2, s2, by omega, L4, e1, q⟩⟩
    · intro acc B L D p
      exact hd acc B L D (by simpa using p)) hg hst hst') hc hs
end
end Kv
namespace Kv
open PySem PySem.Spec PyProof.Rows L2
section
variable {X : Cx} {σ : L2.St} {B : Hp} {L : HL} {Q : KQ} {D : KD} {pos p2 : Pos} {e a b c tg iter elt : Expr}
theorem k_slower {apos : Pos} (h : kE X a σ B L fun x B1 L1 => ∃ l, x = .str (sOf l) ∧ kMt X "str.lower" x [] B1 L1 Q)
    (hbase : attributeBase a "lower" X.env (eval a X.env) = eval a X.env := by rfl) (hline : (apos.endLine == pos.line) = true := by rfl) : kE X (.Call (.Attribute a "lower" apos) [] [] pos) σ B L Q := by
  refine k_m0 PySem.F.plainAttrs_str PySem.F.slot_str_lower PySem.F.type_str_lower ?_ hbase hline
  obtain ⟨t, h1, h2⟩ := h
  refine ⟨_, pe_c, fun H s => toE s ⟨t, h1, h2⟩ fun x H' B' L' s' ⟨z, e, q⟩ => ⟨B', L', s', ?_, q⟩⟩
  subst e
  exact ty_s
theorem k_sisupper {apos : Pos} (h : kE X a σ B L fun x B1 L1 => ∃ l, x = .str (sOf l) ∧ kMt X "str.isupper" x [] B1 L1 Q)
    (hbase : attributeBase a "isupper" X.env (eval a X.env) = eval a X.env := by rfl) (hline : (apos.endLine == pos.line) = true := by rfl) : kE X (.Call (.Attribute a "isupper" apos) [] [] pos) σ B L Q := by
  refine k_m0 PySem.F.plainAttrs_str PySem.F.slot_str_isupper PySem.F.type_str_isupper ?_ hbase hline
  obtain ⟨t, h1, h2⟩ := h
  refine ⟨_, pe_c, fun H s => toE s ⟨t, h1, h2⟩ fun x H' B' L' s' ⟨z, e, q⟩ => ⟨B', L', s', ?_, q⟩⟩
  subst e
  exact ty_s
theorem m_isupper {x : Str} {k : Bool} (hy : Txt.isupper x = k) (q : Q (.bl k) B L) : kMt X "str.isupper" (.str x) [] B L Q := ⟨_, mt_isupper, fun H s => ⟨x, rfl, rfl, trivial, by rw [hy]; exact ⟨_, _, s, q⟩⟩⟩
theorem c_maxl {p : Addr} {ns : List Int} (h : Ls X.K B L p (ns.map V.int)) (hn : 0 < ns.length) (q : ∀ m, m ∈ ns → (∀ y, y ∈ ns → y ≤ m) → Q (.int m) B L) (hc : X.calm = true := by rfl) : kC X (.builtin "max") [.ref p] B L Q :=
  ⟨_, cr_max hc, fun H s => ⟨p, ns, rfl, h.at s, hn, fun m h1 h2 => ⟨_, _, s, q m h1 h2⟩⟩⟩
theorem Sat.take {H : Hp} {p : Addr} {o : HO} (s : Sat B L H) (h : H p = some o) (hn : p ∉ L.map (·.1)) : Sat (upd B p o) L H := by
  refine ⟨fun a u e => ?_, s.own, fun q hq => ?_, s.nd⟩
  · by_cases ha : a = p
    · subst ha
      rw [upd_same] at e
      cases e
      exact h
    · rw [upd_ne ha] at e; exact s.ext a u e
  · have hq2 : q.1 ≠ p := fun e => hn (List.mem_map.mpr ⟨q, hq, e⟩)
    rw [upd_ne hq2]; exact s.nb q hq
theorem le_upd {p : Addr} {o : HO} (h : B p = none) : Le B (upd B p o) := fun b u e => by
  rw [upd_ne (ne_of_none e h)]; exact e
/-- the heap without x -/
def rmH (H : Hp) (x : Addr) : Hp := fun b => if b = x then none else H b
theorem rm_ne {H : Hp} {x b : Addr} (h : b ≠ x) : rmH H x b = H b := if_neg h
theorem rm_eq {H : Hp} {x : Addr} : rmH H x x = none := if_pos rfl
theorem sat_rm {H : Hp} {x : Addr} {o : HO} (h : H x = some o) : Sat (rmH H x) [(x, o)] H :=
  ⟨fun a u e => by
    by_cases ha : a = x
    · rw [ha] at e; unfold rmH at e; rw [if_pos rfl] at e; cases e
    · rw [rm_ne ha] at e; exact e, fun p hp => by rw [List.mem_singleton.mp hp]; exact h, fun p hp => by rw [List.mem_singleton.mp hp]; unfold rmH; rw [if_pos rfl], by simp⟩
end
end Kv
namespace Kv
open PySem PySem.Spec PyProof.Rows L2
section
variable {X : Cx} {σ : L2.St} {B : Hp} {L L' : HL} {Q : KQ} {D : KD} {ss : List Stmt}
theorem Sat.sub {H : Hp} (h : List.Sublist L' L) (s : Sat B L H) : Sat B L' H := ⟨s.ext, fun p hp => s.own p (h.subset hp), fun p hp => s.nb p (h.subset hp), (h.map _).nodup s.nd⟩
/-- some of ours are forgotten -/
theorem k_sub (h : List.Sublist L' L) (k : kSs X ss σ B L' D) : kSs X ss σ B L D := by
  obtain ⟨t, h1, h2⟩ := k
  exact ⟨t, h1, fun H s => h2 H (s.sub h)⟩
end
end Kv
namespace Kv
open PySem PySem.Spec PyProof.Rows L2
section
variable {X : Cx} {σ σ' : L2.St} {B : Hp} {L : HL} {D : KD} {ss : List Stmt}
/-- the slots written out -/
theorem k_norm (h : σ = σ') (k : kSs X ss σ' B L D) : kSs X ss σ B L D := by rw [h]; exact k
end
end Kv

/-! An error caught by a name: tracked from the suite on. -/
namespace Kv
open PySem PySem.Spec PyProof.Rows L2
/-- an error of the class, lying at a -/
def ErO (cls : Value) (d : Option Addr) (a : Addr) : HO := .ext fun h => ∃ (u : Obj) (vs : Array Value), h.get? a = some u ∧ Zc cls d u ∧ u.data = .fields vs
section
variable {X : Cx} {pins : List (Addr × Obj)} {σ : L2.St} {H : Hp} {s : Shared}
theorem track {a : Addr} {o : HO} (I : Inv X pins σ H s) (na : H a = none) (n0 : X.s_0.heap.get? a = none) (nl : a ≠ X.env.locals) (nc : ∀ x c, X.env.cells.lookup x = some c → c ≠ a)
    (np : ∀ p ∈ X.pn ++ pins, p.1 ≠ a) (new : ObjOk X.prog X.w (upd H a o) s.heap a o) : Inv X pins σ (upd H a o) s := by
  have Bs := I.base
  refine ⟨I.ok, I.os, I.bare, ⟨Bs.keep, Bs.slot, ?_, Bs.there, ?_, ?_, ?_⟩, I.loc, I.cell, ?_, ?_, ?_, ?_, I.len⟩
  · intro b u e n hx
    have hb : b ≠ a := fun z => by rw [z, n0] at e; cases e
    rw [upd_ne hb]; exact Bs.free b u e n hx
  · intro b xs e
    have e2 := Bs.tups b xs e
    rw [upd_ne (ne_of_none e2 na)]; exact e2
  · intro b u v e
    have e2 := Bs.frzs b u v e
    rw [upd_ne (ne_of_none e2 na)]; exact e2
  · intro b ps e
    obtain ⟨m, e2⟩ := Bs.tbls b ps e
    exact ⟨m, by rw [upd_ne (ne_of_none e2 na)]; exact e2⟩
  · rw [upd_ne (Ne.symm nl)]; exact I.free
  · intro x c e
    rw [upd_ne (nc x c e)]; exact I.freeC x c e
  · intro p hp
    obtain ⟨e1, e2, e3⟩ := I.pin p hp
    exact ⟨e1, by rw [upd_ne (np p hp)]; exact e2, e3⟩
  · intro b u e
    by_cases hb : b = a
    · subst hb
      rw [upd_same] at e
      cases e
      exact new
    · rw [upd_ne hb] at e
      exact (I.hok b u e).stay (fun _ _ _ q => q) (fun c q => by rw [upd_ne (ne_of_none q na)]; exact q) fun c xs q => by rw [upd_ne (ne_of_none q na)]; exact q
/-- .. into the suite, out of it -/
theorem into_suite {a : Addr} (I : Inv X pins σ H s) : Inv (X.suite a (X.pn ++ pins)) [] σ H s :=
  ⟨I.ok.suite _ _, I.os, I.bare, I.base, I.loc, I.cell, I.free, I.freeC, fun p hp => I.pin p (by rw [List.append_nil] at hp; exact hp), I.hok, I.len⟩
theorem from_suite {a : Addr} {qs : List (Addr × Obj)} (I : Inv (X.suite a (X.pn ++ pins)) qs σ H s) (ok : X.Ok) : Inv X pins σ H s :=
  ⟨ok, I.os, I.bare, I.base, I.loc, I.cell, I.free, I.freeC, fun p hp => I.pin p (List.mem_append_left _ hp), I.hok, I.len⟩
end
/-- the wish of 'except x as n', the error tracked -/
def wTrk (K : PySem.W.Frag) (c : Value) (i : Nat) (ts : Addr → TS) (Wout : WX) (D : Ends) : WX := fun cls d σ H => ∃ b, PySem.W.exmOne K cls c = some b ∧ (b = true → ∀ a, H a = none →
    ts a { nx := fun σ' H' => D.nx (σ'.set i none) H', rt := D.rt, bk := fun σ' H' => D.bk (σ'.set i none) H', ct := fun σ' H' => D.ct (σ'.set i none) H' } (σ.set i (some (.ref a))) (upd H a (ErO cls d a))) ∧ (b = false → Wout cls d σ H)
section
variable {X : Cx} {x n : Str} {c : Value} {i : Nat} {body suite : List Stmt} {b₀ : Stmt} {np pos pos' : Pos} {tb : WX → TS} {ts : Addr → TS} {Wout : WX}
theorem ps_try_trk (hs : X.stack = X.env :: X.outer) (hf : X.env.frame = some X.env.locals) (hex : X.ex = []) (hN : X.N.Nodup) (hi : X.N[i]? = some n) (hln : X.env.kindOf n = some .local) (hc : Names X x c) (tk : Takes X Wout)
    (hb : ∀ (W : WX) (qs : List (Addr × Obj)) (xe : Value → Shared → Prop), Takes (X.tr qs xe) W → PassesOwn (model X.prog X.w) X.A X.env xe → PSs (X.tr qs xe) body (tb W)) (hsu : ∀ (a : Addr) (qs : List (Addr × Obj)), PSs (X.suite a qs) (b₀ :: suite) (ts a)) :
    PS X (.Try body [.ExceptHandler (some (.Name x np)) (some n) (b₀ :: suite) pos'] [] [] pos) (fun D σ H => tb (wTrk X.K c i ts Wout D) D σ H) := by
  refine ⟨fun ps st τ G D I0 w0 => ?_⟩
  have ok := I0.ok
  have frE : X.A.frames = some (X.env :: X.outer) := by rw [ok.frames, hs]
  refine wpAny_Try_except ?_
  refine wpAny_mono ((hb (wTrk X.K c i ts Wout D) (X.pn ++ ps) (fun er z1 => wpAny (model X.prog X.w) X.A (noteFrame er X.env) (fun _ z2 => wpAny (model X.prog X.w) X.A (setFlight er none) (fun _ z3 =>
    wpAny (model X.prog X.w) X.A (handleBy er X.env [.ExceptHandler (some (.Name x np)) (some n) (b₀ :: suite) pos']) (SP X ps D) X.xe z3) X.xe z2) X.xe z1) (fun er z1 xx => ?_) PassesOwn.looking).run [] st τ G D (I0.toTry _) w0) (fun fl z1 hsp => ?_) (fun _ _ he => he)
  · obtain ⟨a, B, sI, ps2, τ2, G2, cls, d, rfl, IT, nb, up, sky, na, os, ag, b, hb1, hyes, hno⟩ := xx
    have J : Inv X ps τ2 G2 sI := IT.ofTry ok
    rw [hs] at sky
    show wpAny (model X.prog X.w) X.A (noteFrame (.ref a) X.env) _ _ _
    refine Sky.land Zc.steady frE hf sky fun h3 fl3 up3 => ?_
    have J3 : Inv X ps τ2 G2 { z1 with heap := h3 } := J.landed nb fl3.1 (up.trans up3) os ag
    have nB : B.get? a = none := fl3.2.1
    obtain ⟨oe3, vs3, he3, hz3, hd3⟩ := fl3.there
    have nfr : a ∉ frs (X.env :: X.outer) := fun hm => by
      obtain ⟨_, u, eu, hnf⟩ := fl3.2.2.1.mem hm
      rw [he3] at eu; cases eu
      exact hnf _ hd3
    have nfS : a ∉ frs X.stack := by rw [hs]; exact nfr
    have nL : a ≠ X.env.locals := fun z => nfr (List.mem_filterMap.mpr ⟨X.env, List.mem_cons_self, by rw [hf, z]⟩)
    have nF : a ∉ X.fs := fun hm => by
      obtain ⟨e1, m1, q1⟩ := List.mem_filterMap.mp hm
      exact nfr (List.mem_filterMap.mpr ⟨e1, List.mem_cons_of_mem _ m1, q1⟩)
    have nI : sI.heap.get? a = none := by
      cases q : sI.heap.get? a with
      | none => rfl
      | some u => have := nb a u q nfS; rw [nB] at this; cases this
    have n0 : X.s_0.heap.get? a = none := by
      cases q : X.s_0.heap.get? a with
      | none => rfl
      | some u =>
        obtain ⟨u', q'⟩ := J.base.there a u q (by rw [hex]; exact fun z => nomatch z)
        rw [nI] at q'; cases q'
    have npn : ∀ p ∈ X.pn ++ ps, p.1 ≠ a := fun p hp z => by
      have e1 := (J.pin p hp).1
      rw [z, nI] at e1; cases e1
    have S3 := J3.suite he3 hd3 na nL nF
    refine wpAny_handleBy_cons (codeAny_handlers_test ?_) (by intro q; cases q)
    have LT : PySem.W.Looks (model X.prog X.w) h3 (typeOf (.ref a)) cls := fun _ _ _ _ k q => wpAny_typeOf_ref (k _ _ he3) (by rw [hz3.1]; exact q)
    have LM := PySem.W.exm_one (M := model X.prog X.w) (J3.kIn) LT hb1
    have tst : ∀ {Q : Value → Shared → Prop} {E : Value → Shared → Prop}, Q c { z1 with heap := h3 } → wpAny (model X.prog X.w) (X.A.mark (some (.ref a))) (eval (.Name x np) X.env) Q E { z1 with heap := h3 } := fun {Q E} q => by
      obtain ⟨hg, hdb, hm | ⟨hm, hv, hnn⟩⟩ := hc
      · exact ld_glob (X := X.suite a ((a, oe3) :: (X.pn ++ ps))) S3 hg hm q hdb
      · exact ld_blt (X := X.suite a ((a, oe3) :: (X.pn ++ ps))) S3 hg hm hv q hnn hdb
    refine tst (LM.here ?_)
    cases b with
    | true =>
      refine codeAny_handlers_suite_as ?_
      refine HandSPX.lands_againZ fl3 fun h4 fl4 up4 => ?_
      have J4 : Inv X ps τ2 G2 { z1 with heap := h4 } := J.landed nb fl4.1 ((up.trans up3).trans up4) os ag
      obtain ⟨oe4, vs4, he4, hz4, hd4⟩ := fl4.there
      have nce : ∀ y cc, X.env.cells.lookup y = some cc → cc ≠ a := fun y cc e z => by
        obtain ⟨v, u, hu, hd⟩ := J4.cell y cc e
        have hu' : h4.get? cc = some u := hu
        rw [z, he4] at hu'; cases hu'
        rw [hd4] at hd; cases hd
      have T4 : Inv X ps τ2 (upd G2 a (ErO cls d a)) { z1 with heap := h4 } := track J4 na n0 nL nce npn
        ⟨⟨oe4, vs4, he4, hz4, hd4⟩, ⟨oe4, he4⟩, fun _ _ ⟨u, v, e1, r⟩ k => ⟨u, v, k _ e1, r⟩⟩
      refine store_ok (X := X.suite a (X.pn ++ ps)) (v := .ref a) (into_suite T4) hN hi (.inl hln) rfl (fun s5 S5 => ?_) (.inr hln)
      refine wpAny_mono ((hsu a (X.pn ++ ps)).run [] s5 _ _ _ S5 (hyes rfl a na)) (fun fl s6 hsp => ?_) (fun _ _ z => False.elim z)
      have fin : ∀ {σ6 : L2.St} {H6 : Hp} {Q : Shared → Prop}, Inv (X.suite a (X.pn ++ ps)) [] σ6 H6 s6 → (∀ s7, Inv X ps (σ6.set i none) H6 s7 → Q s7) →
        wpAny (model X.prog X.w) X.A (do bindName X.env n .none; unbindBehindTheSuite X.env n pos') (fun _ s7 => Q s7) X.xe s6 := fun {_ _ _} S6 hq => gone_ok (from_suite S6 ok) hN hi hln hq
      cases fl with
      | next => obtain ⟨_, _, S6, q6⟩ := hsp; exact fin S6 fun _ J7 => ⟨_, _, J7, q6⟩
      | brk => obtain ⟨_, _, S6, q6⟩ := hsp; exact fin S6 fun _ J7 => ⟨_, _, J7, q6⟩
      | cont => obtain ⟨_, _, S6, q6⟩ := hsp; exact fin S6 fun _ J7 => ⟨_, _, J7, q6⟩
      | ret u => obtain ⟨_, _, _, S6, r6, q6⟩ := hsp; exact fin S6 fun _ J7 => ⟨_, _, _, J7, r6, q6⟩
    | false =>
      show wpAny _ X.A (handleBy (.ref a) X.env []) _ _ _
      refine wpAny_handleBy_nil ?_
      obtain ⟨k1, k2, k3, oe, vs, T, oT, ts', he, hz, hd, h1, hr⟩ := id fl3
      unfold PySem.passOn
      refine wpAny_bind (wpAny_field he hd h1 ?_)
      rw [if_neg (show ¬ ((Value.ref T == Value.none) = true) from by simp)]
      have out : wpAny (model X.prog X.w) X.A (setFlight (.ref a) X.env.frame) (fun _ s4 => wpAny (model X.prog X.w) X.A (throw (.ref a) : Sem Flow) (SP X ps D) X.xe s4) X.xe { z1 with heap := h3 } := by
        rw [hf]
        refine HandSPX.setFlight_upZ fl3 fun h4 hh4 up4 => wpAny_throw (tk _ _ ?_)
        exact ⟨a, B, sI, ps, τ2, G2, cls, d, rfl, J, nb, (up.trans up3).trans up4, .inr (.inr (by rw [hs]; exact hh4)), na, os, ag, hno rfl⟩
      first | exact wpAny_bind (wpAny_pure (wpAny_bind out)) | exact wpAny_bind out
  · cases fl with
    | next => obtain ⟨_, _, J1, q⟩ := hsp; exact wpAny_execs_nil ⟨_, _, J1.ofTry ok, q⟩
    | brk => obtain ⟨_, _, J1, q⟩ := hsp; exact ⟨_, _, J1.ofTry ok, q⟩
    | cont => obtain ⟨_, _, J1, q⟩ := hsp; exact ⟨_, _, J1.ofTry ok, q⟩
    | ret u => obtain ⟨_, _, _, J1, r, q⟩ := hsp; exact ⟨_, _, _, J1.ofTry ok, r, q⟩
end
end Kv
namespace Kv
open PySem PySem.Spec PyProof.Rows L2
section
variable {X : Cx} {σ : L2.St} {B : Hp} {L : HL} {Q : KQ} {D : KD} {pos pos' np : Pos} {body : List Stmt}
def tSuT (X : Cx) (suite : List Stmt) (a : Addr) : TS := fun E σ H => ∀ qs, cSs (X.suite a qs) suite E σ H
/-- behind the suite: the name is gone -/
abbrev KD.gone (D : KD) (i : Nat) : KD := { nx := fun σ' B' L' => D.nx (σ'.set i none) B' L', rt := D.rt, bk := fun σ' B' L' => D.bk (σ'.set i none) B' L', ct := fun σ' B' L' => D.ct (σ'.set i none) B' L' }
/-- try: body / except x as n: suite -/
theorem k_try_trk (i : Nat) {x n : Str} {cv : Value} {b₀ : Stmt} {suite : List Stmt} {Wout : WX} (tk : Takes X Wout) (hc : Names X x cv) (hN : X.N.Nodup)
    (h : ∀ qs xe, Takes (X.tr qs xe) (wTrk X.K cv i (tSuT X (b₀ :: suite)) Wout D.dn) → PassesOwn (model X.prog X.w) X.A X.env xe → kSs (X.tr qs xe) body σ B L D)
    (hi : X.N[i]? = some n := by rfl) (hln : X.env.kindOf n = some .local := by rfl) (hs : X.stack = X.env :: X.outer := by rfl) (hf : X.env.frame = some X.env.locals := by rfl) (hex : X.ex = [] := by rfl) :
    kS X (.Try body [.ExceptHandler (some (.Name x np)) (some n) (b₀ :: suite) pos'] [] [] pos) σ B L D :=
  ⟨_, ps_try_trk (tb := fun W E σ H => ∀ qs xe, Takes (X.tr qs xe) W → PassesOwn (model X.prog X.w) X.A X.env xe → cSs (X.tr qs xe) body E σ H) (ts := tSuT X (b₀ :: suite)) hs hf hex hN hi hln hc tk
    (fun W qs xe t po => ⟨fun ps s σ H E I q => pss_c.run ps s σ H E I (q qs xe t po)⟩)
    (fun a qs => ⟨fun ps s σ H E I q => pss_c.run ps s σ H E I (q qs)⟩), fun H s => fun qs xe t po => toSs0 s (h qs xe t po)⟩
/-- the wish at a raise that the clause takes -/
theorem w_trk {i : Nat} {cv : Value} {suite : List Stmt} {Wout : WX} {C : Addr} {H : Hp} (hx : PySem.W.exmOne X.K (.ref C) cv = some true) (s : Sat B L H)
    (h : ∀ a qs, kSs (X.suite a qs) suite (σ.set i (some (.ref a))) B ((a, ErO (.ref C) none a) :: L) (D.gone i)) : wTrk X.K cv i (tSuT X suite) Wout D.dn (.ref C) none σ H :=
  ⟨true, hx, fun _ a na qs => toSs0 (s.new na) (h a qs), fun z => (Bool.noConfusion z)⟩
/-- isinstance of a tracked error -/
def rIsT (K : PySem.W.Frag) : List V → Hp → VK → Prop := fun xs H Q => ∃ (a D : Addr) (c : V) (cv : Value) (b : Bool), xs = [.ref a, c] ∧ ClsV c cv ∧ H a = some (ErO (.ref D) none a) ∧ ExcC K D ∧ PySem.W.kitOne K (.ref D) cv = some b ∧ Q (.bl b) H
theorem call_isT : CallR X (.builtin "isinstance") (rIsT X.K) := by
  intro ps s σ H xs us Q I r h
  obtain ⟨a, D, c, cv, b, rfl, hcv, hH, C, e, q⟩ := h
  cases r with
  | cons rx rr =>
    cases rr with
    | cons rt rr =>
      cases rr
      cases rx
      have ec := hcv.eq rt
      subst ec
      obtain ⟨⟨u, vs, hu, hz, hv⟩, _⟩ := I.hok a _ hH
      have J : PySem.W.InstAt s.heap a u D none := by
        obtain ⟨o1, o2, o3, o4⟩ := u
        obtain ⟨h1, h2⟩ := hz
        dsimp only at h1 h2 hv
        subst h1 h2 hv
        exact ⟨hu, rfl, rfl, trivial⟩
      exact PySem.W.kia_one (PySem.W.handS_kitx_exc C.hg C.hk C.hs C.hd C.ha C.hn C.ht C.hm) I.kIn J e (fun z => nomatch z) fun tk => ⟨.bl b, H, I.kept (t' := tk) fun _ _ z => z, rfl, q⟩
theorem c_isErr {a D : Addr} {c : V} {cv : Value} {k : Bool} (E : ExcC X.K D) (hc : ClsV c cv) (h : At B L a (ErO (.ref D) none a)) (hk : PySem.W.kitOne X.K (.ref D) cv = some k) (q : Q (.bl k) B L) : kC X (.builtin "isinstance") [.ref a, c] B L Q :=
  ⟨_, call_isT, fun H s => ⟨a, D, c, cv, k, rfl, hc, h.at s, E, hk, _, _, s, q⟩⟩
end
end Kv
namespace Kv
open PySem PySem.Spec PyProof.Rows L2
/-- what an own error class says to isinstance -/
structure ErrK (K : PySem.W.Frag) (D : Addr) : Prop where
  c : ExcC K D
end Kv

/-! dict(zip(text, text)) -/
namespace KvZ
open PySem PySem.Spec PyProof.Rows
section
variable {prog : Program} {w : World} {A : Around} {E : Value → Shared → Prop} {s : Shared} {z TI TO T i1 i2 : Addr} {f1 f2 : List Addr} {n1 n2 i : Nat} {P1 P2 : Nat → Value → Prop} {U1 U2 : Nat → Heap → Prop} {f : Bool} {oT : Obj}
/-- next(zip), its last tuple still held -/
theorem next_held {Q : Value → Shared → Prop} (S : ZipSep2 z TI TO i1 i2 f1 f2) (D1 : Draws prog w A i1 f1 n1 P1 U1) (D2 : Draws prog w A i2 f2 n2 P2 U2) (hz : IsZipHeld s.heap z TI TO T f) (hT : s.heap.get? T = some oT)
    (hI : IsTupOf2 s.heap TI (.ref i1) (.ref i2)) (u1 : U1 i s.heap) (u2 : U2 i s.heap) (l1 : i < n1) (l2 : i < n2)
    (hQ : ∀ x1 x2 h' tk, P1 i x1 → P2 i x2 → IsZipHeld h' z TI TO T true → U1 (i + 1) h' → U2 (i + 1) h' → IsTupOf2 h' s.heap.objs.size x1 x2 → h'.objs.size = s.heap.objs.size + 1 →
      (∀ c o, c ≠ z → c ≠ i1 → c ≠ i2 → s.heap.get? c = some o → h'.get? c = some o) → Q (.ref s.heap.objs.size) { s with heap := h', toks := tk }) :
    wpAny (model prog w) A (Builtin.«zip.__next__» ⟨[.ref z], []⟩) (fun fin s' => ∃ v, fin = .done (.ret v) ∧ Q v s') E s := by
  obtain ⟨hp, gn, dr, t0, os⟩ := s
  show wpAny _ _ (field (.ref z) 2 >>= _) _ _ _
  refine wpAny_bind (wpAny_field hz rfl (x := .bool false) rfl ?_)
  show wpAny _ _ (field (.ref z) 3 >>= _) _ _ _
  refine wpAny_bind (wpAny_field hz rfl (x := .ref TI) rfl ?_)
  refine wpAny_bind (wpAny_seqItems hI rfl ?_)
  show wpAny _ _ (Builtin.SmallTypes.ownedTupleIsFree (.ref z) >>= _) _ _ _
  refine wpAny_bind (wpAny_tupleHeld_zip hz hT fun g1 z1 b1 => ?_)
  simp only [Bool.false_eq_true, if_false]
  refine wpAny_bind ?_
  rw [← Array.forIn_toList]
  simp only [List.forIn_cons, List.forIn_nil]
  refine wpAny_bind (wpAny_bind (wpAny_holding ?_))
  show wpAny _ _ (Builtin.SmallTypes.nextOf (.ref i1) >>= _) _ _ _
  refine wpAny_bind (D1.item i ⟨g1, gn, dr, t0, os⟩ _ _ l1 (D1.over u1 b1 S.zf1) fun x1 g2 t1 p1 w1 b2 => wpAny_pure ?_)
  refine wpAny_pure ?_
  refine wpAny_bind (wpAny_bind (wpAny_holding ?_))
  show wpAny _ _ (Builtin.SmallTypes.nextOf (.ref i2) >>= _) _ _ _
  refine wpAny_bind (D2.item i ⟨g2, gn, dr, t1, os⟩ _ _ l2 (D2.over (D2.over u2 b1 S.zf2) b2 S.sep1_2) fun x2 g3 t2 p2 w2 b3 => wpAny_pure ?_)
  refine wpAny_pure (wpAny_pure ?_)
  show wpAny _ _ (newTuple [x1, x2] >>= _) _ _ _
  refine wpAny_bind (wpAny_newTuple ?_)
  have sz : g3.objs.size = hp.objs.size := by rw [b3.1, b2.1, b1.1]
  have z3 : IsZipHeld g3 z TI TO T true := b3.extBut _ _ S.zi2 (b2.extBut _ _ S.zi1 z1)
  have kp : ∀ c o, c ≠ z → c ≠ i1 → c ≠ i2 → hp.get? c = some o → g3.get? c = some o := fun c o a1 a2 a3 e => b3.extBut _ _ a3 (b2.extBut _ _ a2 (b1.extBut _ _ a1 e))
  have w13 : U1 (i + 1) g3 := D1.over w1 b3 S.sep2_1
  refine wpAny_pure ⟨_, rfl, ?_⟩
  show Q (.ref g3.objs.size) _
  have pt : IsTupOf2 (g3.push { cls := .type "tuple", data := .seq #[x1, x2] }) g3.objs.size x1 x2 := Heap.get?_push_size _ rfl
  have sp : (g3.push { cls := .type "tuple", data := .seq #[x1, x2] }).objs.size = g3.objs.size + 1 := Heap.size_push ..
  rw [sz] at pt sp ⊢
  exact hQ x1 x2 _ _ p1 p2 (Heap.get?_push_of_some _ z3) (D1.frame _ _ _ w13 fun _ _ o e => Heap.get?_push_of_some _ e) (D2.frame _ _ _ w2 fun _ _ o e => Heap.get?_push_of_some _ e) pt sp fun c o a1 a2 a3 e => Heap.get?_push_of_some _ (kp c o a1 a2 a3 e)
/-- .. at the end -/
theorem end_held {Q : Fin → Shared → Prop} (S : ZipSep2 z TI TO i1 i2 f1 f2) (D1 : Draws prog w A i1 f1 n1 P1 U1) (hz : IsZipHeld s.heap z TI TO T f) (hT : s.heap.get? T = some oT) (hI : IsTupOf2 s.heap TI (.ref i1) (.ref i2)) (u1 : U1 n1 s.heap)
    (hE : ∀ h' e, (∀ c o, c ≠ z → c ≠ i1 → s.heap.get? c = some o → h'.get? c = some o) → (∃ o, h'.get? e = some o ∧ o.cls = .type "StopIteration") → E (.ref e) { s with heap := h' }) : wpAny (model prog w) A (Builtin.«zip.__next__» ⟨[.ref z], []⟩) Q E s := by
  obtain ⟨hp, gn, dr, t0, os⟩ := s
  show wpAny _ _ (field (.ref z) 2 >>= _) _ _ _
  refine wpAny_bind (wpAny_field hz rfl (x := .bool false) rfl ?_)
  show wpAny _ _ (field (.ref z) 3 >>= _) _ _ _
  refine wpAny_bind (wpAny_field hz rfl (x := .ref TI) rfl ?_)
  refine wpAny_bind (wpAny_seqItems hI rfl ?_)
  show wpAny _ _ (Builtin.SmallTypes.ownedTupleIsFree (.ref z) >>= _) _ _ _
  refine wpAny_bind (wpAny_tupleHeld_zip hz hT fun g1 z1 b1 => ?_)
  simp only [Bool.false_eq_true, if_false]
  refine wpAny_bind ?_
  rw [← Array.forIn_toList]
  simp only [List.forIn_cons, List.forIn_nil]
  refine wpAny_bind (wpAny_bind (wpAny_holding ?_))
  show wpAny _ _ (Builtin.SmallTypes.nextOf (.ref i1) >>= _) _ _ _
  refine wpAny_bind (D1.done ⟨g1, gn, dr, t0, os⟩ _ _ (D1.over u1 b1 S.zf1) fun g2 e b2 he => ?_)
  exact hE g2 e (fun c o a1 a2 x => b2 _ _ a2 (b1.extBut _ _ a1 x)) he
theorem pyNext_held {Q : Option Value → Shared → Prop} (S : ZipSep2 z TI TO i1 i2 f1 f2) (D1 : Draws prog w A.in1 i1 f1 n1 P1 U1) (D2 : Draws prog w A.in1 i2 f2 n2 P2 U2) (hz : IsZipHeld s.heap z TI TO T f) (hT : s.heap.get? T = some oT)
    (hI : IsTupOf2 s.heap TI (.ref i1) (.ref i2)) (u1 : U1 i s.heap) (u2 : U2 i s.heap) (l1 : i < n1) (l2 : i < n2)
    (hQ : ∀ x1 x2 h' tk, P1 i x1 → P2 i x2 → IsZipHeld h' z TI TO T true → U1 (i + 1) h' → U2 (i + 1) h' → IsTupOf2 h' s.heap.objs.size x1 x2 → h'.objs.size = s.heap.objs.size + 1 →
      (∀ c o, c ≠ z → c ≠ i1 → c ≠ i2 → s.heap.get? c = some o → h'.get? c = some o) → Q (some (.ref s.heap.objs.size)) { s with heap := h', toks := tk }) : wpAny (model prog w) A (pyNext (.ref z)) Q E s := by
  have ty : s.TypeIs (.ref z) "zip" := ⟨_, hz, rfl⟩
  unfold pyNext
  exact wpAny_bind (wpAny_attempt (wpAny_callSpecial?_slot (name := Str.ofString "__next__") ty F.slot_zip_next (wpAny_call_entry F.slot_zip_next ty F.entry_zip_next
    (next_held S D1 D2 hz hT hI u1 u2 l1 l2 fun x1 x2 h' tk y1 y2 c1 c2 c3 c4 c5 c6 => wpAny_pure (hQ x1 x2 h' tk y1 y2 c1 c2 c3 c4 c5 c6)) (F.args_zip_next_1 _))))
theorem pyEnd_held {Q : Option Value → Shared → Prop} (S : ZipSep2 z TI TO i1 i2 f1 f2) (D1 : Draws prog w A.in1 i1 f1 n1 P1 U1) (hz : IsZipHeld s.heap z TI TO T f) (hT : s.heap.get? T = some oT) (hI : IsTupOf2 s.heap TI (.ref i1) (.ref i2)) (u1 : U1 n1 s.heap)
    (hQ : ∀ h' tk, (∀ c o, c ≠ z → c ≠ i1 → s.heap.get? c = some o → h'.get? c = some o) → Q none { s with heap := h', toks := tk }) : wpAny (model prog w) A (pyNext (.ref z)) Q E s := by
  have ty : s.TypeIs (.ref z) "zip" := ⟨_, hz, rfl⟩
  unfold pyNext
  refine wpAny_bind (wpAny_attempt (wpAny_callSpecial?_slot (name := Str.ofString "__next__") ty F.slot_zip_next (wpAny_call_entry F.slot_zip_next ty F.entry_zip_next (end_held S D1 hz hT hI u1 fun h' e hk he => ?_) (F.args_zip_next_1 _))))
  obtain ⟨o, ho, hc⟩ := he
  exact wpAny_bind (wpAny_isInstance (T := "StopIteration") (b := true) ⟨o, ho, hc⟩ isSubtype_stop (wpAny_pure (hQ _ s.toks hk)))
end
/-- the pairs of two texts as long as one another -/
def TxRel (x y : Str) (i : Nat) (k v : Value) : Prop := (∃ c t, x.cps[i]? = some c ∧ k = .str ⟨#[c]⟩ t) ∧ ∃ c t, y.cps[i]? = some c ∧ v = .str ⟨#[c]⟩ t
theorem arg_texts {prog : Program} {w : World} (z TI TO i1 i2 : Addr) (x y : Str) (t1 t2 : Tok) (n : Nat) (hx : x.cps.size = n) (hy : y.cps.size = n) (S : ZipSep2 z TI TO i1 i2 [i1] [i2]) :
    PairArg prog w "zip" z [z, TI, TO, i1, i2] [z, TO, i1, i2] n (TxRel x y) (fun h => IsZip h z TI TO .none ∧ IsTupOf2 h TI (.ref i1) (.ref i2) ∧ (∃ a b, IsTupOf2 h TO a b) ∧ h.IsStrIter i1 (strIterType x) x t1 0 ∧ h.IsStrIter i2 (strIterType y) y t2 0) where
  type := fun s ok => ⟨_, ok.1, rfl⟩
  notDict := by decide
  keep := fun h h' ok hk => by
    obtain ⟨a1, a2, ⟨p, q, a3⟩, ⟨o1, e1, r1⟩, ⟨o2, e2, r2⟩⟩ := ok
    exact ⟨hk _ _ a1, hk _ _ a2, ⟨p, q, hk _ _ a3⟩, ⟨o1, hk _ _ e1, r1⟩, ⟨o2, hk _ _ e2, r2⟩⟩
  there := fun h ok b hb => by
    obtain ⟨a1, a2, ⟨p, q, a3⟩, ⟨o1, e1, _⟩, ⟨o2, e2, _⟩⟩ := ok
    simp only [List.mem_cons, List.not_mem_nil, or_false] at hb
    rcases hb with e | e | e | e | e
    all_goals first | exact ⟨_, e ▸ a1⟩ | exact ⟨_, e ▸ a2⟩ | exact ⟨_, e ▸ a3⟩ | exact ⟨_, e ▸ e1⟩ | exact ⟨_, e ▸ e2⟩
  sub := fun b hb => by simp only [List.mem_cons, List.not_mem_nil, or_false] at hb ⊢; rcases hb with e | e | e | e <;> simp [e]
  noKeys := fun A s Q E hA ok h => getAttrOr_miss_zip ok.1 rfl rfl rfl zip_no_keys (by decide +kernel) hA h
  iter := fun A s d Q E hA ok hd hdf h => by
    obtain ⟨a1, a2, ⟨p, q, a3⟩, v1, v2⟩ := ok
    simp only [List.mem_cons, List.not_mem_nil, or_false, not_or] at hdf
    obtain ⟨dz, dI, dO, d1, d2⟩ := hdf
    refine wpAny_pyIter_zip a1 (h z [z, TO, i1, i2] (fun i g => IsTupOf2 g TI (.ref i1) (.ref i2) ∧ g.IsStrIter i1 (strIterType x) x t1 i ∧ g.IsStrIter i2 (strIterType y) y t2 i ∧
      ((IsZip g z TI TO .none ∧ ∃ a b, IsTupOf2 g TO a b) ∨ ∃ T f oT, IsZipHeld g z TI TO T f ∧ g.get? T = some oT ∧ T ≠ z ∧ T ≠ i1 ∧ T ≠ i2 ∧ T ≠ d)) s.heap s.toks ?_ ⟨a2, v1, v2, .inl ⟨a1, p, q, a3⟩⟩ (fun _ _ e => e) fun b hb => .inl hb)
    have R1 : Draws prog w A.in1 i1 [i1] x.cps.size (fun i v => ∃ c u, x.cps[i]? = some c ∧ v = .str ⟨#[c]⟩ u) (fun i g => g.IsStrIter i1 (strIterType x) x t1 i) := Draws.text (A := A.in1) (show A.in1.handled = none from hA) i1 x t1
    have R2 : Draws prog w A.in1 i2 [i2] y.cps.size (fun i v => ∃ c u, y.cps[i]? = some c ∧ v = .str ⟨#[c]⟩ u) (fun i g => g.IsStrIter i2 (strIterType y) y t2 i) := Draws.text (A := A.in1) (show A.in1.handled = none from hA) i2 y t2
    exact {
      off := fun hm => by
        simp only [List.mem_cons, List.not_mem_nil, or_false] at hm
        rcases hm with e | e | e | e
        · exact dz e
        · exact dO e
        · exact d1 e
        · exact d2 e
      frame := fun i g g' st hk => by
        obtain ⟨b2, ⟨o1, e1, r1⟩, ⟨o2, e2, r2⟩, hz⟩ := st
        refine ⟨hk _ _ (Ne.symm dI) b2, ⟨o1, hk _ _ (Ne.symm d1) e1, r1⟩, ⟨o2, hk _ _ (Ne.symm d2) e2, r2⟩, ?_⟩
        rcases hz with ⟨b1, a, b, b3⟩ | ⟨T, f, oT, b1, bT, n1, n2, n3, n4⟩
        · exact .inl ⟨hk _ _ (Ne.symm dz) b1, a, b, hk _ _ (Ne.symm dO) b3⟩
        · exact .inr ⟨T, f, oT, hk _ _ (Ne.symm dz) b1, hk _ _ n4 bT, n1, n2, n3, n4⟩
      item := fun i s1 Q1 E1 hi st hds hQ => by
        obtain ⟨b2, c1, c2, hz⟩ := st
        have lt : ∀ {c o}, s1.heap.get? c = some o → s1.heap.objs.size ≠ c := fun e => Nat.ne_of_gt (Heap.lt_size e)
        have n1 : s1.heap.objs.size ≠ i1 := let ⟨_, e, _⟩ := c1; lt e
        have n2 : s1.heap.objs.size ≠ i2 := let ⟨_, e, _⟩ := c2; lt e
        rcases hz with ⟨b1, a, b, b3⟩ | ⟨T, f, oT, b1, bT, m1, m2, m3, m4⟩
        · refine wpAny_pyNext_zipD2_item S R1 R2 b1 b2 b3 c1 c2 (by rw [hx]; exact hi) (by rw [hy]; exact hi) fun x1 x2 h' tk p1 p2 k1 k2 k3 k4 k5 k6 hk => ?_
          exact hQ s1.heap.objs.size _ _ h' tk ⟨p1, p2⟩ (.inl ⟨_, k5, rfl, _, rfl⟩) ⟨hk _ _ S.TIz S.TITO S.TIi1 S.TIi2 b2, k3, k4, .inr ⟨s1.heap.objs.size, false, _, k1, k5, lt b1, n1, n2, Nat.ne_of_gt hds⟩⟩
            fun c o hc e => hk c o (fun q => hc (by simp [q])) (fun q => hc (by simp [q])) (fun q => hc (by simp [q])) (fun q => hc (by simp [q])) e
        · refine pyNext_held S R1 R2 b1 bT b2 c1 c2 (by rw [hx]; exact hi) (by rw [hy]; exact hi) fun x1 x2 h' tk p1 p2 k1 k3 k4 k5 k6 hk => ?_
          exact hQ s1.heap.objs.size _ _ h' tk ⟨p1, p2⟩ (.inl ⟨_, k5, rfl, _, rfl⟩) ⟨hk _ _ S.TIz S.TIi1 S.TIi2 b2, k3, k4, .inr ⟨T, true, oT, k1, hk _ _ m1 m2 m3 bT, m1, m2, m3, m4⟩⟩
            fun c o hc e => hk c o (fun q => hc (by simp [q])) (fun q => hc (by simp [q])) (fun q => hc (by simp [q])) e
      done := fun s1 Q1 E1 st hQ => by
        obtain ⟨b2, c1, c2, hz⟩ := st
        rcases hz with ⟨b1, a, b, b3⟩ | ⟨T, f, oT, b1, bT, m1, m2, m3, m4⟩
        · exact wpAny_pyNext_zipD2_end S R1 R2 b1 b2 b3 c1 c2 (by rw [hx]; exact Nat.le_refl _) (by rw [hy]; exact Nat.le_refl _) (.inl hx.symm) fun h' tk hk => hQ h' tk fun c o hc e => hk c o (fun q => hc (by simp [q])) (fun q => hc (by simp [q])) (fun q => hc (by simp [q])) (fun q => hc (by simp [q])) e
        · exact pyEnd_held S R1 b1 bT b2 (by rw [hx]; exact c1) fun h' tk hk => hQ h' tk fun c o hc e => hk c o (fun q => hc (by simp [q])) (fun q => hc (by simp [q])) e }
end KvZ
namespace KvZ
open PySem PySem.Spec PyProof.Rows L2
/-- the pairs of two texts, as a dict holds them -/
def zipK (x y : Str) : List (Key × V) := (x.cps.toList.zip y.cps.toList).map fun q => (.inr ⟨#[q.1]⟩, V.str ⟨#[q.2]⟩)
section
variable {prog : Program} {w : World} {A : Around} {E : Value → Shared → Prop} {s : Shared}
/-- prs: the first i pairs -/
def Prs (x y : Str) (i : Nat) (prs : List (Key × Value)) : Prop := prs.length = i ∧ KV ((zipK x y).take i) prs
theorem prs_snoc {x y : Str} {i : Nat} {prs : List (Key × Value)} {k v : Value} (h : Prs x y i prs) (r : TxRel x y i k v) : ∃ q : Key × Value, q.2 = v ∧ keyIs q.1 k = true ∧ Prs x y (i + 1) (prs ++ [q]) := by
  obtain ⟨⟨c, t, e1, rfl⟩, ⟨d, u, e2, rfl⟩⟩ := r
  obtain ⟨h1, h2⟩ := h
  have ez : (zipK x y)[i]? = some ((.inr ⟨#[c]⟩ : Key), V.str ⟨#[d]⟩) := by
    unfold zipK
    rw [List.getElem?_map, (List.getElem?_zip_eq_some (z := (c, d))).mpr ⟨by rw [Array.getElem?_toList]; exact e1, by rw [Array.getElem?_toList]; exact e2⟩]
    rfl
  refine ⟨((.inr ⟨#[c]⟩ : Key), .str ⟨#[d]⟩ u), rfl, keyIs_str _ _, by rw [List.length_append, h1]; rfl, ?_⟩
  rw [List.take_add_one, ez]
  have app : ∀ {a b : List (Key × V)} {a' b' : List (Key × Value)}, KV a a' → KV b b' → KV (a ++ b) (a' ++ b') := by
    intro a b a' b' ha hb
    unfold KV at ha hb ⊢
    induction ha with
    | nil => exact hb
    | cons p _ ih => exact .cons p ih
  exact app h2 (.cons ⟨rfl, u, rfl⟩ .nil)
theorem call_dict_texts {z TI TO i1 i2 : Addr} {x y : Str} {t1 t2 : Tok} {Q : Value → Shared → Prop} (hxy : x.cps.size = y.cps.size) (hn : x.cps.size ≤ sizeLine) (S : ZipSep2 z TI TO i1 i2 [i1] [i2]) (hh : A.handled = none)
    (ok : IsZip s.heap z TI TO .none ∧ IsTupOf2 s.heap TI (.ref i1) (.ref i2) ∧ (∃ a b, IsTupOf2 s.heap TO a b) ∧ s.heap.IsStrIter i1 (strIterType x) x t1 0 ∧ s.heap.IsStrIter i2 (strIterType y) y t2 0)
    (h : ∀ h' tk prs, Prs x y x.cps.size prs → h'.DictOf (mixKind prog w) s.heap.objs.size (merged [] prs) → (∀ b o, b ∉ [z, TO, i1, i2] → s.heap.get? b = some o → h'.get? b = some o) → Q (.ref s.heap.objs.size) { s with heap := h', toks := tk }) :
    wpAny (model prog w) A (call (.type "dict") [.ref z]) Q E s := by
  have P := arg_texts (prog := prog) (w := w) z TI TO i1 i2 x y t1 t2 x.cps.size rfl hxy.symm S
  refine call_dict_arg P ok fun s1 e1 hdf ok1 => ?_
  subst e1
  refine updateFrom_arg (A := A.in1) (Tab := fun i g => ∃ prs, Prs x y i prs ∧ g.DictOf (mixKind prog w) s.heap.objs.size (merged [] prs)) P .none hh ok1 hdf ⟨[], ⟨rfl, .nil⟩, Heap.DictOf.new s.heap⟩ (fun _ _ ⟨_, _, tb⟩ => tb.lt_size)
    (fun i g g' wr' hd _ ⟨prs, hp, tb⟩ hk => ⟨prs, hp, tb.at' fun o e => hk _ o hd e⟩) ?_ ?_
  · rintro i key v s' Q' E' hi hrel ⟨prs, hp, tb⟩ _ hQ
    obtain ⟨q, rfl, hk, hp'⟩ := prs_snoc hp hrel
    refine wpAny_dictSet_pairs (knd := mixKind prog w) hk tb (fun g' hm' hs => hQ g' _ ⟨_, hp', ?_⟩ hs) (by
      have h1 := merged_length [] prs
      have h2 := hp.1
      rw [List.length_nil] at h1
      omega)
    have e : merged [] (prs ++ [q]) = stored (merged [] prs) q.1 q.2 := by unfold merged; rw [List.foldl_append]; rfl
    rw [e]; exact hm'
  · rintro g' tk ⟨prs, hp, tb⟩ hk
    exact ⟨rfl, h g' tk prs hp tb fun b o hb e => hk b o (Nat.ne_of_lt (Heap.lt_size e)) hb (Heap.get?_push_of_some _ e)⟩
end
section
variable {X : Cx} {e1 e2 : Expr} {ta : TA} {p p2 pos pos2 : Pos}
/-- dict(zip(x, y)) of two texts -/
theorem pe_dzip (hc : X.calm = true) (hg : Gl X "dict") (hm : X.mg "dict" = none) (gz : Gl X "zip") (mz : X.mg "zip" = none) (ha : PA X [e1, e2] ta)
    (hs : starEach [e1, e2] X.env = (false, eval e1 X.env) :: starEach [e2] X.env := by rfl) (hpl : (backTo pos2 (starEach [e2] X.env)).any (·.1) = false := by rfl)
    (hs1 : starEach [.Call (.Name "zip" p2) [e1, e2] [] pos2] X.env = (false, eval (.Call (.Name "zip" p2) [e1, e2] [] pos2) X.env) :: starEach [] X.env := by rfl) (hpl1 : (backTo pos (starEach [] X.env)).any (·.1) = false := by rfl) :
    PE X (.Call (.Name "dict" p) [.Call (.Name "zip" p2) [e1, e2] [] pos2] [] pos)
      (fun σ H Q => ta σ H fun vs H1 => ∃ x y : Str, vs = [.str x, .str y] ∧ x.cps.size = y.cps.size ∧ x.cps.size ≤ sizeLine ∧ ∀ d, H1 d = none → Q (.ref d) (upd H1 d (.dK (mergeK [] (zipK x y))))) := by
  refine ⟨fun ps s σ H Q I h => ?_⟩
  refine wpAny_Call_Name_kw (ld_blt I hg hm PyProof.Rows.boot_dict ?_)
  refine PyProof.Rows.callWith_type1 ?_ hs1 hpl1
  rw [hs1]
  show wpAny _ _ (spliced ((false, eval (.Call (.Name "zip" p2) [e1, e2] [] pos2) X.env) :: backTo pos (starEach [] X.env))) _ _ s
  refine Calls.spliced_cons ?_
  refine wpAny_Call_Name_kw (ld_blt I gz mz PyProof.Rows.boot_zip ?_)
  refine PyProof.Rows.callWith_type1 (thn (ha.run pos2 ps s σ H _ I h) fun us s1 ⟨vs, H1, I1, r1, q1⟩ => ?_) hs hpl
  obtain ⟨x, y, rfl, hxy, hn, q⟩ := q1
  cases r1 with
  | cons ra rr =>
    cases rr with
    | cons rb rr =>
      cases rr
      obtain ⟨t1, rfl⟩ := ra
      obtain ⟨t2, rfl⟩ := rb
      refine zip_begins2 (begins_text x t1) (begins_text y t2) trivial trivial fun h' k1 k2 k3 k4 k5 sz hk => ?_
      refine Calls.spliced_nil ?_
      have n0 : ∀ b o, s1.heap.get? b = some o → b < s1.heap.objs.size := fun b o e => Heap.lt_size e
      have S : ZipSep2 (s1.heap.objs.size + 4) (s1.heap.objs.size + 2) (s1.heap.objs.size + 3) s1.heap.objs.size (s1.heap.objs.size + 1) [s1.heap.objs.size] [s1.heap.objs.size + 1] := by
        refine ⟨?_, ?_, ?_, ?_, ?_, ?_, ?_, ?_, ?_, ?_, ?_, ?_, ?_⟩
        all_goals first | (simp; done) | (simp; omega)
      refine call_dict_texts (s := { s1 with heap := h' }) hxy hn S (I1.ok.hd hc) ⟨k1, k2, ⟨_, _, k3⟩, ⟨_, k4, rfl, rfl⟩, ⟨_, k5, rfl, rfl⟩⟩ fun g tk prs hp hd hkk => ?_
      have hkeep : ∀ b o, s1.heap.get? b = some o → g.get? b = some o := fun b o e => by
        have hlt : Nat.lt b s1.heap.objs.size := n0 b o e
        refine hkk b o ?_ (hk b o e)
        simp only [List.mem_cons, List.not_mem_nil, or_false, not_or]
        have ne : ∀ k, b ≠ s1.heap.objs.size + k := fun k z => by
          have h2 : Nat.lt (s1.heap.objs.size + k) s1.heap.objs.size := z ▸ hlt
          exact absurd h2 (Nat.not_lt.mpr (Nat.le_add_right _ _))
        exact ⟨ne 4, ne 3, ne 0, ne 1⟩
      have hbig := I1.big
      have hm' : (h'.objs.size == sysModules) = false := beq_eq_false_iff_ne.mpr (Nat.ne_of_gt (Nat.lt_of_lt_of_le hbig (by rw [sz]; exact Nat.le_add_right _ _)))
      have hkv : KV (zipK x y) prs := by
        have := hp.2
        rw [List.take_of_length_le (by unfold zipK; rw [List.length_map, List.length_zip, Array.length_toList, Array.length_toList]; omega)] at this
        exact this
      have hlen : (mergeK [] (zipK x y)).length ≤ sizeLine := by
        refine Nat.le_trans (length_mergeK _ []) ?_
        rw [List.length_nil, Nat.zero_add]
        unfold zipK
        rw [List.length_map, List.length_zip, Array.length_toList, Array.length_toList]
        omega
      refine ⟨.ref h'.objs.size, upd H1 h'.objs.size (.dK (mergeK [] (zipK x y))), I1.laid (t' := tk) hkeep (by rw [sz]; exact Nat.le_add_right _ _) (show ObjOk X.prog X.w _ _ _ (.dK (mergeK [] (zipK x y))) from ⟨hlen, hm', merged [] prs, KV.merge hkv .nil, hd⟩), rfl, q _ (I1.hok.fresh (by rw [sz]; exact Nat.le_add_right _ _))⟩
end
end KvZ

namespace Kv
open PySem PySem.Spec PyProof.Rows L2
section
variable {X : Cx} {σ : L2.St} {B : Hp} {L : HL} {Q : KQ} {D : KD} {pos p2 pos2 p : Pos} {e1 e2 a b : Expr}
/-- d[y], d a dict with int and text keys -/
theorem k_dget (hu : X.A.units + 1 < cLine) (h : kE X a σ B L fun x B1 L1 => kE X b σ B1 L1 fun y B2 L2 => ∃ q kvs k v, x = .ref q ∧ At B2 L2 q (.dK kvs) ∧ y = kV k ∧ valV kvs k = some v ∧ Q v B2 L2)
    (hs : NoSl b := by exact fun _ _ => rfl) : kE X (.Subscript a b pos) σ B L Q :=
  ⟨_, pe_dget hu pe_c pe_c hs, fun H s => toE s h fun _ _ _ _ s q => toE s q fun _ _ _ _ s ⟨q, kvs, k, v, e1, hat, e2, hv, hq⟩ => ⟨q, v, e1, .inl ⟨kvs, k, .inl (hat.at s), e2, hv.symm⟩, _, _, s, hq⟩⟩
/-- dict(zip(x, y)), texts -/
theorem k_dzip (hm : X.mg "dict" = none) (mz : X.mg "zip" = none) (h : kA X [e1, e2] σ B L fun vs B1 L1 => ∃ x y : Str, vs = [.str x, .str y] ∧ x.cps.size = y.cps.size ∧ x.cps.size ≤ 1000 ∧ ∀ d, Q (.ref d) B1 ((d, .dK (mergeK [] (KvZ.zipK x y))) :: L1))
    (hc : X.calm = true := by rfl) (hg : Gl X "dict" := by rfl) (gz : Gl X "zip" := by rfl)
    (hs : starEach [e1, e2] X.env = (false, eval e1 X.env) :: starEach [e2] X.env := by rfl) (hpl : (backTo pos2 (starEach [e2] X.env)).any (·.1) = false := by rfl)
    (hs1 : starEach [.Call (.Name "zip" p2) [e1, e2] [] pos2] X.env = (false, eval (.Call (.Name "zip" p2) [e1, e2] [] pos2) X.env) :: starEach [] X.env := by rfl) (hpl1 : (backTo pos (starEach [] X.env)).any (·.1) = false := by rfl) :
    kE X (.Call (.Name "dict" p) [.Call (.Name "zip" p2) [e1, e2] [] pos2] [] pos) σ B L Q :=
  ⟨_, KvZ.pe_dzip hc hg hm gz mz pa_c hs hpl hs1 hpl1, fun H s => toA s h fun _ _ _ _ s ⟨x, y, e, h1, h2, q⟩ => ⟨x, y, e, h1, small (Nat.le_trans h2 (by decide)), fun d hd => ⟨_, _, s.new hd, q d⟩⟩⟩
end
end Kv
namespace Kv
open PySem PySem.Spec PyProof.Rows L2
section
variable {X : Cx} {σ : L2.St} {B : Hp} {L : HL} {Q : KQ} {D : KD} {pos p2 pos' : Pos} {e1 e2 a b c elt : Expr} {scope : Scope}
/-- [x for x in range(1, n) if c], the test pure -/
theorem k_lcf_r1n {x : Str} {j : Nat} {px pe : Pos} (f : Nat → Bool) (hN : X.N.Nodup) (ok : BlkOk X.N X.env.scope scope [(x, j)]) (hm : X.mg "range" = none)
    (h : kA X [a, b] σ B L fun vs B1 L1 => ∃ n : Nat, vs = [.int 1, .int (n + 1 : Nat)] ∧ n < 2 ^ 24 ∧ (∀ i, i < n → ∀ D acc s H0 C cl fp, kT (Bk X scope s H0 C cl fp) c (σ.set j (some (.int (i + 1 : Nat)))) B1 ((D, .lst acc) :: L1) fun k B3 L3 => k = f (i + 1) ∧ B3 = B1 ∧ L3 = (D, .lst acc) :: L1) ∧
      ∀ D, Q (.ref D) B1 ((D, .lst ((((List.range n).map (· + 1)).filter f).map fun i : Nat => V.int i)) :: L1))
    (hp : ∀ s H0 C cl fp, Loc (Bk X scope s H0 C cl fp).env.scope x := by intro _ _ _ _ _; first | exact Or.inl rfl | exact Or.inr rfl) (hf : ∀ s H0 C cl fp, (Bk X scope s H0 C cl fp).fn x = true ∨ (Bk X scope s H0 C cl fp).env.scope.names.lookup x = some .local := by intro _ _ _ _ _; first | exact .inr rfl | exact .inl rfl)
    (he : ∀ s H0 C cl fp (v : V) σ B L Q, Q v B L → σ[j]? = some (some v) → kE (Bk X scope s H0 C cl fp) (.Name x pe) σ B L Q)
    (hjl : j < σ.length)
    (hg : Gl X "range" := by rfl) (hs1 : starEach [a, b] X.env = [(false, eval a X.env), (false, eval b X.env)] := by rfl) (hs2 : starEach [b] X.env = [(false, eval b X.env)] := by rfl)
    (hj : X.N[j]? = some x := by rfl) (hc : X.calm = true := by rfl) (hs : ∀ x, foldedSetIterable (.Call (.Name "range" p2) [a, b] [] pos') X.env x = pure x := by intro _; rfl) :
    kL X (.Name x pe) (.Name x px) (.Call (.Name "range" p2) [a, b] [] pos') [c] scope [(x, j)] σ B L Q :=
  k_lcf hN ok (r_rng2 hm (by
    obtain ⟨t, h1, h2⟩ := h
    refine ⟨_, pa_c, fun H s => toA s ⟨t, h1, h2⟩ fun v H' B1 L1 s' ⟨n, e, hl, ht, hd⟩ => ⟨B1, L1, s', 1, ((n + 1 : Nat) : Int), e, by omega, (((n + 1 : Nat) : Int) - 1).toNat, _, _, fun i acc B L => B = B1 ∧ L = L1 ∧ acc = (((List.range i).map (· + 1)).filter f).map (fun i : Nat => V.int i), walk_range, ⟨rfl, rfl, rfl⟩, fun i acc B L H hi p s => trivial, ?_, ?_⟩⟩
    · rintro D i acc x B L H H' hi ⟨rfl, rfl, rfl⟩ s ⟨rfl, rfl⟩
      have hi' : i < n := by omega
      refine ⟨_, _, s, fun sa Ha Ca cla fpa => g_name j ?_ hN hj (hp sa Ha Ca cla fpa) (hf sa Ha Ca cla fpa)⟩
      have e0 : ((1 : Int) + (i : Int)) = ((i + 1 : Nat) : Int) := by omega
      refine ⟨wipe1 σ j _, fun sb Hb Cb clb fpb => ?_⟩
      show kT _ _ ((wipe σ [j]).set j (some (.int ((1 : Int) + (i : Int))))) _ _ _
      rw [wipe1', e0]
      obtain ⟨t2, k1, k2⟩ := ht i hi' D ((((List.range i).map (· + 1)).filter f).map (fun i : Nat => V.int i)) sb Hb Cb clb fpb
      have hlen : ((((List.range i).map (· + 1)).filter f).map (fun i : Nat => V.int i)).length ≤ i := by
        rw [List.length_map]
        exact Nat.le_trans (List.length_filter_le _ _) (by simp)
      have hsucc : ((List.range (i + 1)).map (· + 1)).filter f = ((List.range i).map (· + 1)).filter f ++ (if f (i + 1) = true then [i + 1] else []) := by
        rw [List.range_succ, List.map_append, List.filter_append]
        congr 1
        by_cases hfi : f (i + 1) = true <;> simp [hfi]
      refine ⟨_, pt_c, fun H s => toT s ⟨t2, k1, k2⟩ fun k H2 B2 L2 s2 ⟨e1, e2, e3⟩ => ⟨B2, L2, s2, fun hk => fun sc Hc Cc clc fpc => ?_, fun hk => ?_⟩⟩
      · subst e2 e3
        refine he sc Hc Cc clc fpc (.int ((i + 1 : Nat) : Int)) _ _ _ _ ⟨by omega, L, rfl, rfl, rfl, ?_⟩ ?_
        · rw [hsucc, if_pos (by rw [← e1]; exact hk), List.map_append]; rfl
        · rw [List.getElem?_set_self (by simpa [wipe] using hjl)]
          show some (some (V.int ((1 : Int) + (i : Int)))) = some (some (V.int ((i + 1 : Nat) : Int)))
          rw [e0]
      · subst e2 e3
        refine ⟨L, rfl, rfl, rfl, ?_⟩
        rw [hsucc, if_neg (by rw [← e1, hk]; decide), List.append_nil]
    · rintro acc B L D ⟨rfl, rfl, rfl⟩
      have e : (((n + 1 : Nat) : Int) - 1).toNat = n := by omega
      rw [e]
      exact hd D) hg hs1 hs2) hc hs
end
end Kv

/-! Values that are no texts. -/
namespace Kv
open PySem PySem.Spec PyProof.Rows L2
section
variable {X : Cx} {B : Hp} {L : HL} {Q : KQ} {K : PySem.W.Frag}
theorem tyx_le {H H' : Hp} {x : V} {t : Value} (e : Le H H') (h : TyX K H x t) : TyX K H' x t := by
  cases h with
  | base b =>
    refine .base ?_
    cases b with
    | non => exact .non
    | bl y => exact .bl y
    | int i => exact .int i
    | str y => exact .str y
    | flt y => exact .flt y
    | lst q => exact .lst (e _ _ q)
    | frz q => exact .frz (e _ _ q)
    | tup q => exact .tup (e _ _ q)
    | dK q => exact .dK (e _ _ q)
    | dT q => exact .dT (e _ _ q)
    | ins q c1 c2 c3 c4 c5 => exact .ins (e _ _ q) c1 c2 c3 c4 c5
  | byt b => exact .byt b
  | set q => exact .set (e _ _ q)
  | kList q c => exact .kList q c
  | kTuple q c => exact .kTuple q c
  | kDict q c => exact .kDict q c
  | fTuple q => exact .fTuple (e _ _ q)
  | fDict q => exact .fDict (e _ _ q)
/-- x is no text -/
def NoTx (K : PySem.W.Frag) (H : Hp) (x : V) : Prop := ∃ t, TyX K H x t ∧ PySem.W.kitOne K t (.type "str") = some false
theorem NoTx.le {H H' : Hp} {x : V} (h : NoTx K H x) (e : Le H H') : NoTx K H' x := by
  obtain ⟨t, h1, h2⟩ := h
  exact ⟨t, tyx_le e h1, h2⟩
theorem c_isNT {x : V} (h : ∀ H, Sat B L H → NoTx X.K H x) (q : Q (.bl false) B L) : kC X (.builtin "isinstance") [x, .ty "str"] B L Q :=
  ⟨_, call_isi, fun H s => by
    obtain ⟨t, h1, h2⟩ := h H s
    exact ⟨x, .ty "str", t, .type "str", false, rfl, .ty "str", h1, h2, _, _, s, q⟩⟩
theorem ntx_non {H : Hp} : NoTx K H .non := ⟨_, .base .non, kit_ty (by decide +kernel)⟩
theorem ntx_int {H : Hp} {i : Int} : NoTx K H (.int i) := ⟨_, .base (.int i), kit_ty (by decide +kernel)⟩
theorem ntx_bl {H : Hp} {b : Bool} : NoTx K H (.bl b) := ⟨_, .base (.bl b), kit_ty (by decide +kernel)⟩
theorem ntx_l {H : Hp} {p : Addr} {xs : List V} (h : SqL K H p xs) : NoTx K H (.ref p) := ⟨_, tyx_l h, kit_ty (by decide +kernel)⟩
theorem ntx_t {H : Hp} {p : Addr} {xs : List V} (h : SqT K H p xs) : NoTx K H (.ref p) := ⟨_, tyx_t h, kit_ty (by decide +kernel)⟩
end
end Kv

/-! isinstance of a tracked error, several classes. -/
namespace Kv
open PySem PySem.Spec PyProof.Rows L2
section
variable {X : Cx} {B : Hp} {L : HL} {Q : KQ}
def rIsTT (K : PySem.W.Frag) : List V → Hp → VK → Prop := fun xs H Q => ∃ (a D tp : Addr) (cs : List V) (us : List Value) (b : Bool), xs = [.ref a, .ref tp] ∧ H tp = some (.tup cs) ∧ Paired ClsV cs us ∧ H a = some (ErO (.ref D) none a) ∧ ExcC K D ∧ PySem.W.kitAny K (.ref D) us = some b ∧ Q (.bl b) H
theorem call_isTT : CallR X (.builtin "isinstance") (rIsTT X.K) := by
  intro ps s σ H xs us Q I r h
  obtain ⟨a, D, tp, cs, ws, b, rfl, hT, hcv, hH, C, e, q⟩ := h
  obtain ⟨u1, u2, rfl, r1, r2⟩ := vals2 r
  cases (show u2 = Value.ref tp from r2)
  cases (show u1 = Value.ref a from r1)
  obtain ⟨⟨u, vs, hu, hz, hv⟩, _⟩ := I.hok a _ hH
  have J : PySem.W.InstAt s.heap a u D none := by
    obtain ⟨o1, o2, o3, o4⟩ := u
    obtain ⟨h1, h2⟩ := hz
    dsimp only at h1 h2 hv
    subst h1 h2 hv
    exact ⟨hu, rfl, rfl, trivial⟩
  obtain ⟨_, its, rv, o, g1, g2, n, g3⟩ := (show ObjOk X.prog X.w H s.heap tp (.tup cs) from I.hok tp _ hT)
  have e3 := ClsV.all hcv rv
  subst e3
  obtain ⟨oc, od, dt, sl⟩ := o
  simp only at g2 g3
  subst g2 g3
  exact PySem.W.kia_tup (PySem.W.handS_kitx_exc C.hg C.hk C.hs C.hd C.ha C.hn C.ht C.hm) I.kIn J g1 e (fun z => nomatch z) fun tk => ⟨.bl b, H, I.tok tk, rfl, q⟩
theorem c_isErrT {a D tp : Addr} {cs : List V} {us : List Value} {k : Bool} (E : ExcC X.K D) (hc : Paired ClsV cs us) (ht : At B L tp (.tup cs)) (h : At B L a (ErO (.ref D) none a)) (hk : PySem.W.kitAny X.K (.ref D) us = some k) (q : Q (.bl k) B L) : kC X (.builtin "isinstance") [.ref a, .ref tp] B L Q :=
  ⟨_, call_isTT, fun H s => ⟨a, D, tp, cs, us, k, rfl, ht.at s, hc, h.at s, E, hk, _, _, s, q⟩⟩
end
end Kv

/-! is, is not of truth values; facts of isinstance. -/
namespace Kv
open PySem PySem.Spec PyProof.Rows L2
section
variable {X : Cx} {B : Hp} {L : HL} {Q : KQ}
/-- a statement with its own end, then the rest: the ways through an if come together -/
theorem k_cut {σ : L2.St} {D : KD} {st : Stmt} {rest : List Stmt} (M : KN) (h : kS X st σ B L { D with nx := M }) (q : ∀ σ' B' L', M σ' B' L' → kSs X rest σ' B' L' D) : kSs X (st :: rest) σ B L D :=
  k_cons ⟨_, ps_c, fun H sat => toS sat h (fun σ' H' B' L' s m => ⟨B', L', s, q _ _ _ m⟩) (fun _ _ q => q) (fun _ _ q => q) (fun _ _ q => q)⟩
theorem o_isbl {a b : Bool} (q : Q (.bl (decide (a = b))) B L) : kO X (compareOp .Is) (.bl a) (.bl b) B L Q := ⟨_, op_is_bl, fun H s => ⟨a, b, rfl, rfl, _, _, s, q⟩⟩
theorem o_isnbl {a b : Bool} (q : Q (.bl (!decide (a = b))) B L) : kO X (compareOp .IsNot) (.bl a) (.bl b) B L Q := ⟨_, op_isnot_bl, fun H s => ⟨a, b, rfl, rfl, _, _, s, q⟩⟩
theorem kit_any0 {K : PySem.W.Frag} {t : Value} : ∀ {cs : List Value}, (∀ c ∈ cs, PySem.W.kitOne K t c = some false) → PySem.W.kitAny K t cs = some false
  | [], _ => rfl
  | c :: r, h => by
    show (match PySem.W.kitOne K t c with | some true => some true | some false => PySem.W.kitAny K t r | none => none) = _
    rw [h c (List.mem_cons_self)]
    exact kit_any0 fun d hd => h d (List.mem_cons_of_mem _ hd)
end
end Kv

/-! < of nested data, list + list, lists unpacked, comprehensions over lists with a test. -/
namespace Kv
open PySem PySem.Spec PyProof.Rows L2
section
variable {X : Cx} {σ : L2.St} {B : Hp} {L : HL} {Q : KQ} {D : KD} {pos p2 pos' : Pos} {e iter a b c elt : Expr} {scope : Scope}
def rLtD (K : PySem.W.Frag) : R2 := fun x y H Q => ∃ d e, Dp K H x d ∧ Dp K H y e ∧ PySem.W.alike d e = true ∧ d ≠ .none ∧ min d.depth e.depth ≤ 60 ∧ Q (.bl (PySem.W.dataLt d e)) H
theorem op_ltD (hu : X.A.units + 64 < cLine) : OpR X (compareOp .Lt) (rLtD X.K) := by
  intro pins s σ H x y v u Q I rx ry h
  obtain ⟨d, e, hd, he, ha, hn, hm, q⟩ := h
  obtain ⟨as, r1⟩ := Dp.reads I d x v hd rx
  obtain ⟨bs, r2⟩ := Dp.reads I e y u he ry
  exact PySem.W.lt_data r1 r2 ha hn (by omega) ⟨.bl _, H, I, rfl, q⟩
theorem o_ltD {x y : V} {d e : PyData} (hu : X.A.units + 64 < cLine) (hd : Dd X B L x d) (he : Dd X B L y e) (ha : PySem.W.alike d e = true) (hn : d ≠ .none) (hm : min d.depth e.depth ≤ 60) (q : Q (.bl (PySem.W.dataLt d e)) B L) : kO X (compareOp .Lt) x y B L Q :=
  ⟨_, op_ltD hu, fun H s => ⟨d, e, hd H s, he H s, ha, hn, hm, _, _, s, q⟩⟩
theorem lt_asym {d e : PyData} (h : PySem.W.dataLt d e = true) : PySem.W.dataLt e d = false := by
  rcases hb : PySem.W.dataLt e d with _ | _
  · rfl
  · have h1 := lex_trans _ _ _ h hb
    rw [lex_irrefl] at h1; cases h1
/-- list + list -/
theorem o_catl {p q : Addr} {xs ys : List V} (h1 : At B L p (.lst xs)) (h2 : At B L q (.lst ys)) (hl : xs.length + ys.length ≤ 16777216) (h : ∀ r, Q (.ref r) B ((r, .lst (xs ++ ys)) :: L)) : kO X (binaryOp .Add) (.ref p) (.ref q) B L Q :=
  ⟨_, op_cat, fun H s => ⟨p, q, xs, ys, rfl, rfl, h1.at s, h2.at s, small hl, fun r hr => ⟨_, _, s.new hr, h r⟩⟩⟩
/-- a list goes to targets -/
theorem g_lst {ts : List Expr} {kk n : Nat} {T : Addr} {xs : List V} {Q : KN} (h1 : Ls X.K B L T xs) (hl : xs.length = n) (h : kGs X ts xs σ B L Q) (hc : X.calm = true := by rfl) (hn : (assignEach ts X.env).length = n := by rfl) (hst : (assignEach ts X.env).findIdx? (·.1) = none := by rfl) :
    kG X (.Tuple ts kk pos) (.ref T) σ B L Q :=
  ⟨_, pg_unl hc pgs_c hn hst, fun H s => ⟨T, _, rfl, h1.at s, hl, toGs s h fun _ _ _ _ s q => ⟨_, _, s, q⟩⟩⟩
/-- [elt for x in a list if c], each item by itself -/
theorem k_lcf_l {x : Str} {j : Nat} {px : Pos} (f : V → Bool) (g : V → V) (hN : X.N.Nodup) (ok : BlkOk X.N X.env.scope scope [(x, j)])
    (h : kE X iter σ B L fun v B1 L1 => ∃ a xs, v = .ref a ∧ Ls X.K B1 L1 a xs ∧ xs.length ≤ 16777216 ∧ (∀ z ∈ xs, ∀ D acc s H0 C cl fp, kT (Bk X scope s H0 C cl fp) c (σ.set j (some z)) B1 ((D, .lst acc) :: L1) fun k B3 L3 => k = f z ∧ B3 = B1 ∧ L3 = (D, .lst acc) :: L1) ∧
      (∀ z ∈ xs, f z = true → ∀ D acc s H0 C cl fp, kE (Bk X scope s H0 C cl fp) elt (σ.set j (some z)) B1 ((D, .lst acc) :: L1) fun y B3 L3 => y = g z ∧ B3 = B1 ∧ L3 = (D, .lst acc) :: L1) ∧
      ∀ D, Q (.ref D) B1 ((D, .lst ((xs.filter f).map g)) :: L1))
    (hp : ∀ s H0 C cl fp, Loc (Bk X scope s H0 C cl fp).env.scope x := by intro _ _ _ _ _; first | exact Or.inl rfl | exact Or.inr rfl) (hf : ∀ s H0 C cl fp, (Bk X scope s H0 C cl fp).fn x = true ∨ (Bk X scope s H0 C cl fp).env.scope.names.lookup x = some .local := by intro _ _ _ _ _; first | exact .inr rfl | exact .inl rfl)
    (hj : X.N[j]? = some x := by rfl) (hc : X.calm = true := by rfl) (hs : ∀ x, foldedSetIterable iter X.env x = pure x := by intro _; rfl) :
    kL X elt (.Name x px) iter [c] scope [(x, j)] σ B L Q :=
  k_lcf hN ok (r_list (by
    obtain ⟨t, h1, h2⟩ := h
    refine ⟨_, pe_c, fun H s => toE s ⟨t, h1, h2⟩ fun v H' B1 L1 s' ⟨a, xs, e, hls, hl, ht, hg, hd⟩ => ⟨B1, L1, s', a, xs, e, hls, xs.length, _, _, fun i acc B L => B = B1 ∧ L = L1 ∧ acc = ((xs.take i).filter f).map g, walk_list, ⟨rfl, rfl, by simp⟩, ?_, ?_, ?_⟩⟩
    · rintro i acc B L H hi ⟨rfl, rfl, _⟩ s
      exact hls.at s
    · rintro D i acc x B L H H' hi ⟨rfl, rfl, rfl⟩ s ⟨rfl, hx⟩
      have hxm := List.mem_of_getElem? hx
      refine ⟨_, _, s, fun sa Ha Ca cla fpa => g_name j ?_ hN hj (hp sa Ha Ca cla fpa) (hf sa Ha Ca cla fpa)⟩
      refine ⟨wipe1 σ j _, fun sb Hb Cb clb fpb => ?_⟩
      show kT _ _ ((wipe σ [j]).set j _) _ _ _
      rw [wipe1']
      have hsucc : (xs.take (i + 1)).filter f = (xs.take i).filter f ++ (if f x = true then [x] else []) := by
        rw [List.take_add_one, hx, List.filter_append]
        congr 1
        by_cases hfi : f x = true <;> simp [hfi]
      have hlen : (((xs.take i).filter f).map g).length ≤ i := by
        rw [List.length_map]
        exact Nat.le_trans (List.length_filter_le _ _) (by rw [List.length_take]; omega)
      obtain ⟨t2, k1, k2⟩ := ht x hxm D (((xs.take i).filter f).map g) sb Hb Cb clb fpb
      refine ⟨_, pt_c, fun H s => toT s ⟨t2, k1, k2⟩ fun k H2 B2 L2 s2 ⟨e1, e2, e3⟩ => ⟨B2, L2, s2, fun hk => fun sc Hc Cc clc fpc => ?_, fun hk => ?_⟩⟩
      · subst e2 e3
        have hfx : f x = true := by rw [← e1]; exact hk
        obtain ⟨t3, k3, k4⟩ := hg x hxm hfx D (((xs.take i).filter f).map g) sc Hc Cc clc fpc
        show kE _ _ ((wipe σ [j]).set j _) _ _ _
        rw [wipe1']
        refine ⟨_, pe_c, fun H s => toE s ⟨t3, k3, k4⟩ fun y H3 B3 L3 s3 ⟨e4, e5, e6⟩ => ⟨B3, L3, s3, by omega, L, e6, e5, rfl, ?_⟩⟩
        rw [hsucc, if_pos hfx, List.map_append, e4]; rfl
      · refine ⟨L, e3, e2, rfl, ?_⟩
        rw [hsucc, if_neg (by rw [← e1, hk]; decide), List.append_nil]
    · rintro acc B L D ⟨rfl, rfl, rfl⟩
      rw [List.take_length]
      exact hd D)) hc hs
/-- for over a list that the head makes: the wish may name the list -/
theorem k_for_l2 {tg : Expr} {body : List Stmt} (hp : PassesOwn (model X.prog X.w) X.A X.env X.xe)
    (h : kE X iter σ B L fun v B1 L1 => ∃ (a : Addr) (xs : List V) (Pv : Nat → KN), v = .ref a ∧ Ls X.K B1 L1 a xs ∧ Pv 0 σ B1 L1 ∧ (∀ i σ B L, i ≤ xs.length → Pv i σ B L → Ls X.K B L a xs) ∧
      (∀ i x σ B L, xs[i]? = some x → Pv i σ B L → kG X tg x σ B L fun σ2 B2 L2 => kSs X body σ2 B2 L2 { D with nx := Pv (i + 1), ct := Pv (i + 1), bk := D.nx }) ∧ ∀ σ B L, Pv xs.length σ B L → D.nx σ B L)
    (hc : X.calm = true := by rfl) (hs : ∀ x, foldedSetIterable iter X.env x = pure x := by intro _; rfl) : kS X (.For tg iter body [] pos) σ B L D :=
  k_for hp (r_list (by
    obtain ⟨t, h1, h2⟩ := h
    refine ⟨_, pe_c, fun H s => toE s ⟨t, h1, h2⟩ fun v H' B' L' s' ⟨a, xs, Pv, e, hl, p0, hL, ht, hd⟩ => ⟨B', L', s', a, xs, e, hl, xs.length, _, _, Pv, walk_list, p0, fun i σ B L H hi p s => (hL i σ B L hi p).at s, fun i x σ B L H H' hi p s y => ?_, hd⟩⟩
    obtain ⟨rfl, hx⟩ := y
    exact ⟨B, L, s, ht i x σ B L hx p⟩)) hc hs
/-- two new objects at once -/
theorem Sat.new2 {H H' : Hp} {p q : Addr} {o u : HO} (s : Sat B L H) (h1 : H p = none) (h2 : H q = none) (hpq : p ≠ q) (e : ∀ b o, H b = some o → H' b = some o) (hp : H' p = some o) (hq : H' q = some u) : Sat B ((p, o) :: (q, u) :: L) H' := by
  have s1 := s.new' h2 e hq
  refine ⟨s1.ext, fun r hr => ?_, fun r hr => ?_, ?_⟩
  · rcases List.mem_cons.mp hr with rfl | hr
    · exact hp
    · exact s1.own r hr
  · rcases List.mem_cons.mp hr with rfl | hr
    · exact s.free h1
    · exact s1.nb r hr
  · rw [List.map_cons, List.nodup_cons]
    refine ⟨fun hm => ?_, s1.nd⟩
    rcases List.mem_cons.mp hm with h | h
    · exact hpq h
    · exact s.notin h1 h
end
end Kv

/-! sorted(list), sorted(list, key=f): data that are alike, keys that are alike data. -/
namespace Kv
open PySem PySem.Spec PyProof.Rows L2
open PySem.W (EachIs AllAlike Sortable dataLe sortVals dataKind KeyedOut)
section
variable {K : PySem.W.Frag} {H H' : Hp}
mutual
theorem dp_le (e : Le H H') : ∀ (d : PyData) (v : V), Dp K H v d → Dp K H' v d
  | .none, _, h => by cases h; exact .non
  | .bool b, _, h => by cases h; exact .bl b
  | .int i, _, h => by cases h; exact .int i
  | .str x, _, h => by cases h; exact .str x
  | .list ds, _, h => by
    cases h with
    | lst hs ha => exact .lst (ext_l e hs) (dp_leA e ds _ ha)
  | .tuple ds, _, h => by
    cases h with
    | tup hs ha => exact .tup (ext_t e hs) (dp_leA e ds _ ha)
  | .dict _, _, h => by cases h
theorem dp_leA (e : Le H H') : ∀ (ds : List PyData) (vs : List V), DpAll K H vs ds → DpAll K H' vs ds
  | [], _, h => by cases h; exact .nil
  | d :: ds, _, h => by
    cases h with
    | cons h1 h2 => exact .cons (dp_le e d _ h1) (dp_leA e ds _ h2)
end
theorem dpa_snoc {v : V} {d : PyData} (h : Dp K H v d) : ∀ {vs : List V} {ds : List PyData}, DpAll K H vs ds → DpAll K H (vs ++ [v]) (ds ++ [d])
  | _, _, .nil => .cons h .nil
  | _, _, .cons h1 h2 => .cons h1 (dpa_snoc h h2)
theorem each_rel : ∀ {ys : List V} {its : List Value}, Vals ys its → EachIs (fun u b => RelV b u) its ys
  | _, _, .nil => .nil
  | _, _, .cons h t => .cons h (each_rel t)
theorem vals_each : ∀ {ys : List V} {its : List Value}, EachIs (fun u b => RelV b u) its ys → Vals ys its
  | _, _, .nil => .nil
  | _, _, .cons h t => .cons h (vals_each t)
end
section
variable {X : Cx} {pins : List (Addr × Obj)} {σ : L2.St} {H : Hp} {s : Shared}
theorem each_reads (I : Inv X pins σ H s) (kf : V → PyData) : ∀ {ys : List V} {its : List Value}, Vals ys its → (∀ y ∈ ys, Dp X.K H y (kf y)) → EachIs (fun u b => ∃ as, Reads s.heap u (kf b) as) its ys
  | _, _, .nil, _ => .nil
  | _, _, .cons h t, hd => .cons (Dp.reads I _ _ _ (hd _ List.mem_cons_self) h) (each_reads I kf t fun y hy => hd y (List.mem_cons_of_mem _ hy))
theorem each_readsA (I : Inv X pins σ H s) : ∀ {ks : List V} {its : List Value} {ds : List PyData}, Vals ks its → DpAll X.K H ks ds → EachIs (fun u d => ∃ as, Reads s.heap u d as) its ds
  | _, _, _, .nil, h => by cases h; exact .nil
  | _, _, _, .cons h t, hd => by
    cases hd with
    | cons h1 h2 => exact .cons (Dp.reads I _ _ _ h1 h) (each_readsA I t h2)
def rSortedD (K : PySem.W.Frag) : List V → Hp → VK → Prop := fun vs H Q => ∃ (a : Addr) (ys : List V) (kf : V → PyData), vs = [.ref a] ∧ SqL K H a ys ∧ (∀ y ∈ ys, Dp K H y (kf y) ∧ (kf y).depth ≤ 60) ∧ AllAlike (ys.map kf) ∧ Sortable (ys.map kf) ∧ ∀ p, H p = none → Q (.ref p) (upd H p (.lst (ys.mergeSort (dataLe false kf))))
theorem cr_sortedD (hu : X.A.units + 100 < cLine) : CallR X (.builtin "sorted") (rSortedD X.K) := by
  intro ps s σ H xs us Q I r h
  obtain ⟨a, ys, kf, rfl, hs, hd, hal, hso, q⟩ := h
  obtain ⟨its, rv, hl, hz⟩ := I.list hs
  rw [Vals.ref1 r]
  have hz' : its.length ≤ sizeLine := by rw [← rv.length]; exact hz
  have k0 : ∀ b o, s.heap.get? b = some o → (PySem.W.sortingHeap (PySem.W.copyHeap s.heap its) (s.heap.objs.size + 1) its).get? b = some o := fun b o e => PySem.W.sorting_copy_old e
  have I2 := I.kept (t' := s.toks) k0
  have er := each_reads I2 kf rv fun y hy => (hd y hy).1
  have eo := PySem.W.sortVals_data (enc := kf) false (each_rel rv) er hal
  refine PySem.W.sorted_vals hl.isList (PySem.W.SortsAt.data (PySem.W.each_map kf er) hal hso fun d hdm => ?_) hz' ?_
  · obtain ⟨y, hy, rfl⟩ := List.mem_map.mp hdm
    have := (hd y hy).2
    show X.A.units + 1 + 1 + (kf y).depth < cLine
    omega
  · obtain ⟨e1, he1⟩ := sortedAll_at s.heap its (sortVals (dataKind (PySem.W.sortingHeap (PySem.W.copyHeap s.heap its) (s.heap.objs.size + 1) its) (ys.map kf)) false its its).toArray
    have hv := vals_each eo
    refine ⟨.ref _, upd H (s.heap.objs.size + 1) (.lst (ys.mergeSort (dataLe false kf))), I.laid (t' := s.toks) (fun b u e => sortedAll_old e) (by omega) ⟨by rw [List.length_mergeSort]; exact hz, _, e1, hv, he1⟩, rfl, q _ (I.hok.fresh (by omega))⟩
/-! keys by a def -/
/-- what a call of the key gives, by new things alone -/
def KeyGiven (K : PySem.W.Frag) (sp : Sp) (y : V) (d : PyData) (H : Hp) : Prop :=
  ∀ H', Le H H' → sp [y] H' (fun v H'' => Le H' H'' ∧ Dp K (fun b => if (H' b).isSome then none else H'' b) v d) fun _ _ _ => False
def rSortedF (X : Cx) : List V → List V → Hp → VK → Prop := fun vs zs H Q => ∃ (a f : Addr) (ys : List V) (kf : V → PyData) (k : Nat) (fd : FuncData) (ps : List Str) (sp : Sp), vs = [.ref a] ∧ zs = [.ref f] ∧ SqL X.K H a ys ∧
  FnOk X.prog X.w X.K X.mg X.base (L2.CX X.prog X.w) k f fd ps sp ∧ Binds X.K fd ps [] ∧ Room k X.A.in1.in1 ∧ (∀ y ∈ ys, (kf y).depth ≤ 60 ∧ KeyGiven X.K sp y (kf y) H) ∧ AllAlike (ys.map kf) ∧ Sortable (ys.map kf) ∧
  ∀ H' p, Le H H' → H' p = none → Q (.ref p) (upd H' p (.lst (ys.mergeSort (dataLe false kf))))
theorem upd_rm {H : Hp} {a : Addr} {o : HO} : upd H a o = upd (rmH H a) a o := by
  funext b
  by_cases h : b = a
  · rw [h, upd_same, upd_same]
  · rw [upd_ne h, upd_ne h, rm_ne h]
/-- what the runs leave: the values in the order of their keys -/
def Done (κ : PyProof.Rows.KeyKind) (ps : Array Keyed) (st : SortSt) : Prop := (arrOf st).Perm ps ∧ SortedToK κ (arrOf st) ps.size ∧ Stable κ (arrOf st) ps ∧ failedOf st = none
/-- behind the keys: the runs, then the keys' list is emptied and the list gets its items -/
theorem end_sort {A : Around} {E : Value → Shared → Prop} {P : PySem.Fin → Shared → Prop} {prog : Program} {w : World} {s : Shared} {a kS : Addr} {keys : Array Value} {e e1 : Nat} {vs : List Value} {κ : PyProof.Rows.KeyKind}
    (nk : s.heap.get? kS = some (seqObj "list" keys e)) (na : s.heap.get? a = some (seqObj "list" #[] e1)) (hka : kS ≠ a) (S : PySem.W.SortsAt prog w A s κ keys.toList) (hsz : keys.size = vs.length) (hZ : vs.length ≤ sizeLine)
    (h : ∀ tk, P (.done (.ret .none)) { s with heap := (s.heap.update kS (Obj.mapSeq fun _ => (#[] : Array Value))).update a (Obj.mapSeq fun _ => (sortVals κ false keys.toList vs).toArray), toks := tk }) :
    wpAny (model prog w) A (PyProof.Rows.ksk_end a false vs.toArray e1 (.ref kS) keys) P E s := by
  have hzip : (keys.zip vs.toArray).size = vs.length := by simp [Array.size_zip, hsz]
  have hkeys := PySem.W.keysOf_zip (vs := vs) S.keys
  have hout : (sortVals κ false keys.toList vs).length = vs.length := PySem.W.sortVals_length false (by rw [Array.length_toList]; exact hsz)
  have na' : (s.heap.update kS (Obj.mapSeq fun _ => (#[] : Array Value))).get? a = some (seqObj "list" #[] e1) := by
    rw [Heap.get?_update_other s.heap _ hka.symm.symm]; exact na
  -- what is done behind the runs
  have close : ∀ st, Done κ (keys.zip vs.toArray) st → wpAny (model prog w) A (PyProof.Rows.ksk_tail a false e1 (.ref kS) st) P E s := by
    rintro st ⟨p1, p2, p3, p4⟩
    have hv : (arrOf st).map (·.2) = (sortVals κ false keys.toList vs).toArray := by
      rw [← PySem.W.sort_out (rev := false) (keys := keys) (items := vs.toArray) (xs := arrOf st) (κ := κ) hkeys p1 p2 p3, if_neg Bool.false_ne_true, Array.toArray_toList]
    unfold PyProof.Rows.ksk_tail
    dsimp only
    rw [hv, p4]
    refine wpAny_bind (listUpdate_at nk rfl (wpAny_bind (wpAny_letGo ?_)) (by omega) (Nat.zero_le _))
    refine wpAny_bind (seqEpoch_at na' rfl (wpAny_bind (listUpdate_at na' rfl ?_ (Nat.zero_le _) (by simp only [Bool.false_eq_true, if_false, List.size_toArray, hout]; omega))))
    simp only [bne_self_eq_false, Bool.false_eq_true, if_false]
    exact wpAny_pure (h _)
  unfold PyProof.Rows.ksk_end
  dsimp only
  rw [if_neg Bool.false_ne_true]
  by_cases few : vs.length < 2
  · have few' : vs.toArray.size < 2 := by rw [List.size_toArray]; exact few
    rw [if_pos few', if_pos few']
    refine wpAny_bind (wpAny_pure ?_)
    rw [StateT.run_pure]
    refine wpAny_bind (wpAny_pure (close _ ⟨.refl _, fun i k hik hk => ?_, .refl _, rfl⟩))
    have same : i = k := by omega
    rw [same]
    exact KeyOrd.kle_refl _
  · have few' : ¬ vs.toArray.size < 2 := by rw [List.size_toArray]; exact few
    rw [if_neg few', if_neg few']
    obtain ⟨kd, lt, kind⟩ := S.kind
    refine wpAny_bind (kind (by rw [Array.length_toList]; omega) _ (wpAny_bind ?_))
    have runs := H.wpS_sortRunsSt (κ := κ) (kd := kd) (a₀ := keys.zip vs.toArray) (st := SortSt.mk' kd (keys.zip vs.toArray) #[] 7 none) (Q := fun _ st => Done κ (keys.zip vs.toArray) st) (s := s) (E := E)
      lt hkeys ⟨.refl _, rfl, rfl⟩ rfl (.refl _) (by omega) fun st a1 a2 a3 a4 => ⟨a1, a3, a4, a2⟩
    refine wpAny_mono runs ?_ fun _ _ z => z
    rintro ⟨⟨⟩, st⟩ _ ⟨rfl, d⟩
    exact close st d
theorem vals_at : ∀ {ys : List V} {its : List Value}, Vals ys its → ∀ {j : Nat} {x : Value}, its[j]? = some x → ∃ y, ys[j]? = some y ∧ RelV y x
  | _, _, .nil, j, x, e => by cases e
  | _, _, .cons h t, 0, x, e => by cases e; exact ⟨_, rfl, h⟩
  | _, _, .cons h t, j + 1, x, e => vals_at t (j := j) (by simpa using e)
theorem cr_sortedF : CallRK X (.builtin "sorted") [Str.ofString "key"] (rSortedF X) := by
  intro ps s σ H xs zs us ws Q I r rz h
  obtain ⟨a, f, ys, kf, k, fd, pn, sp, rfl, rfl, hs, F, hb, hroom, hk, hal, hso, q⟩ := h
  obtain ⟨its, rv, hl, hz⟩ := I.list hs
  rw [Vals.ref1 r, Vals.ref1 rz]
  have hz' : its.length ≤ sizeLine := by rw [← rv.length]; exact hz
  show wpAny _ _ (call (.builtin "sorted") [.ref a] [(Str.ofString "key", .ref f)]) _ _ _
  refine PySem.W.sorted_of_sort hl.isList hz' (ksk_s1 _ _) (fun x => ksk_l1 _ _) fun E' => ?_
  rw [ksk_t1]
  have hc0 := PySem.W.copyHeap_at s.heap its
  have hc1 : ∀ b o, s.heap.get? b = some o → (PySem.W.copyHeap s.heap its).get? b = some o := fun b o e => PySem.W.copyHeap_old e
  have ha0 : s.heap.objs.size ≤ s.heap.objs.size + 1 := Nat.le_succ _
  have ha1 : ∀ b o, s.heap.get? b = some o → b ≠ s.heap.objs.size + 1 := fun b o e => Nat.ne_of_lt (Nat.lt_succ_of_lt (Heap.lt_size e))
  generalize s.heap.objs.size + 1 = a0 at hc0 ha0 ha1 ⊢
  generalize PySem.W.copyHeap s.heap its = h1 at hc0 hc1 ⊢
  have hn0 : H a0 = none := I.hok.fresh ha0
  unfold ksk_tree
  refine wpAny_bind (listItems_at hc0 rfl ?_)
  refine wpAny_bind (listUpdate_at hc0 rfl ?_ (by rw [List.size_toArray]; exact hz') (Nat.zero_le _))
  obtain ⟨e1, ho1⟩ : ∃ e1, (h1.update a0 (Obj.mapSeq fun _ => (#[] : Array Value))).get? a0 = some (seqObj "list" #[] e1) := ⟨_, get?_update_seq hc0 fun _ => #[]⟩
  have hs1 := Heap.SameBut.update h1 a0 (Obj.mapSeq fun _ => (#[] : Array Value))
  have hc2 : ∀ b o, s.heap.get? b = some o → (h1.update a0 (Obj.mapSeq fun _ => (#[] : Array Value))).get? b = some o := fun b o e => (hs1.2 b (ha1 b o e)).trans (hc1 b o e)
  have hsz2 : (h1.update a0 (Obj.mapSeq fun _ => (#[] : Array Value))).objs.size = h1.objs.size := Heap.size_update ..
  generalize h1.update a0 (Obj.mapSeq fun _ => (#[] : Array Value)) = h2 at ho1 hc2 hsz2 ⊢
  refine wpAny_bind (seqEpoch_at ho1 rfl ?_)
  refine wpAny_bind (wpAny_newTuple ?_ (by show its.length ≤ _; exact hz'))
  have ho2 : (h2.push (seqObj "tuple" its.toArray 0)).get? a0 = some (seqObj "list" #[] e1) := Heap.get?_push_of_some _ ho1
  have hc3 : ∀ b o, s.heap.get? b = some o → (h2.push (seqObj "tuple" its.toArray 0)).get? b = some o := fun b o e => Heap.get?_push_of_some _ (hc2 b o e)
  refine wpAny_bind (wpAny_newList ?_ (Nat.zero_le _))
  refine wpAny_holding ?_
  have I3 : Inv X ps σ (upd H a0 (.lst [])) { s with heap := h2.push (seqObj "tuple" its.toArray 0) } := I.laid (t' := s.toks) hc3 ha0 ⟨Nat.zero_le _, [], e1, .nil, ho2⟩
  have I4 := I3.lnew (its := []) (ys := []) (t' := s.toks) .nil (Nat.zero_le _)
  have hka : (h2.push (seqObj "tuple" its.toArray 0)).objs.size ≠ a0 := fun z => absurd z (Nat.ne_of_gt (Heap.lt_size ho2))
  have hnk : H (h2.push (seqObj "tuple" its.toArray 0)).objs.size = none := by
    cases hx : H (h2.push (seqObj "tuple" its.toArray 0)).objs.size with
    | none => rfl
    | some o =>
      have h5 := (I.hok _ _ hx).lt
      have h6 : s.heap.objs.size ≤ (h2.push (seqObj "tuple" its.toArray 0)).objs.size := Nat.le_trans ha0 (Nat.le_of_lt (Heap.lt_size ho2))
      exact absurd (Nat.lt_of_lt_of_le h5 h6) (Nat.lt_irrefl _)
  have hnf := I4.nofrz (d := a0) (u := .lst []) (by rw [upd_ne hka.symm, upd_same]) trivial
  obtain ⟨od, I5⟩ := I4.lock (d := a0) (u := .lst []) (by rw [upd_ne hka.symm, upd_same]) trivial
  have hod : od = seqObj "list" #[] e1 := by
    have h5 := (I5.hok a0 _ upd_same).1
    have h6 : (h2.push (seqObj "tuple" its.toArray 0)).push (seqObj "list" #[] 0) = (h2.push (seqObj "tuple" its.toArray 0)).push { cls := .type "list", data := .seq ([] : List Value).toArray } := rfl
    have h7 : ((h2.push (seqObj "tuple" its.toArray 0)).push { cls := .type "list", data := .seq ([] : List Value).toArray }).get? a0 = some (seqObj "list" #[] e1) := Heap.get?_push_of_some _ ho2
    exact Option.some.inj (h5.symm.trans h7)
  subst hod
  generalize hkS : (h2.push (seqObj "tuple" its.toArray 0)).objs.size = kS at hka hnk I5 ⊢
  have eH : upd (upd (upd H a0 (.lst [])) kS (.lst [])) a0 (.frz (seqObj "list" #[] e1) (.lst [])) = upd (upd H a0 (.frz (seqObj "list" #[] e1) (.lst []))) kS (.lst []) := by
    funext b
    by_cases hb1 : b = a0
    · subst hb1; rw [upd_same, upd_ne hka.symm, upd_same]
    · by_cases hb2 : b = kS
      · subst hb2; rw [upd_ne hb1, upd_same, upd_same]
      · rw [upd_ne hb1, upd_ne hb2, upd_ne hb1, upd_ne hb2, upd_ne hb1]
  have I6 : Inv X ps σ (upd (upd H a0 (.frz (seqObj "list" #[] e1) (.lst []))) kS (.lst [])) { s with heap := (h2.push (seqObj "tuple" its.toArray 0)).push (seqObj "list" #[] 0) } := by rw [← eH]; exact I5
  have hle0 : Le H (upd H a0 (.frz (seqObj "list" #[] e1) (.lst []))) := fun b o e => by rw [upd_ne (fun z => by rw [z, hn0] at e; cases e)]; exact e
  unfold ksk_rest
  refine wpAny_bind (wpAny_rule ?_)
  first
    | rw [List.forIn_toArray]
    | (rw [← Array.forIn_toList]; simp only [List.toList_toArray])
    | rw [← Array.forIn_toList]
  refine wpAny_bind (ksk_fold (fun i s' => ∃ (Hb : Hp) (ks : List V), Inv X ps σ (upd Hb kS (.lst ks)) s' ∧ Hb kS = none ∧ Le (upd H a0 (.frz (seqObj "list" #[] e1) (.lst []))) Hb ∧ DpAll X.K Hb ks ((ys.map kf).take i)) its 0 _
    ⟨_, [], I6.tok _, by rw [upd_ne hka]; exact hnk, fun _ _ e => e, by rw [List.take_zero]; exact .nil⟩ ?step ?done)
  case step =>
    rintro j x s' hx ⟨Hb, ks, I', hn, hle, hd⟩
    simp only [Nat.zero_add] at hd ⊢
    obtain ⟨y, hy, rxy⟩ := vals_at rv hx
    have hym := List.mem_of_getElem? hy
    have hleH : Le H (upd Hb kS (.lst ks)) := fun b o e => by
      rw [upd_ne (fun z => by rw [z, hnk] at e; cases e)]
      exact hle b o (hle0 b o e)
    have hgiven := (hk y hym).2 _ hleH
    have run : wpAny (model X.prog X.w) X.A.in1.in1 (call (.ref f) [x]) (EP X ps σ fun v H'' => Le (upd Hb kS (.lst ks)) H'' ∧ Dp X.K (fun b => if ((upd Hb kS (.lst ks)) b).isSome then none else H'' b) v (kf y)) (fun _ _ => False) s' := by
      have r2 : Vals ([y] : List V) ([x] ++ []) := .cons rxy .nil
      have hl2 : ([x] ++ ([] : List Value)).length = pn.length := by rw [← r2.length]; exact F.len _ _ _ _ hgiven
      refine wpAny_call (codeAny_mono (F.run X.A.in1.in1 X.stack s' _ ⟨[x], []⟩ ([x] ++ []) [y] _ _ hroom I'.env0.in1.in1 (hb s' [x] I'.kIn hl2) r2 hgiven) fun r s'' hq => ?_)
      cases r with
      | error e =>
        obtain ⟨_, _, _, _, _, _, _, _, _, _, _, _, z⟩ := hq
        exact z.elim
      | ok fl =>
        cases fl with
        | ret u => exact I'.after hq
        | next => exact False.elim hq
        | brk => exact False.elim hq
        | cont => exact False.elim hq
    refine wpAny_bind (wpAny_attempt (wpAny_mono run (fun v s'' he => ?_) fun _ _ hF => hF.elim))
    obtain ⟨kv, H'', I'', rk, hle2, hdk⟩ := he
    try dsimp only
    have hkl : H'' kS = some (.lst ks) := hle2 kS _ upd_same
    obtain ⟨hzk, itk, nk, rvk, hlk, ek⟩ := I''.lstM hkl
    have hkn : ks.length ≤ its.length := by
      have h7 : ks.length = ((ys.map kf).take j).length := by
        have : ∀ {vs : List V} {ds : List PyData}, DpAll X.K Hb vs ds → vs.length = ds.length := by
          intro vs ds hh
          induction vs generalizing ds with
          | nil => cases hh; rfl
          | cons v vs ih => cases hh with
            | cons _ h2 => rw [List.length_cons, List.length_cons, ih h2]
        exact this hd
      rw [h7, List.length_take, List.length_map, rv.length]; omega
    have hjl := (List.getElem?_eq_some_iff.mp hx).1
    refine wpAny_bind (listUpdate_at ek rfl ?_ (by rw [List.size_toArray, ← hlk]; exact Nat.le_trans hkn hz') (Nat.le_trans (Nat.le_of_eq (Array.size_push ..)) (Nat.succ_le_succ (by rw [List.size_toArray, ← hlk]; exact Nat.le_trans hkn hz'))))
    have hkz : ks.length + 1 ≤ sizeLine := by
      have h7 : ks.length = j := by
        have : ∀ {vs : List V} {ds : List PyData}, DpAll X.K Hb vs ds → vs.length = ds.length := by
          intro vs ds hh
          induction vs generalizing ds with
          | nil => cases hh; rfl
          | cons v vs ih => cases hh with
            | cons _ h2 => rw [List.length_cons, List.length_cons, ih h2]
        rw [this hd, List.length_take, List.length_map, rv.length]; omega
      omega
    have I7 := I''.lset (ys := ks ++ [kv]) (its' := itk ++ [v]) (t' := s''.toks) (f := (·.push v)) hkl ek (by simp) (rvk.append (.cons rk .nil)) (by rw [List.length_append]; exact hkz)
    rw [upd_rm] at I7
    refine wpAny_pure ⟨rfl, rmH H'' kS, ks ++ [kv], I7, rm_eq, fun b o e => ?_, ?_⟩
    · have hbk : b ≠ kS := fun z => by
        subst z
        have := hle b o e
        rw [hn] at this; cases this
      rw [rm_ne hbk]
      exact hle2 b o (by rw [upd_ne hbk]; exact hle b o e)
    · have e5 : (ys.map kf).take (j + 1) = (ys.map kf).take j ++ [kf y] := by rw [List.take_add_one, List.getElem?_map, hy]; rfl
      rw [e5]
      refine dpa_snoc (dp_le (fun b o e => ?_) _ _ hdk) (dp_leA (fun b o e => ?_) _ _ hd)
      · by_cases hbk : b = kS
        · subst hbk
          rw [upd_same] at e; cases e
        · rw [rm_ne hbk]
          split at e
          · cases e
          · exact e
      · have hbk : b ≠ kS := fun z => by subst z; rw [hn] at e; cases e
        rw [rm_ne hbk]
        exact hle2 b o (by rw [upd_ne hbk]; exact e)
  case done =>
    rintro s' ⟨Hb, ks, I', hn, hle, hd⟩
    have e5 : (ys.map kf).take (0 + its.length) = ys.map kf := List.take_of_length_le (by rw [List.length_map, rv.length]; omega)
    rw [e5] at hd
    obtain ⟨hzk, itk, nk, rvk, hlk, ek⟩ := I'.lstM (l := kS) (xs := ks) upd_same
    have hfz : (upd Hb kS (.lst ks)) a0 = some (.frz (seqObj "list" #[] e1) (.lst [])) := by
      rw [upd_ne hka.symm]
      exact hle a0 _ upd_same
    have na := (I'.hok a0 _ hfz).1
    have er := each_readsA I' rvk (dp_leA (H' := upd Hb kS (.lst ks)) (fun b o e => by rw [upd_ne (fun z => by subst z; rw [hn] at e; cases e)]; exact e) _ _ hd)
    have hks : itk.length = its.length := by
      have h7 := er.length
      rw [List.length_map] at h7
      rw [h7, rv.length]
    try dsimp only
    refine wpAny_bind (listItems_at ek rfl ?_)
    refine end_sort (κ := dataKind s'.heap (ys.map kf)) (vs := its) ek na hka (PySem.W.SortsAt.data (by simpa using er) hal hso fun d hdm => ?_) (by rw [List.size_toArray]; exact hks) hz' fun tk => ?_
    · obtain ⟨y, hy, rfl⟩ := List.mem_map.mp hdm
      have h7 := (hk y hy).1
      have h8 := hroom.un
      omega
    have eo := PySem.W.sortVals_each (κ := dataKind s'.heap (ys.map kf)) (rev := false) (fun b => PySem.W.keyToks (kf b)) (each_rel rv) (PySem.W.each_of_map kf (PySem.W.each_keys hal er))
    have hv := vals_each eo
    have I8 := I'.lset (ys := []) (its' := []) (t' := tk) (f := fun _ => #[]) (l := kS) upd_same ek rfl .nil (Nat.zero_le _)
    have hfz2 : upd (upd Hb kS (.lst ks)) kS (.lst []) a0 = some (.frz (seqObj "list" #[] e1) (.lst [])) := by rw [upd_ne hka.symm]; exact hfz
    have I9 := I8.unlock hfz2 hnf
    have na1 := (I8.hok a0 _ hfz2).1
    have I10 := I9.lset (ys := ys.mergeSort (dataLe false kf)) (its' := sortVals (dataKind s'.heap (ys.map kf)) false itk its) (t' := tk) (f := fun _ => (sortVals (dataKind s'.heap (ys.map kf)) false itk its).toArray) (l := a0) (its := []) upd_same na1 rfl hv (by rw [List.length_mergeSort]; exact hz)
    rw [upd_upd, upd_rm] at I10
    refine ⟨rfl, .ref a0, _, I10, rfl, q _ a0 (fun b o e => ?_) rm_eq⟩
    have hb1 : b ≠ a0 := fun z => by subst z; rw [hn0] at e; cases e
    have hb2 : b ≠ kS := fun z => by subst z; rw [hnk] at e; cases e
    rw [rm_ne hb1, upd_ne hb2, upd_ne hb2]
    exact hle b o (hle0 b o e)
end
end Kv

/-! list(zip(list, list)) -/
namespace KvY
open PySem PySem.Spec PyProof.Rows KvZ
theorem zip_no_len : typeLookup (.type "zip") "__len__" = pure none := by rw [typeLookup_type, builtinLookup_eq_fast]; kernel_rfl
theorem zip_no_hint : typeLookup (.type "zip") "__length_hint__" = pure none := by rw [typeLookup_type, builtinLookup_eq_fast]; kernel_rfl
/-- how things stand behind i pairs; all is laid from n on -/
structure At (h0 : Heap) (n : Nat) (l1 l2 : Addr) (xs ys : Array Value) (h : Heap) (i : Nat) : Prop where
  sz : h.objs.size = n + 6 + i
  lst : ∃ c, h.get? (n + 5) = some { cls := .type "list", dict := none, data := .seq ((List.range i).map fun j => Value.ref (n + 6 + j)).toArray c, slots := #[] }
  zp : (IsZip h (n + 4) (n + 2) (n + 3) .none ∧ i = 0) ∨ ∃ (k : Nat) (f : Bool) (oT : Obj), IsZipHeld h (n + 4) (n + 2) (n + 3) (n + 6 + k) f ∧ h.get? (n + 6 + k) = some oT
  ti : IsTupOf2 h (n + 2) (.ref n) (.ref (n + 1))
  to : ∃ a b, IsTupOf2 h (n + 3) a b
  u1 : h.IsListIter n l1 i ∧ h.IsList l1 xs
  u2 : h.IsListIter (n + 1) l2 i ∧ h.IsList l2 ys
  tup : ∀ j, j < i → ∃ x y, xs[j]? = some x ∧ ys[j]? = some y ∧ IsTupOf2 h (n + 6 + j) x y
  kp : ∀ (c : Addr) o, Nat.lt c n → h0.get? c = some o → h.get? c = some o
section
variable {prog : Program} {w : World} {A : Around} {h0 : Heap} {n : Nat} {l1 l2 : Addr} {xs ys : Array Value}
theorem ne_add {n a b : Nat} (h : a ≠ b) : ((n + a : Nat) : Addr) ≠ (n + b : Nat) := fun z => h (Nat.add_left_cancel z)
theorem sep (n : Nat) (h1 : Nat.lt l1 n) (h2 : Nat.lt l2 n) : ZipSep2 (n + 4) (n + 2) (n + 3) n (n + 1) [n, l1] [n + 1, l2] := by
  have e : ∀ k, ((n + k : Nat) : Addr) ≠ l1 := fun k z => by have h3 : Nat.lt (n + k) n := z ▸ h1; exact absurd h3 (Nat.not_lt.mpr (Nat.le_add_right _ _))
  have e' : ∀ k, ((n + k : Nat) : Addr) ≠ l2 := fun k z => by have h3 : Nat.lt (n + k) n := z ▸ h2; exact absurd h3 (Nat.not_lt.mpr (Nat.le_add_right _ _))
  have f0 : ∀ k, k ≠ 0 → ((n + k : Nat) : Addr) ≠ n := fun k hk z => hk (Nat.add_left_cancel (z : n + k = n + 0))
  refine ⟨ne_add (by decide), ne_add (by decide), ne_add (by decide), f0 2 (by decide), by simp, ?_, ?_, ne_add (by decide), by simp, ?_, ?_, ?_, ?_⟩
  · simp only [List.mem_cons, List.not_mem_nil, or_false, not_or]; exact ⟨f0 4 (by decide), e 4⟩
  · simp only [List.mem_cons, List.not_mem_nil, or_false, not_or]; exact ⟨f0 3 (by decide), e 3⟩
  · simp only [List.mem_cons, List.not_mem_nil, or_false, not_or]; exact ⟨ne_add (by decide), e' 4⟩
  · simp only [List.mem_cons, List.not_mem_nil, or_false, not_or]; exact ⟨ne_add (by decide), e' 3⟩
  · simp only [List.mem_cons, List.not_mem_nil, or_false, not_or]; exact ⟨(f0 1 (by decide)).symm, e' 0⟩
  · simp only [List.mem_cons, List.not_mem_nil, or_false, not_or]; exact ⟨f0 1 (by decide), e 1⟩
theorem big_ne {n a : Nat} {b : Addr} (h : Nat.lt b n) : b ≠ ((n + a : Nat) : Addr) := fun z => by
  have h3 : Nat.lt (n + a) n := z ▸ h
  exact absurd h3 (Nat.not_lt.mpr (Nat.le_add_right _ _))
theorem base_ne {n a : Nat} (h : a ≠ 0) : ((n + a : Nat) : Addr) ≠ n := fun z => h (Nat.add_left_cancel (z : n + a = n + 0))
theorem ne6 {n j b : Nat} (h : b < 6) : ((n + 6 + j : Nat) : Addr) ≠ ((n + b : Nat) : Addr) := fun z => by
  have q : n + 6 + j = n + b := z
  omega
/-- the next pair -/
theorem next {s : Shared} {i : Nat} {E : Value → Shared → Prop} {Q : Option Value → Shared → Prop} (hh : A.handled = none) (h1 : Nat.lt l1 n) (h2 : Nat.lt l2 n) (a : At h0 n l1 l2 xs ys s.heap i) (lx : i < xs.size) (ly : i < ys.size)
    (hQ : ∀ h' tk c, (h'.objs.size = n + 6 + (i + 1) ∧ h'.get? (n + 5) = some { cls := .type "list", dict := none, data := .seq ((List.range i).map fun j => Value.ref (n + 6 + j)).toArray c, slots := #[] } ∧
      (∀ h'', h''.objs.size = h'.objs.size → (∀ (b : Addr) o, b ≠ ((n + 5 : Nat) : Addr) → h'.get? b = some o → h''.get? b = some o) → (∃ c', h''.get? (n + 5) = some { cls := .type "list", dict := none, data := .seq ((List.range (i + 1)).map fun j => Value.ref (n + 6 + j)).toArray c', slots := #[] }) → At h0 n l1 l2 xs ys h'' (i + 1))) →
      Q (some (.ref (n + 6 + i))) { s with heap := h', toks := tk }) : wpAny (model prog w) A (pyNext (.ref (n + 4))) Q E s := by
  have S := sep n h1 h2
  have D1 := Draws.list (prog := prog) (w := w) (A := A.in1) hh n l1 (big_ne (a := 0) h1) xs
  have D2 := Draws.list (prog := prog) (w := w) (A := A.in1) hh (n + 1) l2 (big_ne h2) ys
  obtain ⟨c, hc⟩ := a.lst
  obtain ⟨a1, a2, hto⟩ := a.to
  have fin : ∀ (x y : Value) (h' : Heap) (tk : Nat), xs[i]? = some x → ys[i]? = some y → (∃ (k : Nat) (f : Bool) (oT : Obj), IsZipHeld h' (n + 4) (n + 2) (n + 3) (n + 6 + k) f ∧ h'.get? (n + 6 + k) = some oT) → (h'.IsListIter n l1 (i + 1) ∧ h'.IsList l1 xs) → (h'.IsListIter (n + 1) l2 (i + 1) ∧ h'.IsList l2 ys) →
      IsTupOf2 h' s.heap.objs.size x y → (∃ a b, IsTupOf2 h' (n + 3) a b) → h'.objs.size = s.heap.objs.size + 1 → (∀ (c : Addr) o, c ≠ ((n + 4 : Nat) : Addr) → c ≠ ((n + 3 : Nat) : Addr) → c ≠ n → c ≠ ((n + 1 : Nat) : Addr) → s.heap.get? c = some o → h'.get? c = some o) →
      Q (some (.ref (n + 6 + i))) { s with heap := h', toks := tk } := by
    intro x y h' tk hx hy hz hu1 hu2 hT hTO hsz hk
    have k5 : h'.get? (n + 5) = some { cls := .type "list", dict := none, data := .seq ((List.range i).map fun j => Value.ref (n + 6 + j)).toArray c, slots := #[] } := hk _ _ (ne_add (by decide)) (ne_add (by decide)) (base_ne (by decide)) (ne_add (by decide)) hc
    refine hQ h' tk c ⟨by rw [hsz, a.sz]; omega, k5, fun h'' e1 e2 e3 => ?_⟩
    have e2' : ∀ (b : Nat) o, b ≠ 5 → h'.get? ((n + b : Nat) : Addr) = some o → h''.get? ((n + b : Nat) : Addr) = some o := fun b o hb => e2 _ o (ne_add hb)
    have el : ∀ (b : Addr) o, Nat.lt b n → h'.get? b = some o → h''.get? b = some o := fun b o hb => e2 b o (big_ne hb)
    refine ⟨by rw [e1, hsz, a.sz]; omega, e3, ?_, ?_, ?_, ?_, ?_, ?_, ?_⟩
    · obtain ⟨k, f, oT, z1, z2⟩ := hz
      exact .inr ⟨k, f, oT, e2' 4 _ (by decide) z1, e2 _ _ (ne6 (by decide)) z2⟩
    · exact e2' 2 _ (by decide) (hk _ _ (ne_add (by decide)) (ne_add (by decide)) (base_ne (by decide)) (ne_add (by decide)) a.ti)
    · obtain ⟨p, q, hpq⟩ := hTO
      exact ⟨p, q, e2' 3 _ (by decide) hpq⟩
    · exact ⟨hu1.1.at fun o e => e2' 0 o (by decide) e, hu1.2.at fun o e => el l1 o h1 e⟩
    · exact ⟨hu2.1.at fun o e => e2' 1 o (by decide) e, hu2.2.at fun o e => el l2 o h2 e⟩
    · intro j hj
      rcases Nat.lt_succ_iff_lt_or_eq.mp hj with hj | rfl
      · obtain ⟨x', y', p1, p2, p3⟩ := a.tup j hj
        refine ⟨x', y', p1, p2, ?_⟩
        exact e2 _ _ (ne6 (by decide)) (hk _ _ (ne6 (by decide)) (ne6 (by decide)) (ne6 (b := 0) (by decide)) (ne6 (by decide)) p3)
      · rw [a.sz] at hT
        exact ⟨x, y, hx, hy, e2 _ _ (ne6 (by decide)) hT⟩
    · intro b o hb e
      exact el b o hb (hk b o (big_ne hb) (big_ne hb) (big_ne (a := 0) hb) (big_ne hb) (a.kp b o hb e))
  have hszc : (Value.ref s.heap.objs.size) = Value.ref (n + 6 + i) := by rw [a.sz]
  rcases a.zp with ⟨hz, hi0⟩ | ⟨k, f, oT, hz, hT⟩
  · refine wpAny_pyNext_zipD2_item S D1 D2 hz a.ti hto a.u1 a.u2 lx ly fun x1 x2 h' tk p1 p2 z' to' v1 v2 t' sz' hk => ?_
    rw [hszc]
    refine fin x1 x2 h' tk p1 p2 ⟨i, false, _, by rw [← a.sz]; exact z', by rw [← a.sz]; exact t'⟩ v1 v2 t' ⟨_, _, to'⟩ sz' fun c o e1 e2 e3 e4 e5 => hk c o e1 e2 e3 e4 e5
  · refine pyNext_held S D1 D2 hz hT a.ti a.u1 a.u2 lx ly fun x1 x2 h' tk p1 p2 z' v1 v2 t' sz' hk => ?_
    rw [hszc]
    exact fin x1 x2 h' tk p1 p2 ⟨k, true, oT, z', hk _ _ (ne6 (by decide)) (ne6 (b := 0) (by decide)) (ne6 (by decide)) hT⟩ v1 v2 t' ⟨_, _, hk _ _ (ne_add (by decide)) (base_ne (by decide)) (ne_add (by decide)) hto⟩ sz' fun c o e1 e2 e3 e4 e5 => hk c o e1 e3 e4 e5
/-- the end -/
theorem last {s : Shared} {i : Nat} {E : Value → Shared → Prop} {Q : Option Value → Shared → Prop} (hh : A.handled = none) (h1 : Nat.lt l1 n) (h2 : Nat.lt l2 n) (a : At h0 n l1 l2 xs ys s.heap i) (lx : i = xs.size) (ly : i = ys.size)
    (hQ : ∀ h' tk, (∀ (c : Addr) o, c ≠ ((n + 4 : Nat) : Addr) → c ≠ ((n + 3 : Nat) : Addr) → c ≠ n → c ≠ ((n + 1 : Nat) : Addr) → s.heap.get? c = some o → h'.get? c = some o) → Q none { s with heap := h', toks := tk }) : wpAny (model prog w) A (pyNext (.ref (n + 4))) Q E s := by
  have S := sep n h1 h2
  have D1 := Draws.list (prog := prog) (w := w) (A := A.in1) hh n l1 (big_ne (a := 0) h1) xs
  have D2 := Draws.list (prog := prog) (w := w) (A := A.in1) hh (n + 1) l2 (big_ne h2) ys
  obtain ⟨a1, a2, hto⟩ := a.to
  rcases a.zp with ⟨hz, hi0⟩ | ⟨k, f, oT, hz, hT⟩
  · exact wpAny_pyNext_zipD2_end S D1 D2 hz a.ti hto a.u1 a.u2 (by omega) (by omega) (.inl lx) hQ
  · exact pyEnd_held S D1 hz hT a.ti (by rw [← lx]; exact a.u1) fun h' tk hk => hQ h' tk fun c o e1 _ e3 _ e5 => hk c o e1 e3 e5
/-- the list takes the pairs -/
theorem fill {R : Result → Shared → Prop} (hh : A.in1.handled = none) (h1 : Nat.lt l1 n) (h2 : Nat.lt l2 n) (hsz : xs.size = ys.size) (hbig : xs.size ≤ sizeLine) : ∀ (k i : Nat) (s : Shared), xs.size - i = k → i ≤ xs.size → At h0 n l1 l2 xs ys s.heap i →
    (∀ s' : Shared, s'.gens = s.gens → s'.drawn = s.drawn → s'.os = s.os → At h0 n l1 l2 xs ys s.heap i → (∃ c, s'.heap.get? (n + 5) = some { cls := .type "list", dict := none, data := .seq ((List.range xs.size).map fun j => Value.ref (n + 6 + j)).toArray c, slots := #[] }) →
      (∀ j, j < xs.size → ∃ x y, xs[j]? = some x ∧ ys[j]? = some y ∧ IsTupOf2 s'.heap (n + 6 + j) x y) → (∀ (c : Addr) o, Nat.lt c n → h0.get? c = some o → s'.heap.get? c = some o) → R (.ok (.ret .none)) s') →
    codeAny (model prog w) A (.builtin "list.extend.loop" ⟨[.ref (n + 5), .ref (n + 4), .none], []⟩) R s := by
  intro k
  induction k with
  | zero =>
    intro i s hk hi a hR
    have hix : i = xs.size := by omega
    refine codeAny_builtin F.entry_extend_loop ?_
    rw [Around.under_plainId F.plain_extend_loop _]
    show wpAny _ A.in1 (pyNext (.ref (n + 4)) >>= _) _ _ s
    refine wpAny_bind (last hh h1 h2 a hix (by omega) fun h' tk kp => ?_)
    obtain ⟨c, hc⟩ := a.lst
    refine wpAny_pure (hR { s with heap := h', toks := tk } rfl rfl rfl a ⟨c, ?_⟩ (fun j hj => ?_) fun b o hb e => ?_)
    · rw [hix] at hc
      exact kp _ _ (ne_add (by decide)) (ne_add (by decide)) (base_ne (by decide)) (ne_add (by decide)) hc
    · obtain ⟨x, y, p1, p2, p3⟩ := a.tup j (by omega)
      exact ⟨x, y, p1, p2, kp _ _ (ne6 (by decide)) (ne6 (by decide)) (ne6 (b := 0) (by decide)) (ne6 (by decide)) p3⟩
    · exact kp b o (big_ne hb) (big_ne hb) (big_ne (a := 0) hb) (big_ne hb) (a.kp b o hb e)
  | succ k ih =>
    intro i s hk hi a hR
    refine codeAny_builtin F.entry_extend_loop ?_
    rw [Around.under_plainId F.plain_extend_loop _]
    show wpAny _ A.in1 (pyNext (.ref (n + 4)) >>= _) _ _ s
    refine wpAny_bind (next hh h1 h2 a (by omega) (by omega) fun h' tk c q => ?_)
    obtain ⟨q1, q2, q3⟩ := q
    · show wpAny _ A.in1 (updateSeq (n + 5) (·.push (.ref (n + 6 + i))) >>= _) _ _ _
      refine wpAny_bind (wpAny_updateSeq q2 rfl ?_ (by simp; omega) (by simp; omega))
      have u5 := Heap.get?_update_self (Obj.mapSeq (·.push (Value.ref (n + 6 + i)))) q2 rfl
      have aa := q3 (h'.update (n + 5) (Obj.mapSeq (·.push (Value.ref (n + 6 + i))))) (Heap.size_update ..) (fun b o hb e => (Heap.get?_update_other _ _ (Ne.symm hb)).trans e) ⟨_, by rw [u5]; simp [Obj.mapSeq, List.range_succ]; rfl⟩
      exact wpAny_pure ⟨plainId_quiet F.plain_extend_loop _, ih (i + 1) { s with heap := h'.update (n + 5) (Obj.mapSeq (·.push (Value.ref (n + 6 + i)))), toks := tk } (by omega) (by omega) aa fun s' g1 g2 g3 _ r1 r2 r3 => hR s' g1 g2 g3 a r1 r2 r3⟩
end
section
variable {prog : Program} {w : World} {A : Around} {E : Value → Shared → Prop} {s : Shared} {n : Nat} {l1 l2 : Addr} {xs ys : Array Value}
/-- list(z), z a new zip of two lists -/
theorem call_list_zip {Q : Value → Shared → Prop} (hh : A.handled = none) (hn : s.heap.objs.size = n + 5) (h1 : Nat.lt l1 n) (h2 : Nat.lt l2 n) (hxy : xs.size = ys.size) (hbig : xs.size ≤ sizeLine)
    (z : IsZip s.heap (n + 4) (n + 2) (n + 3) .none) (ti : IsTupOf2 s.heap (n + 2) (.ref n) (.ref (n + 1))) (to : ∃ a b, IsTupOf2 s.heap (n + 3) a b) (u1 : s.heap.IsListIter n l1 0 ∧ s.heap.IsList l1 xs) (u2 : s.heap.IsListIter (n + 1) l2 0 ∧ s.heap.IsList l2 ys)
    (hQ : ∀ s' : Shared, s'.gens = s.gens → s'.drawn = s.drawn → s'.os = s.os → (∃ c, s'.heap.get? (n + 5) = some { cls := .type "list", dict := none, data := .seq ((List.range xs.size).map fun j => Value.ref (n + 6 + j)).toArray c, slots := #[] }) →
      (∀ j, j < xs.size → ∃ x y, xs[j]? = some x ∧ ys[j]? = some y ∧ IsTupOf2 s'.heap (n + 6 + j) x y) → (∀ (c : Addr) o, Nat.lt c n → s.heap.get? c = some o → s'.heap.get? c = some o) → Q (.ref (n + 5)) s') :
    wpAny (model prog w) A (call (.type "list") [.ref (n + 4)]) Q E s := by
  refine callType_codes (Q₁ := fun obj s₁ => obj = .ref (n + 5) ∧ s₁ = { s with heap := s.heap.push { cls := .type "list", data := .seq #[] } }) F.called_list (F.typeCall_list_1 _) F.entry_list_init
    (code_list_new _ ⟨by rw [hn], rfl⟩) fun obj s₁ e₁ => ?_
  obtain ⟨rfl, rfl⟩ := e₁
  have hS : (s.heap.push { cls := .type "list", data := .seq #[] }).get? (n + 5) = some { cls := .type "list", data := .seq #[] } := by rw [← hn]; exact Heap.get?_push_size _ rfl
  have pk : ∀ b o, s.heap.get? b = some o → (s.heap.push { cls := .type "list", data := .seq #[] }).get? b = some o := fun b o e => Heap.get?_push_of_some _ e
  have tz : Shared.TypeIs { s with heap := s.heap.push { cls := .type "list", data := .seq #[] } } (.ref (n + 4)) "zip" := ⟨_, pk _ _ z, rfl⟩
  refine ⟨⟨_, hS, rfl⟩, F.args_list_init_2 _ _, ?_⟩
  show wpAny _ A.in1.in1 (do let old ← Builtin.List.listItems (.ref (n + 5)); Builtin.List.listUpdate (.ref (n + 5)) (fun _ => #[]); letGo old.toList.reverse; Builtin.List.listExtendWith (.ref (n + 5)) (.ref (n + 4)) .none) _ _ _
  refine wpAny_bind ?_
  unfold Builtin.List.listItems
  refine wpAny_bind (wpAny_seqItems hS rfl (wpAny_pure ?_))
  show wpAny _ A.in1.in1 (updateSeq (n + 5) (fun _ => #[]) >>= fun _ => letGo (#[] : Array Value).toList.reverse >>= fun _ => Builtin.List.listExtendWith (.ref (n + 5)) (.ref (n + 4)) .none) _ _ _
  have b1 := Heap.SameBut.update (s.heap.push { cls := .type "list", data := .seq #[] }) (n + 5) (Obj.mapSeq (fun _ => (#[] : Array Value)))
  have hS1 := Heap.get?_update_self (Obj.mapSeq (fun _ => (#[] : Array Value))) hS rfl
  refine wpAny_bind (wpAny_updateSeq hS rfl ?_)
  have sz1 : ((s.heap.push { cls := .type "list", data := .seq #[] }).update (n + 5) (Obj.mapSeq (fun _ => (#[] : Array Value)))).objs.size = n + 6 := by rw [Heap.size_update, Heap.size_push, hn]
  have k1 : ∀ (b : Addr) o, b ≠ ((n + 5 : Nat) : Addr) → s.heap.get? b = some o → ((s.heap.push { cls := .type "list", data := .seq #[] }).update (n + 5) (Obj.mapSeq (fun _ => (#[] : Array Value)))).get? b = some o := fun b o hb e => (b1.2 b hb).trans (pk b o e)
  generalize (s.heap.push { cls := .type "list", data := .seq #[] }).update (n + 5) (Obj.mapSeq (fun _ => (#[] : Array Value))) = g1 at hS1 sz1 k1 ⊢
  refine wpAny_bind (wpAny_letGo ?_)
  have tz1 : Shared.TypeIs { s with heap := g1 } (.ref (n + 4)) "zip" := ⟨_, k1 _ _ (ne_add (by decide)) z, rfl⟩
  unfold Builtin.List.listExtendWith
  refine wpAny_bind (wpAny_typeOf tz1 ?_)
  have e1 : Builtin.List.listSameRef (.ref (n + 5)) (.ref (n + 4)) = false := by simp [Builtin.List.listSameRef]
  have e2 : (Value.type "zip" == Value.type "list") = false := by decide
  have e3 : (Value.type "zip" == Value.type "tuple") = false := by decide
  simp only [e1, e2, e3, Bool.or_false, Bool.false_eq_true, if_false]
  refine wpAny_bind (wpAny_pyIter_zip (k1 _ _ (ne_add (by decide)) z) ?_)
  refine wpAny_bind (wpAny_holding ?_)
  unfold Builtin.List.listLengthHint
  refine wpAny_bind (wpAny_specialOf tz1 zip_no_len ?_)
  show wpAny _ A.in1.in1 (specialOf (Value.ref (n + 4)) (Str.ofString "__length_hint__") >>= _) _ _ _
  refine wpAny_bind (wpAny_specialOf tz1 zip_no_hint ?_)
  refine wpAny_pure ?_
  show wpAny _ A.in1.in1 (rule "list.extend.makes-room" >>= fun _ => Builtin.List.listTouch (.ref (n + 5)) >>= fun _ => again (.builtin "list.extend.loop" ⟨[.ref (n + 5), .ref (n + 4), .none], []⟩)) _ _ _
  refine wpAny_bind (wpAny_rule (wpAny_bind ?_))
  show wpAny _ A.in1.in1 (updateSeq (n + 5) (·.push .none) >>= fun _ => updateSeq (n + 5) (·.pop)) _ _ _
  refine wpAny_bind (wpAny_updateSeq hS1 rfl ?_)
  have hS2 := Heap.get?_update_self (Obj.mapSeq (·.push Value.none)) hS1 rfl
  refine wpAny_updateSeq (hz := by seq_fits) hS2 rfl ?_
  have hS3 := Heap.get?_update_self (Obj.mapSeq (·.pop)) hS2 rfl
  have k3 : ∀ (b : Addr) o, b ≠ ((n + 5 : Nat) : Addr) → s.heap.get? b = some o → ((g1.update (n + 5) (Obj.mapSeq (·.push Value.none))).update (n + 5) (Obj.mapSeq (·.pop))).get? b = some o :=
    fun b o hb e => (Heap.get?_update_other _ _ (Ne.symm hb)).trans ((Heap.get?_update_other _ _ (Ne.symm hb)).trans (k1 b o hb e))
  have sz3 : ((g1.update (n + 5) (Obj.mapSeq (·.push Value.none))).update (n + 5) (Obj.mapSeq (·.pop))).objs.size = n + 6 := by rw [Heap.size_update, Heap.size_update, sz1]
  generalize (g1.update (n + 5) (Obj.mapSeq (·.push Value.none))).update (n + 5) (Obj.mapSeq (·.pop)) = g3 at hS3 k3 sz3 ⊢
  obtain ⟨p, q, hto⟩ := to
  have a0 : At s.heap n l1 l2 xs ys g3 0 := by
    refine ⟨sz3, ⟨_, hS3⟩, .inl ⟨k3 _ _ (ne_add (by decide)) z, rfl⟩, k3 _ _ (ne_add (by decide)) ti, ⟨p, q, k3 _ _ (ne_add (by decide)) hto⟩, ?_, ?_, fun j hj => absurd hj (Nat.not_lt_zero _), fun b o hb e => k3 b o (big_ne hb) e⟩
    · exact ⟨u1.1.at fun o e => k3 _ o (fun z => (base_ne (a := 5) (by decide)) z.symm) e, u1.2.at fun o e => k3 _ o (big_ne h1) e⟩
    · exact ⟨u2.1.at fun o e => k3 _ o (ne_add (by decide)) e, u2.2.at fun o e => k3 _ o (big_ne h2) e⟩
  refine wpAny_pure ⟨plainId_quiet F.plain_extend_loop _, fill (A := A.in1) (h0 := s.heap) hh h1 h2 hxy hbig _ 0 { s with heap := g3 } rfl (Nat.zero_le _) a0 fun s' e1 e2 e3 _ r1 r2 r3 => ?_⟩
  exact ⟨rfl, hQ s' e1 e2 e3 r1 r2 r3⟩
end
section
open L2 Kv
variable {X : Cx} {pins : List (Addr × Obj)} {σ : L2.St} {H : Hp} {s : Shared}
/-- pairs at b0, b0 + 1, .. -/
def tupH (H : Hp) (b0 : Nat) (xs ys : List V) : Nat → Hp
  | 0 => H
  | k + 1 => upd (tupH H b0 xs ys k) (b0 + k) (.tup [xs.getD k .non, ys.getD k .non])
theorem tupH_lt {b0 : Nat} {xs ys : List V} : ∀ (k : Nat) (b : Addr), Nat.lt b b0 → tupH H b0 xs ys k b = H b
  | 0, _, _ => rfl
  | k + 1, b, h => by
    show upd _ _ _ b = _
    rw [upd_ne (big_ne h)]; exact tupH_lt k b h
theorem tupH_ge {b0 : Nat} {xs ys : List V} : ∀ (k j : Nat), k ≤ j → tupH H b0 xs ys k ((b0 + j : Nat) : Addr) = H ((b0 + j : Nat) : Addr)
  | 0, _, _ => rfl
  | k + 1, j, h => by
    show upd _ _ _ _ = _
    rw [upd_ne (ne_add (by omega))]; exact tupH_ge k j (by omega)
theorem tupH_at {b0 : Nat} {xs ys : List V} : ∀ (k j : Nat), j < k → tupH H b0 xs ys k ((b0 + j : Nat) : Addr) = some (.tup [xs.getD j .non, ys.getD j .non])
  | 0, _, h => absurd h (Nat.not_lt_zero _)
  | k + 1, j, h => by
    show upd _ _ _ _ = _
    rcases Nat.lt_succ_iff_lt_or_eq.mp h with h | rfl
    · rw [upd_ne (ne_add (by omega))]; exact tupH_at k j h
    · exact upd_same
theorem vals_get : ∀ {xs : List V} {us : List Value}, Vals xs us → ∀ {j : Nat} {u : Value}, us[j]? = some u → RelV (xs.getD j .non) u
  | _, _, .nil, _, _, e => by cases e
  | _, _, .cons h t, 0, _, e => by cases e; exact h
  | _, _, .cons h t, j + 1, _, e => vals_get t (j := j) (by simpa using e)
theorem inv_pairs {s0 : Shared} {b0 : Nat} {xs ys : List V} {us ws : List Value} (I0 : Inv X pins σ H s0) (I : Inv X pins σ H s) (hb : s0.heap.objs.size ≤ b0) (rx : Vals xs us) (ry : Vals ys ws) :
    ∀ k, (∀ j, j < k → ∃ x y, us[j]? = some x ∧ ws[j]? = some y ∧ IsTupOf2 s.heap ((b0 + j : Nat) : Addr) x y) → Inv X pins σ (tupH H b0 xs ys k) s
  | 0, _ => I
  | k + 1, h => by
    have ih := inv_pairs I0 I hb rx ry k fun j hj => h j (by omega)
    obtain ⟨x, y, e1, e2, e3⟩ := h k (by omega)
    have hn : tupH H b0 xs ys k ((b0 + k : Nat) : Addr) = none := by
      rw [tupH_ge k k (Nat.le_refl _)]
      exact I0.hok.fresh (Nat.le_trans hb (Nat.le_add_right _ _))
    have fp := I0.fpOk (H' := tupH H b0 xs ys k) (b := ((b0 + k : Nat) : Addr)) (Nat.le_trans hb (Nat.le_add_right _ _)) hn
    exact ih.take (t' := s.toks) (h' := s.heap) (fun _ _ _ e => e) fp ⟨by show 2 ≤ sizeLine; decide, [x, y], .cons (vals_get rx e1) (.cons (vals_get ry e2) .nil), ⟨_, e3, rfl, _, rfl⟩⟩
theorem vals_range (b0 : Nat) : ∀ m : Nat, Vals ((List.range m).map fun j => V.ref (b0 + j)) ((List.range m).map fun j => Value.ref (b0 + j)) := by
  intro m
  have go : ∀ l : List Nat, Vals (l.map fun j => V.ref (b0 + j)) (l.map fun j => Value.ref (b0 + j)) := by
    intro l
    induction l with
    | nil => exact .nil
    | cons a l ih => exact .cons rfl ih
  exact go _
variable {e1 e2 : Expr} {ta : TA} {p p2 pos2 pos : Pos}
/-- list(zip(xs, ys)), lists of one length -/
theorem pe_lzip (hc : X.calm = true) (hg : Gl X "list") (hm : X.mg "list" = none) (gz : Gl X "zip") (mz : X.mg "zip" = none) (ha : PA X [e1, e2] ta)
    (hs : starEach [e1, e2] X.env = (false, eval e1 X.env) :: starEach [e2] X.env := by rfl) (hpl : (backTo pos2 (starEach [e2] X.env)).any (·.1) = false := by rfl)
    (hs1 : starEach [.Call (.Name "zip" p2) [e1, e2] [] pos2] X.env = (false, eval (.Call (.Name "zip" p2) [e1, e2] [] pos2) X.env) :: starEach [] X.env := by rfl) (hpl1 : (backTo pos (starEach [] X.env)).any (·.1) = false := by rfl) :
    PE X (.Call (.Name "list" p) [.Call (.Name "zip" p2) [e1, e2] [] pos2] [] pos)
      (fun σ H Q => ta σ H fun vs H1 => ∃ (a b : Addr) (xs ys : List V), vs = [.ref a, .ref b] ∧ SqL X.K H1 a xs ∧ SqL X.K H1 b ys ∧ xs.length = ys.length ∧ ∀ H2 (r : Addr) (ts : List Addr), Le H1 H2 → ts.length = xs.length →
        (∀ t ∈ ts, H1 t = none) → (∀ j t, ts[j]? = some t → H2 t = some (.tup [xs.getD j .non, ys.getD j .non])) → r ∉ ts → H1 r = none → H2 r = some (.lst (ts.map V.ref)) → Q (.ref r) H2) := by
  refine ⟨fun ps s σ H Q I h => ?_⟩
  refine wpAny_Call_Name_kw (ld_blt I hg hm PyProof.Rows.boot_list ?_)
  refine PyProof.Rows.callWith_type1 ?_ hs1 hpl1
  rw [hs1]
  show wpAny _ _ (spliced ((false, eval (.Call (.Name "zip" p2) [e1, e2] [] pos2) X.env) :: backTo pos (starEach [] X.env))) _ _ s
  refine Calls.spliced_cons ?_
  refine wpAny_Call_Name_kw (ld_blt I gz mz PyProof.Rows.boot_zip ?_)
  refine PyProof.Rows.callWith_type1 (thn (ha.run pos2 ps s σ H _ I h) fun us s1 ⟨vs, H1, I1, r1, q1⟩ => ?_) hs hpl
  obtain ⟨a, b, xs, ys, rfl, hx, hy, hl, q⟩ := q1
  obtain ⟨ua, ub, rfl, ra, rb⟩ := vals2 r1
  cases ra
  cases rb
  obtain ⟨its, rx, plx, hzx⟩ := I1.list hx
  obtain ⟨itt, ry, ply, hzy⟩ := I1.list hy
  refine call_zip_2 plx.isList ply.isList fun h' k1 k2 k3 k4 k5 sz hk => ?_
  refine Calls.spliced_nil ?_
  have la : Nat.lt a s1.heap.objs.size := by obtain ⟨o, e, _⟩ := plx.isList; exact Heap.lt_size e
  have lb : Nat.lt b s1.heap.objs.size := by obtain ⟨o, e, _⟩ := ply.isList; exact Heap.lt_size e
  have keepL : ∀ {l : Addr} {xs : Array Value}, s1.heap.IsList l xs → h'.IsList l xs := fun ⟨o, e, r⟩ => ⟨o, hk _ _ e, r⟩
  have hlen : its.toArray.size = itt.toArray.size := by rw [List.size_toArray, List.size_toArray, ← rx.length, ← ry.length, hl]
  refine call_list_zip (s := { s1 with heap := h' }) (n := s1.heap.objs.size) (I1.ok.hd hc) sz la lb hlen (by rw [List.size_toArray, ← rx.length]; exact hzx) k1 k2 ⟨_, _, k3⟩ ⟨k4, keepL plx.isList⟩ ⟨k5, keepL ply.isList⟩ fun s' g1 g2 g3 ⟨c, hlst⟩ htup hkp => ?_
  have hm : its.toArray.size = xs.length := by rw [List.size_toArray, ← rx.length]
  rw [hm] at hlst htup
  have kall : ∀ c o, s1.heap.get? c = some o → s'.heap.get? c = some o := fun c o e => hkp c o (Heap.lt_size e) (hk c o e)
  have es : s' = { s1 with heap := s'.heap, toks := s'.toks } := by
    cases s'
    cases s1
    cases g1
    cases g2
    cases g3
    rfl
  have I2 : Inv X ps σ H1 s' := by rw [es]; exact I1.kept kall
  have I3 := inv_pairs (b0 := s1.heap.objs.size + 6) I1 I2 (Nat.le_add_right _ _) rx ry xs.length (fun j hj => by
    obtain ⟨x, y, q1, q2, q3⟩ := htup j hj
    exact ⟨x, y, by simpa using q1, by simpa using q2, q3⟩)
  have hr0 : tupH H1 (s1.heap.objs.size + 6) xs ys xs.length (s1.heap.objs.size + 5) = none := by
    rw [tupH_lt _ _ (show Nat.lt (s1.heap.objs.size + 5) (s1.heap.objs.size + 6) from Nat.lt_succ_self _)]
    exact I1.hok.fresh (Nat.le_add_right _ _)
  have I4 := I3.take (t' := s'.toks) (h' := s'.heap) (o := .lst ((List.range xs.length).map fun j => V.ref (s1.heap.objs.size + 6 + j))) (fun _ _ _ e => e) (I1.fpOk (b := s1.heap.objs.size + 5) (Nat.le_add_right _ _) hr0)
    ⟨by rw [List.length_map, List.length_range]; exact hzx, _, c, vals_range _ _, hlst⟩
  refine ⟨.ref (s1.heap.objs.size + 5), _, I4, rfl, q _ _ ((List.range xs.length).map fun j => s1.heap.objs.size + 6 + j) (fun b o e => ?_) (by simp) (fun t ht => ?_) (fun j t ht => ?_) ?_ (I1.hok.fresh (Nat.le_add_right _ _)) ?_⟩
  · have hlt : Nat.lt b s1.heap.objs.size := (I1.hok b o e).lt
    rw [upd_ne (big_ne hlt), tupH_lt _ _ (Nat.lt_of_lt_of_le hlt (Nat.le_add_right _ _))]
    exact e
  · obtain ⟨j, _, rfl⟩ := List.mem_map.mp ht
    exact I1.hok.fresh (Nat.le_trans (Nat.le_add_right _ _) (Nat.le_add_right _ _))
  · rw [List.getElem?_map] at ht
    obtain ⟨j', hj', rfl⟩ := Option.map_eq_some_iff.mp ht
    have hjj : j' = j ∧ j < xs.length := by
      obtain ⟨h1, h2⟩ := List.getElem?_eq_some_iff.mp hj'
      rw [List.getElem_range] at h2
      rw [List.length_range] at h1
      exact ⟨h2.symm, h1⟩
    rw [hjj.1, upd_ne (ne6 (by decide)), tupH_at _ _ hjj.2]
  · intro hm
    obtain ⟨j, _, hj⟩ := List.mem_map.mp hm
    exact ne6 (n := s1.heap.objs.size) (j := j) (b := 5) (by decide) hj
  · rw [upd_same, List.map_map]; rfl
end
end KvY
namespace Kv
open PySem PySem.Spec PyProof.Rows L2
section
variable {X : Cx} {σ : L2.St} {B : Hp} {L : HL} {Q : KQ} {D : KD} {e1 e2 : Expr} {p p2 pos2 pos : Pos}
/-- list(zip(xs, ys)): the pairs go to the base -/
theorem k_lzip (hm : X.mg "list" = none) (mz : X.mg "zip" = none) (h : kA X [e1, e2] σ B L fun vs B1 L1 => ∃ (a b : Addr) (xs ys : List V), vs = [.ref a, .ref b] ∧ Ls X.K B1 L1 a xs ∧ Ls X.K B1 L1 b ys ∧ xs.length = ys.length ∧
      ∀ B2 (r : Addr) (ts : List Addr), Le B1 B2 → ts.length = xs.length → (∀ j t, ts[j]? = some t → B2 t = some (.tup [xs.getD j .non, ys.getD j .non])) → Q (.ref r) B2 ((r, .lst (ts.map V.ref)) :: L1))
    (hc : X.calm = true := by rfl) (hg : Gl X "list" := by rfl) (gz : Gl X "zip" := by rfl)
    (hs : starEach [e1, e2] X.env = (false, eval e1 X.env) :: starEach [e2] X.env := by rfl) (hpl : (backTo pos2 (starEach [e2] X.env)).any (·.1) = false := by rfl)
    (hs1 : starEach [.Call (.Name "zip" p2) [e1, e2] [] pos2] X.env = (false, eval (.Call (.Name "zip" p2) [e1, e2] [] pos2) X.env) :: starEach [] X.env := by rfl) (hpl1 : (backTo pos (starEach [] X.env)).any (·.1) = false := by rfl) :
    kE X (.Call (.Name "list" p) [.Call (.Name "zip" p2) [e1, e2] [] pos2] [] pos) σ B L Q :=
  ⟨_, KvY.pe_lzip hc hg hm gz mz pa_c hs hpl hs1 hpl1, fun H s => toA s h fun vs H1 B1 L1 s1 ⟨a, b, xs, ys, e, h1, h2, hl, q⟩ => ⟨a, b, xs, ys, e, h1.at s1, h2.at s1, hl, fun H2 r ts le hts hn htp hrn hr1 hr2 => by
    have nb : ∀ t ∈ ts, B1 t = none := fun t ht => s1.free (hn t ht)
    refine ⟨fun b => if b ∈ ts then H2 b else B1 b, (r, .lst (ts.map V.ref)) :: L1, ⟨fun b o e => ?_, fun p hp => ?_, fun p hp => ?_, ?_⟩, q _ r ts (fun b o e => ?_) hts fun j t ht => ?_⟩
    · split at e
      · exact e
      · exact le _ _ (s1.ext _ _ e)
    · rcases List.mem_cons.mp hp with rfl | hp
      · exact hr2
      · exact le _ _ (s1.own p hp)
    · rcases List.mem_cons.mp hp with rfl | hp
      · show (if r ∈ ts then H2 r else B1 r) = none
        rw [if_neg hrn]; exact s1.free hr1
      · have hpt : p.1 ∉ ts := fun hm => by
          have := hn _ hm
          rw [s1.own p hp] at this; cases this
        show (if p.1 ∈ ts then H2 p.1 else B1 p.1) = none
        rw [if_neg hpt]; exact s1.nb p hp
    · rw [List.map_cons, List.nodup_cons]
      exact ⟨s1.notin hr1, s1.nd⟩
    · have hbt : b ∉ ts := fun hm => by
        have := nb b hm
        rw [e] at this; cases this
      show (if b ∈ ts then H2 b else B1 b) = _
      rw [if_neg hbt]; exact e
    · show (if t ∈ ts then H2 t else B1 t) = _
      rw [if_pos (List.mem_of_getElem? ht)]
      exact htp j t ht⟩⟩
end
end Kv

/-! for over a tuple that the head makes; comprehensions over lists of pairs. -/
namespace Kv
open PySem PySem.Spec PyProof.Rows L2
section
variable {X : Cx} {σ : L2.St} {B : Hp} {L : HL} {Q : KQ} {D : KD} {pos p2 pos' : Pos} {e iter a b c elt : Expr} {scope : Scope}
theorem k_for_t2 {tg : Expr} {body : List Stmt} (hp : PassesOwn (model X.prog X.w) X.A X.env X.xe)
    (h : kE X iter σ B L fun v B1 L1 => ∃ (a : Addr) (xs : List V) (Pv : Nat → KN), v = .ref a ∧ Tp X.K B1 L1 a xs ∧ Pv 0 σ B1 L1 ∧ (∀ i σ B L, i ≤ xs.length → Pv i σ B L → Tp X.K B L a xs) ∧
      (∀ i x σ B L, xs[i]? = some x → Pv i σ B L → kG X tg x σ B L fun σ2 B2 L2 => kSs X body σ2 B2 L2 { D with nx := Pv (i + 1), ct := Pv (i + 1), bk := D.nx }) ∧ ∀ σ B L, Pv xs.length σ B L → D.nx σ B L)
    (hc : X.calm = true := by rfl) (hs : ∀ x, foldedSetIterable iter X.env x = pure x := by intro _; rfl) : kS X (.For tg iter body [] pos) σ B L D :=
  k_for hp (r_tup (by
    obtain ⟨t, h1, h2⟩ := h
    refine ⟨_, pe_c, fun H s => toE s ⟨t, h1, h2⟩ fun v H' B' L' s' ⟨a, xs, Pv, e, hl, p0, hL, ht, hd⟩ => ⟨B', L', s', a, xs, e, hl, xs.length, _, _, Pv, walk_tup, p0, fun i σ B L H hi p s => (hL i σ B L hi p).at s, fun i x σ B L H H' hi p s y => ?_, hd⟩⟩
    obtain ⟨rfl, hx⟩ := y
    exact ⟨B, L, s, ht i x σ B L hx p⟩)) hc hs
/-- a list of pairs of texts -/
abbrev pV (q : List Nat × List Nat) : List V := [.str (sOf q.1), .str (sOf q.2)]
def Prs (K : PySem.W.Frag) (B : Hp) (L : HL) (p : Addr) (ts : List Addr) (ps : List (List Nat × List Nat)) : Prop := Ls K B L p (ts.map V.ref) ∧ ts.length = ps.length ∧ ∀ (j : Nat) t q, ts[j]? = some t → ps[j]? = some q → B t = some (.tup (pV q))
/-- [elt for x, y in a list of pairs] -/
theorem k_lcm_p {x y : Str} {i j kk : Nat} {px py tpos : Pos} (g : List Nat × List Nat → V) (hN : X.N.Nodup) (ok : BlkOk X.N X.env.scope scope [(x, i), (y, j)])
    (h : kE X iter σ B L fun v B1 L1 => ∃ (a : Addr) (ts : List Addr) (ps : List (List Nat × List Nat)), v = .ref a ∧ Prs X.K B1 L1 a ts ps ∧ ps.length ≤ 16777216 ∧ (∀ q ∈ ps, ∀ D acc s H0 C cl fp, kE (Bk X scope s H0 C cl fp) elt ((σ.set i (some (.str (sOf q.1)))).set j (some (.str (sOf q.2)))) B1 ((D, .lst acc) :: L1) fun y B3 L3 => y = g q ∧ B3 = B1 ∧ L3 = (D, .lst acc) :: L1) ∧
      ∀ D, Q (.ref D) B1 ((D, .lst (ps.map g)) :: L1))
    (hp : ∀ s H0 C cl fp, Loc (Bk X scope s H0 C cl fp).env.scope x ∧ Loc (Bk X scope s H0 C cl fp).env.scope y := by intro _ _ _ _ _; exact ⟨Or.inl rfl, Or.inl rfl⟩) (hf : ∀ s H0 C cl fp, (Bk X scope s H0 C cl fp).env.scope.names.lookup x = some .local ∧ (Bk X scope s H0 C cl fp).env.scope.names.lookup y = some .local := by intro _ _ _ _ _; exact ⟨rfl, rfl⟩)
    (hn : ∀ s H0 C cl fp, (assignEach [.Name x px, .Name y py] (Bk X scope s H0 C cl fp).env).length = 2 := by intro _ _ _ _ _; rfl) (hfi : ∀ s H0 C cl fp, (assignEach [.Name x px, .Name y py] (Bk X scope s H0 C cl fp).env).findIdx? (·.1) = none := by intro _ _ _ _ _; rfl)
    (h1 : ∀ s H0 C cl fp, (assignEach [.Name x px, .Name y py] (Bk X scope s H0 C cl fp).env).map (·.2) = assign (.Name x px) (Bk X scope s H0 C cl fp).env :: (assignEach [.Name y py] (Bk X scope s H0 C cl fp).env).map (·.2) := by intro _ _ _ _ _; rfl)
    (h2 : ∀ s H0 C cl fp, (assignEach [.Name y py] (Bk X scope s H0 C cl fp).env).map (·.2) = assign (.Name y py) (Bk X scope s H0 C cl fp).env :: (assignEach [] (Bk X scope s H0 C cl fp).env).map (·.2) := by intro _ _ _ _ _; rfl)
    (hi : X.N[i]? = some x := by rfl) (hj : X.N[j]? = some y := by rfl) (hc : X.calm = true := by rfl) (hs : ∀ x, foldedSetIterable iter X.env x = pure x := by intro _; rfl) :
    kL X elt (.Tuple [.Name x px, .Name y py] kk tpos) iter [] scope [(x, i), (y, j)] σ B L Q :=
  k_lc hN ok (r_list (by
    obtain ⟨t, k1, k2⟩ := h
    refine ⟨_, pe_c, fun H s => toE s ⟨t, k1, k2⟩ fun v H' B1 L1 s' ⟨a, ts, ps, e, hpr, hl, ht, hd⟩ => ⟨B1, L1, s', a, ts.map V.ref, e, hpr.1, (ts.map V.ref).length, _, _, fun i acc B L => B = B1 ∧ L = L1 ∧ acc = (ps.map g).take i, walk_list, ⟨rfl, rfl, by simp⟩, ?_, ?_, ?_⟩⟩
    · rintro i acc B L H hi ⟨rfl, rfl, _⟩ s
      exact hpr.1.at s
    · rintro D n acc z B L H H' hn' ⟨rfl, rfl, rfl⟩ s ⟨rfl, hx⟩
      rw [List.getElem?_map] at hx
      obtain ⟨tn, htn, rfl⟩ := Option.map_eq_some_iff.mp hx
      have hnl := (List.getElem?_eq_some_iff.mp htn).1
      have hlen := hpr.2.1
      obtain ⟨q, hq⟩ : ∃ q, ps[n]? = some q := ⟨_, List.getElem?_eq_getElem (by omega)⟩
      have hqm := List.mem_of_getElem? hq
      have htup := hpr.2.2 n tn q htn hq
      refine ⟨_, _, s, fun sa Ha Ca cla fpa => ?_⟩
      have hT : Tp (Bk X scope sa Ha Ca cla fpa).K B ((D, .lst ((ps.map g).take n)) :: L) tn (pV q) := .inl (.inl (.inl htup))
      refine g_tup (n := 2) hT rfl ?_ hc (hn sa Ha Ca cla fpa) (hfi sa Ha Ca cla fpa)
      refine gs_cons (g_name i ?_ hN hi (hp sa Ha Ca cla fpa).1 (.inr (hf sa Ha Ca cla fpa).1)) (h1 sa Ha Ca cla fpa)
      refine gs_cons (g_name j ?_ hN hj (hp sa Ha Ca cla fpa).2 (.inr (hf sa Ha Ca cla fpa).2)) (h2 sa Ha Ca cla fpa)
      refine gs_nil ⟨wipe2 σ i j _ _, fun sb Hb Cb clb fpb => ?_⟩
      show kE _ _ (((wipe σ [i, j]).set i _).set j _) _ _ _
      rw [wipe2']
      obtain ⟨t2, m1, m2⟩ := ht q hqm D ((ps.map g).take n) sb Hb Cb clb fpb
      refine ⟨_, pe_c, fun H s => toE s ⟨t2, m1, m2⟩ fun y H2 B2 L2 s2 ⟨e1, e2, e3⟩ => ⟨B2, L2, s2, ?_, L, e3, e2, rfl, ?_⟩⟩
      · simp; omega
      · rw [e1, List.take_add_one, List.getElem?_map, hq]; simp
    · rintro acc B L D ⟨rfl, rfl, rfl⟩
      have hlen := hpr.2.1
      have e2 : (ts.map V.ref).length = (ps.map g).length := by rw [List.length_map, List.length_map, hlen]
      rw [e2, List.take_length]
      exact hd D)) hc hs
end
end Kv

/-! Defs as values; more of lists. -/
namespace Kv
open PySem PySem.Spec PyProof.Rows L2
/-- a def as a value -/
structure FnV (P : Program) (w : World) (K : PySem.W.Frag) (mg : Str → Option Value) (base : Heap) (k : Nat) (f : Addr) (sp : Sp) : Prop where
  ex : ∃ fd ps, FnOk P w K mg base (L2.CX P w) k f fd ps sp ∧ PySem.W.keepIn K (.ref f) = true ∧ Binds K fd ps []
theorem Fn.val {P : Program} {w : World} {K : PySem.W.Frag} {mg : Str → Option Value} {base : Heap} {k : Nat} {x : Str} {sp : Sp} (F : Fn P w K mg base k x sp) : ∃ f, mg x = some (.ref f) ∧ FnV P w K mg base k f sp := by
  obtain ⟨f, fd, ps, h1, h2, h3, h4⟩ := F.ex
  exact ⟨f, h2, ⟨fd, ps, h1, h3, h4⟩⟩
section
variable {X : Cx} {σ : L2.St} {B : Hp} {L : HL} {Q : KQ} {pos p2 : Pos} {a b e : Expr} {es rest : List Expr}
theorem pe_callLS {i k : Nat} {f : Addr} {fd : FuncData} {ps : List Str} {sp : Sp} {E : L2.St → XK} {x : Str} {t : TA} (F : FnOk X.prog X.w X.K X.mg X.base (L2.CX X.prog X.w) k f fd ps sp) (hr : Room k X.A) (hN : X.N[i]? = some x) (hv : Vis X.env.scope x) (hk : PySem.W.keepIn X.K (.ref f) = true) (hb : Binds X.K fd ps []) (hx : ∀ σ, PassesAt (L2.CX X.prog X.w) X σ (E σ)) (ha : PA X (e :: es) t)
    (hdb : (x == ("__debug__" : Str)) = false := by decide) (hcd : (x == ("__classdict__" : Str)) = false := by decide)
    (he : starEach (e :: es) X.env = (false, eval e X.env) :: starEach es X.env := by rfl) (hpl : (backTo pos (starEach es X.env)).any (·.1) = false := by rfl) :
    PE X (.Call (.Name x p2) (e :: es) [] pos) (fun σ H Q => σ[i]? = some (some (.ref f)) ∧ t σ H fun vs H1 => sp vs H1 Q (E σ)) := by
  refine ⟨fun pins s σ H Q I h => ?_⟩
  obtain ⟨hs, ht⟩ := h
  refine wpAny_Call_Name_kw (thn ((pe_var (pos := p2) hN hv hdb hcd).run pins s σ H (fun v H1 => v = .ref f ∧ H1 = H) I ⟨.ref f, hs, rfl, rfl⟩) fun u s1 ⟨v, H1, I1, r1, q1⟩ => ?_)
  obtain ⟨rfl, rfl⟩ := q1
  cases r1
  refine PySem.W.callWith_K (h₀ := X.base) I.ok.mod.kin hk (thn (ha.run pos pins s1 σ _ _ I1 ht) fun us s2 ⟨vs, H2, I2, r, q⟩ => ⟨I2.kIn, ?_⟩) he hpl
  exact run_fnS F hr hb (hx σ) I2 r q
/-- a call of a local name that holds a def -/
theorem k_callL (i : Nat) {x : Str} {k : Nat} {f : Addr} {sp : Sp} {W : WX} (F : FnV X.prog X.w X.K X.mg X.base k f sp) (hr : Room k X.A) (tk : Takes X W) (h : kA X (e :: es) σ B L fun vs B1 L1 => ∀ H, Sat B1 L1 H → sp vs H (up Q) (WE W σ)) (hi : X.N[i]? = some x := by rfl) (hs : σ[i]? = some (some (.ref f)) := by rfl)
    (hv : Vis X.env.scope x := by first | exact Or.inl rfl | exact Or.inr (Or.inl rfl) | exact Or.inr (Or.inr rfl)) (hdb : (x == ("__debug__" : Str)) = false := by decide) (hcd : (x == ("__classdict__" : Str)) = false := by decide)
    (he : starEach (e :: es) X.env = (false, eval e X.env) :: starEach es X.env := by rfl) (hpl : (backTo pos (starEach es X.env)).any (·.1) = false := by rfl) : kE X (.Call (.Name x p2) (e :: es) [] pos) σ B L Q := by
  obtain ⟨fd, ps, hF, hk, hb⟩ := F.ex
  exact ⟨_, pe_callLS hF hr hi hv hk hb (fun σ => passAt tk σ) pa_c hdb hcd he hpl, fun H s => ⟨hs, toA s h fun _ _ _ _ s q => q _ s⟩⟩
/-- a list or another thing -/
theorem k_orL (h : kE X a σ B L fun x B1 L1 => ∃ p xs, x = .ref p ∧ Ls X.K B1 L1 p xs ∧ (xs ≠ [] → Q x B1 L1) ∧ (xs = [] → kE X (.BoolOp .Or (b :: rest) pos) σ B1 L1 Q)) : kE X (.BoolOp .Or (a :: b :: rest) pos) σ B L Q :=
  ⟨_, pe_orT pe_c pe_c, fun H s => toE s h fun v H1 B1 L1 s1 ⟨p, xs, e, hl, h1, h2⟩ => by
    subst e
    cases xs with
    | nil => exact ⟨false, .inl ⟨[], hl.at s1, rfl⟩, toE s1 (h2 rfl) fun _ _ _ _ s q => ⟨_, _, s, q⟩⟩
    | cons z zs => exact ⟨true, .inl ⟨z :: zs, hl.at s1, rfl⟩, ⟨_, _, s1, h1 (by simp)⟩⟩⟩
/-- list * int -/
theorem o_repl {p : Addr} {xs : List V} {n : Nat} (h1 : At B L p (.lst xs)) (hn : (n : Int) < 2 ^ 62) (hl : xs.length * n ≤ 16777216) (h : ∀ r, Q (.ref r) B ((r, .lst (List.replicate n xs).flatten) :: L)) : kO X (binaryOp .Mult) (.ref p) (.int (n : Int)) B L Q :=
  ⟨_, op_rep, fun H s => ⟨p, _, xs, rfl, rfl, h1.at s, by omega, by omega, by rw [Int.toNat_natCast]; exact small hl, fun r hr => ⟨_, _, s.new hr, by rw [Int.toNat_natCast]; exact h r⟩⟩⟩
end
section
variable {X : Cx} {σ : L2.St} {B : Hp} {L : HL} {Q : KQ}
theorem count_of {y : V} : ∀ {ys : List V} {its : List Value}, Vals ys its → ys.all flatV = true → its.countP (eqU y) = ys.countP fun z => eqV z y
  | _, _, .nil, _ => rfl
  | z :: ys, u :: its, .cons r t, f => by
    rw [List.all_cons, Bool.and_eq_true] at f
    rw [List.countP_cons, List.countP_cons, count_of t f.2, eqU_of r f.1]
def rCountF (K : PySem.W.Frag) : V → List V → Hp → VK → Prop := fun x xs H Q => ∃ (a : Addr) (ys : List V) (y : V), x = V.ref a ∧ xs = [y] ∧ SqL K H a ys ∧ flatV y = true ∧ ys.all flatV = true ∧ Q (.int ((ys.countP fun z => eqV z y : Nat) : Int)) H
theorem mt_countF : MtR X "list.count" (rCountF X.K) := by
  intro pins s σ H x xs v us Q I rx rxs h
  obtain ⟨a, ys, y, rfl, rfl, hs, fy, fys, q⟩ := h
  cases rx
  cases rxs with
  | cons ry rt =>
    rename_i uy ut
    cases rt
    obtain ⟨its, rv, ⟨⟨cls, dd, data, sl⟩, n, ho, hc, hdn, hd⟩, hlen⟩ := I.list hs
    simp only at hc hd
    subst hc hd
    refine call_meets PySem.F.slot_list_count ⟨_, ho, rfl⟩ PySem.F.entry_list_count (PySem.F.args_list_count_2 _ _)
      (SeqAt.list_countAt a its.toArray n dd sl uy (eqU y)) ⟨ho, fun u' hu' => mem_eqAt ry fy rv fys u' (by simpa using hu'), ?_⟩
    have ec : its.toArray.toList.countP (eqU y) = ys.countP fun z => eqV z y := count_of rv fys
    refine ⟨.int ((ys.countP fun z => eqV z y : Nat) : Int), H, I.tok _, ⟨s.toks, ?_⟩, q⟩
    show Value.int ((its.toArray.toList.countP (eqU y) : Nat) : Int) s.toks = _
    rw [ec]
theorem m_lcount {p : Addr} {ys : List V} {y : V} (h : Ls X.K B L p ys) (fy : flatV y = true) (fys : ys.all flatV = true) (q : Q (.int ((ys.countP fun z => eqV z y : Nat) : Int)) B L) : kMt X "list.count" (.ref p) [y] B L Q :=
  ⟨_, mt_countF, fun H s => ⟨p, ys, y, rfl, rfl, h.at s, fy, fys, _, _, s, q⟩⟩
theorem m_lindex {p : Addr} {ys : List V} {y z : V} (j : Nat) (h : Ls X.K B L p ys) (fy : flatV y = true) (fys : ys.all flatV = true) (hz : ys[j]? = some z) (e : eqV z y = true) (hno : ∀ (m : Nat) (z' : V), m < j → ys[m]? = some z' → eqV z' y = false) (q : Q (.int (j : Nat)) B L) : kMt X "list.index" (.ref p) [y] B L Q :=
  ⟨_, mt_index, fun H s => ⟨p, ys, y, j, z, rfl, rfl, h.at s, fy, fys, hz, e, hno, _, _, s, q⟩⟩
/-- {'a': 1} -/
theorem k_dict1 {k v : Expr} {pos : Pos} (h : ∀ D, kE X k σ B ((D, .dK []) :: L) fun x B1 L1 => ∃ (z : Str), x = .str z ∧ kE X v σ B1 L1 fun y B2 L2 => ∃ L', L2 = (D, .dK []) :: L' ∧ Q (.ref D) B2 ((D, .dK [(.inr z, y)]) :: L')) : kE X (.Dict [some k] [v] pos) σ B L Q :=
  ⟨_, pe_disp (pps_cons pe_c pe_c pps_nil) rfl rfl (by simp) (by simp), fun H s D hD => toE (s.new hD) (h D) fun x H1 B1 L1 s1 ⟨z, e1, h1⟩ => toE s1 h1 fun y H2 B2 L2 s2 ⟨L', e2, q⟩ => by
    subst e1 e2
    exact ⟨s2.own _ List.mem_cons_self, [(.inr z, y)], rfl, by simp, ⟨_, _, s2.rep Rep.here, q⟩⟩⟩
end
/-- all that stands goes to the base, but what is held by name -/
theorem Sat.grow {B : Hp} {L : HL} {H H' : Hp} (s : Sat B L H) (e : Le H H') : ∃ B', Le B B' ∧ Sat B' L H' ∧ ∀ H2, Sat B' L H2 → Le H' H2 := by
  classical
  refine ⟨fun b => if b ∈ L.map (·.1) then none else H' b, fun b o h => ?_, ⟨fun b o h => ?_, fun p hp => e _ _ (s.own p hp), fun p hp => ?_, s.nd⟩, fun H2 s2 b o h => ?_⟩
  · show (if b ∈ L.map (·.1) then none else H' b) = some o
    rw [if_neg fun hm => by
      obtain ⟨p, hp, rfl⟩ := List.mem_map.mp hm
      rw [s.nb p hp] at h; cases h]
    exact e _ _ (s.ext _ _ h)
  · have h' : (if b ∈ L.map (·.1) then none else H' b) = some o := h
    split at h'
    · cases h'
    · exact h'
  · show (if p.1 ∈ L.map (·.1) then none else H' p.1) = none
    rw [if_pos (List.mem_map.mpr ⟨p, hp, rfl⟩)]
  · by_cases hm : b ∈ L.map (·.1)
    · obtain ⟨p, hp, rfl⟩ := List.mem_map.mp hm
      have h1 := e _ _ (s.own p hp)
      rw [h] at h1
      rw [s2.own p hp, h1]
    · refine s2.ext b o ?_
      show (if b ∈ L.map (·.1) then none else H' b) = some o
      rw [if_neg hm]; exact h
section
variable {X : Cx} {σ : L2.St} {B : Hp} {L : HL} {Q : KQ} {p2 : Pos} {iter elt : Expr} {scope : Scope}
/-- [elt for x, y in a list of pairs that are held by name] -/
theorem k_lcm_v2 {x y : Str} {i j kk : Nat} {px py tpos : Pos} (g : V × V → V) (hN : X.N.Nodup) (ok : BlkOk X.N X.env.scope scope [(x, i), (y, j)])
    (h : kE X iter σ B L fun v B1 L1 => ∃ (a : Addr) (ts : List Addr) (ps : List (V × V)), v = .ref a ∧ Ls X.K B1 L1 a (ts.map V.ref) ∧ ts.length = ps.length ∧ ps.length ≤ 16777216 ∧ (∀ (k : Nat) t q, ts[k]? = some t → ps[k]? = some q → At B1 L1 t (.tup [q.1, q.2])) ∧ (∀ q ∈ ps, ∀ D acc s H0 C cl fp, kE (Bk X scope s H0 C cl fp) elt ((σ.set i (some q.1)).set j (some q.2)) B1 ((D, .lst acc) :: L1) fun y B3 L3 => y = g q ∧ B3 = B1 ∧ L3 = (D, .lst acc) :: L1) ∧
      ∀ D, Q (.ref D) B1 ((D, .lst (ps.map g)) :: L1))
    (hp : ∀ s H0 C cl fp, Loc (Bk X scope s H0 C cl fp).env.scope x ∧ Loc (Bk X scope s H0 C cl fp).env.scope y := by intro _ _ _ _ _; exact ⟨Or.inl rfl, Or.inl rfl⟩) (hf : ∀ s H0 C cl fp, (Bk X scope s H0 C cl fp).env.scope.names.lookup x = some .local ∧ (Bk X scope s H0 C cl fp).env.scope.names.lookup y = some .local := by intro _ _ _ _ _; exact ⟨rfl, rfl⟩)
    (hn : ∀ s H0 C cl fp, (assignEach [.Name x px, .Name y py] (Bk X scope s H0 C cl fp).env).length = 2 := by intro _ _ _ _ _; rfl) (hfi : ∀ s H0 C cl fp, (assignEach [.Name x px, .Name y py] (Bk X scope s H0 C cl fp).env).findIdx? (·.1) = none := by intro _ _ _ _ _; rfl)
    (h1 : ∀ s H0 C cl fp, (assignEach [.Name x px, .Name y py] (Bk X scope s H0 C cl fp).env).map (·.2) = assign (.Name x px) (Bk X scope s H0 C cl fp).env :: (assignEach [.Name y py] (Bk X scope s H0 C cl fp).env).map (·.2) := by intro _ _ _ _ _; rfl)
    (h2 : ∀ s H0 C cl fp, (assignEach [.Name y py] (Bk X scope s H0 C cl fp).env).map (·.2) = assign (.Name y py) (Bk X scope s H0 C cl fp).env :: (assignEach [] (Bk X scope s H0 C cl fp).env).map (·.2) := by intro _ _ _ _ _; rfl)
    (hi : X.N[i]? = some x := by rfl) (hj : X.N[j]? = some y := by rfl) (hc : X.calm = true := by rfl) (hs : ∀ x, foldedSetIterable iter X.env x = pure x := by intro _; rfl) :
    kL X elt (.Tuple [.Name x px, .Name y py] kk tpos) iter [] scope [(x, i), (y, j)] σ B L Q :=
  k_lc hN ok (r_list (by
    obtain ⟨t, k1, k2⟩ := h
    refine ⟨_, pe_c, fun H s => toE s ⟨t, k1, k2⟩ fun v H' B1 L1 s' ⟨a, ts, ps, e, hls, hlen, hl, hat, ht, hd⟩ => ⟨B1, L1, s', a, ts.map V.ref, e, hls, (ts.map V.ref).length, _, _, fun i acc B L => B = B1 ∧ L = L1 ∧ acc = (ps.map g).take i, walk_list, ⟨rfl, rfl, by simp⟩, ?_, ?_, ?_⟩⟩
    · rintro i acc B L H hi ⟨rfl, rfl, _⟩ s
      exact hls.at s
    · rintro D n acc z B L H H' hn' ⟨rfl, rfl, rfl⟩ s ⟨rfl, hx⟩
      rw [List.getElem?_map] at hx
      obtain ⟨tn, htn, rfl⟩ := Option.map_eq_some_iff.mp hx
      have hnl := (List.getElem?_eq_some_iff.mp htn).1
      obtain ⟨q, hq⟩ : ∃ q, ps[n]? = some q := ⟨_, List.getElem?_eq_getElem (by omega)⟩
      have hqm := List.mem_of_getElem? hq
      have htup := hat n tn q htn hq
      refine ⟨_, _, s, fun sa Ha Ca cla fpa => ?_⟩
      have hT : Tp (Bk X scope sa Ha Ca cla fpa).K B ((D, .lst ((ps.map g).take n)) :: L) tn [q.1, q.2] := htup.elim (fun h => .inl (.inl (.inl h))) fun h => .inr (.tail _ h)
      refine g_tup (n := 2) hT rfl ?_ hc (hn sa Ha Ca cla fpa) (hfi sa Ha Ca cla fpa)
      refine gs_cons (g_name i ?_ hN hi (hp sa Ha Ca cla fpa).1 (.inr (hf sa Ha Ca cla fpa).1)) (h1 sa Ha Ca cla fpa)
      refine gs_cons (g_name j ?_ hN hj (hp sa Ha Ca cla fpa).2 (.inr (hf sa Ha Ca cla fpa).2)) (h2 sa Ha Ca cla fpa)
      refine gs_nil ⟨wipe2 σ i j _ _, fun sb Hb Cb clb fpb => ?_⟩
      show kE _ _ (((wipe σ [i, j]).set i _).set j _) _ _ _
      rw [wipe2']
      obtain ⟨t2, m1, m2⟩ := ht q hqm D ((ps.map g).take n) sb Hb Cb clb fpb
      refine ⟨_, pe_c, fun H s => toE s ⟨t2, m1, m2⟩ fun y H2 B2 L2 s2 ⟨e1, e2, e3⟩ => ⟨B2, L2, s2, ?_, L, e3, e2, rfl, ?_⟩⟩
      · simp; omega
      · rw [e1, List.take_add_one, List.getElem?_map, hq]; simp
    · rintro acc B L D ⟨rfl, rfl, rfl⟩
      have e2 : (ts.map V.ref).length = (ps.map g).length := by rw [List.length_map, List.length_map, hlen]
      rw [e2, List.take_length]
      exact hd D)) hc hs
end
section
variable {X : Cx} {σ : L2.St} {B : Hp} {L : HL} {Q : KQ} {e : Expr}
/-- all objects go to the base -/
theorem k_frz (h : kE X e σ B L fun v B1 L1 => ∀ B2, Le B1 B2 → (∀ p ∈ L1, B2 p.1 = some p.2) → Q v B2 []) : kE X e σ B L Q :=
  ⟨_, pe_c, fun H s => toE s h fun v H1 B1 L1 s1 q => ⟨H1, [], Sat.whole, q H1 s1.ext s1.own⟩⟩
end
/-- .. at a call -/
theorem frz_up {B : Hp} {L : HL} {H H' : Hp} {Q : KQ} {v : V} (s : Sat B L H) (e : Le H H') (q : ∀ B2, Le B B2 → (∀ p ∈ L, B2 p.1 = some p.2) → B2 = H' → Q v B2 []) : up Q v H' :=
  ⟨H', [], Sat.whole, q H' (fun b o h => e _ _ (s.ext _ _ h)) (fun p hp => e _ _ (s.own p hp)) rfl⟩
end Kv

/-! list(text) -/
namespace Kv
open PySem PySem.Spec PyProof.Rows L2
section
variable {X : Cx} {σ : L2.St} {B : Hp} {L : HL} {Q : KQ}
theorem call_listS (hcalm : X.calm = true) : CallR X (.type "list") (fun xs H Q => ∃ l : List Nat, xs = [.str (sOf l)] ∧ l.length ≤ sizeLine ∧ ∀ p, H p = none → Q (.ref p) (upd H p (.lst (l.map fun c => .str (sOf [c]))))) := by
  intro pins s σ H xs us Q I r q
  obtain ⟨l, ex, hl, q⟩ := q
  subst ex
  obtain ⟨u, eu, rx⟩ := vals1 r
  subst eu
  obtain ⟨t, rfl⟩ := rx
  refine call_list_str (I.ok.hd hcalm) (sOf l) t (fun h' tk acc c' hk hD hacc => ?_) hl
  have hv : Vals (l.map fun c => V.str (sOf [c])) acc.toList := vals_of_idx _ _ (by rw [Array.length_toList, List.length_map]; exact hacc.1) fun j u e => by
    obtain ⟨c, t', hc, rfl⟩ := hacc.2 j u (by rw [← Array.getElem?_toList]; exact e)
    refine ⟨.str (sOf [c]), ?_, t', rfl⟩
    rw [List.getElem?_map]
    have h1 : l[j]? = some c := by
      have h2 : (sOf l).cps.toList[j]? = some c := by rw [Array.getElem?_toList]; exact hc
      exact h2
    rw [h1]; rfl
  exact ⟨.ref s.heap.objs.size, upd H s.heap.objs.size (.lst (l.map fun c => .str (sOf [c]))), I.laid (t' := tk) hk (Nat.le_refl _)
    (show ObjOk X.prog X.w _ _ _ (.lst (l.map fun c => .str (sOf [c]))) from ⟨by rw [List.length_map]; exact hl, acc.toList, c', hv, by rw [Array.toArray_toList]; exact hD⟩), rfl, q _ (I.hok.fresh (Nat.le_refl _))⟩
theorem c_lists {l : List Nat} (q : ∀ p, Q (.ref p) B ((p, .lst (l.map fun c => .str (sOf [c]))) :: L)) (hl : l.length ≤ 16777216) (hc : X.calm = true := by rfl) : kC X (.type "list") [.str (sOf l)] B L Q :=
  ⟨_, call_listS hc, fun H s => ⟨l, rfl, small hl, fun p hp => ⟨_, _, s.new hp, q p⟩⟩⟩
end
end Kv

/-! The head: facts of the top by names. -/
namespace Kv
open PySem PySem.Spec PyProof.Rows L2
section
variable {K : PySem.W.Frag} {h : Heap} {mg : Str → Option Value}
theorem fun_d {x qual : Str} {st : Stmt} {f : Addr} {fd : FuncData} (F : FunD K x qual (defArgs st) (defBody st) (defScope st) [] [] f fd) : Fun K x qual st f fd := by
  obtain ⟨u, v, dV, kV, doc, pm, an, cv, t, sl, e, q, hc, hD, _⟩ := F.ex
  rcases hD with ⟨_, e2⟩ | ⟨e2, _⟩
  · subst e2
    exact ⟨⟨u, v, kV, doc, pm, an, cv, t, sl, e, q, hc⟩, F.kp⟩
  · exact absurd rfl e2
/-- a def of the top, a method -/
abbrev dTop (x : Str) (st : Stmt) : He.DefD := ⟨(x, none), x, x, defArgs st, defBody st, defScope st, [], []⟩
abbrev dMth (C m q : Str) (st : Stmt) : He.DefD := ⟨(C, some m), m, q, defArgs st, defBody st, defScope st, [], []⟩
theorem d_top {fa : List He.Fa} {fn : List He.DefD} {x : Str} {st : Stmt} (c : He.SaysD fa fn K) (i : Nat) (h : fn[i]? = some (dTop x st)) : ∃ fd, FunD K x x (defArgs st) (defBody st) (defScope st) [] [] (He.ga K x) fd := c.def_ i h
theorem d_mth {fa : List He.Fa} {fn : List He.DefD} {C m q : Str} {st : Stmt} (c : He.SaysD fa fn K) (i : Nat) (h : fn[i]? = some (dMth C m q st)) : ∃ fd, FunD K m q (defArgs st) (defBody st) (defScope st) [] [] (He.ma K (He.ga K C) m) fd := c.def_ i h
def isoB (K : PySem.W.Frag) (x : Str) : Bool :=
  (He.eqO (PySem.W.findIn K (.ref (He.ga K x)) "__class__") (some (some (.builtin "object.__class__"))) && He.eqO (PySem.W.specialIn K (.builtin "object.__class__") "__get__") (some (some (.builtin "getset_descriptor.__get__")))) &&
  ((decide (PySem.W.takesIn K (.builtin "object.__class__") = some true) && decide (PySem.W.mroIn K (He.ga K x) (.type "object") = some true)) && decide (PySem.W.kitOne K (.ref (He.ga K x)) (.ref (He.ga K x)) = some true))
theorem iso_of {x : Str} (c : (He.Fa.cls x).ok K = true) (e : isoB K x = true) : IsO K (He.ga K x) := by
  unfold isoB at e
  obtain ⟨e1, e2⟩ := He.ba e
  obtain ⟨a1, a2⟩ := He.ba e1
  obtain ⟨e3, a5⟩ := He.ba e2
  obtain ⟨a3, a4⟩ := He.ba e3
  exact ⟨He.cls_ok c, He.eqO_ok a1, He.eqO_ok a2, of_decide_eq_true a3, of_decide_eq_true a4, of_decide_eq_true a5⟩
theorem exk_of (X : K.In h) (G : h.Ns mainGlobals mg) {x : Str} (c1 : (He.Fa.glo x).ok K = true) (c2 : (He.Fa.exc x).ok K = true) : ExK K mg x (He.ga K x) := by
  obtain ⟨a1, a2, a3, a4⟩ := He.exc_ok c2
  exact ⟨He.glo_ok X G c1, a1, a2, a3, a4⟩
theorem cx_end {P : Program} {w : World} {H : Hp} {s : Shared} {e : Value} {s' : Shared} (h : L2.CX P w [] H s (fun _ _ _ => False) e s') : False := by
  obtain ⟨_, _, _, _, _, _, _, _, _, _, _, _, z⟩ := h
  exact z
end
/-- the law's def, all that is known of it -/
theorem walk_end {l : PySem.W.OpenLaw} {n k : Nat} {q : Program} {loose : List Str} {XP : (Str → Option Value) → Heap → Prop} {YP : World → Heap → Prop} {d : DefRec} {x : Str} (hn : l.most = some n) (hn2 : n ≤ sizeLine) (hdf : d.params.defaults = []) (hr : Room k callerA)
    (F : ∀ (w : World) (mg : Str → Option Value) (fa : Addr) (h : Heap), YP w h → h.Ns mainGlobals mg → mg d.name = some (.ref fa) → ∃ (K : PySem.W.Frag) (fd : FuncData) (sp : Sp), K.In h ∧ (∀ (s : Shared) (u : Value), BindsTo s fd ⟨[u], []⟩ [(x, u)]) ∧
      (∀ (H : Hp) (a : Addr) (ns : List Int), ns.length ≤ n → Only H → SqL K H a (ns.map V.int) → sp [.ref a] H (fun v _ => v = .bl true) fun _ _ _ => False) ∧ ∀ base : Heap, K.In base → base.Ns mainGlobals mg → FnOk l.prog w K mg base (L2.CX l.prog w) k fa fd [x] sp) :
    PySem.W.WalkO q loose XP YP l.row.toRowW d [] (fun f vs => PySem.call f vs) := by
  refine Att.attach_call hn hdf fun w t0 t1 mg mb fa o u cv dc a vs ns G Y e1 e2 e3 e4 e5 e6 e7 e8 => ?_
  obtain ⟨K, fd, sp, KX, hb, hsp, hF⟩ := F w mg fa _ Y G.T.g e4
  exact law_call KX G.T.g G.T.b G.T.builtins G.T.nolimit e8 e5 e6 (Nat.le_trans e7 hn2) hr hF hb (fun H o1 o2 => hsp H a ns e7 o1 o2) fun H e s' z => cx_end z
end Kv
namespace Kv
open PySem PySem.Spec PyProof.Rows L2
def excB (K : PySem.W.Frag) (x : Str) : Bool :=
  (He.eqO (PySem.W.findIn K (.ref (He.ga K x)) "__getattribute__") (some (some (.builtin "BaseException.__getattribute__"))) && He.eqO (PySem.W.findIn K (.ref (He.ga K x)) "__getattr__") (some none)) &&
  ((decide (PySem.W.subIn K (.ref (He.ga K x)) (.type "BaseException") = some true) && PySem.W.hasDictIn K (He.ga K x)) &&
  ((He.eqO (PySem.W.findIn K (.ref (He.ga K x)) "__class__") (some (some (.builtin "object.__class__"))) && He.eqO (PySem.W.specialIn K (.builtin "object.__class__") "__get__") (some (some (.builtin "getset_descriptor.__get__")))) &&
  (decide (PySem.W.takesIn K (.builtin "object.__class__") = some true) && decide (PySem.W.mroIn K (He.ga K x) (.type "object") = some true))))
theorem excc_of {K : PySem.W.Frag} {x : Str} (e : excB K x = true) : ExcC K (He.ga K x) := by
  unfold excB at e
  obtain ⟨e1, e2⟩ := He.ba e
  obtain ⟨a1, a2⟩ := He.ba e1
  obtain ⟨e3, e4⟩ := He.ba e2
  obtain ⟨a3, a4⟩ := He.ba e3
  obtain ⟨e5, e6⟩ := He.ba e4
  obtain ⟨a5, a6⟩ := He.ba e5
  obtain ⟨a7, a8⟩ := He.ba e6
  exact ⟨He.eqO_ok a1, He.eqO_ok a2, of_decide_eq_true a3, a4, He.eqO_ok a5, He.eqO_ok a6, of_decide_eq_true a7, of_decide_eq_true a8⟩
/-- isinstance between own classes -/
def kitB2 (K : PySem.W.Frag) (x y : Str) (b : Bool) : Bool := decide (PySem.W.kitOne K (.ref (He.ga K x)) (.ref (He.ga K y)) = some b)
theorem kit2_of {K : PySem.W.Frag} {x y : Str} {b : Bool} (e : kitB2 K x y b = true) : PySem.W.kitOne K (.ref (He.ga K x)) (.ref (He.ga K y)) = some b := of_decide_eq_true e
/-- isinstance of an own class's thing, a built-in class -/
def kitBT (K : PySem.W.Frag) (x : Str) (y : String) (b : Bool) : Bool := decide (PySem.W.kitOne K (.ref (He.ga K x)) (.type y) = some b)
theorem kitT_of {K : PySem.W.Frag} {x : Str} {y : String} {b : Bool} (e : kitBT K x y b = true) : PySem.W.kitOne K (.ref (He.ga K x)) (.type y) = some b := of_decide_eq_true e
end Kv

/-! Tails, cores, roots of words: plain. -/
namespace Rt
open Fg
/-- one more letter goes away from both ends -/
def tstep (l : List Nat) (k : Nat) : Bool := decide (2 * k + 1 < l.length) && decide (l[k]? = (l[l.length - 1 - k]?).map bk)
def tgo (l : List Nat) : Nat → Nat → Nat
  | 0, k => k
  | f + 1, k => if tstep l k = true then tgo l f (k + 1) else k
def tlen (l : List Nat) : Nat := tgo l l.length 0
theorem tgo_stop {l : List Nat} {k : Nat} (h : tstep l k = false) : ∀ f, tgo l f k = k
  | 0 => rfl
  | f + 1 => by show (if tstep l k = true then _ else _) = _; rw [h]; rfl
theorem tgo_go {l : List Nat} {k f : Nat} (h : tstep l k = true) : tgo l (f + 1) k = tgo l f (k + 1) := by show (if tstep l k = true then _ else _) = _; rw [h]; rfl
theorem tstep_lt {l : List Nat} {k : Nat} (h : tstep l k = true) : 2 * k + 1 < l.length := by
  unfold tstep at h; rw [Bool.and_eq_true] at h; exact of_decide_eq_true h.1
/-- the walk's invariant: k so far -/
def Tin (l : List Nat) (k : Nat) : Prop := 2 * k ≤ l.length ∧ (∀ j, j < k → tstep l j = true) ∧ tgo l (l.length - k) k = tlen l
theorem tin_0 (l : List Nat) : Tin l 0 := ⟨by omega, fun j h => absurd h (Nat.not_lt_zero _), rfl⟩
theorem tin_s {l : List Nat} {k : Nat} (h : Tin l k) (s : tstep l k = true) : Tin l (k + 1) := by
  have hl := tstep_lt s
  refine ⟨by omega, fun j hj => ?_, ?_⟩
  · rcases Nat.lt_succ_iff_lt_or_eq.mp hj with h1 | h1
    · exact h.2.1 j h1
    · rw [h1]; exact s
  · rw [← h.2.2]
    have e : l.length - k = (l.length - (k + 1)) + 1 := by omega
    rw [e, tgo_go s]
theorem tin_end {l : List Nat} {k : Nat} (h : Tin l k) (s : tstep l k = false) : k = tlen l := by rw [← h.2.2, tgo_stop s]
/-- what the tail's length is, by what it is -/
theorem tlen_eq {l : List Nat} {k : Nat} (h : ∀ j, j < k → tstep l j = true) (s : tstep l k = false) : tlen l = k := by
  have go : ∀ j, j ≤ k → Tin l j := by
    intro j
    induction j with
    | zero => exact fun _ => tin_0 l
    | succ j ih => exact fun hj => tin_s (ih (by omega)) (h j (by omega))
  exact (tin_end (go k (Nat.le_refl _)) s).symm
theorem tlen_in (l : List Nat) : Tin l (tlen l) ∧ tstep l (tlen l) = false := by
  have go : ∀ f k, Tin l k → l.length - k ≤ f → Tin l (tlen l) ∧ tstep l (tlen l) = false := by
    intro f
    induction f with
    | zero =>
      intro k h hf
      cases hs : tstep l k with
      | true => have := tstep_lt hs; omega
      | false => rw [← tin_end h hs]; exact ⟨h, hs⟩
    | succ f ih =>
      intro k h hf
      cases hs : tstep l k with
      | true => exact ih (k + 1) (tin_s h hs) (by omega)
      | false => rw [← tin_end h hs]; exact ⟨h, hs⟩
  exact go l.length 0 (tin_0 l) (by omega)
def tail (l : List Nat) : List Nat := l.take (tlen l)
def core (l : List Nat) : List Nat := (l.drop (tlen l)).take (l.length - 2 * tlen l)
theorem tlen_le (l : List Nat) : 2 * tlen l ≤ l.length := (tlen_in l).1.1
theorem core_len (l : List Nat) : (core l).length = l.length - 2 * tlen l := by
  have := tlen_le l
  unfold core; rw [List.length_take, List.length_drop]; omega
theorem tail_len (l : List Nat) : (tail l).length = tlen l := by
  have := tlen_le l
  unfold tail; rw [List.length_take]; omega
theorem tstep_at {l : List Nat} {k : Nat} (h : tstep l k = true) : ∃ x, l[k]? = some (bk x) ∧ l[l.length - 1 - k]? = some x := by
  have hl := tstep_lt h
  unfold tstep at h; rw [Bool.and_eq_true] at h
  have e := of_decide_eq_true h.2
  have hx : l[l.length - 1 - k]? = some l[l.length - 1 - k] := List.getElem?_eq_getElem (by omega)
  rw [hx] at e
  exact ⟨_, e, hx⟩
/-- a word is tail, core, the tail's back -/
theorem word_eq (l : List Nat) : l = tail l ++ core l ++ inv (tail l) := by
  have h1 := tlen_le l
  have hin := (tlen_in l).1.2.1
  have e3 : inv (tail l) = l.drop (l.length - tlen l) := by
    apply List.ext_getElem?
    intro i
    by_cases hi : i < tlen l
    · have hj : tlen l - 1 - i < tlen l := by omega
      obtain ⟨x, e1, e2⟩ := tstep_at (hin _ hj)
      unfold inv
      have hlen : ((tail l).map bk).length = tlen l := by rw [List.length_map, tail_len]
      rw [List.getElem?_reverse (by rw [hlen]; exact hi), hlen, List.getElem?_map, List.getElem?_drop]
      have e4 : (tail l)[tlen l - 1 - i]? = some (bk x) := by unfold tail; rw [List.getElem?_take_of_lt hj]; exact e1
      rw [e4]
      have e5 : l.length - 1 - (tlen l - 1 - i) = l.length - tlen l + i := by omega
      rw [e5] at e2
      rw [e2]
      show some (bk (bk x)) = some x
      rw [bk_bk]
    · rw [List.getElem?_eq_none (by rw [inv_len, tail_len]; omega), List.getElem?_eq_none (by rw [List.length_drop]; omega)]
  rw [e3]
  have e4 : l.drop (l.length - tlen l) = (l.drop (tlen l)).drop (l.length - 2 * tlen l) := by rw [List.drop_drop]; congr 1; omega
  rw [e4, List.append_assoc]
  unfold tail core
  rw [List.take_append_drop, List.take_append_drop]
/-- the ends of a word don't go away -/
def CR (u : List Nat) : Prop := u.length ≤ 1 ∨ ∀ x y, u[0]? = some x → u[u.length - 1]? = some y → x ≠ bk y
theorem core_cr (l : List Nat) : CR (core l) := by
  have hs := (tlen_in l).2
  have h1 := tlen_le l
  have hc := core_len l
  by_cases h : (core l).length ≤ 1
  · exact .inl h
  · refine .inr fun x y e1 e2 hxy => ?_
    have hl : 2 * tlen l + 1 < l.length := by omega
    unfold tstep at hs
    rw [decide_eq_true hl, Bool.true_and, decide_eq_false_iff_not] at hs
    apply hs
    have f1 : (core l)[0]? = l[tlen l]? := by unfold core; rw [List.getElem?_take_of_lt (by omega), List.getElem?_drop]; congr 1
    have f2 : (core l)[(core l).length - 1]? = l[l.length - 1 - tlen l]? := by
      rw [hc]; unfold core; rw [List.getElem?_take_of_lt (by omega), List.getElem?_drop]; congr 1; omega
    rw [← f1, ← f2, e1, e2, hxy]; rfl
theorem core_ne {l : List Nat} (hw : Wd l) (hl : l ≠ []) : 1 ≤ (core l).length := by
  have h1 := tlen_le l
  have hin := (tlen_in l).1.2.1
  rw [core_len]
  have hpos : 0 < l.length := List.length_pos_iff.mpr hl
  by_cases h : 2 * tlen l = l.length
  · exfalso
    obtain ⟨x, e1, e2⟩ := tstep_at (hin (tlen l - 1) (by omega))
    have e3 : l.length - 1 - (tlen l - 1) = tlen l - 1 + 1 := by omega
    rw [e3] at e2
    have key : ∀ {l : List Nat} (n : Nat) {a b : Nat}, Wd l → l[n]? = some a → l[n + 1]? = some b → b ≠ bk a := by
      intro l
      induction l with
      | nil => intro n a b _ h; simp at h
      | cons p r ih =>
        intro n a b hw h1 h2
        cases n with
        | zero =>
          cases r with
          | nil => simp at h2
          | cons q r' =>
            have q1 : p = a := by simpa using h1
            have q2 : q = b := by simpa using h2
            rw [← q1, ← q2]; exact hw.1
        | succ n => exact ih n hw.tail (by simpa using h1) (by simpa using h2)
    exact key (tlen l - 1) hw e1 e2 (bk_bk x).symm
  · omega
/-- the parts of a word put together so -/
theorem tlen_of {t u : List Nat} (hu : 1 ≤ u.length) (hc : CR u) : tlen (t ++ u ++ inv t) = t.length := by
  have hlen : (t ++ u ++ inv t).length = 2 * t.length + u.length := by rw [List.length_append, List.length_append, inv_len]; omega
  refine tlen_eq (fun j hj => ?_) ?_
  · unfold tstep
    rw [hlen, Bool.and_eq_true]
    refine ⟨decide_eq_true (by omega), decide_eq_true ?_⟩
    have hx : t[j]? = some t[j] := List.getElem?_eq_getElem hj
    rw [List.append_assoc, List.getElem?_append_left hj, hx, ← List.append_assoc, List.getElem?_append_right (by rw [List.length_append]; omega)]
    unfold inv
    rw [List.length_append, List.getElem?_reverse (by rw [List.length_map]; omega), List.length_map, List.getElem?_map]
    have e : t.length - 1 - (2 * t.length + u.length - 1 - j - (t.length + u.length)) = j := by omega
    rw [e, hx]
    show some t[j] = some (bk (bk t[j]))
    rw [bk_bk]
  · unfold tstep
    rw [hlen]
    rcases hc with h | h
    · rw [decide_eq_false (by omega)]; rfl
    · by_cases h1 : u.length ≤ 1
      · rw [decide_eq_false (by omega)]; rfl
      · rw [decide_eq_true (by omega), Bool.true_and, decide_eq_false_iff_not]
        have g1 : (t ++ u ++ inv t)[t.length]? = some u[0] := by rw [List.append_assoc, List.getElem?_append_right (Nat.le_refl _), Nat.sub_self, List.getElem?_append_left (by omega), List.getElem?_eq_getElem (by omega)]
        have g2 : (t ++ u ++ inv t)[2 * t.length + u.length - 1 - t.length]? = some u[u.length - 1] := by
          have e : 2 * t.length + u.length - 1 - t.length = t.length + (u.length - 1) := by omega
          rw [e, List.append_assoc, List.getElem?_append_right (by omega), List.getElem?_append_left (by omega), List.getElem?_eq_getElem (by omega)]
          congr 2; omega
        rw [g1, g2]
        intro e
        exact h u[0] u[u.length - 1] (List.getElem?_eq_getElem (by omega)) (List.getElem?_eq_getElem (by omega)) (Option.some.inj e)
theorem tail_of {t u : List Nat} (hu : 1 ≤ u.length) (hc : CR u) : tail (t ++ u ++ inv t) = t := by
  unfold tail; rw [tlen_of hu hc, List.append_assoc, List.take_left']; rfl
theorem core_of {t u : List Nat} (hu : 1 ≤ u.length) (hc : CR u) : core (t ++ u ++ inv t) = u := by
  unfold core; rw [tlen_of hu hc]
  have e : (t ++ u ++ inv t).length - 2 * t.length = u.length := by rw [List.length_append, List.length_append, inv_len]; omega
  rw [e, List.append_assoc, List.drop_left', List.take_left']
  · rfl
  · rfl
/-! ### powers -/
open Kv (rep rep_len)
theorem rep_s {α : Type} (u : List α) (m : Nat) : rep u (m + 1) = u ++ rep u m := by unfold rep; rw [List.replicate_succ, List.flatten_cons]
theorem rep_0 {α : Type} (u : List α) : rep u 0 = [] := rfl
theorem rep_1 {α : Type} (u : List α) : rep u 1 = u := by rw [rep_s, rep_0, List.append_nil]
theorem rep_add {α : Type} (u : List α) (a b : Nat) : rep u (a + b) = rep u a ++ rep u b := by unfold rep; rw [← List.replicate_append_replicate, List.flatten_append]
theorem rep_s' {α : Type} (u : List α) (m : Nat) : rep u (m + 1) = rep u m ++ u := by rw [rep_add, rep_1]
theorem rep_rep {α : Type} (v : List α) (k m : Nat) : rep (rep v k) m = rep v (k * m) := by
  induction m with
  | zero => rfl
  | succ m ih => rw [rep_s', ih, Nat.mul_succ, rep_add]
theorem inv_rep (u : List Nat) (m : Nat) : inv (rep u m) = rep (inv u) m := by
  induction m with
  | zero => rfl
  | succ m ih => rw [rep_s, inv_app, ih, rep_s']
def Pw (c : List Nat) (m : Nat) : Bool := decide (rep (c.take (c.length / m)) m = c)
theorem rep_take {α : Type} (u : List α) {m : Nat} (h : 1 ≤ m) : (rep u m).take u.length = u := by
  obtain ⟨k, rfl⟩ : ∃ k, m = k + 1 := ⟨m - 1, by omega⟩
  rw [rep_s, List.take_left']; rfl
theorem pw_iff {c : List Nat} {m : Nat} (h : 1 ≤ m) : Pw c m = true ↔ ∃ u, c = rep u m := by
  unfold Pw
  rw [decide_eq_true_iff]
  constructor
  · intro e; exact ⟨_, e.symm⟩
  · rintro ⟨u, rfl⟩
    have e : (rep u m).length / m = u.length := by rw [rep_len, Nat.mul_div_cancel_left _ (by omega)]
    rw [e, rep_take u h]
def pgo (c : List Nat) : Nat → Nat
  | 0 => 0
  | n + 1 => if Pw c (n + 1) = true then n + 1 else pgo c n
def pmax (c : List Nat) : Nat := pgo c c.length
theorem pgo_le (c : List Nat) : ∀ n, pgo c n ≤ n
  | 0 => Nat.le_refl _
  | n + 1 => by
    show (if Pw c (n + 1) = true then n + 1 else pgo c n) ≤ n + 1
    split
    · exact Nat.le_refl _
    · exact Nat.le_succ_of_le (pgo_le c n)
theorem pgo_top (c : List Nat) : ∀ n m, pgo c n < m → m ≤ n → Pw c m = false
  | 0, m, h1, h2 => by omega
  | n + 1, m, h1, h2 => by
    have e : pgo c (n + 1) = if Pw c (n + 1) = true then n + 1 else pgo c n := rfl
    rw [e] at h1
    by_cases h : Pw c (n + 1) = true
    · rw [if_pos h] at h1; omega
    · rw [if_neg h] at h1
      rcases Nat.lt_or_eq_of_le h2 with h3 | h3
      · exact pgo_top c n m h1 (by omega)
      · rw [h3]; simpa using h
theorem pgo_pw (c : List Nat) : ∀ n, pgo c n ≠ 0 → Pw c (pgo c n) = true
  | 0, h => absurd rfl h
  | n + 1, h => by
    have e : pgo c (n + 1) = if Pw c (n + 1) = true then n + 1 else pgo c n := rfl
    by_cases h2 : Pw c (n + 1) = true
    · rw [e, if_pos h2]; exact h2
    · rw [e, if_neg h2] at h ⊢; exact pgo_pw c n h
theorem pw_1 (c : List Nat) : Pw c 1 = true := (pw_iff (Nat.le_refl _)).mpr ⟨c, (rep_1 c).symm⟩
theorem pmax_ok {c : List Nat} (h : 1 ≤ c.length) : 1 ≤ pmax c ∧ pmax c ≤ c.length ∧ Pw c (pmax c) = true ∧ ∀ m, pmax c < m → m ≤ c.length → Pw c m = false := by
  have h1 : 1 ≤ pmax c := by
    rcases Nat.lt_or_ge (pmax c) 1 with h2 | h2
    · have := pgo_top c c.length 1 h2 h
      rw [pw_1] at this; cases this
    · exact h2
  exact ⟨h1, pgo_le _ _, pgo_pw _ _ (by unfold pmax at h1; omega), fun m => pgo_top _ _ m⟩
theorem pmax_eq {c : List Nat} {m : Nat} (h : 1 ≤ m ∧ m ≤ c.length) (hp : Pw c m = true) (ht : ∀ k, m < k → k ≤ c.length → Pw c k = false) : pmax c = m := by
  have ⟨a1, a2, a3, a4⟩ := pmax_ok (c := c) (by omega)
  rcases Nat.lt_trichotomy (pmax c) m with h1 | h1 | h1
  · have := a4 m h1 h.2; rw [hp] at this; cases this
  · exact h1
  · have := ht _ h1 a2; rw [a3] at this; cases this
/-- the piece of a core that is taken again and again -/
def piece (c : List Nat) : List Nat := c.take (c.length / pmax c)
theorem piece_eq {c : List Nat} (h : 1 ≤ c.length) : c = rep (piece c) (pmax c) := by
  have h1 := (pmax_ok h).2.2.1
  unfold Pw at h1
  exact (of_decide_eq_true h1).symm
theorem piece_len {c : List Nat} (h : 1 ≤ c.length) : 1 ≤ (piece c).length := by
  have e := congrArg List.length (piece_eq h)
  rw [rep_len] at e
  rcases Nat.eq_zero_or_pos (piece c).length with h0 | h0
  · rw [h0] at e; omega
  · exact h0
theorem piece_one {c : List Nat} (h : 1 ≤ c.length) : pmax (piece c) = 1 := by
  have hp := piece_len h
  have ⟨a1, a2, a3, a4⟩ := pmax_ok h
  refine pmax_eq ⟨Nat.le_refl _, hp⟩ (pw_1 _) fun k hk hl => ?_
  cases hq : Pw (piece c) k with
  | false => rfl
  | true =>
    exfalso
    obtain ⟨v, hv⟩ := (pw_iff (by omega)).mp hq
    have e : c = rep v (k * pmax c) := by
      rw [← rep_rep, ← hv]; exact piece_eq h
    have hlen := congrArg List.length e
    rw [rep_len] at hlen
    have hv1 : 1 ≤ v.length := by
      rcases Nat.eq_zero_or_pos v.length with h0 | h0
      · rw [h0] at hlen; omega
      · exact h0
    have hlt : pmax c < k * pmax c := by
      have : 2 * pmax c ≤ k * pmax c := Nat.mul_le_mul_right _ hk
      omega
    have hle : k * pmax c ≤ c.length := by
      rw [hlen]; exact Nat.le_mul_of_pos_right _ hv1
    have := a4 _ hlt hle
    rw [(pw_iff (by omega)).mpr ⟨v, e⟩] at this
    cases this
theorem pw_inv {c : List Nat} {m : Nat} (h : 1 ≤ m) : Pw (inv c) m = Pw c m := by
  rw [Bool.eq_iff_iff, pw_iff h, pw_iff h]
  constructor
  · rintro ⟨u, e⟩
    refine ⟨inv u, ?_⟩
    rw [← inv_rep, ← e, inv_inv]
  · rintro ⟨u, e⟩
    exact ⟨inv u, by rw [e, inv_rep]⟩
theorem pmax_inv {c : List Nat} (h : 1 ≤ c.length) : pmax (inv c) = pmax c := by
  have ⟨a1, a2, a3, a4⟩ := pmax_ok h
  refine pmax_eq ⟨a1, by rw [inv_len]; exact a2⟩ (by rw [pw_inv a1]; exact a3) fun k hk hl => ?_
  rw [pw_inv (by omega)]
  exact a4 k hk (by rw [inv_len] at hl; exact hl)
theorem piece_inv {c : List Nat} (h : 1 ≤ c.length) : piece (inv c) = inv (piece c) := by
  have e1 := piece_eq (c := inv c) (by rw [inv_len]; exact h)
  have e2 : inv c = rep (inv (piece c)) (pmax c) := by rw [← inv_rep, ← piece_eq h]
  have h1 := (pmax_ok h).1
  have t1 := congrArg (List.take (inv (piece c)).length) e2
  rw [rep_take _ h1] at t1
  rw [← t1]
  unfold piece
  rw [inv_len, inv_len, pmax_inv h, List.length_take]
  congr 1
  have : c.length / pmax c ≤ c.length := Nat.div_le_self _ _
  omega
theorem wd_ix : ∀ {l : List Nat}, Wd l ↔ ∀ (n : Nat) x y, l[n]? = some x → l[n + 1]? = some y → y ≠ bk x
  | [] => by simp [Wd]
  | [a] => by simp [Wd]
  | a :: b :: r => by
    have ih := wd_ix (l := b :: r)
    constructor
    · intro h n x y h1 h2
      cases n with
      | zero =>
        have e1 : a = x := by simpa using h1
        have e2 : b = y := by simpa using h2
        rw [← e1, ← e2]; exact h.1
      | succ n => exact ih.mp h.2 n x y (by simpa using h1) (by simpa using h2)
    · intro h
      exact ⟨h 0 a b rfl rfl, ih.mpr fun n x y h1 h2 => h (n + 1) x y (by simpa using h1) (by simpa using h2)⟩
theorem wd_core {l : List Nat} (h : Wd l) : Wd (core l) := by
  have h1 := tlen_le l
  refine wd_ix.mpr fun n x y e1 e2 => ?_
  have hlt := (List.getElem?_eq_some_iff.mp e2).1
  rw [core_len] at hlt
  unfold core at e1 e2
  rw [List.getElem?_take_of_lt (by omega), List.getElem?_drop] at e1 e2
  exact wd_ix.mp h (tlen l + n) x y e1 (by rw [← e2]; congr 1)
theorem piece_cr {c : List Nat} (h : 1 ≤ c.length) (hc : CR c) (hw : Wd c) : CR (piece c) := by
  have hp := piece_len h
  have e := piece_eq h
  have h1 := (pmax_ok h).1
  by_cases hm : pmax c = 1
  · rw [hm, rep_1] at e
    rw [← e]; exact hc
  · refine .inr fun x y g1 g2 hxy => ?_
    obtain ⟨k, hk⟩ : ∃ k, pmax c = k + 2 := ⟨pmax c - 2, by omega⟩
    rw [hk, rep_s, rep_s] at e
    have hw2 : Wd (piece c ++ (piece c ++ rep (piece c) k)) := by rw [← e]; exact hw
    refine wd_ix.mp hw2 ((piece c).length - 1) y x ?_ ?_ hxy
    · rw [List.getElem?_append_left (by omega)]; exact g2
    · rw [List.getElem?_append_right (by omega)]
      have e0 : (piece c).length - 1 + 1 - (piece c).length = 0 := by omega
      rw [e0, List.getElem?_append_left (by omega)]; exact g1
/-- the root of a word, the exponent -/
def rootW (l : List Nat) : List Nat := tail l ++ piece (core l) ++ inv (tail l)
def rootN (l : List Nat) : Nat := pmax (core l)
section
variable {l : List Nat} (hw : Wd l) (hl : l ≠ [])
include hw hl
theorem root_tail : tail (rootW l) = tail l := tail_of (piece_len (core_ne hw hl)) (piece_cr (core_ne hw hl) (core_cr l) (wd_core hw))
theorem root_core : core (rootW l) = piece (core l) := core_of (piece_len (core_ne hw hl)) (piece_cr (core_ne hw hl) (core_cr l) (wd_core hw))
theorem root_root : rootW (rootW l) = rootW l ∧ rootN (rootW l) = 1 := by
  have h1 := piece_one (core_ne hw hl)
  have e : rootW (rootW l) = tail (rootW l) ++ piece (core (rootW l)) ++ inv (tail (rootW l)) := rfl
  have e2 : rootN (rootW l) = pmax (core (rootW l)) := rfl
  rw [e, e2, root_tail hw hl, root_core hw hl, h1]
  have e3 : piece (piece (core l)) = piece (core l) := by
    have := piece_eq (piece_len (core_ne hw hl))
    rw [h1, rep_1] at this
    exact this.symm
  rw [e3]
  exact ⟨rfl, rfl⟩
theorem inv_parts : tail (inv l) = tail l ∧ core (inv l) = inv (core l) := by
  have e : inv l = tail l ++ inv (core l) ++ inv (tail l) := by
    conv => lhs; rw [word_eq l]
    rw [inv_app, inv_app, inv_inv, List.append_assoc]
  have hc : CR (inv (core l)) := by
    rcases core_cr l with h | h
    · exact .inl (by rw [inv_len]; exact h)
    · by_cases h1 : (core l).length ≤ 1
      · exact .inl (by rw [inv_len]; exact h1)
      · refine .inr fun x y g1 g2 hxy => ?_
        unfold inv at g1 g2
        rw [List.length_reverse, List.length_map] at g2
        rw [List.getElem?_reverse (by rw [List.length_map]; omega), List.length_map, List.getElem?_map] at g1 g2
        have e0 : (core l).length - 1 - ((core l).length - 1) = 0 := by omega
        rw [e0] at g2
        rw [Nat.sub_zero] at g1
        cases q1 : (core l)[(core l).length - 1]? with
        | none => rw [q1] at g1; cases g1
        | some a =>
          cases q2 : (core l)[0]? with
          | none => rw [q2] at g2; cases g2
          | some b =>
            rw [q1] at g1; rw [q2] at g2
            have g1' : bk a = x := Option.some.inj g1
            have g2' : bk b = y := Option.some.inj g2
            refine h b a q2 q1 ?_
            rw [← g1', ← g2', bk_bk] at hxy
            exact hxy.symm
  have hn : 1 ≤ (inv (core l)).length := by rw [inv_len]; exact core_ne hw hl
  exact ⟨by rw [e]; exact tail_of hn hc, by rw [e]; exact core_of hn hc⟩
theorem root_inv : rootW (inv l) = inv (rootW l) ∧ rootN (inv l) = rootN l := by
  have ⟨e1, e2⟩ := inv_parts hw hl
  have hc := core_ne hw hl
  have a1 : rootW (inv l) = tail (inv l) ++ piece (core (inv l)) ++ inv (tail (inv l)) := rfl
  have a2 : rootN (inv l) = pmax (core (inv l)) := rfl
  rw [a1, a2, e1, e2, piece_inv hc, pmax_inv hc]
  refine ⟨?_, rfl⟩
  have a3 : rootW l = tail l ++ piece (core l) ++ inv (tail l) := rfl
  rw [a3, inv_app, inv_app, inv_inv, List.append_assoc]
theorem root_power : l = tail l ++ rep (piece (core l)) (rootN l) ++ inv (tail l) := by
  have e := piece_eq (core_ne hw hl)
  have a : rootN l = pmax (core l) := rfl
  rw [a, ← e]
  exact word_eq l
end
theorem wd_left {a b : List Nat} (h : Wd (a ++ b)) : Wd a := wd_ix.mpr fun n x y e1 e2 => by
  have h1 := (List.getElem?_eq_some_iff.mp e1).1
  have h2 := (List.getElem?_eq_some_iff.mp e2).1
  exact wd_ix.mp h n x y (by rw [List.getElem?_append_left h1]; exact e1) (by rw [List.getElem?_append_left h2]; exact e2)
theorem wd_right {a b : List Nat} (h : Wd (a ++ b)) : Wd b := wd_ix.mpr fun n x y e1 e2 => by
  refine wd_ix.mp h (a.length + n) x y ?_ ?_
  · rw [List.getElem?_append_right (by omega), show a.length + n - a.length = n by omega]; exact e1
  · rw [List.getElem?_append_right (by omega), show a.length + n + 1 - a.length = n + 1 by omega]; exact e2
theorem wd_glue {a u b : List Nat} (hu : 1 ≤ u.length) (h1 : Wd (a ++ u)) (h2 : Wd (u ++ b)) : Wd (a ++ u ++ b) := wd_ix.mpr fun n x y e1 e2 => by
  by_cases h : n + 1 < (a ++ u).length
  · rw [List.getElem?_append_left (by omega)] at e1
    rw [List.getElem?_append_left h] at e2
    exact wd_ix.mp h1 n x y e1 e2
  · rw [List.length_append] at h
    rw [List.append_assoc, List.getElem?_append_right (by omega)] at e1 e2
    refine wd_ix.mp h2 (n - a.length) x y e1 ?_
    rw [show n - a.length + 1 = n + 1 - a.length by omega]; exact e2
theorem root_wd {l : List Nat} (hw : Wd l) (hl : l ≠ []) : Wd (rootW l) := by
  have hc := core_ne hw hl
  have e := root_power hw hl
  obtain ⟨k, hk⟩ : ∃ k, rootN l = k + 1 := ⟨rootN l - 1, by have := (pmax_ok hc).1; unfold rootN; omega⟩
  rw [hk] at e
  have h1 : Wd (tail l ++ piece (core l)) := by
    have e1 : l = (tail l ++ piece (core l)) ++ (rep (piece (core l)) k ++ inv (tail l)) := by
      conv => lhs; rw [e]
      rw [rep_s]; simp [List.append_assoc]
    rw [e1] at hw
    exact wd_left hw
  have h2 : Wd (piece (core l) ++ inv (tail l)) := by
    have e1 : l = (tail l ++ rep (piece (core l)) k) ++ (piece (core l) ++ inv (tail l)) := by
      conv => lhs; rw [e]
      rw [rep_s']; simp [List.append_assoc]
    rw [e1] at hw
    exact wd_right hw
  exact wd_glue (piece_len hc) h1 h2
theorem root_ne {l : List Nat} (hw : Wd l) (hl : l ≠ []) : rootW l ≠ [] := fun z => by
  have h1 := piece_len (core_ne hw hl)
  have h2 := congrArg List.length z
  unfold rootW at h2
  rw [List.length_append, List.length_append] at h2
  simp only [List.length_nil] at h2
  omega
theorem root_tlen {l : List Nat} (hw : Wd l) (hl : l ≠ []) : tlen (rootW l) = tlen l := by rw [← tail_len, root_tail hw hl, tail_len]
end Rt

/-! Powers of reduced words, plain. -/
namespace Rt
open Fg
open Kv (rep rep_len)
theorem act_pow {t c st : List Nat} (h : Wd st) : ∀ n, act (rep (t ++ c ++ inv t) (n + 1)) st = act (t ++ rep c (n + 1) ++ inv t) st
  | 0 => by rw [rep_1, rep_1]
  | n + 1 => by
    rw [rep_s', act_app, act_pow h n]
    have e1 : ∀ z, act (t ++ c ++ inv t) z = act (inv t) (act c (act t z)) := fun z => by rw [act_app, act_app]
    have e2 : ∀ (m : List Nat), act (t ++ m ++ inv t) st = act (inv t) (act m (act t st)) := fun m => by rw [act_app, act_app]
    rw [e1, e2, e2, act_inv' (rd_act (rd_act h _) _), rep_s' c (n + 1), act_app]
theorem red_pow {t c : List Nat} (n : Nat) (hw : Wd (t ++ rep c (n + 1) ++ inv t)) : red (rep (t ++ c ++ inv t) (n + 1)) = t ++ rep c (n + 1) ++ inv t := by
  have e : red (rep (t ++ c ++ inv t) (n + 1)) = red (t ++ rep c (n + 1) ++ inv t) := by
    unfold red
    rw [act_pow (by trivial) n]
  rw [e, red_of_rd hw]
/-- copies of a core stand beside one another -/
theorem wd_rep {c : List Nat} (h1 : 1 ≤ c.length) (hw : Wd c) (hc : CR c) (hb : ∀ x ∈ c, bk x ≠ x) : ∀ n, Wd (rep c n)
  | 0 => trivial
  | n + 1 => by
    have ih := wd_rep h1 hw hc hb n
    rw [rep_s]
    refine wd_ix.mpr fun k x y e1 e2 => ?_
    by_cases hk : k + 1 < c.length
    · rw [List.getElem?_append_left (by omega)] at e1
      rw [List.getElem?_append_left hk] at e2
      exact wd_ix.mp hw k x y e1 e2
    · by_cases hk2 : c.length ≤ k
      · rw [List.getElem?_append_right (by omega)] at e1 e2
        exact wd_ix.mp ih (k - c.length) x y e1 (by rw [← e2]; congr 1; omega)
      · rw [List.getElem?_append_left (by omega)] at e1
        rw [List.getElem?_append_right (by omega)] at e2
        have hn : 1 ≤ n := by
          rcases Nat.eq_zero_or_pos n with h0 | h0
          · rw [h0] at e2; simp [rep_0] at e2
          · exact h0
        obtain ⟨m, rfl⟩ : ∃ m, n = m + 1 := ⟨n - 1, by omega⟩
        rw [show k + 1 - c.length = 0 by omega, rep_s, List.getElem?_append_left (by omega)] at e2
        have hk3 : k = c.length - 1 := by omega
        rw [hk3] at e1
        rcases hc with h | h
        · have hl1 : c.length = 1 := by omega
          rw [hl1] at e1
          rw [e1] at e2
          cases e2
          exact fun z => hb x (List.mem_of_getElem? e1) z.symm
        · exact h y x e2 e1
theorem wd_pow {t c : List Nat} (h1 : 1 ≤ c.length) (hw : Wd (t ++ c ++ inv t)) (hc : CR c) (hb : ∀ x ∈ c, bk x ≠ x) (n : Nat) : Wd (t ++ rep c (n + 1) ++ inv t) := by
  have a1 : Wd (t ++ c) := wd_left hw
  have a2 : Wd c := wd_right a1
  have a3 : Wd (c ++ inv t) := wd_right (by rw [← List.append_assoc]; exact hw)
  have hr := wd_rep h1 a2 hc hb
  have hl : ∀ m, 1 ≤ (rep c (m + 1)).length := fun m => by rw [rep_len]; exact Nat.mul_pos (by omega) h1
  have b1 : Wd (t ++ rep c (n + 1)) := by
    rw [rep_s, ← List.append_assoc]
    exact wd_glue h1 a1 (by rw [← rep_s]; exact hr _)
  have b2 : Wd (rep c (n + 1) ++ inv t) := by
    rw [rep_s']
    exact wd_glue h1 (by rw [← rep_s']; exact hr _) a3
  exact wd_glue (hl n) b1 b2
end Rt

/-! Words that come to the same either way about are powers of one root. -/
namespace Rt
open Fg
open Kv (rep rep_len)
/-- two texts come to the same word -/
def G (a b : List Nat) : Prop := red a = red b
theorem G.refl (a : List Nat) : G a a := rfl
theorem G.symm {a b : List Nat} (h : G a b) : G b a := Eq.symm h
theorem G.trans {a b c : List Nat} (h : G a b) (k : G b c) : G a c := Eq.trans h k
theorem g_act {a b : List Nat} (h : G a b) {st : List Nat} (hs : Wd st) : act a st = act b st := by rw [← act_red hs a, ← act_red hs b, h]
theorem g_of {a b : List Nat} (h : ∀ st, Wd st → act a st = act b st) : G a b := by unfold G red; rw [h [] trivial]
theorem g_app {a a' b b' : List Nat} (h : G a a') (k : G b b') : G (a ++ b) (a' ++ b') := g_of fun st hs => by rw [act_app, act_app, g_act h hs, g_act k (rd_act hs _)]
theorem g_inv_l (t : List Nat) : G (inv t ++ t) [] := g_of fun st hs => by rw [act_app, act_inv' hs]; rfl
theorem g_inv_r (t : List Nat) : G (t ++ inv t) [] := g_of fun st hs => by rw [act_app, act_inv hs]; rfl
theorem g_red (a : List Nat) : G (red a) a := g_of fun st hs => act_red hs a
theorem g_wd {a b : List Nat} (h : G a b) (ha : Wd a) (hb : Wd b) : a = b := by
  have := h
  unfold G at this
  rwa [red_of_rd ha, red_of_rd hb] at this
theorem g_rep {a b : List Nat} (h : G a b) : ∀ n, G (rep a n) (rep b n)
  | 0 => .refl _
  | n + 1 => by rw [rep_s, rep_s]; exact g_app h (g_rep h n)
theorem g_midl {a b c : List Nat} (h : G b c) : G (a ++ b) (a ++ c) := g_app (.refl _) h
theorem g_midr {a b c : List Nat} (h : G a b) : G (a ++ c) (b ++ c) := g_app h (.refl _)
/-- commuting with a word, its back goes along -/
theorem com_inv {w b : List Nat} (h : G (w ++ b) (b ++ w)) : G (w ++ inv b) (inv b ++ w) := by
  have h1 : G (inv b ++ (w ++ b) ++ inv b) (inv b ++ (b ++ w) ++ inv b) := g_midr (g_midl h)
  have h2 : G (inv b ++ (w ++ b) ++ inv b) (inv b ++ w) := by
    have e : inv b ++ (w ++ b) ++ inv b = (inv b ++ w) ++ (b ++ inv b) := by simp [List.append_assoc]
    rw [e]
    refine (g_midl (g_inv_r b)).trans ?_
    rw [List.append_nil]; exact .refl _
  have h3 : G (inv b ++ (b ++ w) ++ inv b) (w ++ inv b) := by
    have e : inv b ++ (b ++ w) ++ inv b = (inv b ++ b) ++ (w ++ inv b) := by simp [List.append_assoc]
    rw [e]
    exact g_midr (g_inv_l b)
  exact (h3.symm.trans h1.symm).trans h2
theorem com_inv_l {w b : List Nat} (h : G (w ++ b) (b ++ w)) : G (inv w ++ b) (b ++ inv w) := (com_inv h.symm).symm
theorem com_rep {w b : List Nat} (h : G (w ++ b) (b ++ w)) : ∀ n, G (w ++ rep b n) (rep b n ++ w)
  | 0 => by rw [rep_0, List.append_nil]; exact .refl _
  | n + 1 => by
    rw [rep_s, ← List.append_assoc]
    refine (g_midr h).trans ?_
    rw [List.append_assoc, List.append_assoc]
    exact g_midl (com_rep h n)
theorem g_conj {w b : List Nat} (h : G (w ++ b) (b ++ w)) : G (inv b ++ w ++ b) w := by
  rw [List.append_assoc]
  refine (g_midl h).trans ?_
  rw [← List.append_assoc]
  exact g_midr (g_inv_l b)
/-! lengths -/
theorem push_len (st : List Nat) (c : Nat) : (push st c).length = st.length + 1 ∨ (push st c).length + 1 = st.length := by
  cases st with
  | nil => left; rfl
  | cons x r => rw [push_cons]; split <;> simp
theorem act_full : ∀ (l st : List Nat), (act l st).length = st.length + l.length → act l st = l.reverse ++ st
  | [], st, _ => rfl
  | c :: l, st, h => by
    have hb : ∀ (l st : List Nat), (act l st).length ≤ st.length + l.length := by
      intro l
      induction l with
      | nil => intro st; simp [act_nil]
      | cons a l ih =>
        intro st
        rw [act_cons]
        have := ih (push st a)
        rcases push_len st a with h | h <;> simp only [List.length_cons] <;> omega
    rw [act_cons] at h ⊢
    have h1 := hb l (push st c)
    simp only [List.length_cons] at h
    rcases push_len st c with h2 | h2
    · have e : push st c = c :: st := by
        cases st with
        | nil => rfl
        | cons x r =>
          rw [push_cons] at h2 ⊢
          split at h2
          · simp at h2; omega
          · rename_i hx; rw [if_neg hx]
      rw [act_full l (push st c) (by omega), e]; simp
    · omega
theorem red_full {l : List Nat} (h : (red l).length = l.length) : red l = l := by
  unfold red at h ⊢
  rw [List.length_reverse] at h
  rw [act_full l [] (by simpa using h)]; simp
theorem com_str {x c : List Nat} (h : G (x ++ c) (c ++ x)) (hw : Wd (x ++ c) ∨ Wd (c ++ x)) : x ++ c = c ++ x := by
  rcases hw with hw | hw
  · have e : red (x ++ c) = x ++ c := red_of_rd hw
    have e2 : red (c ++ x) = x ++ c := by rw [← e]; exact h.symm
    have := red_full (l := c ++ x) (by rw [e2, List.length_append, List.length_append, Nat.add_comm])
    rw [← e2, this]
  · have e : red (c ++ x) = c ++ x := red_of_rd hw
    have e2 : red (x ++ c) = c ++ x := by rw [← e]; exact h
    have := red_full (l := x ++ c) (by rw [e2, List.length_append, List.length_append, Nat.add_comm])
    rw [← e2, this]
/-! texts that stand either way about -/
theorem pre_of {α : Type} {x y a b : List α} (h : x ++ a = y ++ b) (hl : x.length ≤ y.length) : ∃ z, y = x ++ z ∧ a = z ++ b := by
  rcases List.append_eq_append_iff.mp h with ⟨z, h1, h2⟩ | ⟨z, h1, h2⟩
  · exact ⟨z, h1, h2⟩
  · have : z = [] := by
      have := congrArg List.length h1
      rw [List.length_append] at this
      exact List.length_eq_zero_iff.mp (by omega)
    subst this
    exact ⟨[], by simpa using h1.symm, by simpa using h2.symm⟩
theorem com_words : ∀ (n : Nat) (x y : List Nat), x.length + y.length ≤ n → x ++ y = y ++ x → ∃ z i j, x = rep z i ∧ y = rep z j
  | 0, x, y, hn, _ => by
    have h1 : x = [] := List.length_eq_zero_iff.mp (by omega)
    have h2 : y = [] := List.length_eq_zero_iff.mp (by omega)
    exact ⟨[], 0, 0, h1, h2⟩
  | n + 1, x, y, hn, h => by
    by_cases hx : x = []
    · exact ⟨y, 0, 1, hx, (rep_1 y).symm⟩
    by_cases hy : y = []
    · exact ⟨x, 1, 0, (rep_1 x).symm, hy⟩
    have lx : 1 ≤ x.length := List.length_pos_iff.mpr hx
    have ly : 1 ≤ y.length := List.length_pos_iff.mpr hy
    rcases Nat.le_total x.length y.length with hl | hl
    · obtain ⟨z, h1, h2⟩ := pre_of h hl
      subst h1
      rw [List.length_append] at hn
      obtain ⟨u, i, j, e1, e2⟩ := com_words n x z (by omega) h2
      exact ⟨u, i, i + j, e1, by rw [rep_add, ← e1, ← e2]⟩
    · obtain ⟨z, h1, h2⟩ := pre_of h.symm hl
      subst h1
      rw [List.length_append] at hn
      obtain ⟨u, i, j, e1, e2⟩ := com_words n y z (by omega) h2
      exact ⟨u, i + j, i, by rw [rep_add, ← e1, ← e2], e1⟩
/-- no power of a lesser one -/
def Prm (p : List Nat) : Prop := 1 ≤ p.length ∧ pmax p = 1
theorem prm_com {p x : List Nat} (hp : Prm p) (hx : x.length < p.length) (h : x ++ p = p ++ x) : x = [] := by
  obtain ⟨z, i, j, e1, e2⟩ := com_words _ x p (Nat.le_refl _) h
  rcases Nat.eq_zero_or_pos i with hi | hi
  · rw [e1, hi]; rfl
  · exfalso
    have l1 := congrArg List.length e1
    have l2 := congrArg List.length e2
    rw [rep_len] at l1 l2
    have hz : 1 ≤ z.length := by
      rcases Nat.eq_zero_or_pos z.length with h0 | h0
      · rw [h0] at l2; have := hp.1; omega
      · exact h0
    have hij : i < j := by
      rcases Nat.lt_or_ge i j with h | h
      · exact h
      · have := Nat.mul_le_mul_right z.length h; omega
    have hj : j ≤ p.length := by rw [l2]; exact Nat.le_mul_of_pos_right _ hz
    have hpw : Pw p j = true := (pw_iff (by omega)).mpr ⟨z, e2⟩
    have := (pmax_ok hp.1).2.2.2 j (by rw [hp.2]; omega) hj
    rw [this] at hpw; cases hpw
theorem com_prm {p : List Nat} (hp : Prm p) {m : Nat} (hm : 1 ≤ m) : ∀ (n : Nat) (x : List Nat), x.length ≤ n → x ++ rep p m = rep p m ++ x → ∃ k, x = rep p k
  | 0, x, hn, _ => ⟨0, List.length_eq_zero_iff.mp (by omega)⟩
  | n + 1, x, hn, h => by
    obtain ⟨m, rfl⟩ : ∃ k, m = k + 1 := ⟨m - 1, by omega⟩
    rcases Nat.lt_or_ge x.length p.length with hl | hl
    · have h' := h
      rw [rep_s, List.append_assoc] at h'
      obtain ⟨z, h1, h2⟩ := pre_of h' (Nat.le_of_lt hl)
      obtain ⟨y, hy⟩ : ∃ y, rep p m ++ x = x ++ y := by
        cases m with
        | zero => exact ⟨[], by rw [rep_0]; simp⟩
        | succ m => exact ⟨z ++ (rep p m ++ x), by rw [rep_s, List.append_assoc, ← List.append_assoc x z, ← h1]⟩
      rw [hy, ← List.append_assoc, ← List.append_assoc] at h'
      exact ⟨0, prm_com hp hl (List.append_inj h' (by rw [List.length_append, List.length_append, Nat.add_comm])).1⟩
    · have h' := h
      rw [rep_s, List.append_assoc] at h'
      obtain ⟨z, h1, h2⟩ := pre_of h'.symm hl
      subst h1
      have h3 : z ++ rep p (m + 1) = rep p (m + 1) ++ z := by
        rw [rep_s, ← h2, ← rep_s, rep_s', List.append_assoc]
      rw [List.length_append] at hn
      obtain ⟨k, hk⟩ := com_prm hp hm n z (by have := hp.1; omega) h3
      exact ⟨k + 1, by rw [rep_s, hk]⟩
/-! the words that go with a core, with a word -/
theorem wd_junc {a b : List Nat} (ha : Wd a) (hb : Wd b) (h : ∀ x y, a[a.length - 1]? = some x → b[0]? = some y → y ≠ bk x) : Wd (a ++ b) := wd_ix.mpr fun k x y e1 e2 => by
  by_cases hk : k + 1 < a.length
  · rw [List.getElem?_append_left (by omega)] at e1
    rw [List.getElem?_append_left hk] at e2
    exact wd_ix.mp ha k x y e1 e2
  · by_cases hk2 : a.length ≤ k
    · rw [List.getElem?_append_right (by omega)] at e1 e2
      exact wd_ix.mp hb (k - a.length) x y e1 (by rw [← e2]; congr 1; omega)
    · rw [List.getElem?_append_left (by omega)] at e1
      rw [List.getElem?_append_right (by omega)] at e2
      have e3 : k = a.length - 1 := by omega
      rw [e3] at e1
      rw [show k + 1 - a.length = 0 by omega] at e2
      exact h x y e1 e2
theorem inv_last {l : List Nat} (h : 1 ≤ l.length) : (inv l)[0]? = (l[l.length - 1]?).map bk := by
  unfold inv
  rw [List.getElem?_reverse (by rw [List.length_map]; omega), List.getElem?_map, List.length_map]; rfl
theorem com_core {v c : List Nat} (hv : Wd v) (hc : Wd c) (h1 : 1 ≤ c.length) (hr : CR c) (hb : ∀ x ∈ c, bk x ≠ x) (h : G (v ++ c) (c ++ v)) : v ++ c = c ++ v ∨ inv v ++ c = c ++ inv v := by
  by_cases hw : Wd (v ++ c)
  · exact .inl (com_str h (.inl hw))
  · right
    refine com_str (com_inv_l h) (.inr ?_)
    refine wd_junc hc (rd_map_inv hv) fun x y e1 e2 => ?_
    have hvl : 1 ≤ v.length := by
      rcases Nat.eq_zero_or_pos v.length with h0 | h0
      · exfalso
        have : v = [] := List.length_eq_zero_iff.mp h0
        subst this
        exact hw hc
      · exact h0
    -- the last letter of v is the back of c's first one
    have hj : ∃ a b, v[v.length - 1]? = some a ∧ c[0]? = some b ∧ b = bk a := by
      refine Classical.byContradiction fun hn => hw (wd_junc hv hc fun a b e3 e4 e5 => hn ⟨a, b, e3, e4, e5⟩)
    obtain ⟨a, b, e3, e4, e5⟩ := hj
    rw [inv_last hvl, e3] at e2
    have e6 : y = b := by rw [e5]; exact (Option.some.inj e2).symm
    rw [e6]
    rcases hr with hr | hr
    · have : c.length - 1 = 0 := by omega
      rw [this, e4] at e1
      have e7 : b = x := Option.some.inj e1
      rw [← e7]
      exact fun z => hb b (List.mem_of_getElem? e4) z.symm
    · exact hr b x e4 e1
/-- powers, forward and back -/
def pw (b : List Nat) (n : Int) : List Nat := red (rep (if n < 0 then inv b else b) n.natAbs)
theorem pw_nat (b : List Nat) (k : Nat) : pw b k = red (rep b k) := by
  unfold pw
  rw [if_neg (by omega), Int.natAbs_natCast]
theorem pw_neg (b : List Nat) (k : Nat) : pw b (-(k : Int)) = red (rep (inv b) k) := by
  unfold pw
  rw [Int.natAbs_neg, Int.natAbs_natCast]
  by_cases hk : (-(k : Int)) < 0
  · rw [if_pos hk]
  · rw [if_neg hk]
    have : k = 0 := by omega
    subst this; rfl
theorem g_pow (t p : List Nat) : ∀ k, G (rep (t ++ p ++ inv t) k) (t ++ rep p k ++ inv t)
  | 0 => by
    rw [rep_0, rep_0, List.append_nil]; exact (g_inv_r t).symm
  | k + 1 => g_of fun st hs => act_pow hs k
theorem root_prm {u : List Nat} (hw : Wd u) (hu : u ≠ []) : Prm (piece (core u)) := ⟨piece_len (core_ne hw hu), piece_one (core_ne hw hu)⟩
/-- the words that go with a word are the powers of its root -/
theorem com_pow {w u : List Nat} (hw : Wd w) (hu : Wd u) (hne : u ≠ []) (hb : ∀ x ∈ u, bk x ≠ x) (h : G (w ++ u) (u ++ w)) : ∃ n : Int, w = pw (rootW u) n := by
  have hc1 := core_ne hu hne
  have hcm : ∀ x ∈ core u, x ∈ u := fun x hx => List.mem_of_mem_drop (List.mem_of_mem_take hx)
  have hue := word_eq u
  generalize htt : tail u = t at hue
  -- v: w moved by the tail
  have hv : Wd (red (inv t ++ w ++ t)) := rd_red _
  have hgv : G (red (inv t ++ w ++ t)) (inv t ++ w ++ t) := g_red _
  have hwv : G w (t ++ red (inv t ++ w ++ t) ++ inv t) := by
    refine G.symm ((g_midr (g_midl hgv)).trans ?_)
    have e : t ++ (inv t ++ w ++ t) ++ inv t = (t ++ inv t) ++ (w ++ (t ++ inv t)) := by simp [List.append_assoc]
    rw [e]
    refine (g_app (g_inv_r t) (g_midl (g_inv_r t))).trans ?_
    rw [List.append_nil, List.nil_append]; exact .refl _
  generalize red (inv t ++ w ++ t) = v at hv hgv hwv
  have hcv : G (v ++ core u) (core u ++ v) := by
    have a1 : G (v ++ core u) (inv t ++ (w ++ u) ++ t) := by
      refine (g_midr hgv).trans ?_
      have a2 : G (inv t ++ (w ++ u) ++ t) (inv t ++ w ++ t ++ core u ++ (inv t ++ t)) := by
        conv => lhs; rw [hue]
        have : inv t ++ (w ++ (t ++ core u ++ inv t)) ++ t = inv t ++ w ++ t ++ core u ++ (inv t ++ t) := by simp [List.append_assoc]
        rw [this]; exact .refl _
      refine G.symm (a2.trans ?_)
      refine (g_midl (g_inv_l t)).trans ?_
      rw [List.append_nil]; exact .refl _
    have b1 : G (core u ++ v) (inv t ++ (u ++ w) ++ t) := by
      refine (g_midl hgv).trans ?_
      have a2 : G (inv t ++ (u ++ w) ++ t) ((inv t ++ t) ++ (core u ++ (inv t ++ w ++ t))) := by
        conv => lhs; rw [hue]
        have : inv t ++ ((t ++ core u ++ inv t) ++ w) ++ t = (inv t ++ t) ++ (core u ++ (inv t ++ w ++ t)) := by simp [List.append_assoc]
        rw [this]; exact .refl _
      exact G.symm (a2.trans (g_midr (g_inv_l t)))
    exact a1.trans ((g_midr (g_midl h)).trans b1.symm)
  have hpe := piece_eq hc1
  have hprm := root_prm hu hne
  have hpm := (pmax_ok hc1).1
  have hrt : rootW u = t ++ piece (core u) ++ inv t := by unfold rootW; rw [htt]
  rcases com_core hv (wd_core hu) hc1 (core_cr u) (fun x hx => hb x (hcm x hx)) hcv with hs | hs
  · rw [hpe] at hs
    obtain ⟨k, hk⟩ := com_prm hprm hpm _ v (Nat.le_refl _) hs
    refine ⟨k, ?_⟩
    rw [pw_nat, hrt]
    have : G w (rep (t ++ piece (core u) ++ inv t) k) := by
      refine hwv.trans ?_
      rw [hk]; exact (g_pow t _ k).symm
    rw [← this, red_of_rd hw]
  · rw [hpe] at hs
    obtain ⟨k, hk⟩ := com_prm hprm hpm _ (inv v) (Nat.le_refl _) hs
    refine ⟨-(k : Int), ?_⟩
    rw [pw_neg, hrt]
    have hk2 : v = rep (inv (piece (core u))) k := by rw [← inv_inv v, hk, inv_rep]
    have e : inv (t ++ piece (core u) ++ inv t) = t ++ inv (piece (core u)) ++ inv t := by rw [inv_app, inv_app, inv_inv, List.append_assoc]
    have : G w (rep (t ++ inv (piece (core u)) ++ inv t) k) := by
      refine hwv.trans ?_
      rw [hk2]; exact (g_pow t _ k).symm
    rw [e, ← this, red_of_rd hw]
/-- powers of a word go with it -/
theorem pw_com (b : List Nat) (n : Int) : G (pw b n ++ b) (b ++ pw b n) := by
  have h0 : G (b ++ b) (b ++ b) := .refl _
  have h1 : G (rep (if n < 0 then inv b else b) n.natAbs ++ b) (b ++ rep (if n < 0 then inv b else b) n.natAbs) := by
    split
    · exact (com_rep (com_inv h0) _).symm
    · exact (com_rep h0 _).symm
  exact ((g_midr (g_red _)).trans h1).trans (g_midl (g_red _).symm)
theorem pw_inv_base (b : List Nat) (n : Int) : pw (inv b) (-n) = pw b n := by
  rcases Int.lt_trichotomy n 0 with h | h | h
  · unfold pw; rw [if_neg (by omega), if_pos h, Int.natAbs_neg]
  · subst h; rfl
  · unfold pw; rw [if_pos (by omega), if_neg (by omega), inv_inv, Int.natAbs_neg]
/-- a power has as many letters at least -/
theorem pw_long {b : List Nat} (hw : Wd b) (hne : b ≠ []) (hb : ∀ x ∈ b, bk x ≠ x) (k : Nat) : k ≤ (red (rep b k)).length := by
  cases k with
  | zero => exact Nat.zero_le _
  | succ k =>
    have hc1 := core_ne hw hne
    have hwe := word_eq b
    have hwd := wd_pow hc1 (hwe ▸ hw) (core_cr b) (fun x hx => hb x (List.mem_of_mem_drop (List.mem_of_mem_take hx))) k
    have h := red_pow k hwd
    rw [← hwe] at h
    rw [h, List.length_append, List.length_append, rep_len]
    have := Nat.le_mul_of_pos_right (k + 1) hc1
    omega
end Rt

/-! Movers, as they are looked for. -/
namespace Mv
open Fg Rt
open Kv (rep rep_len)
def mvd (w b : List Nat) : List Nat := red (inv b ++ w ++ b)
def gw (a b : List Nat) : Bool := decide (red (a ++ b) = red (b ++ a))
/-- the first turn at which a test holds -/
def fgo (p : Nat → Bool) : Nat → Nat → Option Nat
  | _, 0 => none
  | i, k + 1 => if p i = true then some i else fgo p (i + 1) k
theorem fgo_some {p : Nat → Bool} : ∀ {k i r : Nat}, fgo p i k = some r → p r = true ∧ i ≤ r ∧ r < i + k
  | 0, _, _, h => by cases h
  | k + 1, i, r, h => by
    unfold fgo at h
    split at h
    · rename_i hp; cases h; exact ⟨hp, Nat.le_refl _, by omega⟩
    · have := fgo_some h; exact ⟨this.1, by omega, by omega⟩
theorem fgo_none {p : Nat → Bool} : ∀ {k i : Nat}, fgo p i k = none → ∀ j, i ≤ j → j < i + k → p j = false
  | 0, _, _, _, h1, h2 => absurd h2 (by omega)
  | k + 1, i, h, j, h1, h2 => by
    unfold fgo at h
    split at h
    · cases h
    · rename_i hp
      rcases Nat.eq_or_lt_of_le h1 with rfl | h3
      · simpa using hp
      · exact fgo_none h j h3 (by omega)
def trn (w o : List Nat) (k : Nat) : Bool := decide ((core w).drop k ++ (core w).take k = core o)
def fmw (w o : List Nat) (k : Nat) : List Nat := red (red (tail w ++ (core w).take k) ++ inv (tail o))
def fm (w o : List Nat) : Option (List Nat) := (fgo (trn w o) 0 (core w).length).map (fmw w o)
def stp (b w : List Nat) : Nat → List Nat
  | 0 => w
  | t + 1 => red (b ++ stp b w t)
def alp (b w : List Nat) (m : Nat) : List (List Nat) := w :: ((List.range m).map (fun t => stp b w (t + 1)) ++ (List.range m).map (fun t => stp (inv b) w (t + 1)))
theorem stp_len (b w : List Nat) : ∀ t, (stp b w t).length ≤ w.length + t * b.length
  | 0 => by simp [stp]
  | t + 1 => by
    have h1 := red_len (b ++ stp b w t)
    have h2 := stp_len b w t
    rw [List.length_append] at h1
    show (red (b ++ stp b w t)).length ≤ _
    rw [Nat.add_mul, Nat.one_mul]; omega
abbrev Pr := List Nat × List Nat
def allm (ps : List Pr) (x : List Nat) : Bool := (ps.map fun q => decide (mvd q.1 x = q.2)).all id
def apt (ps : List Pr) (b : List Nat) : List Pr := ps.filter fun q => !gw q.1 b
def m1 (begun b : List Nat) : Nat := (2 * begun.length + 4 * (tail b).length) / (core b).length + 4
def m2 (q : Pr) (begun b : List Nat) : Nat := (q.2.length + 2 * begun.length + 2 * q.1.length + 6 * (tail b).length) / (core b).length + 4
def tried (ps : List Pr) (begun : List Nat) : List (List Nat) :=
  match apt ps (rootW (ps.headD ([], [])).1) with
  | [] => alp (rootW (ps.headD ([], [])).1) begun (m1 begun (rootW (ps.headD ([], [])).1))
  | q :: _ => (alp (rootW (ps.headD ([], [])).1) begun (m2 q begun (rootW (ps.headD ([], [])).1))).filter fun x => decide (mvd q.1 x = q.2)
def stepB (lt : List Nat → List Nat → Bool) (f : List Nat → Bool) : Option (List Nat) → List Nat → Option (List Nat)
  | none, x => if f x = true then some x else none
  | some y, x => if lt x y = true then (if f x = true then some x else some y) else some y
def odd2 (q : Pr) : Bool := !decide (decide (q.1 = []) = decide (q.2 = []))
def nzp (ps : List Pr) : List Pr := ps.filter fun q => !decide (q.1 = [])
def mvr (lt : List Nat → List Nat → Bool) (ro ot : List (List Nat)) : Option (List Nat) :=
  if ((ro.zip ot).map odd2).any id = true then none
  else match nzp (ro.zip ot) with
    | [] => some []
    | q :: r => match fm q.1 q.2 with
      | none => none
      | some b => (tried (q :: r) b).foldl (stepB lt (allm (q :: r))) none
end Mv

/-! What movers are: the search for the least one is complete. -/
namespace Mv
open Fg Rt
open Kv (rep rep_len)
/-! ### cancellation -/
theorem canc : ∀ (n : Nat) (a b : List Nat), a.length ≤ n → Wd a → Wd b → ∃ x s y, a = x ++ inv s ∧ b = s ++ y ∧ red (a ++ b) = x ++ y
  | n, a, b, hn, ha, hb => by
    rcases List.eq_nil_or_concat a with rfl | ⟨a', z, rfl⟩
    · exact ⟨[], [], b, rfl, rfl, by show red b = b; exact red_of_rd hb⟩
    · rw [List.concat_eq_append] at hn ha ⊢
      cases b with
      | nil => exact ⟨a' ++ [z], [], [], by simp [inv], rfl, by rw [List.append_nil]; exact red_of_rd ha⟩
      | cons w b' =>
        by_cases h : w = bk z
        · subst h
          obtain ⟨m, rfl⟩ : ∃ m, n = m + 1 := ⟨n - 1, by rw [List.length_append] at hn; simp only [List.length_cons, List.length_nil] at hn; omega⟩
          obtain ⟨x, s, y, h1, h2, h3⟩ := canc m a' b' (by rw [List.length_append] at hn; simp only [List.length_cons, List.length_nil] at hn; omega) (wd_left ha) hb.tail
          refine ⟨x, bk z :: s, y, ?_, by rw [h2]; rfl, ?_⟩
          · rw [inv_cons, bk_bk, ← List.append_assoc, ← h1]
          · rw [← h3]
            have e : a' ++ [z] ++ bk z :: b' = a' ++ z :: bk z :: b' := by simp
            rw [e]
            unfold red
            rw [act_app, act_app, act_cons, act_cons, push_push (rd_act (by trivial) a')]
        · refine ⟨a' ++ [z], [], w :: b', by simp [inv], rfl, red_of_rd (wd_junc ha hb fun x y e1 e2 => ?_)⟩
          rw [List.length_append, List.length_singleton, Nat.add_sub_cancel, List.getElem?_append_right (Nat.le_refl _)] at e1
          simp at e1 e2
          rw [← e1, ← e2]; exact h
/-! ### words that repeat -/
theorem rep_at {c : List Nat} (h1 : 1 ≤ c.length) : ∀ (k i : Nat), i < k * c.length → (rep c k)[i]? = c[i % c.length]?
  | 0, i, h => absurd h (by omega)
  | k + 1, i, h => by
    rw [rep_s]
    by_cases hi : i < c.length
    · rw [List.getElem?_append_left hi, Nat.mod_eq_of_lt hi]
    · rw [List.getElem?_append_right (by omega), rep_at h1 k (i - c.length) (by rw [Nat.add_mul, Nat.one_mul] at h; omega), ← Nat.mod_eq_sub_mod (a := i) (by omega)]
theorem rot_eq {c : List Nat} (hp : Prm c) {ra rb : Nat} (h1 : ra < c.length) (h2 : rb < c.length) (h : ∀ i, i < c.length → c[(ra + i) % c.length]? = c[(rb + i) % c.length]?) (hle : ra ≤ rb) : ra = rb := by
  have md : ∀ x, x < 2 * c.length → x % c.length = if x < c.length then x else x - c.length := fun x hx => by
    split
    · exact Nat.mod_eq_of_lt (by assumption)
    · rw [Nat.mod_eq_sub_mod (by omega), Nat.mod_eq_of_lt (by omega)]
  have hl : (c.take (rb - ra)).length = rb - ra := by rw [List.length_take]; omega
  have key : c = c.drop (rb - ra) ++ c.take (rb - ra) := by
    refine List.ext_getElem? fun j => ?_
    by_cases hj : j < c.length
    · have hi := h (if ra ≤ j then j - ra else j + c.length - ra) (by split <;> omega)
      rw [md _ (by split <;> omega), md _ (by split <;> omega)] at hi
      by_cases hd : j < c.length - (rb - ra)
      · rw [List.getElem?_append_left (by rw [List.length_drop]; exact hd), List.getElem?_drop]
        have e1 : (if ra + (if ra ≤ j then j - ra else j + c.length - ra) < c.length then ra + (if ra ≤ j then j - ra else j + c.length - ra) else ra + (if ra ≤ j then j - ra else j + c.length - ra) - c.length) = j := by
          split <;> split <;> omega
        have e2 : (if rb + (if ra ≤ j then j - ra else j + c.length - ra) < c.length then rb + (if ra ≤ j then j - ra else j + c.length - ra) else rb + (if ra ≤ j then j - ra else j + c.length - ra) - c.length) = rb - ra + j := by
          split <;> split <;> omega
        rw [e1, e2] at hi
        exact hi
      · rw [List.getElem?_append_right (by rw [List.length_drop]; omega), List.length_drop, List.getElem?_take_of_lt (by omega)]
        have e1 : (if ra + (if ra ≤ j then j - ra else j + c.length - ra) < c.length then ra + (if ra ≤ j then j - ra else j + c.length - ra) else ra + (if ra ≤ j then j - ra else j + c.length - ra) - c.length) = j := by
          split <;> split <;> omega
        have e2 : (if rb + (if ra ≤ j then j - ra else j + c.length - ra) < c.length then rb + (if ra ≤ j then j - ra else j + c.length - ra) else rb + (if ra ≤ j then j - ra else j + c.length - ra) - c.length) = j - (c.length - (rb - ra)) := by
          split <;> split <;> omega
        rw [e1, e2] at hi
        exact hi
    · rw [List.getElem?_eq_none (by omega), List.getElem?_eq_none (by rw [List.length_append, List.length_drop, hl]; omega)]
  have hcom : c.take (rb - ra) ++ c = c ++ c.take (rb - ra) := by
    have h3 : c.take (rb - ra) ++ c.drop (rb - ra) = c := List.take_append_drop _ _
    have h4 : c.take (rb - ra) ++ c = c.take (rb - ra) ++ (c.drop (rb - ra) ++ c.take (rb - ra)) := congrArg (c.take (rb - ra) ++ ·) key
    rw [h4, ← List.append_assoc, h3]
  have := prm_com hp (by rw [hl]; omega) hcom
  rw [this] at hl
  simp at hl
  omega
theorem rot_same {c : List Nat} (hp : Prm c) {a b : Nat} (h : ∀ i, i < c.length → c[(a + i) % c.length]? = c[(b + i) % c.length]?) : a % c.length = b % c.length := by
  have hc := hp.1
  have h' : ∀ i, i < c.length → c[(a % c.length + i) % c.length]? = c[(b % c.length + i) % c.length]? := fun i hi => by
    rw [Nat.mod_add_mod, Nat.mod_add_mod]; exact h i hi
  rcases Nat.le_total (a % c.length) (b % c.length) with hle | hle
  · exact rot_eq hp (Nat.mod_lt _ hc) (Nat.mod_lt _ hc) h' hle
  · exact (rot_eq hp (Nat.mod_lt _ hc) (Nat.mod_lt _ hc) (fun i hi => (h' i hi).symm) hle).symm
/-- a start of a power, longer by whole pieces -/
theorem pre_rep {c a b r1 r2 : List Nat} {k : Nat} (hc : 1 ≤ c.length) (h1 : rep c k = a ++ r1) (h2 : rep c k = b ++ r2) (hle : a.length ≤ b.length) (hm : a.length % c.length = b.length % c.length) : ∃ j, b = rep c j ++ a := by
  refine ⟨(b.length - a.length) / c.length, ?_⟩
  have hd := Nat.div_add_mod a.length c.length
  have he := Nat.div_add_mod b.length c.length
  have hlen : (rep c k).length = k * c.length := rep_len _ _
  have hla : a.length ≤ k * c.length := by rw [← hlen, h1, List.length_append]; omega
  have hlb : b.length ≤ k * c.length := by rw [← hlen, h2, List.length_append]; omega
  have hqq : a.length / c.length ≤ b.length / c.length := Nat.div_le_div_right hle
  have hdiff : b.length - a.length = c.length * (b.length / c.length - a.length / c.length) := by
    rw [Nat.mul_sub]
    omega
  have hj : (b.length - a.length) / c.length = b.length / c.length - a.length / c.length := by rw [hdiff, Nat.mul_div_cancel_left _ hc]
  have hbl : b.length = (b.length - a.length) / c.length * c.length + a.length := by
    rw [hj, Nat.mul_comm, ← hdiff]; omega
  refine List.ext_getElem? fun i => ?_
  have hb : ∀ i, i < b.length → b[i]? = c[i % c.length]? := fun i hi => by
    rw [← rep_at hc k i (by omega), h2, List.getElem?_append_left hi]
  have ha : ∀ i, i < a.length → a[i]? = c[i % c.length]? := fun i hi => by
    rw [← rep_at hc k i (by omega), h1, List.getElem?_append_left hi]
  have hrl : (rep c ((b.length - a.length) / c.length)).length = (b.length - a.length) / c.length * c.length := rep_len _ _
  by_cases hi : i < b.length
  · rw [hb i hi]
    by_cases h3 : i < (b.length - a.length) / c.length * c.length
    · rw [List.getElem?_append_left (by rw [hrl]; exact h3), rep_at hc _ i h3]
    · rw [List.getElem?_append_right (by rw [hrl]; omega), hrl, ha _ (by omega)]
      have e : i = (b.length - a.length) / c.length * c.length + (i - (b.length - a.length) / c.length * c.length) := by omega
      conv => lhs; rw [e]
      rw [Nat.mul_comm, Nat.mul_add_mod]
  · rw [List.getElem?_eq_none (by omega), List.getElem?_eq_none (by rw [List.length_append, hrl]; omega)]
/-- a word that a long power carries past itself goes with the piece -/
theorem carry {c w z : List Nat} {k : Nat} (hp : Prm c) (hc : Wd c) (hr : CR c) (hb : ∀ x ∈ c, bk x ≠ x) (hw : Wd w) (hz : Wd z) (h : G (w ++ rep c k) (rep c k ++ z)) (hk : w.length + z.length + c.length ≤ k * c.length) : G (w ++ c) (c ++ w) := by
  have h1 := hp.1
  have hU : Wd (rep c k) := wd_rep h1 hc hr hb k
  obtain ⟨x, s, y1, e1, e2, e3⟩ := canc _ w (rep c k) (Nat.le_refl _) hw hU
  obtain ⟨x2, s2, y2, f1, f2, f3⟩ := canc _ (rep c k) z (Nat.le_refl _) hU hz
  have hX : x ++ y1 = x2 ++ y2 := by rw [← e3, ← f3]; exact h
  have hlen : (rep c k).length = k * c.length := rep_len _ _
  have l1 := congrArg List.length e1
  have l2 := congrArg List.length e2
  have l3 := congrArg List.length f1
  have l4 := congrArg List.length f2
  rw [List.length_append, inv_len] at l1 l3
  rw [List.length_append] at l2 l4
  rw [hlen] at l2 l3
  obtain ⟨v, hv1, hv2⟩ := pre_of hX (by omega)
  have lv := congrArg List.length hv1
  rw [List.length_append] at lv
  have hUx : rep c k = x ++ (v ++ inv s2) := by rw [f1, hv1, List.append_assoc]
  have hUs : rep c k = s ++ (v ++ y2) := by rw [e2, hv2]
  have hm : x.length % c.length = s.length % c.length := by
    refine rot_same hp fun i hi => ?_
    have g1 : (rep c k)[x.length + i]? = v[i]? := by rw [hUx, List.getElem?_append_right (by omega), Nat.add_sub_cancel_left, List.getElem?_append_left (by omega)]
    have g2 : (rep c k)[s.length + i]? = v[i]? := by rw [hUs, List.getElem?_append_right (by omega), Nat.add_sub_cancel_left, List.getElem?_append_left (by omega)]
    have lUx := congrArg List.length hUx
    have lUs := congrArg List.length hUs
    rw [List.length_append, List.length_append, hlen] at lUx lUs
    rw [← rep_at h1 k (x.length + i) (by omega), ← rep_at h1 k (s.length + i) (by omega), g1, g2]
  have hcc : ∀ j, G (rep c j ++ c) (c ++ rep c j) := fun j => by rw [← rep_s', ← rep_s]; exact G.refl _
  rcases Nat.le_total x.length s.length with hle | hle
  · obtain ⟨j, hj⟩ := pre_rep h1 hUx hUs hle hm
    have hwj : G w (inv (rep c j)) := by
      rw [e1, hj, inv_app, ← List.append_assoc]
      exact (g_midr (g_inv_r x)).trans (by rw [List.nil_append]; exact G.refl _)
    exact ((g_midr hwj).trans (com_inv_l (hcc j))).trans (g_midl hwj.symm)
  · obtain ⟨j, hj⟩ := pre_rep h1 hUs hUx hle hm.symm
    have hwj : G w (rep c j) := by
      rw [e1, hj, List.append_assoc]
      exact (g_midl (g_inv_r s)).trans (by rw [List.append_nil]; exact G.refl _)
    exact ((g_midr hwj).trans (hcc j)).trans (g_midl hwj.symm)
end Mv

/-! The least mover: sound and complete. -/
namespace Mv
open Fg Rt
open Kv (rep rep_len)
/-! ### a little group -/
theorem g_inv {a b : List Nat} (h : G a b) : G (inv a) (inv b) := by unfold G; rw [red_inv, red_inv]; exact congrArg inv h
theorem g_cl (a t b : List Nat) : G (a ++ (inv t ++ (t ++ b))) (a ++ b) := g_midl (by rw [← List.append_assoc]; exact (g_midr (g_inv_l t)).trans (by exact G.refl _))
theorem g_cr (a t b : List Nat) : G (a ++ (t ++ (inv t ++ b))) (a ++ b) := g_midl (by rw [← List.append_assoc]; exact (g_midr (g_inv_r t)).trans (by exact G.refl _))
theorem g_clb (t b : List Nat) : G (inv t ++ (t ++ b)) b := g_cl [] t b
theorem g_crb (t b : List Nat) : G (t ++ (inv t ++ b)) b := g_cr [] t b
theorem mvd_iff {w y o : List Nat} (ho : Wd o) : mvd w y = o ↔ G (inv y ++ w ++ y) o := by
  unfold mvd G
  rw [red_of_rd ho]
theorem wd_mvd (w y : List Nat) : Wd (mvd w y) := rd_red _
/-- w y ≈ y o -/
theorem mv_pass {w y o : List Nat} (h : G (inv y ++ w ++ y) o) : G (w ++ y) (y ++ o) := by
  refine G.trans ?_ (g_midl h)
  rw [List.append_assoc]
  exact (g_crb y (w ++ y)).symm
theorem mv_of_pass {w y o : List Nat} (h : G (w ++ y) (y ++ o)) : G (inv y ++ w ++ y) o := by
  rw [List.append_assoc]
  exact (g_midl h).trans (g_clb y o)
/-! ### rotations -/
def Rot (c d : List Nat) : Prop := ∃ k, k < c.length ∧ d = c.drop k ++ c.take k
theorem rot_cons {x : Nat} {c' d : List Nat} (h : Rot (c' ++ [x]) d) : Rot (x :: c') d := by
  obtain ⟨k, hk, rfl⟩ := h
  rw [List.length_append, List.length_singleton] at hk
  rcases Nat.lt_or_ge k c'.length with h1 | h1
  · refine ⟨k + 1, by simp; omega, ?_⟩
    rw [List.drop_append_of_le_length (by omega), List.take_append_of_le_length (by omega)]
    simp
  · have : k = c'.length := by omega
    subst this
    refine ⟨0, by simp, ?_⟩
    simp
theorem rot_snoc {z : Nat} {c' d : List Nat} (h : Rot (z :: c') d) : Rot (c' ++ [z]) d := by
  obtain ⟨k, hk, rfl⟩ := h
  cases k with
  | zero =>
    refine ⟨c'.length, by simp, ?_⟩
    simp
  | succ j =>
    simp only [List.length_cons] at hk
    refine ⟨j, by simp; omega, ?_⟩
    rw [List.drop_append_of_le_length (by omega), List.take_append_of_le_length (by omega)]
    simp
theorem get_last' (l : List Nat) (v : Nat) : (l ++ [v])[(l ++ [v]).length - 1]? = some v := by simp
theorem conj_rot : ∀ (g : List Nat) (c d : List Nat), Wd g → c ≠ [] → Wd c → CR c → Wd d → CR d → G (inv g ++ c ++ g) d → Rot c d
  | [], c, d, _, hn, hc, _, hd, _, h => by
    have h1 : G c d := by
      have e : inv [] ++ c ++ [] = c := by simp [inv]
      rw [e] at h; exact h
    exact ⟨0, List.length_pos_iff.mpr hn, by rw [g_wd h1 hc hd]; simp⟩
  | x :: g, c, d, hg, hn, hc, hr, hd, hdr, h => by
    have hgw := hg.tail
    have e : inv (x :: g) ++ c ++ (x :: g) = inv g ++ ([bk x] ++ c ++ [x]) ++ g := by rw [inv_cons]; simp
    by_cases h1 : ∃ c', c = x :: c'
    · obtain ⟨c', rfl⟩ := h1
      have hw1 : Wd (c' ++ [x]) := wd_junc hc.tail (by trivial) fun u v e1 e2 => by
        have e3 : v = x := by simpa using e2.symm
        subst e3
        rcases hr with hr | hr
        · have : c' = [] := by cases c' with | nil => rfl | cons a b => simp at hr
          subst this; simp at e1
        · refine hr v u rfl ?_
          cases c' with
          | nil => simp at e1
          | cons a b => simpa using e1
      have hr1 : CR (c' ++ [x]) := by
        cases c' with
        | nil => exact .inl (by simp)
        | cons a b =>
          refine .inr fun u v e1 e2 => ?_
          rw [get_last'] at e2
          have e3 : a = u := by simpa using e1
          have e4 : x = v := by simpa using e2
          rw [← e3, ← e4]
          exact hc.1
      refine rot_cons (conj_rot g (c' ++ [x]) d hgw (by simp) hw1 hr1 hd hdr (G.trans ?_ h))
      rw [e]
      refine g_midr (g_midl ?_)
      have : G ([bk x] ++ (x :: c') ++ [x]) (c' ++ [x]) := by
        have h5 := g_clb [x] (c' ++ [x])
        have e5 : inv [x] ++ ([x] ++ (c' ++ [x])) = [bk x] ++ (x :: c') ++ [x] := by simp [inv]
        rw [e5] at h5; exact h5
      exact this.symm
    · by_cases h2 : ∃ c', c = c' ++ [bk x]
      · obtain ⟨c', rfl⟩ := h2
        have hw1 : Wd (bk x :: c') := by
          have := wd_junc (a := [bk x]) (b := c') (by trivial) (wd_left hc) fun u v e1 e2 => by
            have e3 : bk x = u := by simpa using e1
            rcases hr with hr | hr
            · have : c' = [] := by cases c' with | nil => rfl | cons a b => simp at hr
              subst this; simp at e2
            · refine fun z => hr v u ?_ ?_ z
              · cases c' with
                | nil => simp at e2
                | cons a b => simpa using e2
              · rw [get_last', e3]
          exact this
        have hr1 : CR (bk x :: c') := by
          rcases List.eq_nil_or_concat c' with rfl | ⟨a, z, rfl⟩
          · exact .inl (by simp)
          · refine .inr fun u v e1 e2 => ?_
            rw [List.concat_eq_append] at e2 hc
            have e3 : bk x = u := by simpa using e1
            have e4 : z = v := by
              have : (bk x :: (a ++ [z]))[(bk x :: (a ++ [z])).length - 1]? = some z := by simp
              rw [this] at e2; exact Option.some.inj e2
            rw [← e3, ← e4]
            have := wd_ix.mp hc a.length z (bk x) (by simp) (by simp)
            exact this
        refine rot_snoc (conj_rot g (bk x :: c') d hgw (by simp) hw1 hr1 hd hdr (G.trans ?_ h))
        rw [e]
        refine g_midr (g_midl ?_)
        have : G ([bk x] ++ (c' ++ [bk x]) ++ [x]) (bk x :: c') := by
          have h5 := g_cl ([bk x] ++ c') [x] []
          have e5 : [bk x] ++ c' ++ (inv [x] ++ ([x] ++ [])) = [bk x] ++ (c' ++ [bk x]) ++ [x] := by simp [inv]
          have e6 : [bk x] ++ c' ++ [] = bk x :: c' := by simp
          rw [e5, e6] at h5; exact h5
        exact this.symm
      · exfalso
        have hl1 : 1 ≤ c.length := List.length_pos_iff.mpr hn
        have j1 : Wd (inv (x :: g) ++ c) := wd_junc (rd_map_inv hg) hc fun u v e1 e2 => by
          have e3 : (inv (x :: g))[(inv (x :: g)).length - 1]? = some (bk x) := by rw [inv_cons]; simp
          rw [e3] at e1
          have e4 : bk x = u := Option.some.inj e1
          rw [← e4, bk_bk]
          intro z
          subst z
          cases c with
          | nil => simp at e2
          | cons a b =>
            have h9 : a = v := by simpa using e2
            exact h1 ⟨b, by rw [h9]⟩
        have j2 : Wd (c ++ (x :: g)) := wd_junc hc hg fun u v e1 e2 => by
          have e3 : x = v := by simpa using e2
          rw [← e3]
          intro z
          rcases List.eq_nil_or_concat c with rfl | ⟨a, q, rfl⟩
          · exact hn rfl
          · rw [List.concat_eq_append] at e1 h2
            rw [get_last'] at e1
            have e4 : q = u := Option.some.inj e1
            exact h2 ⟨a, by rw [e4, z, bk_bk]⟩
        have hW : Wd (inv (x :: g) ++ c ++ (x :: g)) := wd_glue hl1 j1 j2
        have hdd := g_wd h hW hd
        rcases hdr with hdr | hdr
        · rw [← hdd] at hdr
          simp [inv_len] at hdr
          omega
        · obtain ⟨a, q, hq⟩ : ∃ a q, x :: g = a ++ [q] := by
            rcases List.eq_nil_or_concat (x :: g) with h9 | ⟨a, q, h9⟩
            · cases h9
            · exact ⟨a, q, by rw [h9, List.concat_eq_append]⟩
          rw [← hdd, hq] at hdr
          refine hdr (bk q) q ?_ ?_ rfl
          · rw [inv_app]; simp [inv]
          · rw [← List.append_assoc]; exact get_last' _ _
end Mv

/-! The least mover: sound and complete, the end. -/
namespace Mv
open Fg Rt
open Kv (rep rep_len)
/-! ### the first mover -/
theorem fm_sound {w o b : List Nat} (ho : Wd o) (h : fm w o = some b) : mvd w b = o := by
  unfold fm at h
  obtain ⟨k, hk, rfl⟩ := Option.map_eq_some_iff.mp h
  have hp := (fgo_some hk).1
  unfold trn at hp
  have hd : (core w).drop k ++ (core w).take k = core o := of_decide_eq_true hp
  rw [mvd_iff ho]
  have hw := word_eq w
  have ho' := word_eq o
  have hc : (core w).take k ++ (core w).drop k = core w := List.take_append_drop _ _
  have hG : G (fmw w o k) (tail w ++ (core w).take k ++ inv (tail o)) := (g_red _).trans (g_midr (g_red _))
  refine (g_app (g_midr (g_inv hG)) hG).trans ?_
  generalize (core w).take k = p at hd hc ⊢
  generalize (core w).drop k = q at hd hc ⊢
  generalize tail w = t at hw ⊢
  generalize tail o = s at ho' ⊢
  rw [ho', ← hd, hw, ← hc]
  rw [inv_app, inv_app, inv_inv]
  simp only [List.append_assoc]
  refine (g_midl (g_midl (g_clb t _))).trans ?_
  refine (g_midl (g_clb p _)).trans ?_
  exact g_midl (g_midl (g_clb t _))
theorem fm_none {w o : List Nat} (hw : Wd w) (hn : w ≠ []) (ho : Wd o) (h : fm w o = none) : ∀ y, mvd w y ≠ o := by
  intro y hy
  rw [mvd_iff ho] at hy
  have hon : o ≠ [] := by
    rintro rfl
    have h1 := mv_pass hy
    rw [List.append_nil] at h1
    have h2 : G w [] := by
      have h3 : G (w ++ y ++ inv y) (y ++ inv y) := g_midr h1
      rw [List.append_assoc] at h3
      have h4 := (g_midl (a := w) (g_inv_r y)).symm.trans (h3.trans (g_inv_r y))
      rw [List.append_nil] at h4; exact h4
    exact hn (g_wd h2 hw (by trivial))
  have hcw := core_ne hw hn
  have hw' := word_eq w
  have ho' := word_eq o
  have hr : Rot (core w) (core o) := by
    refine conj_rot (red (inv (tail w) ++ y ++ tail o)) (core w) (core o) (rd_red _) (List.length_pos_iff.mp hcw) (wd_core hw) (core_cr w) (wd_core ho) (core_cr o) ?_
    have hG := g_red (inv (tail w) ++ y ++ tail o)
    refine (g_app (g_midr (g_inv hG)) hG).trans ?_
    generalize core w = c at hw' ⊢
    generalize core o = d at ho' ⊢
    generalize tail w = t at hw' ⊢
    generalize tail o = s at ho' ⊢
    rw [hw', ho'] at hy
    rw [inv_app, inv_app, inv_inv]
    have h1 : G (inv s ++ (inv y ++ (t ++ c ++ inv t) ++ y) ++ s) (inv s ++ (s ++ d ++ inv s) ++ s) := g_midr (g_midl hy)
    simp only [List.append_assoc] at h1 ⊢
    refine h1.trans ?_
    refine (g_clb s _).trans ?_
    have h2 := g_midl (a := d) (g_inv_l s)
    rw [List.append_nil] at h2; exact h2
  obtain ⟨k, hk, hd⟩ := hr
  unfold fm at h
  have hf : fgo (trn w o) 0 (core w).length = none := by
    cases hf : fgo (trn w o) 0 (core w).length with
    | none => rfl
    | some r => rw [hf] at h; cases h
  have := fgo_none hf k (Nat.zero_le _) (by omega)
  unfold trn at this
  exact of_decide_eq_false this hd.symm
/-! ### along the powers -/
theorem stp_g (b w : List Nat) : ∀ t, G (stp b w t) (rep b t ++ w)
  | 0 => G.refl _
  | t + 1 => by
    refine (g_red _).trans ?_
    rw [rep_s, List.append_assoc]
    exact g_midl (stp_g b w t)
theorem stp_wd {b w : List Nat} (hw : Wd w) : ∀ t, Wd (stp b w t)
  | 0 => hw
  | t + 1 => rd_red _
theorem mem_alp {b w y : List Nat} {m t : Nat} (ht : t ≤ m) (h : y = stp b w t ∨ y = stp (inv b) w t) : y ∈ alp b w m := by
  unfold alp
  cases t with
  | zero => rcases h with rfl | rfl <;> exact List.mem_cons_self
  | succ t =>
    refine List.mem_cons_of_mem _ (List.mem_append.mpr ?_)
    rcases h with rfl | rfl
    · exact .inl (List.mem_map.mpr ⟨t, List.mem_range.mpr (by omega), rfl⟩)
    · exact .inr (List.mem_map.mpr ⟨t, List.mem_range.mpr (by omega), rfl⟩)
theorem pow_form {w b y o : List Nat} (hw : Wd w) (hn : w ≠ []) (hk : ∀ x ∈ w, bk x ≠ x) (hb : Wd b) (hy : Wd y) (h1 : G (inv b ++ w ++ b) o) (h2 : G (inv y ++ w ++ y) o) : ∃ t, y = stp (rootW w) b t ∨ y = stp (inv (rootW w)) b t := by
  have e1 := mv_pass h1
  have e2 := mv_pass h2
  have hc : G (w ++ (y ++ inv b)) ((y ++ inv b) ++ w) := by
    have g1 : G (w ++ y ++ inv b) (y ++ o ++ inv b) := g_midr e2
    have g2 : G (y ++ inv b ++ w) (y ++ o ++ inv b) := by
      have g3 : G (inv b ++ w) (o ++ inv b) := by
        have g4 : G (inv b ++ (w ++ b) ++ inv b) (inv b ++ (b ++ o) ++ inv b) := g_midr (g_midl e1)
        simp only [List.append_assoc] at g4
        have g5 := g_midl (a := inv b) (g_midl (a := w) (g_inv_r b))
        rw [List.append_nil] at g5
        exact g5.symm.trans (g4.trans (g_clb b _))
      rw [List.append_assoc, List.append_assoc]
      exact g_midl g3
    rw [← List.append_assoc]
    exact g1.trans g2.symm
  have hr := g_red (y ++ inv b)
  obtain ⟨n, hn'⟩ := com_pow (w := red (y ++ inv b)) (u := w) (rd_red _) hw hn hk ((g_midr hr).trans (hc.symm.trans (g_midl hr.symm)))
  have hyb : G y (red (y ++ inv b) ++ b) := by
    refine G.trans ?_ (g_midr hr.symm)
    rw [List.append_assoc]
    have := g_midl (a := y) (g_inv_l b)
    rw [List.append_nil] at this
    exact this.symm
  rw [hn'] at hyb
  unfold pw at hyb
  have hfin : ∀ B : List Nat, G y (red (rep B n.natAbs) ++ b) → y = stp B b n.natAbs := fun B hB => g_wd (hB.trans ((g_midr (g_red _)).trans (stp_g B b _).symm)) hy (stp_wd hb _)
  by_cases hneg : n < 0
  · rw [if_pos hneg] at hyb
    exact ⟨n.natAbs, .inr (hfin _ hyb)⟩
  · rw [if_neg hneg] at hyb
    exact ⟨n.natAbs, .inl (hfin _ hyb)⟩
/-! ### how far it may be -/
theorem red_le {a b : List Nat} (h : G a b) : (red a).length = (red b).length := congrArg List.length h
theorem len_app (a b : List Nat) : (red a).length ≤ (red (a ++ b)).length + b.length := by
  have h : G a (red (a ++ b) ++ inv b) := by
    refine G.trans ?_ (g_midr (g_red _).symm)
    rw [List.append_assoc]
    have := g_midl (a := a) (g_inv_r b)
    rw [List.append_nil] at this
    exact this.symm
  rw [red_le h]
  have := red_len (red (a ++ b) ++ inv b)
  rw [List.length_append, inv_len] at this
  exact this
theorem len_conj {t c : List Nat} (hc : Wd c) : c.length ≤ (red (t ++ c ++ inv t)).length + 2 * t.length := by
  have h : G c (inv t ++ red (t ++ c ++ inv t) ++ t) := by
    refine G.trans ?_ (g_midr (g_midl (g_red _).symm))
    simp only [List.append_assoc]
    have h2 := g_midl (a := c) (g_inv_l t)
    rw [List.append_nil] at h2
    exact ((g_clb t _).trans h2).symm
  have h1 := red_le h
  rw [red_of_rd hc] at h1
  have h2 := red_len (inv t ++ red (t ++ c ++ inv t) ++ t)
  rw [List.length_append, List.length_append, inv_len] at h2
  omega
/-- what a root's core is like -/
structure Crt (p : List Nat) : Prop where
  pr : Prm p
  wd : Wd p
  cr : CR p
  nb : ∀ x ∈ p, bk x ≠ x
theorem cr_inv {p : List Nat} (h : CR p) : CR (inv p) := by
  rcases h with h | h
  · exact .inl (by rw [inv_len]; exact h)
  · by_cases h1 : p.length ≤ 1
    · exact .inl (by rw [inv_len]; exact h1)
    · refine .inr fun x y e1 e2 => ?_
      have hl : 1 ≤ p.length := by omega
      rw [inv_last hl] at e1
      have e3 := inv_last (l := inv p) (by rw [inv_len]; exact hl)
      rw [inv_inv, e2] at e3
      obtain ⟨z, hz, rfl⟩ := Option.map_eq_some_iff.mp e1
      have := h (bk y) z e3 hz
      intro q
      exact this (by rw [← q])
theorem Crt.inv {p : List Nat} (h : Crt p) : Crt (inv p) := by
  refine ⟨⟨by rw [inv_len]; exact h.pr.1, by rw [pmax_inv h.pr.1]; exact h.pr.2⟩, rd_map_inv h.wd, cr_inv h.cr, fun x hx => ?_⟩
  unfold Fg.inv at hx
  rw [List.mem_reverse, List.mem_map] at hx
  obtain ⟨z, hz, rfl⟩ := hx
  rw [bk_bk]
  exact fun q => h.nb z hz q.symm
theorem crt_root {w : List Nat} (hw : Wd w) (hn : w ≠ []) (hk : ∀ x ∈ w, bk x ≠ x) : Crt (piece (core w)) :=
  ⟨root_prm hw hn, by have := wd_core (root_wd hw hn); rw [root_core hw hn] at this; exact this, piece_cr (core_ne hw hn) (core_cr w) (wd_core hw), fun x hx => hk x (List.mem_of_mem_drop (List.mem_of_mem_take (List.mem_of_mem_take hx)))⟩
theorem far_div {A n t : Nat} (hn : 1 ≤ n) (h : A / n + 5 ≤ t) : A + 4 * n < t * n := by
  have h1 := Nat.div_add_mod A n
  have h2 := Nat.mod_lt A hn
  have h3 := Nat.mul_le_mul_right n h
  rw [Nat.add_mul] at h3
  rw [Nat.mul_comm] at h1
  omega
/-- far powers ahead make a word longer -/
theorem far_long {t0 p b : List Nat} (hp : Crt p) (hb : Wd b) {t : Nat} (h : 2 * b.length + 4 * t0.length < t * p.length) : b.length < (stp (t0 ++ p ++ inv t0) b t).length := by
  have hy := red_of_rd (stp_wd (b := t0 ++ p ++ inv t0) hb t)
  rw [← hy, red_le ((stp_g _ b t).trans (g_midr (g_pow t0 p t)))]
  have h1 := len_app (t0 ++ rep p t ++ inv t0) b
  have h2 := len_conj (t := t0) (wd_rep hp.pr.1 hp.wd hp.cr hp.nb t)
  rw [rep_len] at h2
  omega
/-- a word that doesn't go with the root is not moved right by far powers -/
theorem far_not {t0 p b w o : List Nat} (hp : Crt p) (ho : Wd o) {t : Nat} (h : o.length + 2 * b.length + w.length + 4 * t0.length + p.length ≤ t * p.length) (hm : G (inv (stp (t0 ++ p ++ inv t0) b t) ++ w ++ stp (t0 ++ p ++ inv t0) b t) o) : G (w ++ (t0 ++ p ++ inv t0)) ((t0 ++ p ++ inv t0) ++ w) := by
  have hy : G (stp (t0 ++ p ++ inv t0) b t) (t0 ++ rep p t ++ inv t0 ++ b) := (stp_g _ b t).trans (g_midr (g_pow t0 p t))
  have h1 := mv_pass hm
  have h2 : G (w ++ (t0 ++ rep p t ++ inv t0 ++ b)) (t0 ++ rep p t ++ inv t0 ++ b ++ o) := (g_midl hy.symm).trans (h1.trans (g_midr hy))
  have hc : G (red (inv t0 ++ w ++ t0) ++ rep p t) (rep p t ++ red (inv t0 ++ b ++ o ++ inv b ++ t0)) := by
    refine (g_midr (g_red _)).trans (G.trans ?_ (g_midl (g_red _).symm))
    have h3 : G (inv t0 ++ (w ++ (t0 ++ rep p t ++ inv t0 ++ b)) ++ (inv b ++ t0)) (inv t0 ++ (t0 ++ rep p t ++ inv t0 ++ b ++ o) ++ (inv b ++ t0)) := g_midr (g_midl h2)
    simp only [List.append_assoc] at h3 ⊢
    have h4 : G (inv t0 ++ (w ++ (t0 ++ (rep p t ++ (inv t0 ++ (b ++ (inv b ++ t0))))))) (inv t0 ++ (w ++ (t0 ++ rep p t))) := by
      refine g_midl (g_midl (g_midl ?_))
      have h5 := (g_midl (a := rep p t) ((g_cr (Fg.inv t0) b t0).trans (g_inv_l t0)))
      rw [List.append_nil] at h5; exact h5
    exact h4.symm.trans (h3.trans (g_clb t0 _))
  have l1 := red_len (inv t0 ++ w ++ t0)
  have l2 := red_len (inv t0 ++ b ++ o ++ inv b ++ t0)
  simp only [List.length_append, inv_len] at l1 l2
  have hk := carry hp.pr hp.wd hp.cr hp.nb (rd_red _) (rd_red _) hc (by omega)
  have hk2 : G (inv t0 ++ w ++ t0 ++ p) (p ++ (inv t0 ++ w ++ t0)) := (g_midr (g_red _).symm).trans (hk.trans (g_midl (g_red _)))
  have hk3 : G (t0 ++ (inv t0 ++ w ++ t0 ++ p) ++ inv t0) (t0 ++ (p ++ (inv t0 ++ w ++ t0)) ++ inv t0) := g_midr (g_midl hk2)
  simp only [List.append_assoc] at hk3 ⊢
  have h6 := (g_crb t0 (w ++ (t0 ++ (p ++ Fg.inv t0)))).symm.trans hk3
  refine h6.trans (g_midl (g_midl (g_midl ?_)))
  have h7 := g_midl (a := w) (g_inv_r t0)
  rw [List.append_nil] at h7; exact h7
end Mv

/-! The least mover: the search tells it. -/
namespace Mv
open Fg Rt
open Kv (rep rep_len)
/-- an order by length first -/
structure LtOk (lt : List Nat → List Nat → Bool) : Prop where
  tr : ∀ {a b c}, lt a b = true → lt b c = true → lt a c = true
  ln : ∀ {a b : List Nat}, a.length < b.length → lt a b = true
  ir : ∀ a, lt a a = false
section
variable {lt : List Nat → List Nat → Bool} {f : List Nat → Bool}
structure Good (lt : List Nat → List Nat → Bool) (f : List Nat → Bool) (seen : List (List Nat)) (o : Option (List Nat)) : Prop where
  no : o = none → ∀ y ∈ seen, f y = false
  so : ∀ x, o = some x → x ∈ seen ∧ f x = true ∧ ∀ y ∈ seen, f y = true → lt y x = false
theorem Good.step (ok : LtOk lt) {seen : List (List Nat)} {o : Option (List Nat)} (g : Good lt f seen o) (x : List Nat) : Good lt f (seen ++ [x]) (stepB lt f o x) := by
  have mem1 : ∀ {y}, y ∈ seen ++ [x] → y ∈ seen ∨ y = x := fun {y} h => (List.mem_append.mp h).imp id fun h => List.mem_singleton.mp h
  cases o with
  | none =>
    show Good lt f _ (if f x = true then some x else none)
    by_cases hf : f x = true
    · rw [if_pos hf]
      refine ⟨fun z => (nomatch z), fun z hz => ?_⟩
      cases hz
      refine ⟨by simp, hf, fun y hy hfy => ?_⟩
      rcases mem1 hy with h | rfl
      · rw [g.no rfl y h] at hfy; cases hfy
      · exact ok.ir _
    · rw [if_neg hf]
      refine ⟨fun _ y hy => ?_, fun z hz => (nomatch hz)⟩
      rcases mem1 hy with h | rfl
      · exact g.no rfl y h
      · simpa using hf
  | some b =>
    obtain ⟨hb1, hb2, hb3⟩ := g.so b rfl
    show Good lt f _ (if lt x b = true then (if f x = true then some x else some b) else some b)
    have keep : (f x = true → lt x b = false) → Good lt f (seen ++ [x]) (some b) := fun hx => by
      refine ⟨fun z => (nomatch z), fun z hz => ?_⟩
      cases hz
      refine ⟨List.mem_append.mpr (.inl hb1), hb2, fun y hy hfy => ?_⟩
      rcases mem1 hy with h | rfl
      · exact hb3 y h hfy
      · exact hx hfy
    by_cases hl : lt x b = true
    · rw [if_pos hl]
      by_cases hf : f x = true
      · rw [if_pos hf]
        refine ⟨fun z => (nomatch z), fun z hz => ?_⟩
        cases hz
        refine ⟨by simp, hf, fun y hy hfy => ?_⟩
        rcases mem1 hy with h | rfl
        · rcases hyx : lt y x with _ | _
          · rfl
          · have := ok.tr hyx hl
            rw [hb3 y h hfy] at this; cases this
        · exact ok.ir _
      · rw [if_neg hf]
        exact keep fun h => absurd h hf
    · rw [if_neg hl]
      exact keep fun _ => by simpa using hl
theorem fold_good (ok : LtOk lt) : ∀ (xs seen : List (List Nat)) (o : Option (List Nat)), Good lt f seen o → Good lt f (seen ++ xs) (xs.foldl (stepB lt f) o)
  | [], seen, o, g => by rw [List.append_nil]; exact g
  | x :: xs, seen, o, g => by
    have := fold_good ok xs (seen ++ [x]) _ (g.step ok x)
    rw [List.append_assoc] at this
    exact this
end
theorem allm_iff {ps : List Pr} {x : List Nat} : allm ps x = true ↔ ∀ q ∈ ps, mvd q.1 x = q.2 := by
  unfold allm
  rw [List.all_map, List.all_eq_true]
  constructor
  · exact fun h q hq => of_decide_eq_true (h q hq)
  · exact fun h q hq => decide_eq_true (h q hq)
/-- words in pairs -/
def PW (ps : List Pr) : Prop := ∀ q ∈ ps, (Wd q.1 ∧ ∀ x ∈ q.1, bk x ≠ x) ∧ Wd q.2
theorem gw_iff {a b : List Nat} : gw a b = true ↔ G (a ++ b) (b ++ a) := by unfold gw; rw [decide_eq_true_iff]; exact Iff.rfl
theorem tried_wd {ps : List Pr} {b x : List Nat} (hb : Wd b) (h : x ∈ tried ps b) : Wd x := by
  have ha : ∀ B m, x ∈ alp B b m → Wd x := fun B m h => by
    unfold alp at h
    rcases List.mem_cons.mp h with rfl | h
    · exact hb
    rcases List.mem_append.mp h with h | h
    · obtain ⟨t, _, rfl⟩ := List.mem_map.mp h; exact stp_wd hb _
    · obtain ⟨t, _, rfl⟩ := List.mem_map.mp h; exact stp_wd hb _
  unfold tried at h
  split at h
  · exact ha _ _ h
  · exact ha _ _ (List.mem_filter.mp h).1
/-- every mover is tried, or the first one is there and earlier -/
theorem tried_all {lt : List Nat → List Nat → Bool} (ok : LtOk lt) {q : Pr} {r : List Pr} {b y : List Nat} (hp : PW (q :: r)) (hn : q.1 ≠ []) (hb : Wd b) (h1 : mvd q.1 b = q.2) (hy : Wd y) (hm : allm (q :: r) y = true) :
    y ∈ tried (q :: r) b ∨ (b ∈ tried (q :: r) b ∧ allm (q :: r) b = true ∧ lt b y = true) := by
  have hq := hp q List.mem_cons_self
  have hmq := allm_iff.mp hm
  have e1 := (mvd_iff hq.2).mp h1
  have e2 := (mvd_iff hq.2).mp (hmq q List.mem_cons_self)
  obtain ⟨t, ht⟩ := pow_form hq.1.1 hn hq.1.2 hb hy e1 e2
  have hcr := crt_root hq.1.1 hn hq.1.2
  have hrt := root_tail hq.1.1 hn
  have hrc := root_core hq.1.1 hn
  have hrw : rootW q.1 = tail q.1 ++ piece (core q.1) ++ inv (tail q.1) := rfl
  have hri : inv (rootW q.1) = tail q.1 ++ inv (piece (core q.1)) ++ inv (tail q.1) := by rw [hrw, inv_app, inv_app, inv_inv, List.append_assoc]
  have hn1 : 1 ≤ (piece (core q.1)).length := hcr.pr.1
  have htr : tried (q :: r) b = (match apt (q :: r) (rootW q.1) with
    | [] => alp (rootW q.1) b (m1 b (rootW q.1))
    | p :: _ => (alp (rootW q.1) b (m2 p b (rootW q.1))).filter fun x => decide (mvd p.1 x = p.2)) := rfl
  rw [htr]
  cases hap : apt (q :: r) (rootW q.1) with
  | nil =>
    by_cases hle : t ≤ m1 b (rootW q.1)
    · exact .inl (mem_alp hle ht)
    · refine .inr ⟨mem_alp (t := 0) (Nat.zero_le _) (.inl rfl), ?_, ?_⟩
      · rw [allm_iff]
        intro p hpm
        have hpp := hp p hpm
        have hg : gw p.1 (rootW q.1) = true := by
          rcases hgb : gw p.1 (rootW q.1) with _ | _
          · have : p ∈ apt (q :: r) (rootW q.1) := List.mem_filter.mpr ⟨hpm, by rw [hgb]; rfl⟩
            rw [hap] at this; cases this
          · rfl
        have hc := gw_iff.mp hg
        rw [mvd_iff hpp.2]
        have hmp := (mvd_iff hpp.2).mp (hmq p hpm)
        refine G.trans ?_ hmp
        have key : ∀ B, G (p.1 ++ B) (B ++ p.1) → y = stp B b t → G (inv b ++ p.1 ++ b) (inv y ++ p.1 ++ y) := fun B hB hyB => by
          have hyy : G y (rep B t ++ b) := by rw [hyB]; exact stp_g B b t
          refine G.trans ?_ (g_app (g_midr (g_inv hyy)) hyy).symm
          rw [inv_app]
          simp only [List.append_assoc]
          have h5 := g_conj (com_rep hB t)
          refine g_midl ?_
          have h6 := g_midr (c := b) h5.symm
          simp only [List.append_assoc] at h6
          exact h6
        rcases ht with ht | ht
        · exact key _ hc ht
        · exact key _ (com_inv hc) ht
      · refine ok.ln ?_
        have hfar : 2 * b.length + 4 * (tail q.1).length < t * (piece (core q.1)).length := by
          unfold m1 at hle
          rw [hrt, hrc] at hle
          have := far_div hn1 (show (2 * b.length + 4 * (tail q.1).length) / (piece (core q.1)).length + 5 ≤ t by omega)
          omega
        rcases ht with ht | ht
        · rw [ht, hrw]; exact far_long hcr hb hfar
        · rw [ht, hri]; exact far_long hcr.inv hb (by rw [inv_len]; exact hfar)
  | cons p s =>
    refine .inl (List.mem_filter.mpr ⟨?_, ?_⟩)
    · refine mem_alp (t := t) ?_ ht
      refine Nat.le_of_not_lt fun hgt => ?_
      have hpm : p ∈ apt (q :: r) (rootW q.1) := by rw [hap]; exact List.mem_cons_self
      have hpf := List.mem_filter.mp hpm
      have hpp := hp p hpf.1
      have hno : ¬ G (p.1 ++ rootW q.1) (rootW q.1 ++ p.1) := fun h => by
        have := hpf.2
        rw [gw_iff.mpr h] at this; cases this
      have hmp := (mvd_iff hpp.2).mp (hmq p hpf.1)
      have hfar : p.2.length + 2 * b.length + p.1.length + 4 * (tail q.1).length + (piece (core q.1)).length ≤ t * (piece (core q.1)).length := by
        unfold m2 at hgt
        rw [hrt, hrc] at hgt
        have := far_div hn1 (show (p.2.length + 2 * b.length + 2 * p.1.length + 6 * (tail q.1).length) / (piece (core q.1)).length + 5 ≤ t by omega)
        omega
      rcases ht with ht | ht
      · rw [ht, hrw] at hmp
        exact hno (far_not hcr hpp.2 hfar hmp)
      · rw [ht, hri] at hmp
        have h9 := far_not hcr.inv hpp.2 (by rw [inv_len]; exact hfar) hmp
        rw [← hri] at h9
        have := com_inv h9
        rw [inv_inv] at this
        exact hno this
    · have hpm : p ∈ apt (q :: r) (rootW q.1) := by rw [hap]; exact List.mem_cons_self
      exact decide_eq_true (hmq p (List.mem_filter.mp hpm).1)
theorem fm_wd {w o b : List Nat} (h : fm w o = some b) : Wd b := by
  unfold fm at h
  obtain ⟨k, _, rfl⟩ := Option.map_eq_some_iff.mp h
  exact rd_red _
theorem mvd_nil (y : List Nat) : mvd [] y = [] := by
  unfold mvd
  rw [List.append_nil]
  exact g_inv_l y
theorem mvd_ne {w y : List Nat} (hw : Wd w) (h : mvd w y = []) : w = [] := by
  have h1 := mv_pass ((mvd_iff (by trivial)).mp h)
  rw [List.append_nil] at h1
  have h3 : G (w ++ y ++ inv y) (y ++ inv y) := g_midr h1
  rw [List.append_assoc] at h3
  have h4 := (g_midl (a := w) (g_inv_r y)).symm.trans (h3.trans (g_inv_r y))
  rw [List.append_nil] at h4
  exact g_wd h4 hw (by trivial)
/-- what the search tells -/
structure Least (lt : List Nat → List Nat → Bool) (ps : List Pr) (o : Option (List Nat)) : Prop where
  no : o = none → ∀ y, Wd y → ¬ ∀ q ∈ ps, mvd q.1 y = q.2
  so : ∀ x, o = some x → Wd x ∧ (∀ q ∈ ps, mvd q.1 x = q.2) ∧ ∀ y, Wd y → (∀ q ∈ ps, mvd q.1 y = q.2) → lt y x = false
theorem mvr_least {lt : List Nat → List Nat → Bool} (ok : LtOk lt) {ro ot : List (List Nat)} (hp : PW (ro.zip ot)) : Least lt (ro.zip ot) (mvr lt ro ot) := by
  have hmv : mvr lt ro ot = if ((ro.zip ot).map odd2).any id = true then none else match nzp (ro.zip ot) with
    | [] => some []
    | q :: r => match fm q.1 q.2 with
      | none => none
      | some b => (tried (q :: r) b).foldl (stepB lt (allm (q :: r))) none := rfl
  rw [hmv]
  generalize ro.zip ot = ps at hp ⊢
  by_cases hodd : (ps.map odd2).any id = true
  · rw [if_pos hodd]
    refine ⟨fun _ y hy hm => ?_, fun x hx => (nomatch hx)⟩
    rw [List.any_map, List.any_eq_true] at hodd
    obtain ⟨q, hq, ho⟩ := hodd
    have h1 := hm q hq
    have hqq := hp q hq
    unfold odd2 at ho
    by_cases h2 : q.1 = []
    · rw [h2, mvd_nil] at h1
      have ho' : (!decide (decide (q.1 = []) = decide (q.2 = []))) = true := ho
      rw [h2, ← h1] at ho'
      simp at ho'
    · by_cases h3 : q.2 = []
      · rw [h3] at h1
        exact h2 (mvd_ne hqq.1.1 h1)
      · have ho' : (!decide (decide (q.1 = []) = decide (q.2 = []))) = true := ho
        rw [decide_eq_false h2, decide_eq_false h3] at ho'
        simp at ho'
  · rw [if_neg hodd]
    have hev : ∀ q ∈ ps, q.1 = [] → q.2 = [] := fun q hq h1 => by
      have : ¬ odd2 q = true := fun z => hodd (by rw [List.any_map, List.any_eq_true]; exact ⟨q, hq, z⟩)
      unfold odd2 at this
      rw [decide_eq_true h1] at this
      by_cases h3 : q.2 = []
      · exact h3
      · rw [decide_eq_false h3] at this; simp at this
    have hmm : ∀ y, (∀ q ∈ ps, mvd q.1 y = q.2) ↔ ∀ q ∈ nzp ps, mvd q.1 y = q.2 := fun y => by
      constructor
      · exact fun h q hq => h q (List.mem_filter.mp hq).1
      · intro h q hq
        by_cases h1 : q.1 = []
        · rw [h1, hev q hq h1, mvd_nil]
        · exact h q (List.mem_filter.mpr ⟨hq, by simpa using h1⟩)
    have hpn : PW (nzp ps) := fun q hq => hp q (List.mem_filter.mp hq).1
    have hne : ∀ q ∈ nzp ps, q.1 ≠ [] := fun q hq => by simpa using (List.mem_filter.mp hq).2
    suffices hs : Least lt (nzp ps) (match nzp ps with
      | [] => some []
      | q :: r => match fm q.1 q.2 with
        | none => none
        | some b => (tried (q :: r) b).foldl (stepB lt (allm (q :: r))) none) by
      refine ⟨fun h y hy hm => hs.no h y hy ((hmm y).mp hm), fun x hx => ?_⟩
      obtain ⟨h1, h2, h3⟩ := hs.so x hx
      exact ⟨h1, (hmm x).mpr h2, fun y hy hm => h3 y hy ((hmm y).mp hm)⟩
    generalize nzp ps = pn at hpn hne
    cases pn with
    | nil =>
      refine ⟨fun z => (nomatch z), fun x hx => ?_⟩
      cases hx
      refine ⟨trivial, fun q hq => (nomatch hq), fun y hy _ => ?_⟩
      rcases hl : lt y [] with _ | _
      · rfl
      · cases y with
        | nil => rw [ok.ir] at hl; cases hl
        | cons a y =>
          have := ok.tr (ok.ln (a := []) (b := a :: y) (by simp)) hl
          rw [ok.ir] at this; cases this
    | cons q r =>
      have hq := hpn q List.mem_cons_self
      have hqn := hne q List.mem_cons_self
      cases hf : fm q.1 q.2 with
      | none =>
        simp only [hf]
        exact ⟨fun _ y hy hm => fm_none hq.1.1 hqn hq.2 hf y (hm q List.mem_cons_self), fun x hx => (nomatch hx)⟩
      | some b =>
        simp only [hf]
        have hbw := fm_wd hf
        have hbm := fm_sound hq.2 hf
        have hg : Good lt (allm (q :: r)) (tried (q :: r) b) ((tried (q :: r) b).foldl (stepB lt (allm (q :: r))) none) := by
          have := fold_good (f := allm (q :: r)) ok (tried (q :: r) b) [] none ⟨fun _ y hy => (nomatch hy), fun x hx => (nomatch hx)⟩
          rw [List.nil_append] at this; exact this
        generalize (tried (q :: r) b).foldl (stepB lt (allm (q :: r))) none = o at hg
        refine ⟨fun h y hy hm => ?_, fun x hx => ?_⟩
        · have hmy := allm_iff.mpr hm
          rcases tried_all ok hpn hqn hbw hbm hy hmy with h1 | ⟨h1, h2, _⟩
          · rw [hg.no h y h1] at hmy; cases hmy
          · rw [hg.no h b h1] at h2; cases h2
        · obtain ⟨hx1, hx2, hx3⟩ := hg.so x hx
          refine ⟨tried_wd hbw hx1, allm_iff.mp hx2, fun y hy hm => ?_⟩
          have hmy := allm_iff.mpr hm
          rcases tried_all ok hpn hqn hbw hbm hy hmy with h1 | ⟨h1, h2, h3⟩
          · exact hx3 y h1 hmy
          · rcases hl : lt y x with _ | _
            · rfl
            · have := ok.tr h3 hl
              rw [hx3 b h1 h2] at this; cases this
end Mv

namespace K91
open PySem PySem.Spec PyProof.Rows L2 Kv Fg
local macro_rules | `(tactic| walk_at "mm") => `(tactic| (repeat (first | exact List.Mem.head _ | apply List.Mem.tail)))
local macro_rules | `(tactic| walk_at "rep") => `(tactic| (repeat (first | exact Rep.here | apply Rep.there)))
local macro_rules | `(tactic| walk_at "sfx") => `(tactic| first | exact List.suffix_refl _ | (refine List.IsSuffix.trans ?_ (List.suffix_cons _ _); walk_at "sfx"; done))
local macro_rules | `(tactic| walk_at "ls") => `(tactic| first | assumption | exact Or.inl (by assumption) | (refine Or.inr ?_; walk_at "mm"; done))
local macro_rules | `(tactic| walk_at "tp") => `(tactic| first | assumption | exact Or.inl (by assumption) | (refine Or.inr ?_; walk_at "mm"; done))
local macro_rules | `(tactic| walk_at "at") => `(tactic| first | assumption | exact Or.inl (by assumption) | (refine Or.inr ?_; walk_at "mm"; done))
local macro_rules | `(tactic| walk_at "opAdd") => `(tactic| first | refine o_add ?_ | refine o_adds ?_ ?_)
local macro_rules | `(tactic| walk_at "opSub") => `(tactic| refine o_sub ?_)
local macro_rules | `(tactic| walk_at "opMult") => `(tactic| first | refine o_mul ?_ (.inr (by decide)) | refine o_mul ?_ (.inl (by decide)) | refine o_mul ?_ ?_ | refine o_muls ?_ ?_ ?_)
local macro_rules | `(tactic| walk_at "opMod") => `(tactic| first | refine o_mod ?_ (by decide) | refine o_mod ?_ ?_)
local macro_rules | `(tactic| walk_at "opFloorDiv") => `(tactic| first | refine o_fdiv ?_ (by decide) | refine o_fdiv ?_ ?_)
local macro_rules | `(tactic| walk_at "opPow") => `(tactic| refine o_pow ?_ ⟨by decide, by decide, by decide⟩)
local macro_rules | `(tactic| walk_at "opLt") => `(tactic| refine o_lt ?_)
local macro_rules | `(tactic| walk_at "opLtE") => `(tactic| refine o_le ?_)
local macro_rules | `(tactic| walk_at "opGt") => `(tactic| refine o_gt ?_)
local macro_rules | `(tactic| walk_at "opGtE") => `(tactic| refine o_ge ?_)
local macro_rules | `(tactic| walk_at "opEq") => `(tactic| first | refine o_eqi ?_ | refine o_eqs ?_ | refine o_eqb ?_)
local macro_rules | `(tactic| walk_at "opNotEq") => `(tactic| first | refine o_nei ?_ | refine o_nes ?_ | refine o_neb ?_)
local macro_rules | `(tactic| walk_at "opIn") => `(tactic| refine o_ins ?_)
local macro_rules | `(tactic| walk_at "opNotIn") => `(tactic| refine o_nins ?_)
local macro_rules | `(tactic| walk_at "opIs") => `(tactic| refine o_isN ?_)
local macro_rules | `(tactic| walk_at "opIsNot") => `(tactic| refine o_notN ?_)
local macro_rules | `(tactic| walk_at "IX") => `(tactic| first | refine i_sN ?_ ?_ ?_ | refine i_li (by walk_at "ls") ?_ ?_ | refine i_lN (by walk_at "ls") ?_ ?_)
local macro_rules | `(tactic| walk_at "SLICE") => `(tactic| first | refine sl_s ?_ ?_ | refine sl_l (by walk_at "ls") fun p => ?_)
local macro_rules | `(tactic| walk_at "c_len") => `(tactic| first | refine c_lens ?_ ?_ | refine c_lenl (by walk_at "ls") ?_ | refine c_lent (by walk_at "tp") ?_)
local macro_rules | `(tactic| walk_at "c_abs") => `(tactic| refine c_abs ?_)
local macro_rules | `(tactic| walk_at "c_min") => `(tactic| refine c_min2 ?_)
local macro_rules | `(tactic| walk_at "c_max") => `(tactic| refine c_max2 ?_)
local macro_rules | `(tactic| walk_at "c_int") => `(tactic| refine c_intb ?_)
local macro_rules | `(tactic| walk_at "c_list") => `(tactic| first | refine c_listl (by walk_at "ls") fun p => ?_ | refine c_listt (by walk_at "tp") fun p => ?_)
local macro_rules | `(tactic| walk_at "c_tuple") => `(tactic| refine c_tupl (by walk_at "ls") fun p => ?_)
local macro_rules | `(tactic| walk_at "c_isinstance") => `(tactic| first | refine c_isS (k := true) ?_ | refine c_isS (k := false) ?_ | refine c_isI (k := true) ?_ | refine c_isI (k := false) ?_ | refine c_isB (k := true) ?_ | refine c_isB (k := false) ?_ | refine c_isN (k := true) ?_ | refine c_isN (k := false) ?_ | refine c_isL (k := true) (by walk_at "ls") ?_ | refine c_isL (k := false) (by walk_at "ls") ?_ | refine c_isT (k := true) (by walk_at "tp") ?_ | refine c_isT (k := false) (by walk_at "tp") ?_)
local macro_rules | `(tactic| walk_at "c_all") => `(tactic| refine c_all (by walk_at "ls") ?_)
local macro_rules | `(tactic| walk_at "c_any") => `(tactic| refine c_any (by walk_at "ls") ?_)
local macro_rules | `(tactic| walk_at "c_sum") => `(tactic| refine c_sum (by walk_at "ls") ?_)
local macro_rules | `(tactic| walk_at "side") => `(tactic| first | assumption | omega | decide | (simp only [List.length_cons, List.length_nil]; omega))
def top (i : Nat) : Stmt := PySem.Challenge.pw_backwords_k91_whole_movers.main.body.getD i (.Pass ⟨0, 0, 0, 0⟩)
/-! ### letters, words (the plain side) -/
def ordL : List Nat := [97, 65, 98, 66, 99, 67, 100, 68, 101, 69, 102, 70]
def ltL : List Nat := [97, 98, 99, 100, 101, 102]
abbrev Let (l : List Nat) : Prop := ∀ c ∈ l, c ∈ ordL
theorem ord_ix {c : Nat} (h : c ∈ ordL) : Txt.index0 (sOf ordL) (sOf [c]) = some (ordL.idxOf c) := by
  simp only [ordL, List.mem_cons, List.not_mem_nil, or_false] at h
  rcases h with h | h | h | h | h | h | h | h | h | h | h | h <;> subst h <;> decide +kernel
theorem ord_at {c : Nat} (h : c ∈ ordL) : (atI ordL ((ordL.idxOf c : Nat) + 1 - 2 * (((ordL.idxOf c : Nat) : Int) % 2))).getD 0 = bk c := by
  simp only [ordL, List.mem_cons, List.not_mem_nil, or_false] at h
  rcases h with h | h | h | h | h | h | h | h | h | h | h | h <;> subst h <;> decide +kernel
theorem ord_lt {c : Nat} (h : c ∈ ordL) : ordL.idxOf c < 12 := List.idxOf_lt_length_of_mem h
theorem let_bk {c : Nat} (h : c ∈ ordL) : bk c ∈ ordL := by
  simp only [ordL, List.mem_cons, List.not_mem_nil, or_false] at h
  rcases h with h | h | h | h | h | h | h | h | h | h | h | h <;> subst h <;> decide
theorem let_small {l : List Nat} (h : Let l) : ∀ c ∈ l, c < 1114112 := fun c hc => by
  have := h c hc
  simp only [ordL, List.mem_cons, List.not_mem_nil, or_false] at this
  omega
theorem let_red {l : List Nat} (h : Let l) : Let (red l) := fun c hc => h c (red_mem hc)
theorem let_inv {l : List Nat} (h : Let l) : Let (inv l) := fun c hc => by
  unfold inv at hc
  rw [List.mem_reverse, List.mem_map] at hc
  obtain ⟨d, hd, rfl⟩ := hc
  exact let_bk (h d hd)
theorem let_app {a b : List Nat} (ha : Let a) (hb : Let b) : Let (a ++ b) := fun c hc => (List.mem_append.mp hc).elim (ha c) (hb c)
theorem let_cut {l : List Nat} {lo hi : Option Int} (h : Let l) : Let (cut l lo hi) := fun c hc => h c (List.mem_of_mem_drop (List.mem_of_mem_take hc))
/-- the stack as the list of texts that the program keeps -/
def one (c : Nat) : V := .str (sOf [c])
def stk (s : List Nat) : List V := s.reverse.map one
theorem stk_push (s : List Nat) (c : Nat) : stk (c :: s) = stk s ++ [.str (sOf [c])] := by simp [stk, one]
theorem stk_pop (c : Nat) (s : List Nat) : (stk (c :: s)).dropLast = stk s := by rw [stk_push, List.dropLast_concat]
theorem stk_len (s : List Nat) : (stk s).length = s.length := by simp [stk]
theorem flat_one (l : List Nat) : (l.map fun c => [c]).flatten = l := by induction l with | nil => rfl | cons a l ih => simp [ih]
theorem map_one (l : List Nat) : l.map one = (l.map fun c => [c]).map fun l => V.str (sOf l) := by rw [List.map_map]; rfl
theorem act_take {l : List Nat} {i c : Nat} (h : l[i]? = some c) : act (l.take (i + 1)) [] = push (act (l.take i) []) c := by
  rw [List.take_add_one, h, act_app]; rfl
theorem act_len (l st : List Nat) : (act l st).length ≤ st.length + l.length := by
  induction l generalizing st with
  | nil => simp [act_nil]
  | cons c l ih =>
    rw [act_cons]
    have h1 := ih (push st c)
    have h2 : (push st c).length ≤ st.length + 1 := by
      cases st with
      | nil => simp [push]
      | cons x r => rw [push_cons]; split <;> simp <;> omega
    simp only [List.length_cons]
    omega
theorem at_last {α : Type} (xs : List α) (v : α) : atI (xs ++ [v]) (-1) = some v := by
  have h := atI_neg (l := xs ++ [v]) (j := 0) (by simp)
  have e : (-1 - ((0 : Nat) : Int)) = -1 := rfl
  rw [e] at h
  rw [h]; simp
theorem get_last {α : Type} (xs : List α) (v : α) : (xs ++ [v])[(xs ++ [v]).length - 1]? = some v := by simp
/-! ### more of letters, words -/
def lo (c : Nat) : Nat := if c ∈ ltL then c else bk c
theorem lo_is {c : Nat} (h : c ∈ ordL) : Txt.lower (sOf [c]) = sOf [lo c] := by
  simp only [ordL, List.mem_cons, List.not_mem_nil, or_false] at h
  rcases h with h | h | h | h | h | h | h | h | h | h | h | h <;> subst h <;> decide +kernel
theorem pair_iff {x y : Nat} (hx : x ∈ ordL) (hy : y ∈ ordL) : ((!decide ([x] = [y])) && decide ([lo x] = [lo y])) = decide (y = bk x) := by
  have h : ∀ x ∈ ordL, ∀ y ∈ ordL, ((!decide ([x] = [y])) && decide ([lo x] = [lo y])) = decide (y = bk x) := by decide +kernel
  exact h x hx y hy
theorem rd_iff : ∀ {l : List Nat}, Wd l ↔ ∀ (n : Nat) x y, l[n]? = some x → l[n + 1]? = some y → y ≠ bk x
  | [] => by simp [Wd]
  | [a] => by simp [Wd]
  | a :: b :: r => by
    have ih := rd_iff (l := b :: r)
    constructor
    · intro h n x y h1 h2
      cases n with
      | zero =>
        have e1 : a = x := by simpa using h1
        have e2 : b = y := by simpa using h2
        rw [← e1, ← e2]; exact h.1
      | succ n => exact ih.mp h.2 n x y (by simpa using h1) (by simpa using h2)
    · intro h
      exact ⟨h 0 a b rfl rfl, ih.mpr fun n x y h1 h2 => h (n + 1) x y (by simpa using h1) (by simpa using h2)⟩
theorem cut_to {α : Type} (l : List α) (n : Nat) : cut l none (some (n : Int)) = l.take n := by
  unfold cut
  rw [HT.sIx_none, HT.sIx_nat]
  simp only [List.drop_zero, Nat.sub_zero]
  rcases Nat.le_total n l.length with h | h
  · rw [Nat.min_eq_left h]
  · rw [Nat.min_eq_right h, List.take_of_length_le h, List.take_length]
theorem cut_from {α : Type} (l : List α) (n : Nat) : cut l (some (n : Int)) none = l.drop n := by
  unfold cut
  rw [HT.sIx_none, HT.sIx_nat]
  rcases Nat.le_total n l.length with h | h
  · rw [Nat.min_eq_left h, List.take_of_length_le (by rw [List.length_drop]; omega)]
  · rw [Nat.min_eq_right h, List.drop_of_length_le h]; simp
theorem red_cut (a b : List Nat) (x : Nat) : red (a ++ x :: bk x :: b) = red (a ++ b) := by
  unfold red
  rw [act_app, act_app, act_cons, act_cons, push_push (rd_act (by trivial) a)]
theorem split_two {l : List Nat} {i x y : Nat} (h1 : l[i]? = some x) (h2 : l[i + 1]? = some y) : l = l.take i ++ x :: y :: l.drop (i + 2) := by
  obtain ⟨hi, e1⟩ := List.getElem?_eq_some_iff.mp h1
  obtain ⟨hj, e2⟩ := List.getElem?_eq_some_iff.mp h2
  conv => lhs; rw [← List.take_append_drop i l]
  rw [List.drop_eq_getElem_cons hi, List.drop_eq_getElem_cons hj, e1, e2]
/-- what the top leaves of written names -/
structure Tx (mg : Str → Option Value) : Prop where
  g_ORDER : ∃ t, mg "ORDER" = some (.str (sOf ordL) t)
  g_MOST_LETTERS : ∃ t, mg "MOST_LETTERS" = some (.int 60 t)
  g_MOST_WORDS : ∃ t, mg "MOST_WORDS" = some (.int 8 t)
  b_ValueError : mg "ValueError" = none
  b_len : mg "len" = none
  b_range : mg "range" = none
  b_all : mg "all" = none
  b_list : mg "list" = none
  b_any : mg "any" = none
  b_dict : mg "dict" = none
  b_isinstance : mg "isinstance" = none
  b_str : mg "str" = none
  b_zip : mg "zip" = none
  b_min : mg "min" = none
  b_sum : mg "sum" = none
  b_reversed : mg "reversed" = none
  b_abs : mg "abs" = none
  b_enumerate : mg "enumerate" = none
  b_int : mg "int" = none
section
variable {P : Program} {w : World} {K : PySem.W.Frag} {mg : Str → Option Value} {base : Heap}
abbrev s_back_of : Stmt := top 7
abbrev N_back_of : List Str := ["letter", "at"]
theorem sc_back_of : FnScope N_back_of ["letter"] (defScope s_back_of) := ⟨rfl, rfl, rfl, by decide +kernel, rfl, by decide +kernel, by decide +kernel⟩
def sp_back_of : Sp := fun vs H Q _ => ∃ c, vs = [.str (sOf [c])] ∧ c ∈ ordL ∧ ∀ H', (∀ b o, H b = some o → H' b = some o) → Q (.str (sOf [bk c])) H'
theorem use_back_of {B : Hp} {L : HL} {Q : KQ} {E : XK} {c : Nat} (q : Q (.str (sOf [bk c])) B L) (h : c ∈ ordL) : ∀ H, Sat B L H → sp_back_of [.str (sOf [c])] H (up Q) E := fun H s => ⟨c, rfl, h, fun H' e => s.upq e q⟩
theorem ok_back_of {f : Addr} {fd : FuncData} (F : Fun K "back_of" "back_of" s_back_of f fd) (hm : mg "back_of" = some (.ref f)) (T : Tx mg) : Fn P w K mg base 1 "back_of" sp_back_of := by
  refine fn_ok F sc_back_of hm (fun _ _ _ _ _ _ us hl => match us, hl with | [_], _ => rfl) ?_ fun cdv A outer s H vs Q E hr h tk po => ?_
  · rintro vs H Q E ⟨c, rfl, _⟩; rfl
  obtain ⟨c, rfl, hc, hq⟩ := h
  refine ⟨H, [], Sat.whole, ?_⟩
  refine k_cons ?_
  refine k_set 1 ?_ sc_back_of.nd
  refine k_sindex ?_ (name := "")
  refine k_gsE T.g_ORDER ?_
  refine ⟨_, rfl, ?_⟩
  refine a_cons ?_
  refine k_n 0 ?_
  refine a_nil ?_
  refine m_index (ord_ix hc) ?_
  refine k_one ?_
  refine k_ret ?_
  refine k_ix ?_
  refine k_gsE T.g_ORDER ?_
  refine k_bin ?_
  refine k_bin ?_
  refine k_n 1 ?_
  refine k_int ?_
  walk_at "opAdd"
  refine k_bin ?_
  refine k_int ?_
  refine k_bin ?_
  refine k_n 1 ?_
  refine k_int ?_
  walk_at "opMod"
  walk_at "opMult"
  walk_at "opSub"
  walk_at "IX"
  · rw [ord_at hc]
    exact fun H' s => hq H' s.ext
  · have := ord_lt hc
    show -12 ≤ _ ∧ _ < (12 : Int)
    omega
  · decide
abbrev s_back : Stmt := top 12
abbrev N_back : List Str := ["word", "letter"]
theorem sc_back : FnScope N_back ["word"] (defScope s_back) := ⟨rfl, rfl, rfl, by decide +kernel, rfl, by decide +kernel, by decide +kernel⟩
def sp_back : Sp := fun vs H Q _ => ∃ l, vs = [.str (sOf l)] ∧ (Let l ∧ l.length ≤ 1000000) ∧ ∀ H', (∀ b o, H b = some o → H' b = some o) → Q (.str (sOf (inv l))) H'
theorem use_back {B : Hp} {L : HL} {Q : KQ} {E : XK} {l : List Nat} (q : Q (.str (sOf (inv l))) B L) (h : Let l) (hn : l.length ≤ 1000000) : ∀ H, Sat B L H → sp_back [.str (sOf l)] H (up Q) E := fun H s => ⟨l, rfl, ⟨h, hn⟩, fun H' e => s.upq e q⟩
theorem ok_back {f : Addr} {fd : FuncData} (F : Fun K "back" "back" s_back f fd) (hm : mg "back" = some (.ref f)) (T : Tx mg) (F_back_of : Fn P w K mg base 1 "back_of" sp_back_of) : Fn P w K mg base 2 "back" sp_back := by
  refine fn_ok F sc_back hm (fun _ _ _ _ _ _ us hl => match us, hl with | [_], _ => rfl) ?_ fun cdv A outer s H vs Q E hr h tk po => ?_
  · rintro vs H Q E ⟨l, rfl, _⟩; rfl
  obtain ⟨l, rfl, ⟨hl, hn⟩, hq⟩ := h
  refine ⟨H, [], Sat.whole, ?_⟩
  refine k_one ?_
  refine k_ret ?_
  refine k_join ?_
  refine k_s [] ?_
  refine ⟨_, rfl, ?_⟩
  skip
  refine k_le (k_lcm_rs (j := 1) (fun c => .str (sOf [bk c])) sc_back.nd (blkOk_by (N := N_back) (sc := defScope s_back) (by decide +kernel)) T.b_reversed ?_)
  refine k_n 0 ?_
  refine ⟨l, rfl, by omega, fun c hc D acc sb Hb Cb clb fpb => ?_, fun D => ?_⟩
  ·
    refine k_fn F_back_of (hr.mono (by decide)) ?_
    refine a_cons ?_
    refine k_n 1 ?_
    refine a_nil ?_
    refine use_back_of ?_ (hl c hc)
    exact ⟨rfl, rfl, rfl⟩
  skip
  refine m_join0 (ls := (inv l).map fun c => [c]) ?_ ?_ ?_
  · rw [← map_one]
    have e : l.reverse.map (fun c => V.str (sOf [bk c])) = (inv l).map one := by unfold inv; rw [← List.map_reverse, List.map_map]; rfl
    rw [← e]; exact Or.inr (List.Mem.head _)
  · rw [flat_one]
    exact fun H' s => hq H' s.ext
  · rw [flat_one, inv_len]; omega
abbrev s_are_letters : Stmt := top 8
abbrev N_are_letters : List Str := ["thing", "most", "letter"]
theorem sc_are_letters : FnScope N_are_letters ["thing", "most"] (defScope s_are_letters) := ⟨rfl, rfl, rfl, by decide +kernel, rfl, by decide +kernel, by decide +kernel⟩
def letB (l : List Nat) : Bool := l.all fun c => decide (c ∈ ordL)
theorem letB_iff {l : List Nat} : letB l = true ↔ Let l := by simp [letB]
def sp_are_letters (K : PySem.W.Frag) : Sp := fun vs H Q _ => (∃ l n, vs = [.str (sOf l), .int n] ∧ l.length ≤ 1000000 ∧ ∀ H', (∀ b o, H b = some o → H' b = some o) → Q (.bl (decide ((l.length : Int) ≤ n) && letB l)) H') ∨
  ∃ (x : V) (n : Int), vs = [x, .int n] ∧ NoTx K H x ∧ ∀ H', (∀ b o, H b = some o → H' b = some o) → Q (.bl false) H'
theorem use_are_letters {K : PySem.W.Frag} {B : Hp} {L : HL} {Q : KQ} {E : XK} {l : List Nat} {n : Int} (q : Q (.bl (decide ((l.length : Int) ≤ n) && letB l)) B L) (h : l.length ≤ 1000000) : ∀ H, Sat B L H → sp_are_letters K [.str (sOf l), .int n] H (up Q) E := fun H s => .inl ⟨l, n, rfl, h, fun H' e => s.upq e q⟩
theorem use_are_lettersN {K : PySem.W.Frag} {B : Hp} {L : HL} {Q : KQ} {E : XK} {x : V} {n : Int} (q : Q (.bl false) B L) (h : ∀ H, Sat B L H → NoTx K H x) : ∀ H, Sat B L H → sp_are_letters K [x, .int n] H (up Q) E := fun H s => .inr ⟨x, n, rfl, h H s, fun H' e => s.upq e q⟩
theorem ok_are_letters {f : Addr} {fd : FuncData} (F : Fun K "are_letters" "are_letters" s_are_letters f fd) (hm : mg "are_letters" = some (.ref f)) (T : Tx mg) : Fn P w K mg base 1 "are_letters" (sp_are_letters K) := by
  refine fn_ok F sc_are_letters hm (fun _ _ _ _ _ _ us hl => match us, hl with | [_, _], _ => rfl) ?_ fun cdv A outer s H vs Q E hr h tk po => ?_
  · rintro vs H Q E (⟨l, n, rfl, _⟩ | ⟨x, n, rfl, _⟩) <;> rfl
  rcases h with ⟨l, n, rfl, hn, hq⟩ | ⟨x, n, rfl, hx, hq⟩
  · refine ⟨H, [], Sat.whole, ?_⟩
    refine k_one ?_
    refine k_ret ?_
    refine k_andP ?_
    refine k_callB (id := "isinstance") T.b_isinstance ?_
    refine a_cons ?_
    refine k_n 0 ?_
    refine a_cons ?_
    refine k_ty (T := "str") T.b_str ?_
    refine a_nil ?_
    walk_at "c_isinstance"
    refine ⟨_, rfl, ?_⟩; apply Exists.intro; refine ⟨fun hk => ?_, ?_⟩
    {
    refine k_andP ?_
    refine k_cmp ?_
    refine k_callB (id := "len") T.b_len ?_
    refine a_cons ?_
    refine k_n 0 ?_
    refine a_nil ?_
    walk_at "c_len"
    refine k_n 1 ?_
    walk_at "opLtE"
    refine ⟨_, rfl, ?_⟩; apply Exists.intro; refine ⟨fun hk => ?_, ?_⟩
    {
    refine k_and1 ?_
    refine k_callB (id := "all") T.b_all ?_
    refine a_cons ?_
    refine k_le (k_lcm_s (j := 2) (fun c => .bl (decide (c ∈ ordL))) sc_are_letters.nd (blkOk_by (N := N_are_letters) (sc := defScope s_are_letters) (by decide +kernel)) ?_)
    refine k_n 0 ?_
    refine ⟨l, rfl, by omega, fun c hc D acc sb Hb Cb clb fpb => ?_, fun D => ?_⟩
    ·
      refine k_cmp ?_
      refine k_n 2 ?_
      refine k_gsE T.g_ORDER ?_
      walk_at "opIn"
      exact ⟨rfl, rfl, rfl⟩
    refine a_nil ?_
    refine c_all (bs := l.map fun c => decide (c ∈ ordL)) (by rw [List.map_map]; exact Or.inr (List.Mem.head _)) ?_
    exact ⟨rfl, rfl, by walk_at "sfx"⟩
    all_goals (try walk_at "side")
    }
    exact ⟨rfl, rfl, by walk_at "sfx"⟩
    all_goals (try walk_at "side")
    }
    · intro H' s
      have e : (l.map fun c => decide (c ∈ ordL)).all id = letB l := by unfold letB; rw [List.all_map]; rfl
      simp only [Bool.true_and]
      rw [e]
      exact hq H' s.ext
  · refine ⟨H, [], Sat.whole, ?_⟩
    refine k_one ?_
    refine k_ret ?_
    refine k_andP ?_
    refine k_callB (id := "isinstance") T.b_isinstance ?_
    refine a_cons ?_
    refine k_n 0 ?_
    refine a_cons ?_
    refine k_ty (T := "str") T.b_str ?_
    refine a_nil ?_
    refine c_isNT (fun H' s' => hx.le s'.ext) ?_
    refine ⟨_, rfl, false, fun hk => (by cases hk), ?_⟩
    exact fun H' s => hq H' s.ext
abbrev s_is_word : Stmt := top 9
abbrev N_is_word : List Str := ["thing", "at", "letter"]
theorem sc_is_word : FnScope N_is_word ["thing"] (defScope s_is_word) := ⟨rfl, rfl, rfl, by decide +kernel, rfl, by decide +kernel, by decide +kernel⟩
theorem cut_init (l : List Nat) : cut l none (some (-1)) = l.take (l.length - 1) := by
  unfold cut
  have e : HT.sIx l.length l.length (some (-1)) = l.length - 1 := by
    show (if (-1 : Int) < 0 then ((-1 : Int) + (l.length : Int)).toNat else min (-1 : Int).toNat l.length) = _
    rw [if_pos (by decide)]; omega
  rw [e, HT.sIx_none]
  simp
theorem map_mapIdx' {α β γ : Type} (l : List α) (f : Nat → α → β) (g : β → γ) : (l.mapIdx f).map g = l.mapIdx fun n c => g (f n c) := by apply List.ext_getElem <;> simp
def nbB (l : List Nat) : Bool := !((l.take (l.length - 1)).mapIdx fun n c => decide (l[n + 1]? = some (bk c))).any id
theorem nbB_iff (l : List Nat) : nbB l = true ↔ Wd l := by
  unfold nbB
  rw [rd_iff, Bool.not_eq_true', List.any_eq_false]
  constructor
  · intro h n x y h1 h2 e
    have hn : n + 1 < l.length := (List.getElem?_eq_some_iff.mp h2).1
    refine h (decide (l[n + 1]? = some (bk x))) ?_ (by simp [h2, e])
    rw [List.mem_mapIdx]
    refine ⟨n, by simp; omega, ?_⟩
    have h3 : (l.take (l.length - 1))[n]? = some x := by rw [List.getElem?_take_of_lt (by omega)]; exact h1
    obtain ⟨h4, h5⟩ := List.getElem?_eq_some_iff.mp h3
    rw [h5]
  · intro h b hb
    rw [List.mem_mapIdx] at hb
    obtain ⟨n, hn, rfl⟩ := hb
    rw [List.length_take] at hn
    rw [List.getElem_take]
    simp only [id, Bool.not_eq_true, decide_eq_false_iff_not]
    intro e
    exact h n l[n] (bk l[n]) (by simp) e rfl
/-- a word that may be handed in -/
def isW (l : List Nat) : Bool := decide (l.length ≤ 60) && letB l && nbB l
theorem isW_iff (l : List Nat) : isW l = true ↔ l.length ≤ 60 ∧ Let l ∧ Wd l := by
  unfold isW
  rw [Bool.and_eq_true, Bool.and_eq_true, nbB_iff, letB_iff, decide_eq_true_iff, and_assoc]
def sp_is_word (K : PySem.W.Frag) : Sp := fun vs H Q _ => (∃ l, vs = [.str (sOf l)] ∧ l.length ≤ 1000000 ∧ ∀ H', (∀ b o, H b = some o → H' b = some o) → Q (.bl (isW l)) H') ∨ ∃ x, vs = [x] ∧ NoTx K H x ∧ ∀ H', (∀ b o, H b = some o → H' b = some o) → Q (.bl false) H'
theorem use_is_word {K : PySem.W.Frag} {B : Hp} {L : HL} {Q : KQ} {E : XK} {l : List Nat} (q : Q (.bl (isW l)) B L) (h : l.length ≤ 1000000) : ∀ H, Sat B L H → sp_is_word K [.str (sOf l)] H (up Q) E := fun H s => .inl ⟨l, rfl, h, fun H' e => s.upq e q⟩
theorem use_is_wordN {K : PySem.W.Frag} {B : Hp} {L : HL} {Q : KQ} {E : XK} {x : V} (q : Q (.bl false) B L) (h : ∀ H, Sat B L H → NoTx K H x) : ∀ H, Sat B L H → sp_is_word K [x] H (up Q) E := fun H s => .inr ⟨x, rfl, h H s, fun H' e => s.upq e q⟩
theorem ok_is_word {f : Addr} {fd : FuncData} (F : Fun K "is_word" "is_word" s_is_word f fd) (hm : mg "is_word" = some (.ref f)) (T : Tx mg) (F_are_letters : Fn P w K mg base 1 "are_letters" (sp_are_letters K)) (F_back_of : Fn P w K mg base 1 "back_of" sp_back_of) : Fn P w K mg base 2 "is_word" (sp_is_word K) := by
  refine fn_ok F sc_is_word hm (fun _ _ _ _ _ _ us hl => match us, hl with | [_], _ => rfl) ?_ fun cdv A outer s H vs Q E hr h tk po => ?_
  · rintro vs H Q E (⟨l, rfl, _⟩ | ⟨x, rfl, _⟩) <;> rfl
  rcases h with ⟨l, rfl, hn, hq⟩ | ⟨x, rfl, hx, hq⟩
  · refine ⟨H, [], Sat.whole, ?_⟩
    refine k_cons ?_
    refine k_if ?_
    refine t_not ?_
    refine t_val ?_
    refine k_fn F_are_letters (hr.mono (by decide)) ?_
    refine a_cons ?_
    refine k_n 0 ?_
    refine a_cons ?_
    refine k_giE T.g_MOST_LETTERS ?_
    refine a_nil ?_
    refine use_are_letters ?_ hn
    refine ⟨_, rfl, ?_⟩
    refine ⟨fun hk => ?_, fun hk => ?_⟩
    · skip
      refine k_one ?_
      refine k_ret ?_
      refine k_bl ?_
      intro H' s
      have e : isW l = false := by
        unfold isW
        have : ((l.length : Int) ≤ 60) ↔ l.length ≤ 60 := by omega
        simp only [this, Bool.not_eq_true'] at hk
        rw [hk, Bool.false_and]
      rw [← e]
      exact hq H' s.ext
    · refine k_nil ?_
      have h60 : l.length ≤ 60 ∧ Let l := by
        rw [Bool.not_eq_false', Bool.and_eq_true, letB_iff, decide_eq_true_iff] at hk
        exact ⟨by omega, hk.2⟩
      refine k_one ?_
      refine k_ret ?_
      refine k_not ?_
      refine k_callB (id := "any") T.b_any ?_
      refine a_cons ?_
      refine k_le (k_lcm_es (i := 1) (j := 2) (fun n c => .bl (decide (l[n + 1]? = some (bk c)))) sc_is_word.nd (blkOk_by (N := N_is_word) (sc := defScope s_is_word) (by decide +kernel)) T.b_enumerate ?_)
      refine k_slice ?_
      refine k_n 0 ?_
      refine p_none ?_
      refine p_some ?_
      refine k_neg ?_
      refine k_int ?_
      refine ⟨_, rfl, ?_⟩
      refine ⟨_, rfl, ?_⟩
      walk_at "SLICE"
      rw [cut_init]
      refine ⟨_, rfl, by rw [List.length_take]; omega, fun n c hc D acc sb Hb Cb clb fpb => ?_, fun D => ?_⟩
      ·
        have hcl : n < (l.take (l.length - 1)).length := (List.getElem?_eq_some_iff.mp hc).1
        rw [List.length_take] at hcl
        have hc2 : l[n]? = some c := by rw [List.getElem?_take_of_lt (by omega)] at hc; exact hc
        have hn1 : l[n + 1]? = some (l[n + 1]'(by omega)) := by simp [show n + 1 < l.length by omega]
        refine k_cmp ?_
        refine k_ix ?_
        refine k_n 0 ?_
        refine k_bin ?_
        refine k_n 1 ?_
        refine k_int ?_
        walk_at "opAdd"
        refine i_sv (l[n + 1]'(by omega)) ?_ ?_ (by omega)
        refine k_fn F_back_of (hr.mono (by decide)) ?_
        refine a_cons ?_
        refine k_n 2 ?_
        refine a_nil ?_
        refine use_back_of ?_ (h60.2 c (List.mem_of_getElem? hc2))
        walk_at "opEq"
        · refine ⟨?_, rfl, rfl⟩
          rw [hn1]; simp
        · have e : ((n : Int) + 1) = ((n + 1 : Nat) : Int) := by omega
          rw [e, atI_n]; exact hn1
      refine a_nil ?_
      refine c_any (bs := (l.take (l.length - 1)).mapIdx fun n c => decide (l[n + 1]? = some (bk c))) (by rw [map_mapIdx']; exact Or.inr (List.Mem.head _)) ?_
      refine ⟨_, rfl, ?_⟩
      · intro H' s
        have e : isW l = !((l.take (l.length - 1)).mapIdx fun n c => decide (l[n + 1]? = some (bk c))).any id := by
          unfold isW
          rw [decide_eq_true h60.1, letB_iff.mpr h60.2]
          simp [nbB]
        rw [← e]
        exact hq H' s.ext
      · omega
  · refine ⟨H, [], Sat.whole, ?_⟩
    refine k_cons ?_
    refine k_if ?_
    refine t_not ?_
    refine t_val ?_
    refine k_fn F_are_letters (hr.mono (by decide)) ?_
    refine a_cons ?_
    refine k_n 0 ?_
    refine a_cons ?_
    refine k_giE T.g_MOST_LETTERS ?_
    refine a_nil ?_
    refine use_are_lettersN ?_ (fun H' s' => hx.le s'.ext)
    refine ⟨_, rfl, ?_⟩
    refine ⟨fun _ => ?_, fun hk => (by cases hk)⟩
    refine k_one ?_
    refine k_ret ?_
    refine k_bl ?_
    exact fun H' s => hq H' s.ext
abbrev s_put_together : Stmt := top 10
abbrev N_put_together : List Str := ["letters", "found", "letter"]
theorem sc_put_together : FnScope N_put_together ["letters"] (defScope s_put_together) := ⟨rfl, rfl, rfl, by decide +kernel, rfl, by decide +kernel, by decide +kernel⟩
def sp_put_together : Sp := fun vs H Q _ => ∃ l, vs = [.str (sOf l)] ∧ (Let l ∧ l.length ≤ 1000000) ∧ ∀ H', (∀ b o, H b = some o → H' b = some o) → Q (.str (sOf (red l))) H'
theorem use_put_together {B : Hp} {L : HL} {Q : KQ} {E : XK} {l : List Nat} (q : Q (.str (sOf (red l))) B L) (h : Let l ∧ l.length ≤ 1000000) : ∀ H, Sat B L H → sp_put_together [.str (sOf l)] H (up Q) E := fun H s => ⟨l, rfl, h, fun H' e => s.upq e q⟩
theorem ok_put_together {f : Addr} {fd : FuncData} (F : Fun K "put_together" "put_together" s_put_together f fd) (hm : mg "put_together" = some (.ref f)) (T : Tx mg) (F_back_of : Fn P w K mg base 1 "back_of" sp_back_of) : Fn P w K mg base 2 "put_together" sp_put_together := by
  refine fn_ok F sc_put_together hm (fun _ _ _ _ _ _ us hl => match us, hl with | [_], _ => rfl) ?_ fun cdv A outer s H vs Q E hr h tk po => ?_
  · rintro vs H Q E ⟨c, rfl, _⟩; rfl
  obtain ⟨l, rfl, ⟨hl, hn⟩, hq⟩ := h
  refine ⟨H, [], Sat.whole, ?_⟩
  refine k_cons ?_
  refine k_set 1 ?_ sc_put_together.nd
  refine k_lst ?_
  refine a_nil ?_
  refine ⟨by first | decide | simp, fun p => ?_⟩
  refine k_cons ?_
  refine k_for_s (fun i σ B L => ∃ v, σ = [some (.str (sOf l)), some (.ref p), v] ∧ B = H ∧ L = [(p, .lst (stk (act (l.take i) [])))]) po ?_
  refine k_n 0 ?_
  refine ⟨l, rfl, ⟨_, rfl, rfl, rfl⟩, ?_, ?_⟩
  · rintro i c σ B L hi ⟨v, rfl, rfl, rfl⟩
    have hc : c ∈ ordL := hl c (List.mem_of_getElem? hi)
    have hil := (List.getElem?_eq_some_iff.mp hi).1
    have hal := act_len (l.take i) []
    have hst := act_take hi
    rw [List.length_take] at hal
    refine g_name 2 ?_ sc_put_together.nd
    refine k_one ?_
    refine k_if ?_
    cases hs : act (l.take i) [] with
    | nil =>
      rw [hs] at hst
      refine t_pure (v := false) ?_ ⟨fun z => (nomatch z), fun _ => ?_⟩
      · refine t_w ?_
        refine w_and ?_
        refine t_cmp ?_
        refine k_n 1 ?_
        refine k_lst ?_
        refine a_nil ?_
        refine ⟨by first | decide | simp, fun p => ?_⟩
        refine o_ness (a := []) (b := []) hr.units (by walk_at "ls") (by walk_at "ls") ?_ (by simp) (by simp)
        refine ⟨_, rfl, ?_⟩
        exact ⟨fun z => (by simp at z), fun _ => ⟨rfl, rfl, by walk_at "sfx"⟩⟩
      · skip
        refine k_one ?_
        refine k_expr ?_
        refine k_m PySem.F.plainAttrs_list PySem.F.slot_list_append PySem.F.type_list_append ?_
        refine k_n 1 ?_
        refine ⟨ty_l (by walk_at "ls"), ?_⟩
        refine a_cons ?_
        refine k_n 2 ?_
        refine a_nil ?_
        refine m_append (by walk_at "rep") ?_ (by simp [stk])
        refine ⟨_, rfl, rfl, ?_⟩
        rw [hst]; rfl
    | cons x s =>
      rw [hs, push_cons] at hst
      have hxo : x ∈ ordL := by
        have h1 : x ∈ red (l.take i) := by unfold red; rw [List.mem_reverse, hs]; simp
        exact hl x (List.mem_of_mem_take (red_mem h1))
      refine t_pure (v := decide (x = bk c)) ?_ ⟨fun hk => ?_, fun hk => ?_⟩
      · refine t_w ?_
        refine w_and ?_
        refine t_cmp ?_
        refine k_n 1 ?_
        refine k_lst ?_
        refine a_nil ?_
        refine ⟨by first | decide | simp, fun p => ?_⟩
        refine o_ness (a := (x :: s).reverse.map fun c => [c]) (b := []) hr.units (by rw [← map_one]; walk_at "ls") (by walk_at "ls") ?_ ?_ (by simp)
        refine ⟨_, rfl, ?_⟩
        · refine ⟨fun _ => ?_, fun z => (by simp at z)⟩
          refine w_and1 ?_
          refine t_cmp ?_
          refine k_ix ?_
          refine k_n 1 ?_
          refine k_neg ?_
          refine k_int ?_
          refine ⟨_, rfl, ?_⟩
          refine i_lv (one x) (by walk_at "ls") ?_ ?_
          refine k_fn F_back_of (hr.mono (by decide)) ?_
          refine a_cons ?_
          refine k_n 2 ?_
          refine a_nil ?_
          refine use_back_of ?_ hc
          walk_at "opEq"
          refine ⟨_, rfl, ?_⟩
          · exact ⟨by simp, rfl, by walk_at "sfx"⟩
          · rw [stk_push]; exact at_last _ _
        · intro l' hl' c' hc'
          rw [List.mem_map] at hl'
          obtain ⟨d, hd, rfl⟩ := hl'
          rw [List.mem_singleton.mp hc']
          have h2 : d ∈ act (l.take i) [] := by rw [hs]; exact List.mem_reverse.mp hd
          have h3 : d ∈ red (l.take i) := by unfold red; rw [List.mem_reverse]; exact h2
          exact let_small hl d (List.mem_of_mem_take (red_mem h3))
      · have hx : x = bk c := of_decide_eq_true hk
        rw [if_pos hx] at hst
        refine k_one ?_
        refine k_expr ?_
        refine k_m0 PySem.F.plainAttrs_list PySem.F.slot_list_pop PySem.F.type_list_pop ?_
        refine k_n 1 ?_
        refine ⟨ty_l (by walk_at "ls"), ?_⟩
        refine m_pop (xs := stk (x :: s)) (v := one x) (by rw [stk_push]; exact get_last _ _) (by walk_at "rep") ?_
        skip
        refine ⟨_, rfl, rfl, ?_⟩
        rw [hst, stk_pop]
      · have hx : ¬ x = bk c := of_decide_eq_false hk
        rw [if_neg hx] at hst
        refine k_one ?_
        refine k_expr ?_
        refine k_m PySem.F.plainAttrs_list PySem.F.slot_list_append PySem.F.type_list_append ?_
        refine k_n 1 ?_
        refine ⟨ty_l (by walk_at "ls"), ?_⟩
        refine a_cons ?_
        refine k_n 2 ?_
        refine a_nil ?_
        refine m_append (by walk_at "rep") ?_ ?_
        · refine ⟨_, rfl, rfl, ?_⟩
          rw [hst, stk_push (x :: s) c]
        · rw [stk_len]
          rw [hs] at hal
          simp only [List.length_nil] at hal
          omega
  · rintro σ B L ⟨v, rfl, rfl, rfl⟩
    rw [List.take_length]
    refine k_one ?_
    refine k_ret ?_
    refine k_join ?_
    refine k_s [] ?_
    refine ⟨_, rfl, ?_⟩
    skip
    refine k_n 1 ?_
    skip
    refine m_join0 (ls := (red l).map fun c => [c]) ?_ ?_ ?_
    · rw [← map_one]; exact Or.inr (List.Mem.head _)
    · rw [flat_one]
      exact fun H' s => hq H' s.ext
    · rw [flat_one]
      have := red_len l
      omega
abbrev s_times : Stmt := top 11
abbrev N_times : List Str := ["one", "other"]
theorem sc_times : FnScope N_times ["one", "other"] (defScope s_times) := ⟨rfl, rfl, rfl, by decide +kernel, rfl, by decide +kernel, by decide +kernel⟩
def sp_times : Sp := fun vs H Q _ => ∃ a b, vs = [.str (sOf a), .str (sOf b)] ∧ (Let a ∧ Let b ∧ a.length + b.length ≤ 1000000) ∧ ∀ H', (∀ b o, H b = some o → H' b = some o) → Q (.str (sOf (red (a ++ b)))) H'
theorem use_times {B : Hp} {L : HL} {Q : KQ} {E : XK} {a b : List Nat} (q : Q (.str (sOf (red (a ++ b)))) B L) (h : Let a ∧ Let b ∧ a.length + b.length ≤ 1000000) : ∀ H, Sat B L H → sp_times [.str (sOf a), .str (sOf b)] H (up Q) E := fun H s => ⟨a, b, rfl, h, fun H' e => s.upq e q⟩
theorem ok_times {f : Addr} {fd : FuncData} (F : Fun K "times" "times" s_times f fd) (hm : mg "times" = some (.ref f)) (T : Tx mg) (F_put_together : Fn P w K mg base 2 "put_together" sp_put_together) : Fn P w K mg base 3 "times" sp_times := by
  refine fn_ok F sc_times hm (fun _ _ _ _ _ _ us hl => match us, hl with | [_, _], _ => rfl) ?_ fun cdv A outer s H vs Q E hr h tk po => ?_
  · rintro vs H Q E ⟨_, _, rfl, _⟩; rfl
  obtain ⟨a, b, rfl, ⟨ha, hb, hn⟩, hq⟩ := h
  refine ⟨H, [], Sat.whole, ?_⟩
  refine k_one ?_
  refine k_ret ?_
  refine k_fn F_put_together (hr.mono (by decide)) ?_
  refine a_cons ?_
  refine k_bin ?_
  refine k_n 0 ?_
  refine k_n 1 ?_
  refine o_adds ?_ (by omega)
  refine a_nil ?_
  refine use_put_together ?_ ⟨let_app ha hb, by rw [List.length_append]; omega⟩
  exact fun H' s => hq H' s.ext
/-! ### tails, roots -/
open Rt in
theorem tst_val (l : List Nat) (k : Nat) : (decide (2 * (k : Int) + 1 < (l.length : Nat)) && decide ([(atI l (k : Int)).getD 0] = [bk ((atI l (-1 - (k : Int))).getD 0)])) = tstep l k := by
  unfold tstep
  by_cases h : 2 * k + 1 < l.length
  · have e1 : 2 * (k : Int) + 1 < (l.length : Nat) := by omega
    rw [decide_eq_true e1, decide_eq_true h, Bool.true_and, Bool.true_and]
    have hn := atI_neg (l := l) (j := k) (by omega)
    rw [atI_n, hn, List.getElem?_eq_getElem (show k < l.length by omega), List.getElem?_eq_getElem (show l.length - 1 - k < l.length by omega)]
    simp
  · have e1 : ¬ (2 * (k : Int) + 1 < (l.length : Nat)) := by omega
    rw [decide_eq_false e1, decide_eq_false h]; rfl
theorem cut_mid {α : Type} (l : List α) (a b : Nat) (h : a ≤ b) (hb : b ≤ l.length) : cut l (some (a : Int)) (some (b : Int)) = (l.drop a).take (b - a) := by
  unfold cut
  rw [HT.sIx_nat, HT.sIx_nat, Nat.min_eq_left hb, Nat.min_eq_left (by omega)]
theorem let_at {l : List Nat} (hl : Let l) {i : Int} (h : -(l.length : Int) ≤ i ∧ i < l.length) : (atI l i).getD 0 ∈ ordL := by
  by_cases h0 : 0 ≤ i
  · obtain ⟨n, rfl⟩ : ∃ n : Nat, i = n := ⟨i.toNat, by omega⟩
    rw [atI_n, List.getElem?_eq_getElem (by omega)]
    exact hl _ (List.getElem_mem _)
  · obtain ⟨n, rfl⟩ : ∃ n : Nat, i = -1 - (n : Int) := ⟨(-1 - i).toNat, by omega⟩
    rw [atI_neg (by omega), List.getElem?_eq_getElem (by omega)]
    exact hl _ (List.getElem_mem _)
abbrev s_tail_length : Stmt := top 13
abbrev N_tail_length : List Str := ["word", "many"]
theorem sc_tail_length : FnScope N_tail_length ["word"] (defScope s_tail_length) := ⟨rfl, rfl, rfl, by decide +kernel, rfl, by decide +kernel, by decide +kernel⟩
def sp_tail_length : Sp := fun vs H Q _ => ∃ l, vs = [.str (sOf l)] ∧ (Let l ∧ l.length ≤ 1000000) ∧ ∀ H', (∀ b o, H b = some o → H' b = some o) → Q (.int (Rt.tlen l : Nat)) H'
theorem use_tail_length {B : Hp} {L : HL} {Q : KQ} {E : XK} {l : List Nat} (q : Q (.int (Rt.tlen l : Nat)) B L) (h : Let l) (hn : l.length ≤ 1000000) : ∀ H, Sat B L H → sp_tail_length [.str (sOf l)] H (up Q) E := fun H s => ⟨l, rfl, ⟨h, hn⟩, fun H' e => s.upq e q⟩
theorem ok_tail_length {f : Addr} {fd : FuncData} (F : Fun K "tail_length" "tail_length" s_tail_length f fd) (hm : mg "tail_length" = some (.ref f)) (T : Tx mg) (F_back_of : Fn P w K mg base 1 "back_of" sp_back_of) : Fn P w K mg base 2 "tail_length" sp_tail_length := by
  refine fn_ok F sc_tail_length hm (fun _ _ _ _ _ _ us hl => match us, hl with | [_], _ => rfl) ?_ fun cdv A outer s H vs Q E hr h tk po => ?_
  · rintro vs H Q E ⟨c, rfl, _⟩; rfl
  obtain ⟨l, rfl, ⟨hl, hn⟩, hq⟩ := h
  refine ⟨H, [], Sat.whole, ?_⟩
  refine k_cons ?_
  refine k_set 1 ?_ sc_tail_length.nd
  refine k_int ?_
  refine k_cons ?_
  refine k_while (fun m σ B L => ∃ k : Nat, σ = [some (.str (sOf l)), some (.int (k : Int))] ∧ B = H ∧ L = [] ∧ Rt.Tin l k ∧ m + k = l.length) l.length po ⟨0, rfl, rfl, rfl, Rt.tin_0 l, rfl⟩ ?_
  rintro m σ Bo L ⟨k, rfl, rfl, rfl, hin, hmk⟩
  refine t_pure (v := Rt.tstep l k) ?_ ⟨fun hk => ?_, fun hk => ?_⟩
  · skip
    refine t_w ?_
    refine w_andP ?_
    refine t_cmp ?_
    refine k_bin ?_
    refine k_bin ?_
    refine k_int ?_
    refine k_n 1 ?_
    walk_at "opMult"
    refine k_int ?_
    walk_at "opAdd"
    refine k_callB (id := "len") T.b_len ?_
    refine a_cons ?_
    refine k_n 0 ?_
    refine a_nil ?_
    refine c_lens ?_ (by omega)
    walk_at "opLt"
    refine ⟨_, rfl, ?_⟩
    apply Exists.intro; refine ⟨fun hk => ?_, ?_⟩
    {
    refine w_and1 ?_
    refine t_cmp ?_
    refine k_ix ?_
    refine k_n 0 ?_
    refine k_n 1 ?_
    walk_at "IX"
    refine k_fn F_back_of (hr.mono (by decide)) ?_
    refine a_cons ?_
    refine k_ix ?_
    refine k_n 0 ?_
    refine k_bin ?_
    refine k_neg ?_
    refine k_int ?_
    refine ⟨_, rfl, ?_⟩
    refine k_n 1 ?_
    walk_at "opSub"
    walk_at "IX"
    refine a_nil ?_
    refine use_back_of ?_ (let_at hl (by have := of_decide_eq_true hk; omega))
    walk_at "opEq"
    refine ⟨_, rfl, ?_⟩
    exact ⟨rfl, rfl, by walk_at "sfx"⟩
    all_goals (have := of_decide_eq_true hk; omega)
    }
    refine ⟨?_, rfl, by walk_at "sfx"⟩
    exact tst_val l k
  · have hlt := Rt.tstep_lt hk
    refine k_one ?_
    refine k_aug_add 1 ?_ sc_tail_length.nd
    refine k_int ?_
    refine ⟨_, rfl, ?_⟩
    exact ⟨m - 1, by omega, k + 1, rfl, rfl, rfl, Rt.tin_s hin hk, by omega⟩
  · show kSs _ _ _ _ _ _
    refine k_one ?_
    refine k_ret ?_
    refine k_n 1 ?_
    rw [Rt.tin_end hin hk]
    exact fun H' s => hq H' s.ext
/-- the tail and the core, as texts -/
def twoT (a b : List Nat) : List V := [.str (sOf a), .str (sOf b)]
abbrev s_parts : Stmt := top 17
abbrev N_parts : List Str := ["word", "many"]
theorem sc_parts : FnScope N_parts ["word"] (defScope s_parts) := ⟨rfl, rfl, rfl, by decide +kernel, rfl, by decide +kernel, by decide +kernel⟩
def sp_parts : Sp := fun vs H Q _ => ∃ l, vs = [.str (sOf l)] ∧ (Let l ∧ l.length ≤ 1000000) ∧ ∀ H' p, (∀ b o, H b = some o → H' b = some o) → H p = none → H' p = some (.tup (twoT (Rt.tail l) (Rt.core l))) → Q (.ref p) H'
theorem use_parts {B : Hp} {L : HL} {Q : KQ} {E : XK} {l : List Nat} (h : Let l) (hn : l.length ≤ 1000000) (q : ∀ p, Q (.ref p) B ((p, .tup (twoT (Rt.tail l) (Rt.core l))) :: L)) : ∀ H, Sat B L H → sp_parts [.str (sOf l)] H (up Q) E := fun H s => ⟨l, rfl, ⟨h, hn⟩, fun H' p e h1 h2 => ⟨_, _, s.new' h1 e h2, q p⟩⟩
theorem ok_parts {f : Addr} {fd : FuncData} (F : Fun K "parts" "parts" s_parts f fd) (hm : mg "parts" = some (.ref f)) (T : Tx mg) (F_tail_length : Fn P w K mg base 2 "tail_length" sp_tail_length) : Fn P w K mg base 3 "parts" sp_parts := by
  refine fn_ok F sc_parts hm (fun _ _ _ _ _ _ us hl => match us, hl with | [_], _ => rfl) ?_ fun cdv A outer s H vs Q E hr h tk po => ?_
  · rintro vs H Q E ⟨c, rfl, _⟩; rfl
  obtain ⟨l, rfl, ⟨hl, hn⟩, hq⟩ := h
  have h2 := Rt.tlen_le l
  refine ⟨H, [], Sat.whole, ?_⟩
  refine k_cons ?_
  refine k_set 1 ?_ sc_parts.nd
  refine k_fn F_tail_length (hr.mono (by decide)) ?_
  refine a_cons ?_
  refine k_n 0 ?_
  refine a_nil ?_
  refine use_tail_length ?_ hl hn
  show kSs _ _ _ _ _ _
  have e : ((l.length : Nat) : Int) - ((Rt.tlen l : Nat) : Int) = ((l.length - Rt.tlen l : Nat) : Int) := by omega
  refine k_one ?_
  refine k_ret ?_
  refine k_tup ?_
  refine a_cons ?_
  refine k_slice ?_
  refine k_n 0 ?_
  refine p_none ?_
  refine p_some ?_
  refine k_n 1 ?_
  refine ⟨_, rfl, ?_⟩
  refine sl_s ?_ (by omega)
  refine a_cons ?_
  refine k_slice ?_
  refine k_n 0 ?_
  refine p_some ?_
  refine k_n 1 ?_
  refine ⟨_, rfl, ?_⟩
  refine p_some ?_
  refine k_bin ?_
  refine k_callB (id := "len") T.b_len ?_
  refine a_cons ?_
  refine k_n 0 ?_
  refine a_nil ?_
  refine c_lens ?_ (by omega)
  refine k_n 1 ?_
  walk_at "opSub"
  refine ⟨_, rfl, ?_⟩
  refine sl_s ?_ (by omega)
  refine a_nil ?_
  refine ⟨by first | decide | simp, fun p => ?_⟩
  intro H' s
  refine hq H' p s.ext (s.nb _ List.mem_cons_self) ?_
  have h3 := s.own _ List.mem_cons_self
  rw [cut_to, e, cut_mid _ _ _ (by omega) (by omega)] at h3
  have e2 : l.length - Rt.tlen l - Rt.tlen l = l.length - 2 * Rt.tlen l := by omega
  rw [e2] at h3
  exact h3
theorem pw_val {c : List Nat} {k : Nat} (hk : 1 ≤ k) : ((!decide (c = rep (cut c none (some (((c.length : Nat) : Int) / (k : Int)))) k)) || !decide (((c.length : Nat) : Int) % (k : Int) = 0)) = !Rt.Pw c k := by
  have e : ((c.length : Nat) : Int) / (k : Int) = ((c.length / k : Nat) : Int) := rfl
  rw [e, cut_to]
  unfold Rt.Pw
  by_cases h : rep (c.take (c.length / k)) k = c
  · have hm : ((c.length : Nat) : Int) % (k : Int) = 0 := by
      have h2 := congrArg List.length h
      rw [rep_len] at h2
      rw [← h2]
      have : ((k * (c.take (c.length / k)).length : Nat) : Int) % ((k : Nat) : Int) = ((k * (c.take (c.length / k)).length % k : Nat) : Int) := rfl
      rw [this, Nat.mul_mod_right]; rfl
    rw [decide_eq_true h.symm, decide_eq_true h, decide_eq_true hm]; rfl
  · rw [decide_eq_false (fun q => h q.symm), decide_eq_false h]; rfl
theorem cut_len {c : List Nat} {m : Nat} : (cut c none (some (((c.length : Nat) : Int) / (m : Int)))).length ≤ c.length := by
  have e : ((c.length : Nat) : Int) / (m : Int) = ((c.length / m : Nat) : Int) := rfl
  rw [e, cut_to, List.length_take]; omega
theorem cut_mul {c : List Nat} {m : Nat} (h : m ≤ c.length) (hc : c.length ≤ 4000) : (cut c none (some (((c.length : Nat) : Int) / (m : Int)))).length * m ≤ 16777216 := by
  have h1 := cut_len (c := c) (m := m)
  have := Nat.mul_le_mul (Nat.le_trans h1 hc) (Nat.le_trans h hc)
  omega
abbrev s_root : Stmt := top 18
abbrev N_root : List Str := ["word", "many", "tail", "core"]
theorem sc_root : FnScope N_root ["word"] (defScope s_root) := ⟨rfl, rfl, rfl, by decide +kernel, rfl, by decide +kernel, by decide +kernel⟩
def sp_root (C : Addr) : Sp := fun vs H Q E => ∃ l, vs = [.str (sOf l)] ∧ (Let l ∧ Wd l ∧ l.length ≤ 4000) ∧ (l ≠ [] → ∀ H' p, (∀ b o, H b = some o → H' b = some o) → H p = none → H' p = some (.tup [.str (sOf (Rt.rootW l)), .int (Rt.rootN l : Nat)]) → Q (.ref p) H') ∧
  (l = [] → ∀ H', (∀ b o, H b = some o → H' b = some o) → E (.ref C) none H')
theorem use_root {C : Addr} {B : Hp} {L : HL} {Q : KQ} {E : XK} {l : List Nat} (h : Let l) (hw : Wd l) (hn : l.length ≤ 4000) (hne : l ≠ []) (q : ∀ p, Q (.ref p) B ((p, .tup [.str (sOf (Rt.rootW l)), .int (Rt.rootN l : Nat)]) :: L)) : ∀ H, Sat B L H → sp_root C [.str (sOf l)] H (up Q) E :=
  fun H s => ⟨l, rfl, ⟨h, hw, hn⟩, fun _ H' p e h1 h2 => ⟨_, _, s.new' h1 e h2, q p⟩, fun z => absurd z hne⟩
theorem let_core {l : List Nat} (h : Let l) : Let (Rt.core l) := fun c hc => h c (List.mem_of_mem_drop (List.mem_of_mem_take hc))
theorem let_tail {l : List Nat} (h : Let l) : Let (Rt.tail l) := fun c hc => h c (List.mem_of_mem_take hc)
theorem ok_root {f C : Addr} {fd : FuncData} (F : Fun K "root" "root" s_root f fd) (hm : mg "root" = some (.ref f)) (T : Tx mg) (eW : ExK K mg "NoWord" C) (F_parts : Fn P w K mg base 3 "parts" sp_parts) (F_back : Fn P w K mg base 2 "back" sp_back) : Fn P w K mg base 4 "root" (sp_root C) := by
  refine fn_ok F sc_root hm (fun _ _ _ _ _ _ us hl => match us, hl with | [_], _ => rfl) ?_ fun cdv A outer s H vs Q E hr h tk po => ?_
  · rintro vs H Q E ⟨c, rfl, _⟩; rfl
  obtain ⟨l, rfl, ⟨hl, hw, hn⟩, hq, he⟩ := h
  refine ⟨H, [], Sat.whole, ?_⟩
  refine k_cons ?_
  refine k_if ?_
  refine t_cmp ?_
  refine k_n 0 ?_
  refine k_s [] ?_
  walk_at "opEq"
  refine ⟨_, rfl, ?_⟩
  refine ⟨fun hk => ?_, fun hk => ?_⟩
  · exact k_one (k_raise eW tk fun H' s => he (by simpa using hk) H' s.ext)
  refine k_nil ?_
  have hne : l ≠ [] := by simpa using hk
  have hc1 := Rt.core_ne hw hne
  have hcl := Rt.core_len l
  have htl := Rt.tail_len l
  have ht2 := Rt.tlen_le l
  refine k_cons ?_
  refine k_asg ?_
  refine k_fn F_parts (hr.mono (by decide)) ?_
  refine a_cons ?_
  refine k_n 0 ?_
  refine a_nil ?_
  refine use_parts hl (by omega) fun pt => ?_
  refine g_tup (by walk_at "tp") rfl ?_
  refine gs_cons ?_
  refine g_name 2 ?_ sc_root.nd
  refine gs_cons ?_
  refine g_name 3 ?_ sc_root.nd
  refine gs_nil ?_
  show kSs _ _ _ _ _ _
  refine k_cons ?_
  refine k_set 1 ?_ sc_root.nd
  refine k_callB (id := "len") T.b_len ?_
  refine a_cons ?_
  refine k_n 3 ?_
  refine a_nil ?_
  refine c_lens ?_ (by omega)
  show kSs _ _ _ _ _ _
  refine k_cons ?_
  refine k_while (fun m σ B L => ∃ k : Nat, σ = [some (.str (sOf l)), some (.int (k : Int)), some (.str (sOf (Rt.tail l))), some (.str (sOf (Rt.core l)))] ∧ B = H ∧ (1 ≤ k ∧ k ≤ (Rt.core l).length) ∧ (∀ j, k < j → j ≤ (Rt.core l).length → Rt.Pw (Rt.core l) j = false) ∧ m = k) (Rt.core l).length po ⟨_, rfl, rfl, ⟨hc1, Nat.le_refl _⟩, fun j h1 h2 => absurd h1 (by omega), rfl⟩ ?_
  rintro m σ Bo L ⟨k, rfl, rfl, ⟨hk1, hk2⟩, htop, rfl⟩
  refine t_pure (v := !Rt.Pw (Rt.core l) m) ?_ ⟨fun hk => ?_, fun hk => ?_⟩
  · skip
    refine t_w ?_
    refine w_orP ?_
    refine t_cmp ?_
    refine k_n 3 ?_
    refine k_bin ?_
    refine k_slice ?_
    refine k_n 3 ?_
    refine p_none ?_
    refine p_some ?_
    refine k_bin ?_
    refine k_callB (id := "len") T.b_len ?_
    refine a_cons ?_
    refine k_n 3 ?_
    refine a_nil ?_
    refine c_lens ?_ (by omega)
    refine k_n 1 ?_
    refine o_fdiv ?_ (by omega)
    refine ⟨_, rfl, ?_⟩
    refine sl_s ?_ (by omega)
    refine k_n 1 ?_
    refine o_muls ?_ (cut_mul hk2 (by omega)) (by omega)
    walk_at "opNotEq"
    refine ⟨_, rfl, ?_⟩
    apply Exists.intro; refine ⟨fun hk => ?_, ?_⟩
    {
    refine w_or1 ?_
    refine t_cmp ?_
    refine k_bin ?_
    refine k_callB (id := "len") T.b_len ?_
    refine a_cons ?_
    refine k_n 3 ?_
    refine a_nil ?_
    walk_at "c_len"
    refine k_n 1 ?_
    refine o_mod ?_ (by omega)
    refine k_int ?_
    walk_at "opNotEq"
    refine ⟨_, rfl, ?_⟩
    exact ⟨rfl, rfl, by walk_at "sfx"⟩
    all_goals (try walk_at "side")
    }
    refine ⟨?_, rfl, by walk_at "sfx"⟩
    exact pw_val hk1
  · have hk' : Rt.Pw (Rt.core l) m = false := by simpa using hk
    have hm1 : m ≠ 1 := fun z => by rw [z, Rt.pw_1] at hk'; cases hk'
    refine k_one ?_
    refine k_aug_sub 1 ?_ sc_root.nd
    refine k_int ?_
    refine ⟨_, rfl, ?_⟩
    refine ⟨m - 1, by omega, m - 1, ?_, rfl, ⟨by omega, by omega⟩, fun j h1 h2 => ?_, rfl⟩
    · have e : ((m : Nat) : Int) - 1 = ((m - 1 : Nat) : Int) := by omega
      rw [e]; rfl
    · by_cases hj : j = m
      · rw [hj]; exact hk'
      · exact htop j (by omega) h2
  · have hk' : Rt.Pw (Rt.core l) m = true := by simpa using hk
    have hmm : m = Rt.rootN l := (Rt.pmax_eq ⟨hk1, hk2⟩ hk' htop).symm
    have hpc : (Rt.core l).take ((Rt.core l).length / m) = Rt.piece (Rt.core l) := by rw [hmm]; rfl
    have hpl : ((Rt.core l).take ((Rt.core l).length / m)).length ≤ (Rt.core l).length := by rw [List.length_take]; omega
    show kSs _ _ _ _ _ _
    refine k_one ?_
    refine k_ret ?_
    refine k_tup ?_
    refine a_cons ?_
    refine k_bin ?_
    refine k_bin ?_
    refine k_n 2 ?_
    refine k_slice ?_
    refine k_n 3 ?_
    refine p_none ?_
    refine p_some ?_
    refine k_bin ?_
    refine k_callB (id := "len") T.b_len ?_
    refine a_cons ?_
    refine k_n 3 ?_
    refine a_nil ?_
    refine c_lens ?_ (by omega)
    refine k_n 1 ?_
    refine o_fdiv ?_ (by omega)
    refine ⟨_, rfl, ?_⟩
    refine sl_s ?_ (by omega)
    refine o_adds ?_ (by have := cut_len (c := Rt.core l) (m := m); omega)
    refine k_fn F_back (hr.mono (by decide)) ?_
    refine a_cons ?_
    refine k_n 2 ?_
    refine a_nil ?_
    refine use_back ?_ (let_tail hl) (by omega)
    refine o_adds ?_ (by have := cut_len (c := Rt.core l) (m := m); rw [List.length_append, inv_len]; omega)
    refine a_cons ?_
    refine k_n 1 ?_
    refine a_nil ?_
    refine ⟨by first | decide | simp, fun p => ?_⟩
    intro H' s
    refine hq hne H' p s.ext (s.nb _ List.mem_cons_self) ?_
    have h3 := s.own _ List.mem_cons_self
    have e : (((Rt.core l).length : Nat) : Int) / (m : Int) = (((Rt.core l).length / m : Nat) : Int) := rfl
    rw [e, cut_to, hpc, hmm] at h3
    exact h3
abbrev s_key_of : Stmt := top 14
abbrev N_key_of : List Str := ["word", "letter"]
theorem sc_key_of : FnScope N_key_of ["word"] (defScope s_key_of) := ⟨rfl, rfl, rfl, by decide +kernel, rfl, by decide +kernel, by decide +kernel⟩
def keyD (l : List Nat) : PyData := .tuple [.int (l.length : Nat), .list (l.map fun c => .int (ordL.idxOf c : Nat))]
def keyV (q : Addr) (l : List Nat) : List V := [.int (l.length : Nat), .ref q]
def keyL (l : List Nat) : List V := l.map fun c => .int (ordL.idxOf c : Nat)
theorem keyL_ints (l : List Nat) : keyL l = (l.map fun c => ((ordL.idxOf c : Nat) : Int)).map V.int := by unfold keyL; rw [List.map_map]; rfl
theorem alike_ints : ∀ a b : List Nat, PySem.W.alikeAll (a.map fun c => PyData.int (ordL.idxOf c : Nat)) (b.map fun c => PyData.int (ordL.idxOf c : Nat)) = true
  | [], _ => by show PySem.W.alikeAll [] _ = true; unfold PySem.W.alikeAll; rfl
  | _ :: _, [] => by show PySem.W.alikeAll (_ :: _) [] = true; unfold PySem.W.alikeAll; rfl
  | x :: a, y :: b => by
    show PySem.W.alikeAll (PyData.int _ :: _) (PyData.int _ :: _) = true
    unfold PySem.W.alikeAll
    rw [alike_ints a b]
    unfold PySem.W.alike; rfl
theorem key_alike (a b : List Nat) : PySem.W.alike (keyD a) (keyD b) = true := by
  unfold keyD PySem.W.alike
  unfold PySem.W.alikeAll
  unfold PySem.W.alikeAll
  unfold PySem.W.alikeAll
  have e1 : PySem.W.alike (.int (a.length : Nat)) (.int (b.length : Nat)) = true := by unfold PySem.W.alike; rfl
  have e2 : PySem.W.alike (.list (a.map fun c => PyData.int (ordL.idxOf c : Nat))) (.list (b.map fun c => PyData.int (ordL.idxOf c : Nat))) = true := by unfold PySem.W.alike; exact alike_ints a b
  rw [e1, e2]; rfl
theorem depth_ints : ∀ a : List Nat, PyData.depthAll (a.map fun c => PyData.int (ordL.idxOf c : Nat)) = 0
  | [] => rfl
  | x :: a => by
    show PyData.depthAll (PyData.int _ :: _) = 0
    unfold PyData.depthAll
    rw [depth_ints a]
    unfold PyData.depth; rfl
theorem key_depth (a : List Nat) : (keyD a).depth ≤ 4 := by
  unfold keyD PyData.depth
  unfold PyData.depthAll
  unfold PyData.depthAll
  have e2 : (PyData.list (a.map fun c => PyData.int (ordL.idxOf c : Nat))).depth ≤ 1 := by unfold PyData.depth; rw [depth_ints]; decide
  have e1 : (PyData.int (a.length : Nat)).depth = 0 := by unfold PyData.depth; rfl
  have e3 : PyData.depthAll [] = 0 := rfl
  rw [e1, e3]
  omega
theorem dd_key {X : Cx} {B : Hp} {L : HL} {p q : Addr} {l : List Nat} (h1 : Tp X.K B L p (keyV q l)) (h2 : Ls X.K B L q (keyL l)) : Dd X B L (.ref p) (keyD l) :=
  dd_t h1 (da_cons dd_i (da_cons (dd_l h2 (da_map (fun _ => dd_i) l)) da_nil))
/-- a word stands ahead of another one -/
def klt (a b : List Nat) : Bool := PySem.W.dataLt (keyD a) (keyD b)
theorem klt_asym {a b : List Nat} (h : klt a b = true) : klt b a = false := lt_asym h
def sp_key_of : Sp := fun vs H Q _ => ∃ l, vs = [.str (sOf l)] ∧ (Let l ∧ l.length ≤ 1000000) ∧ ∀ H' p q, (∀ b o, H b = some o → H' b = some o) → H p = none → H q = none → p ≠ q → H' p = some (.tup (keyV q l)) → H' q = some (.lst (keyL l)) → Q (.ref p) H'
theorem use_key_of {B : Hp} {L : HL} {Q : KQ} {E : XK} {l : List Nat} (h : Let l) (hn : l.length ≤ 1000000) (q : ∀ p r, Q (.ref p) B ((p, .tup (keyV r l)) :: (r, .lst (keyL l)) :: L)) : ∀ H, Sat B L H → sp_key_of [.str (sOf l)] H (up Q) E :=
  fun H s => ⟨l, rfl, ⟨h, hn⟩, fun H' p r e h1 h2 h3 h4 h5 => ⟨_, _, s.new2 h1 h2 h3 e h4 h5, q p r⟩⟩
theorem ok_key_of {f : Addr} {fd : FuncData} (F : Fun K "key_of" "key_of" s_key_of f fd) (hm : mg "key_of" = some (.ref f)) (T : Tx mg) : Fn P w K mg base 1 "key_of" sp_key_of := by
  refine fn_ok F sc_key_of hm (fun _ _ _ _ _ _ us hl => match us, hl with | [_], _ => rfl) ?_ fun cdv A outer s H vs Q E hr h tk po => ?_
  · rintro vs H Q E ⟨c, rfl, _⟩; rfl
  obtain ⟨l, rfl, ⟨hl, hn⟩, hq⟩ := h
  refine ⟨H, [], Sat.whole, ?_⟩
  refine k_one ?_
  refine k_ret ?_
  refine k_tup ?_
  refine a_cons ?_
  refine k_callB (id := "len") T.b_len ?_
  refine a_cons ?_
  refine k_n 0 ?_
  refine a_nil ?_
  refine c_lens ?_ (by omega)
  refine a_cons ?_
  refine k_le (k_lcm_s (j := 1) (fun c => .int (ordL.idxOf c : Nat)) sc_key_of.nd (blkOk_by (N := N_key_of) (sc := defScope s_key_of) (by decide +kernel)) ?_)
  refine k_n 0 ?_
  refine ⟨l, rfl, by omega, fun c hc D acc sb Hb Cb clb fpb => ?_, fun D => ?_⟩
  ·
    refine k_sindex ?_ (name := "")
    refine k_gsE T.g_ORDER ?_
    refine ⟨_, rfl, ?_⟩
    refine a_cons ?_
    refine k_n 1 ?_
    refine a_nil ?_
    refine m_index (ord_ix (hl c hc)) ?_
    exact ⟨rfl, rfl, rfl⟩
  refine a_nil ?_
  refine ⟨by first | decide | simp, fun p => ?_⟩
  intro H' s
  have h1 := s.own _ List.mem_cons_self
  have h2 := s.own _ (.tail _ List.mem_cons_self)
  have nd := s.nd
  refine hq H' p D s.ext (s.nb _ List.mem_cons_self) (s.nb _ (.tail _ List.mem_cons_self)) (fun z => ?_) h1 h2
  subst z
  simp at nd
abbrev s_is_before : Stmt := top 15
abbrev N_is_before : List Str := ["one", "other"]
theorem sc_is_before : FnScope N_is_before ["one", "other"] (defScope s_is_before) := ⟨rfl, rfl, rfl, by decide +kernel, rfl, by decide +kernel, by decide +kernel⟩
def sp_is_before : Sp := fun vs H Q _ => ∃ a b, vs = [.str (sOf a), .str (sOf b)] ∧ (Let a ∧ Let b ∧ a.length ≤ 1000000 ∧ b.length ≤ 1000000) ∧ ∀ H', (∀ b o, H b = some o → H' b = some o) → Q (.bl (klt a b)) H'
theorem use_is_before {B : Hp} {L : HL} {Q : KQ} {E : XK} {a b : List Nat} (q : Q (.bl (klt a b)) B L) (h : Let a ∧ Let b ∧ a.length ≤ 1000000 ∧ b.length ≤ 1000000) : ∀ H, Sat B L H → sp_is_before [.str (sOf a), .str (sOf b)] H (up Q) E := fun H s => ⟨a, b, rfl, h, fun H' e => s.upq e q⟩
theorem ok_is_before {f : Addr} {fd : FuncData} (F : Fun K "is_before" "is_before" s_is_before f fd) (hm : mg "is_before" = some (.ref f)) (T : Tx mg) (F_key_of : Fn P w K mg base 1 "key_of" sp_key_of) : Fn P w K mg base 2 "is_before" sp_is_before := by
  refine fn_ok F sc_is_before hm (fun _ _ _ _ _ _ us hl => match us, hl with | [_, _], _ => rfl) ?_ fun cdv A outer s H vs Q E hr h tk po => ?_
  · rintro vs H Q E ⟨_, _, rfl, _⟩; rfl
  obtain ⟨a, b, rfl, ⟨ha, hb, hn1, hn2⟩, hq⟩ := h
  refine ⟨H, [], Sat.whole, ?_⟩
  refine k_one ?_
  refine k_ret ?_
  refine k_cmp ?_
  refine k_fn F_key_of (hr.mono (by decide)) ?_
  refine a_cons ?_
  refine k_n 0 ?_
  refine a_nil ?_
  refine use_key_of ha hn1 fun p1 r1 => ?_
  refine k_fn F_key_of (hr.mono (by decide)) ?_
  refine a_cons ?_
  refine k_n 1 ?_
  refine a_nil ?_
  refine use_key_of hb hn2 fun p2 r2 => ?_
  refine o_ltD hr.units (dd_key (l := a) (.inr (by walk_at "mm")) (.inr (by walk_at "mm"))) (dd_key (l := b) (.inr (by walk_at "mm")) (.inr (by walk_at "mm"))) (key_alike a b) (fun z => nomatch z) (Nat.le_trans (Nat.min_le_left _ _) (Nat.le_trans (key_depth a) (by decide))) ?_
  exact fun H' s => hq H' s.ext
theorem let_root {l : List Nat} (h : Let l) : Let (Rt.rootW l) := let_app (let_app (let_tail h) (fun c hc => let_core h c (List.mem_of_mem_take hc))) (let_inv (let_tail h))
theorem root_len {l : List Nat} (hw : Wd l) (hne : l ≠ []) : (Rt.rootW l).length ≤ l.length := by
  have h1 := Rt.core_len l
  have h2 := Rt.tail_len l
  have h3 := Rt.tlen_le l
  have h4 : (Rt.piece (Rt.core l)).length ≤ (Rt.core l).length := by unfold Rt.piece; rw [List.length_take]; omega
  unfold Rt.rootW
  rw [List.length_append, List.length_append, inv_len]; omega
/-- a row of words -/
abbrev wV (ws : List (List Nat)) : List V := ws.map fun l => .str (sOf l)
abbrev s_need_row : Stmt := top 21
abbrev N_need_row : List Str := ["thing", "word"]
theorem sc_need_row : FnScope N_need_row ["thing"] (defScope s_need_row) := ⟨rfl, rfl, rfl, by decide +kernel, rfl, by decide +kernel, by decide +kernel⟩
def gWd : V → V
  | .str s => .bl (isW s.cps.toList)
  | _ => .bl false
theorem gWd_wV (ws : List (List Nat)) : (wV ws).map gWd = (ws.map isW).map V.bl := by rw [List.map_map, List.map_map]; rfl
/-- a row that may be handed in -/
def Row (ws : List (List Nat)) : Prop := 1 ≤ ws.length ∧ ws.length ≤ 8 ∧ ∀ l ∈ ws, isW l = true
theorem row_let {ws : List (List Nat)} (h : Row ws) {l : List Nat} (hl : l ∈ ws) : l.length ≤ 60 ∧ Let l ∧ Wd l := (isW_iff l).mp (h.2.2 l hl)
/-- what may stand in a list that is looked at -/
def Elt (K : PySem.W.Frag) (H : Hp) (x : V) : Prop := (∃ l, x = .str (sOf l) ∧ l.length ≤ 1000000) ∨ ((∀ s, x ≠ .str s) ∧ NoTx K H x)
theorem Elt.le {H H' : Hp} {x : V} (h : Elt K H x) (e : Le H H') : Elt K H' x := h.elim .inl fun z => .inr ⟨z.1, z.2.le e⟩
def wB : V → Bool
  | .str s => isW s.cps.toList
  | _ => false
/-- x is no list -/
def NoLs (K : PySem.W.Frag) (H : Hp) (x : V) : Prop := ∃ t, TyX K H x t ∧ PySem.W.kitOne K t (.type "list") = some false
theorem NoLs.le {H H' : Hp} {x : V} (h : NoLs K H x) (e : Le H H') : NoLs K H' x := by
  obtain ⟨t, h1, h2⟩ := h
  exact ⟨t, tyx_le e h1, h2⟩
theorem c_isNL {X : Cx} {B : Hp} {L : HL} {Q : KQ} {x : V} (h : ∀ H, Sat B L H → NoLs X.K H x) (q : Q (.bl false) B L) : kC X (.builtin "isinstance") [x, .ty "list"] B L Q :=
  ⟨_, call_isi, fun H s => by
    obtain ⟨t, h1, h2⟩ := h H s
    exact ⟨x, .ty "list", t, .type "list", false, rfl, .ty "list", h1, h2, _, _, s, q⟩⟩
/-- what is no row -/
def RowBad (K : PySem.W.Frag) (H : Hp) (v : V) : Prop := NoLs K H v ∨ ∃ p xs, v = .ref p ∧ SqL K H p xs ∧ (¬ (1 ≤ xs.length ∧ xs.length ≤ 8) ∨ ((1 ≤ xs.length ∧ xs.length ≤ 8) ∧ (∀ x ∈ xs, Elt K H x) ∧ xs.all wB = false))
theorem RowBad.le {H H' : Hp} {x : V} (h : RowBad K H x) (e : Le H H') : RowBad K H' x := by
  rcases h with h | ⟨p, xs, h1, h2, h3⟩
  · exact .inl (h.le e)
  · exact .inr ⟨p, xs, h1, ext_l e h2, h3.elim .inl fun z => .inr ⟨z.1, fun x hx => (z.2.1 x hx).le e, z.2.2⟩⟩
def sp_need_row (K : PySem.W.Frag) (C : Addr) : Sp := fun vs H Q E => (∃ p ws, vs = [.ref p] ∧ SqL K H p (wV ws) ∧ Row ws ∧ ∀ H', (∀ b o, H b = some o → H' b = some o) → Q .non H') ∨ ∃ v, vs = [v] ∧ RowBad K H v ∧ ∀ H', (∀ b o, H b = some o → H' b = some o) → E (.ref C) none H'
theorem use_need_row {C : Addr} {B : Hp} {L : HL} {Q : KQ} {E : XK} {p : Addr} {ws : List (List Nat)} (q : Q .non B L) (h : Ls K B L p (wV ws)) (hr : Row ws) : ∀ H, Sat B L H → sp_need_row K C [.ref p] H (up Q) E := fun H s => .inl ⟨p, ws, rfl, h.at s, hr, fun H' e => s.upq e q⟩
theorem use_need_row_bad {C : Addr} {B : Hp} {L : HL} {Q : KQ} {E : XK} {v : V} (hb : ∀ H, Sat B L H → RowBad K H v) (h : ∀ H, Sat B L H → E (.ref C) none H) : ∀ H, Sat B L H → sp_need_row K C [v] H (up Q) E := fun H s => .inr ⟨v, rfl, hb H s, fun H' e => h H' (s.keep e)⟩
theorem ok_need_row {f C : Addr} {fd : FuncData} (F : Fun K "need_row" "need_row" s_need_row f fd) (hm : mg "need_row" = some (.ref f)) (T : Tx mg) (eR : ExK K mg "NoRow" C) (F_is_word : Fn P w K mg base 2 "is_word" (sp_is_word K)) : Fn P w K mg base 3 "need_row" (sp_need_row K C) := by
  refine fn_ok F sc_need_row hm (fun _ _ _ _ _ _ us hl => match us, hl with | [_], _ => rfl) ?_ fun cdv A outer s H vs Q E hr h tk po => ?_
  · rintro vs H Q E (⟨_, _, rfl, _⟩ | ⟨_, rfl, _⟩) <;> rfl
  rcases h with ⟨p, ws, rfl, hp, hrow, hq⟩ | ⟨v, rfl, hbad | ⟨p, xs, rfl, hp, hbad⟩, he⟩
  rotate_left
  · refine ⟨H, [], Sat.whole, ?_⟩
    refine k_cons ?_
    refine k_if ?_
    refine t_w ?_
    refine w_orP ?_
    refine t_not ?_
    refine t_val ?_
    refine k_callB (id := "isinstance") T.b_isinstance ?_
    refine a_cons ?_
    refine k_n 0 ?_
    refine a_cons ?_
    refine k_ty (T := "list") T.b_list ?_
    refine a_nil ?_
    refine c_isNL (fun H' s' => hbad.le s'.ext) ?_
    refine ⟨_, rfl, ?_⟩
    refine ⟨false, fun z => (by cases z), ?_⟩
    refine ⟨fun _ => ?_, fun z => (by cases z)⟩
    exact k_one (k_raise eR tk fun H' s => he H' s.ext)
  · have hls : ∀ L, Ls K H L p xs := fun L => .inl hp
    refine ⟨H, [], Sat.whole, ?_⟩
    refine k_cons ?_
    refine k_if ?_
    refine t_pure (v := !decide (1 ≤ xs.length ∧ xs.length ≤ 8)) ?_ ⟨fun hk => ?_, fun hk => ?_⟩
    · skip
      refine t_w ?_
      refine w_orP ?_
      refine t_not ?_
      refine t_val ?_
      refine k_callB (id := "isinstance") T.b_isinstance ?_
      refine a_cons ?_
      refine k_n 0 ?_
      refine a_cons ?_
      refine k_ty (T := "list") T.b_list ?_
      refine a_nil ?_
      refine c_isL (k := true) (hls _) ?_
      refine ⟨_, rfl, ?_⟩
      apply Exists.intro; refine ⟨fun hk => ?_, ?_⟩
      {
      refine w_or1 ?_
      refine t_not ?_
      refine t_chainP ?_
      refine k_int ?_
      refine k_callB (id := "len") T.b_len ?_
      refine a_cons ?_
      refine k_n 0 ?_
      refine a_nil ?_
      refine c_lenl (hls _) ?_
      walk_at "opLtE"
      refine ⟨_, rfl, ?_⟩; apply Exists.intro; refine ⟨fun hk => ?_, ?_⟩
      {
      refine k_giE T.g_MOST_WORDS ?_
      walk_at "opLtE"
      exact ⟨rfl, rfl, by walk_at "sfx"⟩
      all_goals (try walk_at "side")
      }
      exact ⟨rfl, rfl, by walk_at "sfx"⟩
      all_goals (try walk_at "side")
      }
      refine ⟨?_, rfl, by walk_at "sfx"⟩
      have e1 : decide ((1 : Int) ≤ (xs.length : Nat)) = decide (1 ≤ xs.length) := by rw [Bool.eq_iff_iff, decide_eq_true_iff, decide_eq_true_iff]; omega
      have e2 : decide (((xs.length : Nat) : Int) ≤ 8) = decide (xs.length ≤ 8) := by rw [Bool.eq_iff_iff, decide_eq_true_iff, decide_eq_true_iff]; omega
      rw [e1, e2]
      simp
    · exact k_one (k_raise eR tk fun H' s => he H' s.ext)
    refine k_nil ?_
    have hl : 1 ≤ xs.length ∧ xs.length ≤ 8 := by simpa using hk
    have hbad2 := (hbad.resolve_left fun z => z hl).2
    refine k_one ?_
    refine k_if ?_
    refine t_not ?_
    refine t_val ?_
    refine k_callB (id := "all") T.b_all ?_
    refine a_cons ?_
    refine k_le (k_lcm_l (j := 1) (fun v => .bl (wB v)) sc_need_row.nd (blkOk_by (N := N_need_row) (sc := defScope s_need_row) (by decide +kernel)) ?_)
    refine k_n 0 ?_
    refine ⟨p, xs, rfl, hls _, by omega, fun z hz D acc sb Hb Cb clb fpb => ?_, fun D => ?_⟩
    ·
      rcases hbad2.1 z hz with ⟨l, rfl, hll⟩ | ⟨hns, hnt⟩
      ·
        refine k_fn F_is_word (hr.mono (by decide)) ?_
        refine a_cons ?_
        refine k_n 1 ?_
        refine a_nil ?_
        refine use_is_word ?_ hll
        exact ⟨rfl, rfl, rfl⟩
      ·
        refine k_fn F_is_word (hr.mono (by decide)) ?_
        refine a_cons ?_
        refine k_n 1 ?_
        refine a_nil ?_
        refine use_is_wordN ?_ (fun H' s' => hnt.le s'.ext)
        refine ⟨?_, rfl, rfl⟩
        cases z with
        | str s => exact absurd rfl (hns s)
        | _ => rfl
    refine a_nil ?_
    refine c_all (bs := xs.map wB) (by rw [List.map_map]; exact Or.inr (List.Mem.head _)) ?_
    refine ⟨_, rfl, ?_⟩
    have hall : (xs.map wB).all id = false := by rw [List.all_map]; exact hbad2.2
    rw [hall]
    refine ⟨fun _ => ?_, fun z => (by cases z)⟩
    exact k_one (k_raise eR tk fun H' s => he H' s.ext)
  have hls : ∀ L, Ls K H L p (wV ws) := fun L => .inl hp
  refine ⟨H, [], Sat.whole, ?_⟩
  refine k_cons ?_
  refine k_if ?_
  refine t_pure (v := false) ?_ ⟨fun z => (nomatch z), fun _ => ?_⟩
  · skip
    refine t_w ?_
    refine w_orP ?_
    refine t_not ?_
    refine t_val ?_
    refine k_callB (id := "isinstance") T.b_isinstance ?_
    refine a_cons ?_
    refine k_n 0 ?_
    refine a_cons ?_
    refine k_ty (T := "list") T.b_list ?_
    refine a_nil ?_
    refine c_isL (k := true) (hls _) ?_
    refine ⟨_, rfl, ?_⟩
    apply Exists.intro; refine ⟨fun hk => ?_, ?_⟩
    {
    refine w_or1 ?_
    refine t_not ?_
    refine t_chainP ?_
    refine k_int ?_
    refine k_callB (id := "len") T.b_len ?_
    refine a_cons ?_
    refine k_n 0 ?_
    refine a_nil ?_
    refine c_lenl (hls _) ?_
    walk_at "opLtE"
    refine ⟨_, rfl, ?_⟩; apply Exists.intro; refine ⟨fun hk => ?_, ?_⟩
    {
    refine k_giE T.g_MOST_WORDS ?_
    walk_at "opLtE"
    exact ⟨rfl, rfl, by walk_at "sfx"⟩
    all_goals (try walk_at "side")
    }
    exact ⟨rfl, rfl, by walk_at "sfx"⟩
    all_goals (try walk_at "side")
    }
    refine ⟨?_, rfl, by walk_at "sfx"⟩
    rw [List.length_map]
    have h1 : (1 : Int) ≤ (ws.length : Nat) := by have := hrow.1; omega
    have h2 : ((ws.length : Nat) : Int) ≤ 8 := by have := hrow.2.1; omega
    rw [decide_eq_true h1, decide_eq_true h2]; rfl
  refine k_nil ?_
  refine k_one ?_
  refine k_if ?_
  refine t_not ?_
  refine t_val ?_
  refine k_callB (id := "all") T.b_all ?_
  refine a_cons ?_
  refine k_le (k_lcm_l (j := 1) gWd sc_need_row.nd (blkOk_by (N := N_need_row) (sc := defScope s_need_row) (by decide +kernel)) ?_)
  refine k_n 0 ?_
  refine ⟨p, wV ws, rfl, hls _, by rw [List.length_map]; have := hrow.2.1; omega, fun z hz D acc sb Hb Cb clb fpb => ?_, fun D => ?_⟩
  ·
    obtain ⟨l, hlm, rfl⟩ := List.mem_map.mp hz
    refine k_fn F_is_word (hr.mono (by decide)) ?_
    refine a_cons ?_
    refine k_n 1 ?_
    refine a_nil ?_
    refine use_is_word ?_ (by have := (row_let hrow hlm).1; omega)
    exact ⟨rfl, rfl, rfl⟩
  refine a_nil ?_
  refine c_all (bs := ws.map isW) (by rw [gWd_wV]; exact Or.inr (List.Mem.head _)) ?_
  refine ⟨_, rfl, ?_⟩
  have hall : (ws.map isW).all id = true := by
    rw [List.all_eq_true]
    intro b hb
    obtain ⟨l, hlm, rfl⟩ := List.mem_map.mp hb
    exact hrow.2.2 l hlm
  rw [hall]
  refine ⟨fun z => (by cases z), fun _ => ?_⟩
  exact k_nil fun H' s => hq H' s.ext
abbrev s_moved_by : Stmt := top 22
abbrev N_moved_by : List Str := ["word", "by"]
theorem sc_moved_by : FnScope N_moved_by ["word", "by"] (defScope s_moved_by) := ⟨rfl, rfl, rfl, by decide +kernel, rfl, by decide +kernel, by decide +kernel⟩
/-- a word moved by another one -/
abbrev mvd := Mv.mvd
theorem red_red_app (a b : List Nat) : red (red a ++ b) = red (a ++ b) := (Rt.g_midr (Rt.g_red a) : Rt.G _ _)
theorem let_mvd {w b : List Nat} (h1 : Let w) (h2 : Let b) : Let (mvd w b) := let_red (let_app (let_app (let_inv h2) h1) h2)
theorem mvd_len (w b : List Nat) : (mvd w b).length ≤ w.length + 2 * b.length := Nat.le_trans (red_len _) (by rw [List.length_append, List.length_append, inv_len]; omega)
def sp_moved_by : Sp := fun vs H Q _ => ∃ a b, vs = [.str (sOf a), .str (sOf b)] ∧ (Let a ∧ Let b ∧ a.length ≤ 100000 ∧ b.length ≤ 100000) ∧ ∀ H', (∀ b o, H b = some o → H' b = some o) → Q (.str (sOf (mvd a b))) H'
theorem use_moved_by {B : Hp} {L : HL} {Q : KQ} {E : XK} {a b : List Nat} (q : Q (.str (sOf (mvd a b))) B L) (h : Let a ∧ Let b ∧ a.length ≤ 100000 ∧ b.length ≤ 100000) : ∀ H, Sat B L H → sp_moved_by [.str (sOf a), .str (sOf b)] H (up Q) E := fun H s => ⟨a, b, rfl, h, fun H' e => s.upq e q⟩
theorem ok_moved_by {f : Addr} {fd : FuncData} (F : Fun K "moved_by" "moved_by" s_moved_by f fd) (hm : mg "moved_by" = some (.ref f)) (T : Tx mg) (F_times : Fn P w K mg base 3 "times" sp_times) (F_back : Fn P w K mg base 2 "back" sp_back) : Fn P w K mg base 4 "moved_by" sp_moved_by := by
  refine fn_ok F sc_moved_by hm (fun _ _ _ _ _ _ us hl => match us, hl with | [_, _], _ => rfl) ?_ fun cdv A outer s H vs Q E hr h tk po => ?_
  · rintro vs H Q E ⟨_, _, rfl, _⟩; rfl
  obtain ⟨a, b, rfl, ⟨ha, hb, hn1, hn2⟩, hq⟩ := h
  have hl1 := red_len (inv b ++ a)
  rw [List.length_append, inv_len] at hl1
  refine ⟨H, [], Sat.whole, ?_⟩
  refine k_one ?_
  refine k_ret ?_
  refine k_fn F_times (hr.mono (by decide)) ?_
  refine a_cons ?_
  refine k_fn F_times (hr.mono (by decide)) ?_
  refine a_cons ?_
  refine k_fn F_back (hr.mono (by decide)) ?_
  refine a_cons ?_
  refine k_n 1 ?_
  refine a_nil ?_
  refine use_back ?_ hb (by omega)
  refine a_cons ?_
  refine k_n 0 ?_
  refine a_nil ?_
  refine use_times ?_ ⟨let_inv hb, ha, by rw [inv_len]; omega⟩
  refine a_cons ?_
  refine k_n 1 ?_
  refine a_nil ?_
  refine use_times ?_ ⟨let_red (let_app (let_inv hb) ha), hb, by omega⟩
  rw [red_red_app]
  exact fun H' s => hq H' s.ext
abbrev s_goes_with : Stmt := top 24
abbrev N_goes_with : List Str := ["one", "other"]
theorem sc_goes_with : FnScope N_goes_with ["one", "other"] (defScope s_goes_with) := ⟨rfl, rfl, rfl, by decide +kernel, rfl, by decide +kernel, by decide +kernel⟩
abbrev gw := Mv.gw
def sp_goes_with : Sp := fun vs H Q _ => ∃ a b, vs = [.str (sOf a), .str (sOf b)] ∧ (Let a ∧ Let b ∧ a.length ≤ 100000 ∧ b.length ≤ 100000) ∧ ∀ H', (∀ b o, H b = some o → H' b = some o) → Q (.bl (gw a b)) H'
theorem use_goes_with {B : Hp} {L : HL} {Q : KQ} {E : XK} {a b : List Nat} (q : Q (.bl (gw a b)) B L) (h : Let a ∧ Let b ∧ a.length ≤ 100000 ∧ b.length ≤ 100000) : ∀ H, Sat B L H → sp_goes_with [.str (sOf a), .str (sOf b)] H (up Q) E := fun H s => ⟨a, b, rfl, h, fun H' e => s.upq e q⟩
theorem ok_goes_with {f : Addr} {fd : FuncData} (F : Fun K "goes_with" "goes_with" s_goes_with f fd) (hm : mg "goes_with" = some (.ref f)) (T : Tx mg) (F_times : Fn P w K mg base 3 "times" sp_times) : Fn P w K mg base 4 "goes_with" sp_goes_with := by
  refine fn_ok F sc_goes_with hm (fun _ _ _ _ _ _ us hl => match us, hl with | [_, _], _ => rfl) ?_ fun cdv A outer s H vs Q E hr h tk po => ?_
  · rintro vs H Q E ⟨_, _, rfl, _⟩; rfl
  obtain ⟨a, b, rfl, ⟨ha, hb, hn1, hn2⟩, hq⟩ := h
  refine ⟨H, [], Sat.whole, ?_⟩
  refine k_one ?_
  refine k_ret ?_
  refine k_cmp ?_
  refine k_fn F_times (hr.mono (by decide)) ?_
  refine a_cons ?_
  refine k_n 0 ?_
  refine a_cons ?_
  refine k_n 1 ?_
  refine a_nil ?_
  refine use_times ?_ ⟨ha, hb, by omega⟩
  refine k_fn F_times (hr.mono (by decide)) ?_
  refine a_cons ?_
  refine k_n 1 ?_
  refine a_cons ?_
  refine k_n 0 ?_
  refine a_nil ?_
  refine use_times ?_ ⟨hb, ha, by omega⟩
  walk_at "opEq"
  exact fun H' s => hq H' s.ext
abbrev s_moved_row : Stmt := top 23
abbrev N_moved_row : List Str := ["row", "word", "one"]
theorem sc_moved_row : FnScope N_moved_row ["row", "word"] (defScope s_moved_row) := ⟨rfl, rfl, rfl, by decide +kernel, rfl, by decide +kernel, by decide +kernel⟩
def gMv (b : List Nat) : V → V
  | .str s => .str (sOf (mvd s.cps.toList b))
  | _ => .non
theorem gMv_wV (ws : List (List Nat)) (b : List Nat) : (wV ws).map (gMv b) = wV (ws.map fun w => mvd w b) := by
  rw [List.map_map]
  show _ = (ws.map fun w => mvd w b).map _
  rw [List.map_map]; rfl
def sp_moved_row (K : PySem.W.Frag) (C CW : Addr) : Sp := fun vs H Q E => (∃ v z, vs = [v, z] ∧ RowBad K H v ∧ ∀ H', (∀ b o, H b = some o → H' b = some o) → E (.ref C) none H') ∨ (∃ p ws z, vs = [.ref p, z] ∧ SqL K H p (wV ws) ∧ Row ws ∧ Elt K H z ∧ wB z = false ∧ ∀ H', (∀ b o, H b = some o → H' b = some o) → E (.ref CW) none H') ∨ ∃ p ws b, vs = [.ref p, .str (sOf b)] ∧ SqL K H p (wV ws) ∧ (Row ws ∧ isW b = true) ∧ ∀ H' q, (∀ b o, H b = some o → H' b = some o) → H q = none → H' q = some (.lst (wV (ws.map fun w => mvd w b))) → Q (.ref q) H'
theorem use_moved_row {C CW : Addr} {B : Hp} {L : HL} {Q : KQ} {E : XK} {p : Addr} {ws : List (List Nat)} {b : List Nat} (h : Ls K B L p (wV ws)) (hr : Row ws ∧ isW b = true) (q : ∀ r, Q (.ref r) B ((r, .lst (wV (ws.map fun w => mvd w b))) :: L)) : ∀ H, Sat B L H → sp_moved_row K C CW [.ref p, .str (sOf b)] H (up Q) E :=
  fun H s => .inr (.inr ⟨p, ws, b, rfl, h.at s, hr, fun H' r e h1 h2 => ⟨_, _, s.new' h1 e h2, q r⟩⟩)
theorem ok_moved_row {f C CW : Addr} {fd : FuncData} (F : Fun K "moved_row" "moved_row" s_moved_row f fd) (hm : mg "moved_row" = some (.ref f)) (T : Tx mg) (eW : ExK K mg "NoWord" CW) (F_need_row : Fn P w K mg base 3 "need_row" (sp_need_row K C)) (F_is_word : Fn P w K mg base 2 "is_word" (sp_is_word K)) (F_moved_by : Fn P w K mg base 4 "moved_by" sp_moved_by) : Fn P w K mg base 5 "moved_row" (sp_moved_row K C CW) := by
  refine fn_ok F sc_moved_row hm (fun _ _ _ _ _ _ us hl => match us, hl with | [_, _], _ => rfl) ?_ fun cdv A outer s H vs Q E hr h tk po => ?_
  · rintro vs H Q E (⟨_, _, rfl, _⟩ | ⟨_, _, _, rfl, _⟩ | ⟨_, _, _, rfl, _⟩) <;> rfl
  rcases h with ⟨v, z, rfl, hbad, he⟩ | ⟨p, ws, z, rfl, hp, hrow, hz, hwz, he⟩ | ⟨p, ws, b, rfl, hp, ⟨hrow, hwb⟩, hq⟩
  · refine ⟨H, [], Sat.whole, ?_⟩
    refine k_cons ?_
    refine k_expr ?_
    refine k_call F_need_row (hr.mono (by decide)) tk ?_
    refine a_cons ?_
    refine k_n 0 ?_
    refine a_nil ?_
    exact use_need_row_bad (fun H' s' => hbad.le s'.ext) fun H' s => he H' s.ext
  · have hls : ∀ L, Ls K H L p (wV ws) := fun L => .inl hp
    refine ⟨H, [], Sat.whole, ?_⟩
    refine k_cons ?_
    refine k_expr ?_
    refine k_fn F_need_row (hr.mono (by decide)) ?_
    refine a_cons ?_
    refine k_n 0 ?_
    refine a_nil ?_
    refine use_need_row ?_ (hls _) hrow
    refine k_cons ?_
    refine k_if ?_
    rcases hz with ⟨l, rfl, hll⟩ | ⟨hns, hnt⟩
    · skip
      refine t_not ?_
      refine t_val ?_
      refine k_fn F_is_word (hr.mono (by decide)) ?_
      refine a_cons ?_
      refine k_n 1 ?_
      refine a_nil ?_
      refine use_is_word ?_ hll
      refine ⟨_, rfl, ?_⟩
      have : isW l = false := hwz
      rw [this]
      refine ⟨fun _ => ?_, fun z => (by cases z)⟩
      exact k_one (k_raise eW tk fun H' s => he H' s.ext)
    · skip
      refine t_not ?_
      refine t_val ?_
      refine k_fn F_is_word (hr.mono (by decide)) ?_
      refine a_cons ?_
      refine k_n 1 ?_
      refine a_nil ?_
      refine use_is_wordN ?_ (fun H' s' => hnt.le s'.ext)
      refine ⟨_, rfl, ?_⟩
      refine ⟨fun _ => ?_, fun z => (by cases z)⟩
      exact k_one (k_raise eW tk fun H' s => he H' s.ext)
  have hls : ∀ L, Ls K H L p (wV ws) := fun L => .inl hp
  have hb := (isW_iff b).mp hwb
  refine ⟨H, [], Sat.whole, ?_⟩
  refine k_cons ?_
  refine k_expr ?_
  refine k_fn F_need_row (hr.mono (by decide)) ?_
  refine a_cons ?_
  refine k_n 0 ?_
  refine a_nil ?_
  refine use_need_row ?_ (hls _) hrow
  refine k_cons ?_
  refine k_if ?_
  refine t_not ?_
  refine t_val ?_
  refine k_fn F_is_word (hr.mono (by decide)) ?_
  refine a_cons ?_
  refine k_n 1 ?_
  refine a_nil ?_
  refine use_is_word ?_ (by have := hb.1; omega)
  refine ⟨_, rfl, ?_⟩
  rw [hwb]
  refine ⟨fun z => (by cases z), fun _ => ?_⟩
  refine k_nil ?_
  refine k_one ?_
  refine k_ret ?_
  refine k_le (k_lcm_l (j := 2) (gMv b) sc_moved_row.nd (blkOk_by (N := N_moved_row) (sc := defScope s_moved_row) (by decide +kernel)) ?_)
  refine k_n 0 ?_
  refine ⟨p, wV ws, rfl, hls _, by rw [List.length_map]; have := hrow.2.1; omega, fun z hz D acc sb Hb Cb clb fpb => ?_, fun D => ?_⟩
  ·
    obtain ⟨l, hlm, rfl⟩ := List.mem_map.mp hz
    have hl := row_let hrow hlm
    refine k_fn F_moved_by (hr.mono (by decide)) ?_
    refine a_cons ?_
    refine k_n 2 ?_
    refine a_cons ?_
    refine k_n 1 ?_
    refine a_nil ?_
    refine use_moved_by ?_ ⟨hl.2.1, hb.2.1, by have := hl.1; omega, by have := hb.1; omega⟩
    exact ⟨rfl, rfl, rfl⟩
  rw [gMv_wV]
  intro H' s
  exact hq H' D s.ext (s.nb _ List.mem_cons_self) (s.own _ List.mem_cons_self)
/-! ### movers -/
theorem fgo_hit {p : Nat → Bool} {i : Nat} : ∀ {k s : Nat}, s ≤ i → i < s + k → p i = true → (∀ j, s ≤ j → j < i → p j = false) → Mv.fgo p s k = some i
  | 0, s, h1, h2, _, _ => absurd h2 (by omega)
  | k + 1, s, h1, h2, hp, hm => by
    unfold Mv.fgo
    rcases Nat.eq_or_lt_of_le h1 with rfl | h3
    · rw [if_pos hp]
    · rw [if_neg (by rw [hm s (Nat.le_refl _) h3]; decide)]
      exact fgo_hit h3 (by omega) hp fun j h4 h5 => hm j (by omega) h5
theorem fgo_miss {p : Nat → Bool} : ∀ {k s : Nat}, (∀ j, s ≤ j → j < s + k → p j = false) → Mv.fgo p s k = none
  | 0, _, _ => rfl
  | k + 1, s, hm => by
    unfold Mv.fgo
    rw [if_neg (by rw [hm s (Nat.le_refl _) (by omega)]; decide)]
    exact fgo_miss fun j h4 h5 => hm j (by omega) (by omega)
def oV : Option (List Nat) → V
  | none => .non
  | some x => .str (sOf x)
abbrev s_first_mover : Stmt := top 25
abbrev N_first_mover : List Str := ["word", "other", "many", "tail", "core", "stem", "turned"]
theorem sc_first_mover : FnScope N_first_mover ["word", "other"] (defScope s_first_mover) := ⟨rfl, rfl, rfl, by decide +kernel, rfl, by decide +kernel, by decide +kernel⟩
def sp_first_mover : Sp := fun vs H Q _ => ∃ a b, vs = [.str (sOf a), .str (sOf b)] ∧ (Let a ∧ Let b ∧ a.length ≤ 100000 ∧ b.length ≤ 100000) ∧ ∀ H', (∀ b o, H b = some o → H' b = some o) → Q (oV (Mv.fm a b)) H'
theorem use_first_mover {B : Hp} {L : HL} {Q : KQ} {E : XK} {a b : List Nat} (q : Q (oV (Mv.fm a b)) B L) (h : Let a ∧ Let b ∧ a.length ≤ 100000 ∧ b.length ≤ 100000) : ∀ H, Sat B L H → sp_first_mover [.str (sOf a), .str (sOf b)] H (up Q) E := fun H s => ⟨a, b, rfl, h, fun H' e => s.upq e q⟩
theorem ok_first_mover {f : Addr} {fd : FuncData} (F : Fun K "first_mover" "first_mover" s_first_mover f fd) (hm : mg "first_mover" = some (.ref f)) (T : Tx mg) (F_parts : Fn P w K mg base 3 "parts" sp_parts) (F_times : Fn P w K mg base 3 "times" sp_times) (F_back : Fn P w K mg base 2 "back" sp_back) : Fn P w K mg base 4 "first_mover" sp_first_mover := by
  refine fn_ok F sc_first_mover hm (fun _ _ _ _ _ _ us hl => match us, hl with | [_, _], _ => rfl) ?_ fun cdv A outer s H vs Q E hr h tk po => ?_
  · rintro vs H Q E ⟨_, _, rfl, _⟩; rfl
  obtain ⟨a, b, rfl, ⟨ha, hb, hn1, hn2⟩, hq⟩ := h
  have hc1 := Rt.core_len a
  have ht1 := Rt.tail_len a
  have hc2 := Rt.core_len b
  have ht2 := Rt.tail_len b
  have hu1 := Rt.tlen_le a
  have hu2 := Rt.tlen_le b
  refine ⟨H, [], Sat.whole, ?_⟩
  refine k_cons ?_
  refine k_asg ?_
  refine k_fn F_parts (hr.mono (by decide)) ?_
  refine a_cons ?_
  refine k_n 0 ?_
  refine a_nil ?_
  refine use_parts ha (by omega) fun p1 => ?_
  refine g_tup (by walk_at "tp") rfl ?_
  refine gs_cons ?_
  refine g_name 3 ?_ sc_first_mover.nd
  refine gs_cons ?_
  refine g_name 4 ?_ sc_first_mover.nd
  refine gs_nil ?_
  show kSs _ _ _ _ _ _
  refine k_cons ?_
  refine k_asg ?_
  refine k_fn F_parts (hr.mono (by decide)) ?_
  refine a_cons ?_
  refine k_n 1 ?_
  refine a_nil ?_
  refine use_parts hb (by omega) fun p2 => ?_
  refine g_tup (by walk_at "tp") rfl ?_
  refine gs_cons ?_
  refine g_name 5 ?_ sc_first_mover.nd
  refine gs_cons ?_
  refine g_name 6 ?_ sc_first_mover.nd
  refine gs_nil ?_
  show kSs _ _ _ _ _ _
  refine k_cons ?_
  refine k_for_r1 (fun i σ B L => ∃ v, σ = [some (.str (sOf a)), some (.str (sOf b)), v, some (.str (sOf (Rt.tail a))), some (.str (sOf (Rt.core a))), some (.str (sOf (Rt.tail b))), some (.str (sOf (Rt.core b)))] ∧ B = H ∧ ∀ j, j < i → Mv.trn a b j = false) po T.b_range ?_
  refine k_callB (id := "len") T.b_len ?_
  refine a_cons ?_
  refine k_n 4 ?_
  refine a_nil ?_
  refine c_lens ?_ (by omega)
  refine ⟨_, rfl, by omega, by omega, ⟨_, rfl, rfl, fun j hj => absurd hj (Nat.not_lt_zero _)⟩, ?_, ?_⟩
  · rintro i σ Bo L hi ⟨v, rfl, rfl, hno⟩
    have hil : i < (Rt.core a).length := by omega
    refine g_name 2 ?_ sc_first_mover.nd
    refine k_one ?_
    refine k_if ?_
    refine t_pure (v := Mv.trn a b i) ?_ ⟨fun hk => ?_, fun hk => ?_⟩
    · skip
      refine t_cmp ?_
      refine k_bin ?_
      refine k_slice ?_
      refine k_n 4 ?_
      refine p_some ?_
      refine k_n 2 ?_
      refine ⟨_, rfl, ?_⟩
      refine p_none ?_
      refine sl_s ?_ (by omega)
      refine k_slice ?_
      refine k_n 4 ?_
      refine p_none ?_
      refine p_some ?_
      refine k_n 2 ?_
      refine ⟨_, rfl, ?_⟩
      refine sl_s ?_ (by omega)
      refine o_adds ?_ (by rw [cut_to, cut_from, List.length_take, List.length_drop]; omega)
      refine k_n 6 ?_
      walk_at "opEq"
      refine ⟨_, rfl, ?_⟩
      refine ⟨?_, rfl, by walk_at "sfx"⟩
      rw [cut_to, cut_from]; rfl
    · have hf : Mv.fm a b = some (Mv.fmw a b i) := by
        unfold Mv.fm
        rw [fgo_hit (Nat.zero_le _) (by omega) hk fun j _ h5 => hno j h5]; rfl
      have hl1 := red_len (Rt.tail a ++ (Rt.core a).take i)
      rw [List.length_append, List.length_take] at hl1
      refine k_one ?_
      refine k_ret ?_
      refine k_fn F_times (hr.mono (by decide)) ?_
      refine a_cons ?_
      refine k_fn F_times (hr.mono (by decide)) ?_
      refine a_cons ?_
      refine k_n 3 ?_
      refine a_cons ?_
      refine k_slice ?_
      refine k_n 4 ?_
      refine p_none ?_
      refine p_some ?_
      refine k_n 2 ?_
      refine ⟨_, rfl, ?_⟩
      refine sl_s ?_ (by omega)
      refine a_nil ?_
      refine use_times ?_ ⟨let_tail ha, let_cut (let_core ha), by rw [cut_to, List.length_take]; omega⟩
      refine a_cons ?_
      refine k_fn F_back (hr.mono (by decide)) ?_
      refine a_cons ?_
      refine k_n 5 ?_
      refine a_nil ?_
      refine use_back ?_ (let_tail hb) (by omega)
      refine a_nil ?_
      refine use_times ?_ ⟨let_red (let_app (let_tail ha) (let_cut (let_core ha))), let_inv (let_tail hb), by rw [inv_len, cut_to]; omega⟩
      rw [cut_to]
      intro H' s
      have := hq H' s.ext
      rw [hf] at this
      exact this
    · refine k_nil ?_
      refine ⟨_, rfl, rfl, fun j hj => ?_⟩
      rcases Nat.lt_succ_iff_lt_or_eq.mp hj with h | rfl
      · exact hno j h
      · exact hk
  · rintro σ Bo L ⟨v, rfl, rfl, hno⟩
    have hf : Mv.fm a b = none := by
      unfold Mv.fm
      rw [fgo_miss fun j _ h5 => hno j (by omega)]; rfl
    refine k_one ?_
    refine k_ret ?_
    refine k_non ?_
    intro H' s
    have := hq H' s.ext
    rw [hf] at this
    exact this
abbrev s_along_powers : Stmt := top 26
abbrev N_along_powers : List Str := ["base", "word", "most", "found", "step", "here", "turn"]
theorem sc_along_powers : FnScope N_along_powers ["base", "word", "most"] (defScope s_along_powers) := ⟨rfl, rfl, rfl, by decide +kernel, rfl, by decide +kernel, by decide +kernel⟩
/-- what is found behind some steps -/
def fnd (w : List Nat) (m : Nat) (ss : List (List Nat)) : List (List Nat) := w :: (ss.map fun s => (List.range m).map fun t => Mv.stp s w (t + 1)).flatten
theorem fnd_len (w : List Nat) (m : Nat) : ∀ ss : List (List Nat), (fnd w m ss).length = 1 + ss.length * m
  | [] => by show 1 = 1 + 0 * m; omega
  | s :: ss => by
    have ih := fnd_len w m ss
    unfold fnd at ih ⊢
    rw [List.length_cons] at ih ⊢
    rw [List.map_cons, List.flatten_cons, List.length_append, List.length_map, List.length_range, List.length_cons, Nat.add_mul]; omega
theorem fnd_two (b w : List Nat) (m : Nat) : fnd w m [b, inv b] = Mv.alp b w m := by
  unfold fnd Mv.alp
  simp
theorem fnd_app (w : List Nat) (m : Nat) (ss : List (List Nat)) (s : List Nat) : fnd w m (ss ++ [s]) = fnd w m ss ++ (List.range m).map fun t => Mv.stp s w (t + 1) := by
  unfold fnd
  simp
theorem let_stp {b w : List Nat} (hb : Let b) (hw : Let w) : ∀ t, Let (Mv.stp b w t)
  | 0 => hw
  | t + 1 => let_red (let_app hb (let_stp hb hw t))
def sp_along_powers : Sp := fun vs H Q _ => ∃ b w m, vs = [.str (sOf b), .str (sOf w), .int ((m : Nat) : Int)] ∧ (Let b ∧ Let w ∧ m ≤ 100000 ∧ w.length + m * b.length ≤ 100000 ∧ b.length ≤ 100000) ∧ ∀ H' q, (∀ b o, H b = some o → H' b = some o) → H q = none → H' q = some (.lst (wV (Mv.alp b w m))) → Q (.ref q) H'
theorem use_along_powers {B : Hp} {L : HL} {Q : KQ} {E : XK} {b w : List Nat} {m : Nat} (h : Let b ∧ Let w ∧ m ≤ 100000 ∧ w.length + m * b.length ≤ 100000 ∧ b.length ≤ 100000) (q : ∀ r, Q (.ref r) B ((r, .lst (wV (Mv.alp b w m))) :: L)) : ∀ H, Sat B L H → sp_along_powers [.str (sOf b), .str (sOf w), .int ((m : Nat) : Int)] H (up Q) E :=
  fun H s => ⟨b, w, m, rfl, h, fun H' r e h1 h2 => ⟨_, _, s.new' h1 e h2, q r⟩⟩
theorem ok_along_powers {f : Addr} {fd : FuncData} (F : Fun K "along_powers" "along_powers" s_along_powers f fd) (hm : mg "along_powers" = some (.ref f)) (T : Tx mg) (F_times : Fn P w K mg base 3 "times" sp_times) (F_back : Fn P w K mg base 2 "back" sp_back) : Fn P w K mg base 4 "along_powers" sp_along_powers := by
  refine fn_ok F sc_along_powers hm (fun _ _ _ _ _ _ us hl => match us, hl with | [_, _, _], _ => rfl) ?_ fun cdv A outer s H vs Q E hr h tk po => ?_
  · rintro vs H Q E ⟨_, _, _, rfl, _⟩; rfl
  obtain ⟨b, w', m, rfl, ⟨hb, hw, hm1, hl, hbl⟩, hq⟩ := h
  refine ⟨H, [], Sat.whole, ?_⟩
  refine k_cons ?_
  refine k_set 3 ?_ sc_along_powers.nd
  refine k_lst ?_
  refine a_cons ?_
  refine k_n 1 ?_
  refine a_nil ?_
  refine ⟨by first | decide | simp, fun p => ?_⟩
  show kSs _ _ _ _ _ _
  refine k_norm (by simp only [L2.start, N_along_powers, List.map_cons, List.map_nil, List.length_cons, List.length_nil, Nat.reduceAdd, Nat.reduceSub, List.replicate_succ, List.replicate_zero, List.cons_append, List.nil_append, List.set_cons_succ, List.set_cons_zero]; exact rfl) ?_
  refine k_cons ?_
  refine k_for_t2 po ?_
  refine k_tup ?_
  refine a_cons ?_
  refine k_n 0 ?_
  refine a_cons ?_
  refine k_fn F_back (hr.mono (by decide)) ?_
  refine a_cons ?_
  refine k_n 0 ?_
  refine a_nil ?_
  refine use_back ?_ hb (by omega)
  refine a_nil ?_
  refine ⟨by first | decide | simp, fun pt => ?_⟩
  refine ⟨pt, [b, inv b].map fun l => .str (sOf l), fun i σ B L => ∃ v4 v5 v6, σ = [some (.str (sOf b)), some (.str (sOf w')), some (.int (m : Int)), some (.ref p), v4, v5, v6] ∧ B = H ∧ L = [(pt, .tup ([b, inv b].map fun l => .str (sOf l))), (p, .lst (wV (fnd w' m ([b, inv b].take i))))], rfl, .inr (.head _), ⟨_, _, _, rfl, rfl, rfl⟩, ?_, ?_, ?_⟩
  · rintro i σ B L hi ⟨v4, v5, v6, rfl, rfl, rfl⟩
    exact .inr (.head _)
  · rintro i x σ B L hx ⟨v4, v5, v6, rfl, rfl, rfl⟩
    rw [List.getElem?_map] at hx
    obtain ⟨s, hs, rfl⟩ := Option.map_eq_some_iff.mp hx
    have hsm : s ∈ [b, inv b] := List.mem_of_getElem? hs
    have hsl : Let s ∧ s.length = b.length := by
      rcases List.mem_cons.mp hsm with rfl | h2
      · exact ⟨hb, rfl⟩
      · rw [List.mem_singleton.mp h2]; exact ⟨let_inv hb, inv_len _⟩
    have hil : i < 2 := (List.getElem?_eq_some_iff.mp hs).1
    have hfl := fnd_len w' m ([b, inv b].take i)
    have htl : ([b, inv b].take i).length ≤ 2 := by rw [List.length_take]; exact Nat.min_le_right _ _
    have hfb := Nat.mul_le_mul_right m htl
    have hsucc : fnd w' m ([b, inv b].take (i + 1)) = fnd w' m ([b, inv b].take i) ++ (List.range m).map fun t => Mv.stp s w' (t + 1) := by
      rw [List.take_add_one, hs]
      exact fnd_app w' m _ s
    refine g_name 4 ?_ sc_along_powers.nd
    refine k_norm (by simp only [L2.start, N_along_powers, List.map_cons, List.map_nil, List.length_cons, List.length_nil, Nat.reduceAdd, Nat.reduceSub, List.replicate_succ, List.replicate_zero, List.cons_append, List.nil_append, List.set_cons_succ, List.set_cons_zero]; exact rfl) ?_
    refine k_cons ?_
    refine k_set 5 ?_ sc_along_powers.nd
    refine k_n 1 ?_
    show kSs _ _ _ _ _ _
    refine k_norm (by simp only [L2.start, N_along_powers, List.map_cons, List.map_nil, List.length_cons, List.length_nil, Nat.reduceAdd, Nat.reduceSub, List.replicate_succ, List.replicate_zero, List.cons_append, List.nil_append, List.set_cons_succ, List.set_cons_zero]; exact rfl) ?_
    refine k_one ?_
    refine k_for_r1 (fun j σ2 B2 L2 => ∃ v, σ2 = [some (.str (sOf b)), some (.str (sOf w')), some (.int (m : Int)), some (.ref p), some (.str (sOf s)), some (.str (sOf (Mv.stp s w' j))), v] ∧ B2 = B ∧ L2 = [(pt, .tup ([b, inv b].map fun l => .str (sOf l))), (p, .lst (wV (fnd w' m ([b, inv b].take i) ++ (List.range j).map fun t => Mv.stp s w' (t + 1))))]) po T.b_range ?_
    refine k_n 2 ?_
    refine ⟨_, rfl, by omega, by omega, ⟨_, rfl, rfl, by simp⟩, ?_, ?_⟩
    · rintro j σ2 B2 L2 hj ⟨v, rfl, rfl, rfl⟩
      have hjm : j < m := by omega
      have hsp := Mv.stp_len s w' j
      have hmul := Nat.mul_le_mul_right b.length (Nat.le_of_lt hjm)
      rw [hsl.2] at hsp
      refine g_name 6 ?_ sc_along_powers.nd
      refine k_norm (by simp only [L2.start, N_along_powers, List.map_cons, List.map_nil, List.length_cons, List.length_nil, Nat.reduceAdd, Nat.reduceSub, List.replicate_succ, List.replicate_zero, List.cons_append, List.nil_append, List.set_cons_succ, List.set_cons_zero]; exact rfl) ?_
      refine k_cons ?_
      refine k_set 5 ?_ sc_along_powers.nd
      refine k_fn F_times (hr.mono (by decide)) ?_
      refine a_cons ?_
      refine k_n 4 ?_
      refine a_cons ?_
      refine k_n 5 ?_
      refine a_nil ?_
      refine use_times ?_ ⟨hsl.1, let_stp hsl.1 hw j, by omega⟩
      show kSs _ _ _ _ _ _
      refine k_norm (by simp only [L2.start, N_along_powers, List.map_cons, List.map_nil, List.length_cons, List.length_nil, Nat.reduceAdd, Nat.reduceSub, List.replicate_succ, List.replicate_zero, List.cons_append, List.nil_append, List.set_cons_succ, List.set_cons_zero]; exact rfl) ?_
      refine k_one ?_
      refine k_expr ?_
      refine k_m PySem.F.plainAttrs_list PySem.F.slot_list_append PySem.F.type_list_append ?_
      refine k_n 3 ?_
      refine ⟨ty_l (by walk_at "ls"), ?_⟩
      refine a_cons ?_
      refine k_n 5 ?_
      refine a_nil ?_
      refine m_append (by walk_at "rep") ?_ (by rw [List.length_map, List.length_append, List.length_map, List.length_range]; omega)
      refine ⟨_, rfl, rfl, ?_⟩
      rw [List.range_succ]
      unfold wV
      simp only [List.map_append, List.map_cons, List.map_nil, List.append_assoc]
      rfl
    · rintro σ2 B2 L2 ⟨v, rfl, rfl, rfl⟩
      refine ⟨_, _, _, rfl, rfl, ?_⟩
      rw [hsucc]; rfl
  · rintro σ B L ⟨v4, v5, v6, rfl, rfl, rfl⟩
    show kSs _ _ _ _ _ _
    refine k_one ?_
    refine k_ret ?_
    refine k_n 3 ?_
    intro H' s
    refine hq H' p s.ext (s.nb _ (.tail _ (.head _))) ?_
    have h3 := s.own _ (.tail _ (.head _))
    have e : [b, inv b].take ([b, inv b].map fun l => V.str (sOf l)).length = [b, inv b] := rfl
    rw [e, fnd_two] at h3
    exact h3
abbrev s_all_moved : Stmt := top 27
abbrev N_all_moved : List Str := ["pairs", "by", "one", "other"]
theorem sc_all_moved : FnScope N_all_moved ["pairs", "by"] (defScope s_all_moved) := ⟨rfl, rfl, rfl, by decide +kernel, rfl, by decide +kernel, by decide +kernel⟩
/-- what pair a reference names -/
def pO (B : Hp) : V → List Nat × List Nat
  | .ref t => match B t with
    | some (.tup [.str a, .str b]) => (a.cps.toList, b.cps.toList)
    | _ => ([], [])
  | _ => ([], [])
theorem pO_at {B : Hp} {t : Addr} {q : List Nat × List Nat} (h : B t = some (.tup (pV q))) : pO B (.ref t) = q := by
  show (match B t with | some (.tup [.str a, .str b]) => (a.cps.toList, b.cps.toList) | _ => ([], [])) = q
  rw [h]
/-- pairs laid down in a heap -/
def PrO (B : Hp) (ts : List Addr) (ps : List (List Nat × List Nat)) : Prop := ps = ts.map (fun t => pO B (.ref t)) ∧ ∀ t ∈ ts, B t = some (.tup (pV (pO B (.ref t))))
theorem PrO.le {B B' : Hp} {ts : List Addr} {ps : List (List Nat × List Nat)} (h : PrO B ts ps) (e : Le B B') : PrO B' ts ps := by
  have h1 : ∀ t ∈ ts, pO B' (.ref t) = pO B (.ref t) := fun t ht => pO_at (e _ _ (h.2 t ht))
  refine ⟨?_, fun t ht => ?_⟩
  · rw [h.1]; exact List.map_congr_left fun t ht => (h1 t ht).symm
  · rw [h1 t ht]; exact e _ _ (h.2 t ht)
theorem PrO.filter {B : Hp} {ts : List Addr} {ps : List (List Nat × List Nat)} (h : PrO B ts ps) (g : List Nat × List Nat → Bool) : PrO B (ts.filter fun t => g (pO B (.ref t))) (ps.filter g) := by
  refine ⟨?_, fun t ht => h.2 t (List.mem_filter.mp ht).1⟩
  rw [h.1, List.filter_map]; rfl
theorem PrO.prs {K : PySem.W.Frag} {B : Hp} {L : HL} {p : Addr} {ts : List Addr} {ps : List (List Nat × List Nat)} (h : PrO B ts ps) (hl : Ls K B L p (ts.map V.ref)) : Prs K B L p ts ps := by
  refine ⟨hl, by rw [h.1, List.length_map], fun j t q h1 h2 => ?_⟩
  rw [h.1, List.getElem?_map, h1] at h2
  have : pO B (.ref t) = q := Option.some.inj h2
  rw [← this]
  exact h.2 t (List.mem_of_getElem? h1)
theorem PrO.cons {B : Hp} {ts : List Addr} {q : List Nat × List Nat} {ps : List (List Nat × List Nat)} (h : PrO B ts (q :: ps)) : ∃ t tr, ts = t :: tr ∧ B t = some (.tup (pV q)) := by
  cases ts with
  | nil => cases h.1
  | cons t tr =>
    have e := h.1
    rw [List.map_cons] at e
    refine ⟨t, tr, rfl, ?_⟩
    rw [(List.cons.inj e).1]
    exact h.2 t List.mem_cons_self
/-- pairs of words -/
def PB (ps : List (List Nat × List Nat)) : Prop := ps.length ≤ 8 ∧ ∀ q ∈ ps, (Let q.1 ∧ Wd q.1 ∧ q.1.length ≤ 60) ∧ Let q.2 ∧ Wd q.2 ∧ q.2.length ≤ 60
def sp_all_moved (K : PySem.W.Frag) : Sp := fun vs H Q _ => ∃ p ts ps x, vs = [.ref p, .str (sOf x)] ∧ SqL K H p (ts.map V.ref) ∧ PrO H ts ps ∧ (PB ps ∧ Let x ∧ x.length ≤ 100000) ∧ ∀ H', (∀ b o, H b = some o → H' b = some o) → Q (.bl (Mv.allm ps x)) H'
theorem use_all_moved {B : Hp} {L : HL} {Q : KQ} {E : XK} {p : Addr} {ts : List Addr} {ps : List (List Nat × List Nat)} {x : List Nat} (q : Q (.bl (Mv.allm ps x)) B L) (hl : Ls K B L p (ts.map V.ref)) (h : PrO B ts ps) (hb : PB ps ∧ Let x ∧ x.length ≤ 100000) : ∀ H, Sat B L H → sp_all_moved K [.ref p, .str (sOf x)] H (up Q) E := fun H s => ⟨p, ts, ps, x, rfl, hl.at s, h.le s.ext, hb, fun H' e => s.upq e q⟩
theorem ok_all_moved {f : Addr} {fd : FuncData} (F : Fun K "all_moved" "all_moved" s_all_moved f fd) (hm : mg "all_moved" = some (.ref f)) (T : Tx mg) (F_moved_by : Fn P w K mg base 4 "moved_by" sp_moved_by) : Fn P w K mg base 5 "all_moved" (sp_all_moved K) := by
  refine fn_ok F sc_all_moved hm (fun _ _ _ _ _ _ us hl => match us, hl with | [_, _], _ => rfl) ?_ fun cdv A outer s H vs Q E hr h tk po => ?_
  · rintro vs H Q E ⟨_, _, _, _, rfl, _⟩; rfl
  obtain ⟨p, ts, ps, x, rfl, hp, hpo, ⟨hpb, hx, hxl⟩, hq⟩ := h
  refine ⟨H, [], Sat.whole, ?_⟩
  refine k_one ?_
  refine k_ret ?_
  refine k_callB (id := "all") T.b_all ?_
  refine a_cons ?_
  refine k_le (k_lcm_p (i := 2) (j := 3) (fun q => .bl (decide (mvd q.1 x = q.2))) sc_all_moved.nd (blkOk_by (N := N_all_moved) (sc := defScope s_all_moved) (by decide +kernel)) ?_)
  refine k_n 0 ?_
  refine ⟨p, ts, ps, rfl, hpo.prs (.inl hp), by have := hpb.1; omega, fun q hqm D acc sb Hb Cb clb fpb => ?_, fun D => ?_⟩
  ·
    have hql := hpb.2 q hqm
    refine k_cmp ?_
    refine k_fn F_moved_by (hr.mono (by decide)) ?_
    refine a_cons ?_
    refine k_n 2 ?_
    refine a_cons ?_
    refine k_n 1 ?_
    refine a_nil ?_
    refine use_moved_by ?_ ⟨hql.1.1, hx, by have := hql.1.2.2; omega, hxl⟩
    refine k_n 3 ?_
    walk_at "opEq"
    exact ⟨rfl, rfl, rfl⟩
  refine a_nil ?_
  refine c_all (bs := ps.map fun q => decide (mvd q.1 x = q.2)) (by rw [List.map_map]; exact Or.inr (List.Mem.head _)) ?_
  exact fun H' s => hq H' s.ext
/-- a pair as data -/
def pD (q : List Nat × List Nat) : PyData := .tuple [.str (sOf q.1), .str (sOf q.2)]
theorem da_prs {X : Cx} {B : Hp} {L : HL} : ∀ {ts : List Addr}, (∀ t ∈ ts, B t = some (.tup (pV (pO B (.ref t))))) → DdA X B L (ts.map V.ref) (ts.map fun t => pD (pO B (.ref t)))
  | [], _ => da_nil
  | t :: ts, h => by
    have hT : Tp X.K B L t (pV (pO B (.ref t))) := .inl (.inl (.inl (h t List.mem_cons_self)))
    exact da_cons (dd_t hT (da_cons dd_s (da_cons dd_s da_nil))) (da_prs fun t' ht => h t' (List.mem_cons_of_mem _ ht))
theorem depth_pD (q : List Nat × List Nat) : (pD q).depth = 1 := by
  unfold pD PyData.depth
  unfold PyData.depthAll
  unfold PyData.depthAll
  rfl
theorem depth_prs : ∀ a : List (List Nat × List Nat), PyData.depthAll (a.map pD) ≤ 1
  | [] => by show PyData.depthAll [] ≤ 1; unfold PyData.depthAll; omega
  | x :: a => by
    show PyData.depthAll (pD x :: a.map pD) ≤ 1
    unfold PyData.depthAll
    rw [depth_pD]
    have := depth_prs a
    omega
theorem lay_pD {q : List Nat × List Nat} (h1 : Let q.1) (h2 : Let q.2) : PyData.canLay0 (pD q) = true := by
  unfold pD PyData.canLay0
  unfold PyData.canLayAll0
  unfold PyData.canLayAll0
  unfold PyData.canLayAll0
  have e : ∀ l : List Nat, Let l → PyData.canLay0 (.str (sOf l)) = true := fun l hl => by
    have := let_small hl
    unfold PyData.canLay0
    unfold PyData.strOk
    simpa [sOf] using this
  rw [e _ h1, e _ h2]; rfl
theorem lay_prs {a : List (List Nat × List Nat)} (h : ∀ q ∈ a, Let q.1 ∧ Let q.2) : PyData.canLayAll0 (a.map pD) = true := by
  induction a with
  | nil => rfl
  | cons x a ih =>
    show PyData.canLayAll0 (pD x :: a.map pD) = true
    unfold PyData.canLayAll0
    rw [ih fun l hl => h l (List.mem_cons_of_mem _ hl), Bool.and_true]
    have := h x List.mem_cons_self
    exact lay_pD this.1 this.2
theorem shaped_prs {a : List (List Nat × List Nat)} (h : ∀ q ∈ a, Let q.1 ∧ Let q.2) : SeqAt.shaped (.list (a.map pD)) = true := by
  unfold SeqAt.shaped
  have e1 : PyData.canLay0 (.list (a.map pD)) = true := by unfold PyData.canLay0; exact lay_prs h
  have e2 : PyData.depth (.list (a.map pD)) ≤ 2 := by
    unfold PyData.depth
    have := depth_prs a
    omega
  rw [e1]
  simp
  omega
theorem shaped_nil : SeqAt.shaped (.list []) = true := by rfl
/-- pairs == [] -/
theorem o_eqP0 {X : Cx} {B : Hp} {L : HL} {Q : KQ} {p q : Addr} {ts : List Addr} {ps : List (List Nat × List Nat)} (hu : X.A.units + 64 < cLine) (h1 : Ls X.K B L p (ts.map V.ref)) (hpo : PrO B ts ps) (hl : ∀ q ∈ ps, Let q.1 ∧ Let q.2) (h2 : Ls X.K B L q []) (hq : Q (.bl (decide (ps = []))) B L) : kO X (compareOp .Eq) (.ref p) (.ref q) B L Q := by
  have e : (ts.map fun t => pD (pO B (.ref t))) = ps.map pD := by rw [hpo.1, List.map_map]; rfl
  refine o_eqD hu (dd_l h1 (da_prs hpo.2)) (dd_l h2 da_nil) ?_ (by rw [e]; exact shaped_prs hl) shaped_nil
  rw [e]
  cases ps with
  | nil => exact hq
  | cons x ps =>
    have : PyData.eqv (.list ((x :: ps).map pD)) (.list []) = false := by
      show PyData.eqvAll (pD x :: ps.map pD) [] = false
      unfold PyData.eqvAll; rfl
    rw [this]
    simpa using hq
theorem stp_ok {b w : List Nat} (hb : Let b ∧ b.length ≤ 60) (hw : Let w ∧ w.length ≤ 200) {t : Nat} (ht : t ≤ 1000) : Let (Mv.stp b w t) ∧ (Mv.stp b w t).length ≤ 60200 := by
  refine ⟨let_stp hb.1 hw.1 t, ?_⟩
  have h1 := Mv.stp_len b w t
  have h2 := Nat.mul_le_mul ht hb.2
  omega
theorem alp_ok {b w : List Nat} (hb : Let b ∧ b.length ≤ 60) (hw : Let w ∧ w.length ≤ 200) {m : Nat} (hm : m ≤ 1000) {x : List Nat} (h : x ∈ Mv.alp b w m) : Let x ∧ x.length ≤ 60200 := by
  unfold Mv.alp at h
  rcases List.mem_cons.mp h with rfl | h
  · exact ⟨hw.1, by omega⟩
  rcases List.mem_append.mp h with h | h
  · obtain ⟨t, ht, rfl⟩ := List.mem_map.mp h
    have := List.mem_range.mp ht
    exact stp_ok hb hw (by omega)
  · obtain ⟨t, ht, rfl⟩ := List.mem_map.mp h
    have := List.mem_range.mp ht
    exact stp_ok ⟨let_inv hb.1, by rw [inv_len]; exact hb.2⟩ hw (by omega)
theorem alp_len (b w : List Nat) (m : Nat) : (Mv.alp b w m).length = 2 * m + 1 := by
  unfold Mv.alp
  rw [List.length_cons, List.length_append, List.length_map, List.length_map, List.length_range]; omega
theorem m1_le {x b : List Nat} (h1 : x.length ≤ 200) (h2 : b.length ≤ 60) : Mv.m1 x b ≤ 1000 := by
  unfold Mv.m1
  have h3 := Rt.tail_len b
  have h4 := Rt.tlen_le b
  have := Nat.div_le_self (2 * x.length + 4 * (Rt.tail b).length) (Rt.core b).length
  omega
theorem m2_le {q : List Nat × List Nat} {x b : List Nat} (h1 : x.length ≤ 200) (h2 : b.length ≤ 60) (h5 : q.1.length ≤ 60) (h6 : q.2.length ≤ 60) : Mv.m2 q x b ≤ 1000 := by
  unfold Mv.m2
  have h3 := Rt.tail_len b
  have h4 := Rt.tlen_le b
  have := Nat.div_le_self (q.2.length + 2 * x.length + 2 * q.1.length + 6 * (Rt.tail b).length) (Rt.core b).length
  omega
theorem root_ok {l : List Nat} (h : Let l ∧ Wd l ∧ l.length ≤ 60) (hne : l ≠ []) : Let (Rt.rootW l) ∧ (Rt.rootW l).length ≤ 60 := ⟨let_root h.1, Nat.le_trans (root_len h.2.1 hne) h.2.2⟩
theorem apt_sub {ps : List (List Nat × List Nat)} {b : List Nat} {q : List Nat × List Nat} (h : q ∈ Mv.apt ps b) : q ∈ ps := (List.mem_filter.mp h).1
theorem tried_ok {ps : List (List Nat × List Nat)} {w : List Nat} (hb : PB ps) (hn : ps ≠ []) (hne : ∀ q ∈ ps, q.1 ≠ []) (hw : Let w ∧ w.length ≤ 200) : (Mv.tried ps w).length ≤ 2001 ∧ ∀ x ∈ Mv.tried ps w, Let x ∧ x.length ≤ 60200 := by
  obtain ⟨q0, r, rfl⟩ : ∃ q r, ps = q :: r := by
    cases ps with
    | nil => exact absurd rfl hn
    | cons q r => exact ⟨q, r, rfl⟩
  have h0 := hb.2 q0 List.mem_cons_self
  have hr := root_ok h0.1 (hne q0 List.mem_cons_self)
  unfold Mv.tried
  show (match Mv.apt (q0 :: r) (Rt.rootW q0.1) with | [] => _ | q :: _ => _ : List (List Nat)).length ≤ _ ∧ ∀ x ∈ (match Mv.apt (q0 :: r) (Rt.rootW q0.1) with | [] => _ | q :: _ => _ : List (List Nat)), _
  have hsub := fun q => @apt_sub (q0 :: r) (Rt.rootW q0.1) q
  cases hap : Mv.apt (q0 :: r) (Rt.rootW q0.1) with
  | nil =>
    have hm := m1_le hw.2 hr.2
    exact ⟨by rw [alp_len]; exact Nat.add_le_add_right (Nat.mul_le_mul_left 2 hm) 1, fun x hx => alp_ok hr hw hm hx⟩
  | cons q t =>
    have hq := hb.2 q (hsub q (by rw [hap]; exact List.mem_cons_self))
    have hm := m2_le (q := q) hw.2 hr.2 hq.1.2.2 hq.2.2.2
    refine ⟨Nat.le_trans (List.length_filter_le _ _) (by rw [alp_len]; exact Nat.add_le_add_right (Nat.mul_le_mul_left 2 hm) 1), fun x hx => alp_ok hr hw hm (List.mem_filter.mp hx).1⟩
abbrev s_tried_for : Stmt := top 28
abbrev N_tried_for : List Str := ["pairs", "begun", "one", "base", "apart", "most", "tail", "core", "word", "other", "pair", "by"]
theorem sc_tried_for : FnScope N_tried_for ["pairs", "begun"] (defScope s_tried_for) := ⟨rfl, rfl, rfl, by decide +kernel, rfl, by decide +kernel, by decide +kernel⟩
def gM2 (w : List Nat) : V → List Nat
  | .str s => mvd w s.cps.toList
  | _ => []
theorem gM2_flt (q : List Nat × List Nat) (a : List (List Nat)) : (((wV a).filter fun v => decide (gM2 q.1 v = q.2)).map fun v => v) = wV (a.filter fun y => decide (mvd q.1 y = q.2)) := by
  rw [List.map_id', List.filter_map]; rfl
def sp_tried_for (K : PySem.W.Frag) : Sp := fun vs H Q _ => ∃ p ts ps x, vs = [.ref p, .str (sOf x)] ∧ SqL K H p (ts.map V.ref) ∧ PrO H ts ps ∧ (PB ps ∧ ps ≠ [] ∧ (∀ q ∈ ps, q.1 ≠ []) ∧ Let x ∧ x.length ≤ 200) ∧ ∀ H' r, (∀ b o, H b = some o → H' b = some o) → H r = none → H' r = some (.lst (wV (Mv.tried ps x))) → Q (.ref r) H'
theorem use_tried_for {B : Hp} {L : HL} {Q : KQ} {E : XK} {p : Addr} {ts : List Addr} {ps : List (List Nat × List Nat)} {x : List Nat} (hl : Ls K B L p (ts.map V.ref)) (h : PrO B ts ps) (hb : PB ps ∧ ps ≠ [] ∧ (∀ q ∈ ps, q.1 ≠ []) ∧ Let x ∧ x.length ≤ 200) (q : ∀ r, Q (.ref r) B ((r, .lst (wV (Mv.tried ps x))) :: L)) : ∀ H, Sat B L H → sp_tried_for K [.ref p, .str (sOf x)] H (up Q) E :=
  fun H s => ⟨p, ts, ps, x, rfl, hl.at s, h.le s.ext, hb, fun H' r e h1 h2 => ⟨_, _, s.new' h1 e h2, q r⟩⟩
theorem ok_tried_for {f C : Addr} {fd : FuncData} (F : Fun K "tried_for" "tried_for" s_tried_for f fd) (hm : mg "tried_for" = some (.ref f)) (T : Tx mg) (F_root : Fn P w K mg base 4 "root" (sp_root C)) (F_parts : Fn P w K mg base 3 "parts" sp_parts) (F_goes_with : Fn P w K mg base 4 "goes_with" sp_goes_with) (F_along_powers : Fn P w K mg base 4 "along_powers" sp_along_powers) (F_moved_by : Fn P w K mg base 4 "moved_by" sp_moved_by) : Fn P w K mg base 5 "tried_for" (sp_tried_for K) := by
  refine fn_ok F sc_tried_for hm (fun _ _ _ _ _ _ us hl => match us, hl with | [_, _], _ => rfl) ?_ fun cdv A outer s H vs Q E hr h tk po => ?_
  · rintro vs H Q E ⟨_, _, _, _, rfl, _⟩; rfl
  obtain ⟨p, ts, ps, x, rfl, hp, hpo, ⟨hpb, hpn, hne, hx, hxl⟩, hq⟩ := h
  obtain ⟨q0, pr, rfl⟩ : ∃ q r, ps = q :: r := by
    cases ps with
    | nil => exact absurd rfl hpn
    | cons q r => exact ⟨q, r, rfl⟩
  obtain ⟨t0, tr, rfl, ht0⟩ := hpo.cons
  have hq0 := hpb.2 q0 List.mem_cons_self
  have hq0n := hne q0 List.mem_cons_self
  have hls : ∀ L, Ls K H L p ((t0 :: tr).map V.ref) := fun L => .inl hp
  have htp : ∀ (L : HL) t (q : List Nat × List Nat), H t = some (.tup (pV q)) → Tp K H L t (pV q) := fun L t q h => .inl (.inl (.inl h))
  have hrr := root_ok hq0.1 hq0n
  have hrc : 1 ≤ (Rt.core (Rt.rootW q0.1)).length := by
    rw [Rt.root_core hq0.1.2.1 hq0n]
    exact Rt.piece_len (Rt.core_ne hq0.1.2.1 hq0n)
  have hrt := Rt.tail_len (Rt.rootW q0.1)
  have hrl := Rt.tlen_le (Rt.rootW q0.1)
  have hcl := Rt.core_len (Rt.rootW q0.1)
  have hbd : (Rt.rootW (((q0 :: pr).headD ([], [])).1)) = Rt.rootW q0.1 := rfl
  refine ⟨H, [], Sat.whole, ?_⟩
  refine k_cons ?_
  refine k_set 2 ?_ sc_tried_for.nd
  refine k_ix ?_
  refine k_ix ?_
  refine k_n 0 ?_
  refine k_int ?_
  refine i_lv (.ref t0) (hls _) ?_ (atI_n (l := (t0 :: tr).map V.ref) (j := 0))
  refine k_int ?_
  refine i_tv (.str (sOf q0.1)) (htp _ _ _ ht0) ?_ rfl
  show kSs _ _ _ _ _ _
  refine k_norm (by simp only [L2.start, N_tried_for, List.map_cons, List.map_nil, List.length_cons, List.length_nil, Nat.reduceAdd, Nat.reduceSub, List.replicate_succ, List.replicate_zero, List.cons_append, List.nil_append, List.set_cons_succ, List.set_cons_zero]; exact rfl) ?_
  refine k_cons ?_
  refine k_set 3 ?_ sc_tried_for.nd
  refine k_ix ?_
  refine k_fn F_root (hr.mono (by decide)) ?_
  refine a_cons ?_
  refine k_n 2 ?_
  refine a_nil ?_
  refine use_root hq0.1.1 hq0.1.2.1 (by have := hq0.1.2.2; omega) hq0n fun pr' => ?_
  refine k_int ?_
  refine i_tv (.str (sOf (Rt.rootW q0.1))) (.inr (.head _)) ?_ rfl
  show kSs _ _ _ _ _ _
  refine k_norm (by simp only [L2.start, N_tried_for, List.map_cons, List.map_nil, List.length_cons, List.length_nil, Nat.reduceAdd, Nat.reduceSub, List.replicate_succ, List.replicate_zero, List.cons_append, List.nil_append, List.set_cons_succ, List.set_cons_zero]; exact rfl) ?_
  refine k_cons ?_
  refine k_asg ?_
  refine k_fn F_parts (hr.mono (by decide)) ?_
  refine a_cons ?_
  refine k_n 3 ?_
  refine a_nil ?_
  refine use_parts hrr.1 (by omega) fun p2 => ?_
  refine g_tup (by walk_at "tp") rfl ?_
  refine gs_cons ?_
  refine g_name 6 ?_ sc_tried_for.nd
  refine gs_cons ?_
  refine g_name 7 ?_ sc_tried_for.nd
  refine gs_nil ?_
  show kSs _ _ _ _ _ _
  refine k_norm (by simp only [L2.start, N_tried_for, List.map_cons, List.map_nil, List.length_cons, List.length_nil, Nat.reduceAdd, Nat.reduceSub, List.replicate_succ, List.replicate_zero, List.cons_append, List.nil_append, List.set_cons_succ, List.set_cons_zero]; exact rfl) ?_
  refine k_cons ?_
  refine k_sle 4 (k_lcf_l (j := 10) (fun v => !gw (pO H v).1 (Rt.rootW q0.1)) (fun v => v) sc_tried_for.nd (blkOk_by (N := N_tried_for) (sc := defScope s_tried_for) (by decide +kernel)) ?_)
  refine k_n 0 ?_
  refine ⟨p, (t0 :: tr).map V.ref, rfl, hls _, by have h1 := hpb.1; have h2 := congrArg List.length hpo.1; rw [List.length_map] at h2 ⊢; omega, fun z hz D acc sb Hb Cb clb fpb => ?_, fun z hz hfz D acc sb Hb Cb clb fpb => ?_, fun D => ?_⟩
  ·
    obtain ⟨t, htm, rfl⟩ := List.mem_map.mp hz
    have htt := hpo.2 t htm
    have hqm : pO H (.ref t) ∈ q0 :: pr := by rw [hpo.1]; exact List.mem_map_of_mem htm
    have hql := hpb.2 _ hqm
    generalize hpe : pO H (.ref t) = q at htt hql
    refine t_not ?_
    refine t_val ?_
    refine k_fn F_goes_with (hr.mono (by decide)) ?_
    refine a_cons ?_
    refine k_ix ?_
    refine k_n 10 ?_
    refine k_int ?_
    refine i_tv (.str (sOf q.1)) (htp _ _ _ htt) ?_ rfl
    refine a_cons ?_
    refine k_n 3 ?_
    refine a_nil ?_
    refine use_goes_with ?_ ⟨hql.1.1, hrr.1, by have := hql.1.2.2; omega, by omega⟩
    refine ⟨_, rfl, ?_⟩
    exact ⟨rfl, rfl, rfl⟩
  ·
    refine k_n 10 ?_
    exact ⟨rfl, rfl, rfl⟩
  show kSs _ _ _ _ _ _
  refine k_norm (by simp only [L2.start, N_tried_for, List.map_cons, List.map_nil, List.length_cons, List.length_nil, Nat.reduceAdd, Nat.reduceSub, List.replicate_succ, List.replicate_zero, List.cons_append, List.nil_append, List.set_cons_succ, List.set_cons_zero]; exact rfl) ?_
  have hfm : ((((t0 :: tr).map V.ref).filter fun v => !gw (pO H v).1 (Rt.rootW q0.1)).map fun v => v) = ((t0 :: tr).filter fun t => !gw (pO H (.ref t)).1 (Rt.rootW q0.1)).map V.ref := by
    rw [List.map_id', List.filter_map]; rfl
  have hpa : PrO H ((t0 :: tr).filter fun t => !gw (pO H (.ref t)).1 (Rt.rootW q0.1)) (Mv.apt (q0 :: pr) (Rt.rootW q0.1)) := hpo.filter fun q => !gw q.1 (Rt.rootW q0.1)
  rw [hfm]
  have hal : ∀ q ∈ Mv.apt (q0 :: pr) (Rt.rootW q0.1), q ∈ q0 :: pr := fun q h => apt_sub h
  have htr : Mv.tried (q0 :: pr) x = (match Mv.apt (q0 :: pr) (Rt.rootW q0.1) with
    | [] => Mv.alp (Rt.rootW q0.1) x (Mv.m1 x (Rt.rootW q0.1))
    | q :: _ => (Mv.alp (Rt.rootW q0.1) x (Mv.m2 q x (Rt.rootW q0.1))).filter fun y => decide (mvd q.1 y = q.2)) := rfl
  rw [htr] at hq
  generalize ((t0 :: tr).filter fun t => !gw (pO H (.ref t)).1 (Rt.rootW q0.1)) = ta at hpa ⊢
  generalize Mv.apt (q0 :: pr) (Rt.rootW q0.1) = pa at hpa hal hq
  generalize Rt.rootW q0.1 = bs at hrr hrc hrt hrl hcl hq ⊢
  refine k_cons ?_
  refine k_if ?_
  refine t_cmp ?_
  refine k_n 4 ?_
  refine k_lst ?_
  refine a_nil ?_
  refine ⟨by first | decide | simp, fun p => ?_⟩
  refine o_eqP0 hr.units (.inr (by walk_at "mm")) hpa (fun q hq => ⟨(hpb.2 q (hal q hq)).1.1, (hpb.2 q (hal q hq)).2.1⟩) (.inr (by walk_at "mm")) ?_
  refine ⟨_, rfl, ?_⟩
  refine ⟨fun hk => ?_, fun hk => ?_⟩
  · have hz : pa = [] := by simpa using hk
    rw [hz] at hq
    have hm1 := m1_le (x := x) (b := bs) hxl hrr.2
    have hmb := Nat.mul_le_mul hm1 hrr.2
    refine k_cons ?_
    refine k_set 5 ?_ sc_tried_for.nd
    refine k_bin ?_
    refine k_bin ?_
    refine k_bin ?_
    refine k_bin ?_
    refine k_int ?_
    refine k_callB (id := "len") T.b_len ?_
    refine a_cons ?_
    refine k_n 1 ?_
    refine a_nil ?_
    refine c_lens ?_ (by omega)
    walk_at "opMult"
    refine k_bin ?_
    refine k_int ?_
    refine k_callB (id := "len") T.b_len ?_
    refine a_cons ?_
    refine k_n 6 ?_
    refine a_nil ?_
    refine c_lens ?_ (by omega)
    walk_at "opMult"
    walk_at "opAdd"
    refine k_callB (id := "len") T.b_len ?_
    refine a_cons ?_
    refine k_n 7 ?_
    refine a_nil ?_
    refine c_lens ?_ (by omega)
    refine o_fdiv ?_ (by omega)
    refine k_int ?_
    walk_at "opAdd"
    show kSs _ _ _ _ _ _
    have em : (2 * ((x.length : Nat) : Int) + 4 * (((Rt.tail bs).length : Nat) : Int)) / (((Rt.core bs).length : Nat) : Int) + 4 = ((Mv.m1 x bs : Nat) : Int) := by
      have e : 2 * ((x.length : Nat) : Int) + 4 * (((Rt.tail bs).length : Nat) : Int) = ((2 * x.length + 4 * (Rt.tail bs).length : Nat) : Int) := by omega
      rw [e]; rfl
    rw [em]
    refine k_norm (by simp only [L2.start, N_tried_for, List.map_cons, List.map_nil, List.length_cons, List.length_nil, Nat.reduceAdd, Nat.reduceSub, List.replicate_succ, List.replicate_zero, List.cons_append, List.nil_append, List.set_cons_succ, List.set_cons_zero]; exact rfl) ?_
    refine k_one ?_
    refine k_ret ?_
    refine k_fn F_along_powers (hr.mono (by decide)) ?_
    refine a_cons ?_
    refine k_n 3 ?_
    refine a_cons ?_
    refine k_n 1 ?_
    refine a_cons ?_
    refine k_n 5 ?_
    refine a_nil ?_
    refine use_along_powers ⟨hrr.1, hx, by omega, by omega, by omega⟩ fun rr => ?_
    intro H' s
    exact hq H' rr s.ext (s.nb _ List.mem_cons_self) (s.own _ List.mem_cons_self)
  refine k_nil ?_
  have hz : pa ≠ [] := by simpa using hk
  obtain ⟨q1, pr1, rfl⟩ : ∃ q r, pa = q :: r := by
    cases pa with
    | nil => exact absurd rfl hz
    | cons q r => exact ⟨q, r, rfl⟩
  obtain ⟨t1, tr1, rfl, ht1⟩ := hpa.cons
  have hq1 := hpb.2 q1 (hal q1 List.mem_cons_self)
  have hm2 := m2_le (q := q1) (x := x) (b := bs) hxl hrr.2 hq1.1.2.2 hq1.2.2.2
  have hmb := Nat.mul_le_mul hm2 hrr.2
  refine k_cons ?_
  refine k_asg ?_
  refine k_ix ?_
  refine k_n 4 ?_
  refine k_int ?_
  refine i_lv (.ref t1) (.inr (by walk_at "mm")) ?_ (atI_n (l := (t1 :: tr1).map V.ref) (j := 0))
  refine g_tup (htp _ _ _ ht1) rfl ?_
  refine gs_cons ?_
  refine g_name 8 ?_ sc_tried_for.nd
  refine gs_cons ?_
  refine g_name 9 ?_ sc_tried_for.nd
  refine gs_nil ?_
  show kSs _ _ _ _ _ _
  refine k_norm (by simp only [L2.start, N_tried_for, List.map_cons, List.map_nil, List.length_cons, List.length_nil, Nat.reduceAdd, Nat.reduceSub, List.replicate_succ, List.replicate_zero, List.cons_append, List.nil_append, List.set_cons_succ, List.set_cons_zero]; exact rfl) ?_
  refine k_cons ?_
  have hw1 := hq1.1.2.2
  have hw2 := hq1.2.2.2
  refine k_set 5 ?_ sc_tried_for.nd
  refine k_bin ?_
  refine k_bin ?_
  refine k_bin ?_
  refine k_bin ?_
  refine k_bin ?_
  refine k_callB (id := "len") T.b_len ?_
  refine a_cons ?_
  refine k_n 9 ?_
  refine a_nil ?_
  refine c_lens ?_ (by omega)
  refine k_bin ?_
  refine k_int ?_
  refine k_callB (id := "len") T.b_len ?_
  refine a_cons ?_
  refine k_n 1 ?_
  refine a_nil ?_
  refine c_lens ?_ (by omega)
  walk_at "opMult"
  walk_at "opAdd"
  refine k_bin ?_
  refine k_int ?_
  refine k_callB (id := "len") T.b_len ?_
  refine a_cons ?_
  refine k_n 8 ?_
  refine a_nil ?_
  refine c_lens ?_ (by omega)
  walk_at "opMult"
  walk_at "opAdd"
  refine k_bin ?_
  refine k_int ?_
  refine k_callB (id := "len") T.b_len ?_
  refine a_cons ?_
  refine k_n 6 ?_
  refine a_nil ?_
  refine c_lens ?_ (by omega)
  walk_at "opMult"
  walk_at "opAdd"
  refine k_callB (id := "len") T.b_len ?_
  refine a_cons ?_
  refine k_n 7 ?_
  refine a_nil ?_
  refine c_lens ?_ (by omega)
  refine o_fdiv ?_ (by omega)
  refine k_int ?_
  walk_at "opAdd"
  show kSs _ _ _ _ _ _
  have em : (((q1.2.length : Nat) : Int) + 2 * ((x.length : Nat) : Int) + 2 * ((q1.1.length : Nat) : Int) + 6 * (((Rt.tail bs).length : Nat) : Int)) / (((Rt.core bs).length : Nat) : Int) + 4 = ((Mv.m2 q1 x bs : Nat) : Int) := by
    have e : ((q1.2.length : Nat) : Int) + 2 * ((x.length : Nat) : Int) + 2 * ((q1.1.length : Nat) : Int) + 6 * (((Rt.tail bs).length : Nat) : Int) = ((q1.2.length + 2 * x.length + 2 * q1.1.length + 6 * (Rt.tail bs).length : Nat) : Int) := by omega
    rw [e]; rfl
  rw [em]
  refine k_norm (by simp only [L2.start, N_tried_for, List.map_cons, List.map_nil, List.length_cons, List.length_nil, Nat.reduceAdd, Nat.reduceSub, List.replicate_succ, List.replicate_zero, List.cons_append, List.nil_append, List.set_cons_succ, List.set_cons_zero]; exact rfl) ?_
  refine k_one ?_
  refine k_ret ?_
  refine k_le (k_lcf_l (j := 11) (fun v => decide (gM2 q1.1 v = q1.2)) (fun v => v) sc_tried_for.nd (blkOk_by (N := N_tried_for) (sc := defScope s_tried_for) (by decide +kernel)) ?_)
  refine k_fn F_along_powers (hr.mono (by decide)) ?_
  refine a_cons ?_
  refine k_n 3 ?_
  refine a_cons ?_
  refine k_n 1 ?_
  refine a_cons ?_
  refine k_n 5 ?_
  refine a_nil ?_
  refine use_along_powers ⟨hrr.1, hx, by omega, by omega, by omega⟩ fun rr => ?_
  refine ⟨rr, wV (Mv.alp bs x (Mv.m2 q1 x bs)), rfl, .inr (.head _), by rw [List.length_map, alp_len]; omega, fun z hz D acc sb Hb Cb clb fpb => ?_, fun z hz hfz D acc sb Hb Cb clb fpb => ?_, fun D => ?_⟩
  ·
    obtain ⟨l, hlm, rfl⟩ := List.mem_map.mp hz
    have hl := alp_ok hrr ⟨hx, hxl⟩ hm2 hlm
    refine t_cmp ?_
    refine k_fn F_moved_by (hr.mono (by decide)) ?_
    refine a_cons ?_
    refine k_n 8 ?_
    refine a_cons ?_
    refine k_n 11 ?_
    refine a_nil ?_
    refine use_moved_by ?_ ⟨hq1.1.1, hl.1, by omega, by omega⟩
    refine k_n 9 ?_
    walk_at "opEq"
    refine ⟨_, rfl, ?_⟩
    exact ⟨rfl, rfl, rfl⟩
  ·
    refine k_n 11 ?_
    exact ⟨rfl, rfl, rfl⟩
  intro H' s
  refine hq H' D s.ext (s.nb _ List.mem_cons_self) ?_
  have h3 := s.own _ List.mem_cons_self
  rw [gM2_flt] at h3
  exact h3
theorem fm_ok {a b x : List Nat} (ha : Let a ∧ Wd a ∧ a.length ≤ 60) (hb : Let b ∧ Wd b ∧ b.length ≤ 60) (h : Mv.fm a b = some x) : Let x ∧ x.length ≤ 200 := by
  unfold Mv.fm at h
  obtain ⟨k, hk, rfl⟩ := Option.map_eq_some_iff.mp h
  unfold Mv.fmw
  have h1 := Rt.tail_len a
  have h2 := Rt.tlen_le a
  have h3 := Rt.core_len a
  have h4 := Rt.tail_len b
  have h5 := Rt.tlen_le b
  have hl1 := red_len (Rt.tail a ++ (Rt.core a).take k)
  have hl2 := red_len (red (Rt.tail a ++ (Rt.core a).take k) ++ inv (Rt.tail b))
  rw [List.length_append, List.length_take] at hl1
  rw [List.length_append, inv_len] at hl2
  refine ⟨let_red (let_app (let_red (let_app (let_tail ha.1) fun c hc => let_core ha.1 c (List.mem_of_mem_take hc))) (let_inv (let_tail hb.1))), ?_⟩
  have := ha.2.2
  have := hb.2.2
  omega
section
variable {lt : List Nat → List Nat → Bool} {f : List Nat → Bool} {x y : List Nat}
theorem sb_n1 (h : f x = true) : Mv.stepB lt f none x = some x := by show (if f x = true then some x else none) = _; rw [if_pos h]
theorem sb_n0 (h : f x = false) : Mv.stepB lt f none x = none := by show (if f x = true then some x else none) = _; rw [if_neg (by rw [h]; decide)]
theorem sb_k (h : lt x y = false) : Mv.stepB lt f (some y) x = some y := by show (if lt x y = true then (if f x = true then some x else some y) else some y) = _; rw [if_neg (by rw [h]; decide)]
theorem sb_1 (h : lt x y = true) (h2 : f x = true) : Mv.stepB lt f (some y) x = some x := by show (if lt x y = true then (if f x = true then some x else some y) else some y) = _; rw [if_pos h, if_pos h2]
theorem sb_0 (h : lt x y = true) (h2 : f x = false) : Mv.stepB lt f (some y) x = some y := by show (if lt x y = true then (if f x = true then some x else some y) else some y) = _; rw [if_pos h, if_neg (by rw [h2]; decide)]
end
theorem fold_mem {lt : List Nat → List Nat → Bool} {f : List Nat → Bool} : ∀ (xs : List (List Nat)) (o : Option (List Nat)) {y : List Nat}, xs.foldl (Mv.stepB lt f) o = some y → o = some y ∨ y ∈ xs
  | [], o, y, h => .inl h
  | x :: xs, o, y, h => by
    have h2 : Mv.stepB lt f o x = o ∨ Mv.stepB lt f o x = some x := by
      cases o with
      | none =>
        show (if f x = true then some x else none) = none ∨ (if f x = true then some x else none) = some x
        by_cases hf : f x = true
        · rw [if_pos hf]; exact .inr rfl
        · rw [if_neg hf]; exact .inl rfl
      | some z =>
        show (if lt x z = true then (if f x = true then some x else some z) else some z) = some z ∨ (if lt x z = true then (if f x = true then some x else some z) else some z) = some x
        by_cases hl : lt x z = true
        · rw [if_pos hl]
          by_cases hf : f x = true
          · rw [if_pos hf]; exact .inr rfl
          · rw [if_neg hf]; exact .inl rfl
        · rw [if_neg hl]; exact .inl rfl
    rcases fold_mem xs _ h with h1 | h1
    · rcases h2 with h2 | h2
      · rw [h2] at h1; exact .inl h1
      · rw [h2] at h1
        cases h1
        exact .inr List.mem_cons_self
    · exact .inr (List.mem_cons_of_mem _ h1)
theorem zip_pb {ws os : List (List Nat)} (hr : Row ws) (ho : Row os) : PB (ws.zip os) := by
  refine ⟨by rw [List.length_zip]; exact Nat.le_trans (Nat.min_le_left _ _) hr.2.1, fun q hq => ?_⟩
  have h := List.of_mem_zip hq
  have h1 := row_let hr h.1
  have h2 := row_let ho h.2
  exact ⟨⟨h1.2.1, h1.2.2, h1.1⟩, h2.2.1, h2.2.2, h2.1⟩
theorem zip_pro {B : Hp} {ws os : List (List Nat)} {ts : List Addr} (hl : ws.length = os.length) (h1 : ts.length = (wV ws).length) (h2 : ∀ j t, ts[j]? = some t → B t = some (.tup [(wV ws).getD j .non, (wV os).getD j .non])) : PrO B ts (ws.zip os) := by
  rw [List.length_map] at h1
  have hk : ∀ (j : Nat) t (h : j < (ws.zip os).length), ts[j]? = some t → B t = some (.tup (pV (ws.zip os)[j])) := fun j t h ht => by
    have hz : j < min ws.length os.length := by rwa [List.length_zip] at h
    rw [h2 j t ht, List.getElem_zip]
    have e1 : (wV ws).getD j .non = .str (sOf (ws[j]'(by omega))) := by
      rw [List.getD_eq_getElem?_getD, List.getElem?_map, List.getElem?_eq_getElem (by omega)]; rfl
    have e2 : (wV os).getD j .non = .str (sOf (os[j]'(by omega))) := by
      rw [List.getD_eq_getElem?_getD, List.getElem?_map, List.getElem?_eq_getElem (by omega)]; rfl
    rw [e1, e2]
  have hzl : (ws.zip os).length = ts.length := by rw [List.length_zip]; omega
  constructor
  · refine List.ext_getElem (by rw [List.length_map]; exact hzl) fun j h3 h4 => ?_
    rw [List.getElem_map]
    have h5 : j < ts.length := by omega
    rw [pO_at (hk j _ h3 (List.getElem?_eq_getElem h5))]
  · intro t ht
    obtain ⟨j, hj, rfl⟩ := List.getElem_of_mem ht
    have h6 := hk j _ (by omega) (List.getElem?_eq_getElem hj)
    rw [pO_at h6]; exact h6
abbrev s_mover : Stmt := top 29
abbrev N_mover : List Str := ["row", "other", "pairs", "begun", "best", "by", "pair", "one", "two"]
theorem sc_mover : FnScope N_mover ["row", "other"] (defScope s_mover) := ⟨rfl, rfl, rfl, by decide +kernel, rfl, by decide +kernel, by decide +kernel⟩
def mvr := Mv.mvr klt
def sp_mover (K : PySem.W.Frag) (C : Addr) : Sp := fun vs H Q E => (∃ v z, vs = [v, z] ∧ RowBad K H v ∧ ∀ H', (∀ b o, H b = some o → H' b = some o) → E (.ref C) none H') ∨ (∃ p ws z, vs = [.ref p, z] ∧ SqL K H p (wV ws) ∧ Row ws ∧ RowBad K H z ∧ ∀ H', (∀ b o, H b = some o → H' b = some o) → E (.ref C) none H') ∨
  (∃ p q ws os, vs = [.ref p, .ref q] ∧ (SqL K H p (wV ws) ∧ SqL K H q (wV os)) ∧ Row ws ∧ Row os ∧ ws.length ≠ os.length ∧ ∀ H', (∀ b o, H b = some o → H' b = some o) → E (.ref C) none H') ∨
  ∃ p q ws os, vs = [.ref p, .ref q] ∧ (SqL K H p (wV ws) ∧ SqL K H q (wV os)) ∧ Row ws ∧ Row os ∧ ws.length = os.length ∧ ∀ H', (∀ b o, H b = some o → H' b = some o) → Q (oV (mvr ws os)) H'
theorem use_mover {C : Addr} {B : Hp} {L : HL} {Q : KQ} {E : XK} {p q : Addr} {ws os : List (List Nat)} (hp : Ls K B L p (wV ws)) (hq : Ls K B L q (wV os)) (h1 : Row ws) (h2 : Row os) (hl : ws.length = os.length) (k : Q (oV (mvr ws os)) B L) : ∀ H, Sat B L H → sp_mover K C [.ref p, .ref q] H (up Q) E :=
  fun H s => .inr (.inr (.inr ⟨p, q, ws, os, rfl, ⟨hp.at s, hq.at s⟩, h1, h2, hl, fun H' e => s.upq e k⟩))
theorem ok_mover {f C : Addr} {fd : FuncData} (F : Fun K "mover" "mover" s_mover f fd) (hm : mg "mover" = some (.ref f)) (T : Tx mg) (eR : ExK K mg "NoRow" C) (F_need_row : Fn P w K mg base 3 "need_row" (sp_need_row K C)) (F_first_mover : Fn P w K mg base 4 "first_mover" sp_first_mover) (F_tried_for : Fn P w K mg base 5 "tried_for" (sp_tried_for K)) (F_all_moved : Fn P w K mg base 5 "all_moved" (sp_all_moved K)) (F_is_before : Fn P w K mg base 2 "is_before" sp_is_before) : Fn P w K mg base 6 "mover" (sp_mover K C) := by
  refine fn_ok F sc_mover hm (fun _ _ _ _ _ _ us hl => match us, hl with | [_, _], _ => rfl) ?_ fun cdv A outer s H vs Q E hr h tk po => ?_
  · rintro vs H Q E (⟨_, _, rfl, _⟩ | ⟨_, _, _, rfl, _⟩ | ⟨_, _, _, _, rfl, _⟩ | ⟨_, _, _, _, rfl, _⟩) <;> rfl
  rcases h with ⟨v, z, rfl, hbad, he⟩ | ⟨p, ws, z, rfl, hp, hrow, hbad, he⟩ | h
  · refine ⟨H, [], Sat.whole, ?_⟩
    refine k_cons ?_
    refine k_expr ?_
    refine k_call F_need_row (hr.mono (by decide)) tk ?_
    refine a_cons ?_
    refine k_n 0 ?_
    refine a_nil ?_
    exact use_need_row_bad (fun H' s' => hbad.le s'.ext) fun H' s => he H' s.ext
  · have hls : ∀ L, Ls K H L p (wV ws) := fun L => .inl hp
    refine ⟨H, [], Sat.whole, ?_⟩
    refine k_cons ?_
    refine k_expr ?_
    refine k_fn F_need_row (hr.mono (by decide)) ?_
    refine a_cons ?_
    refine k_n 0 ?_
    refine a_nil ?_
    refine use_need_row ?_ (hls _) hrow
    refine k_cons ?_
    refine k_expr ?_
    refine k_call F_need_row (hr.mono (by decide)) tk ?_
    refine a_cons ?_
    refine k_n 1 ?_
    refine a_nil ?_
    exact use_need_row_bad (fun H' s' => hbad.le s'.ext) fun H' s => he H' s.ext
  have h' : ∃ p q ws os, vs = [.ref p, .ref q] ∧ (SqL K H p (wV ws) ∧ SqL K H q (wV os)) ∧ Row ws ∧ Row os ∧ ((ws.length ≠ os.length ∧ ∀ H', (∀ b o, H b = some o → H' b = some o) → E (.ref C) none H') ∨ (ws.length = os.length ∧ ∀ H', (∀ b o, H b = some o → H' b = some o) → Q (oV (mvr ws os)) H')) := by
    rcases h with ⟨p, q, ws, os, h1, h2, h3, h4, h5, h6⟩ | ⟨p, q, ws, os, h1, h2, h3, h4, h5, h6⟩
    · exact ⟨p, q, ws, os, h1, h2, h3, h4, .inl ⟨h5, h6⟩⟩
    · exact ⟨p, q, ws, os, h1, h2, h3, h4, .inr ⟨h5, h6⟩⟩
  clear h
  obtain ⟨p, q, ws, os, rfl, ⟨hp, hq'⟩, hrow, hrow2, hend⟩ := h'
  have hls : ∀ L, Ls K H L p (wV ws) := fun L => .inl hp
  have hls2 : ∀ L, Ls K H L q (wV os) := fun L => .inl hq'
  refine ⟨H, [], Sat.whole, ?_⟩
  refine k_cons ?_
  refine k_expr ?_
  refine k_fn F_need_row (hr.mono (by decide)) ?_
  refine a_cons ?_
  refine k_n 0 ?_
  refine a_nil ?_
  refine use_need_row ?_ (hls _) hrow
  refine k_cons ?_
  refine k_expr ?_
  refine k_fn F_need_row (hr.mono (by decide)) ?_
  refine a_cons ?_
  refine k_n 1 ?_
  refine a_nil ?_
  refine use_need_row ?_ (hls2 _) hrow2
  refine k_cons ?_
  refine k_if ?_
  refine t_cmp ?_
  refine k_callB (id := "len") T.b_len ?_
  refine a_cons ?_
  refine k_n 0 ?_
  refine a_nil ?_
  refine c_lenl (hls _) ?_
  refine k_callB (id := "len") T.b_len ?_
  refine a_cons ?_
  refine k_n 1 ?_
  refine a_nil ?_
  refine c_lenl (hls2 _) ?_
  walk_at "opNotEq"
  refine ⟨_, rfl, ?_⟩
  refine ⟨fun hk => ?_, fun hk => ?_⟩
  · rcases hend with ⟨_, he⟩ | ⟨hne, _⟩
    · exact k_one (k_raise eR tk fun H' s => he H' s.ext)
    · rw [List.length_map, List.length_map, hne] at hk
      simp at hk
  rw [List.length_map, List.length_map] at hk
  have hwl : ws.length = os.length := by
    have : ¬ ¬ (((ws.length : Nat) : Int) = ((os.length : Nat) : Int)) := by simpa using hk
    omega
  obtain ⟨_, hq⟩ := hend.resolve_left fun z => z.1 hwl
  refine k_nil ?_
  show kSs _ _ _ _ _ _
  refine k_cons ?_
  refine k_set 2 ?_ sc_mover.nd
  refine k_lzip T.b_list T.b_zip ?_
  refine a_cons ?_
  refine k_n 0 ?_
  refine a_cons ?_
  refine k_n 1 ?_
  refine a_nil ?_
  refine ⟨p, q, wV ws, wV os, rfl, hls _, hls2 _, by rw [List.length_map, List.length_map, hwl], fun B2 r ts hle htl htp => ?_⟩
  show kSs _ _ _ _ _ _
  refine k_norm (by simp only [L2.start, N_mover, List.map_cons, List.map_nil, List.length_cons, List.length_nil, Nat.reduceAdd, Nat.reduceSub, List.replicate_succ, List.replicate_zero, List.cons_append, List.nil_append, List.set_cons_succ, List.set_cons_zero]; exact rfl) ?_
  have hpo : PrO B2 ts (ws.zip os) := zip_pro hwl htl htp
  have hpb := zip_pb hrow hrow2
  have hmv : mvr ws os = if ((ws.zip os).map Mv.odd2).any id = true then none else match Mv.nzp (ws.zip os) with
    | [] => some []
    | q :: r => match Mv.fm q.1 q.2 with
      | none => none
      | some b => (Mv.tried (q :: r) b).foldl (Mv.stepB klt (Mv.allm (q :: r))) none := rfl
  rw [hmv] at hq
  generalize ws.zip os = ps at hpo hpb hq
  refine k_cons ?_
  refine k_if ?_
  refine t_val ?_
  refine k_callB (id := "any") T.b_any ?_
  refine a_cons ?_
  refine k_le (k_lcm_p (i := 7) (j := 8) (fun q => .bl (Mv.odd2 q)) sc_mover.nd (blkOk_by (N := N_mover) (sc := defScope s_mover) (by decide +kernel)) ?_)
  refine k_n 2 ?_
  refine ⟨r, ts, ps, rfl, hpo.prs (.inr (by walk_at "mm")), by have := hpb.1; omega, fun q hqm D acc sb Hb Cb clb fpb => ?_, fun D => ?_⟩
  ·
    refine k_cmp ?_
    refine k_cmp ?_
    refine k_n 7 ?_
    refine k_s [] ?_
    walk_at "opEq"
    refine k_cmp ?_
    refine k_n 8 ?_
    refine k_s [] ?_
    walk_at "opEq"
    walk_at "opNotEq"
    exact ⟨rfl, rfl, rfl⟩
  refine a_nil ?_
  refine c_any (bs := ps.map Mv.odd2) (by rw [List.map_map]; exact Or.inr (List.Mem.head _)) ?_
  refine ⟨_, rfl, ?_⟩
  refine ⟨fun hk2 => ?_, fun hk2 => ?_⟩
  · rw [if_pos hk2] at hq
    refine k_one ?_
    refine k_ret ?_
    refine k_non ?_
    exact fun H' s => hq H' fun b o e => s.ext b o (hle b o e)
  rw [if_neg (by rw [hk2]; decide)] at hq
  refine k_nil ?_
  refine k_sub (L' := [(r, .lst (ts.map V.ref))]) (.cons _ (.cons₂ _ (.slnil))) ?_
  refine k_cons ?_
  refine k_sle 2 (k_lcf_l (j := 6) (fun v => !decide ((pO B2 v).1 = [])) (fun v => v) sc_mover.nd (blkOk_by (N := N_mover) (sc := defScope s_mover) (by decide +kernel)) ?_)
  refine k_n 2 ?_
  refine ⟨r, ts.map V.ref, rfl, .inr (by walk_at "mm"), by have h1 := hpb.1; have h2 := congrArg List.length hpo.1; rw [List.length_map] at h2 ⊢; omega, fun z hz D acc sb Hb Cb clb fpb => ?_, fun z hz hfz D acc sb Hb Cb clb fpb => ?_, fun D => ?_⟩
  ·
    obtain ⟨t, htm, rfl⟩ := List.mem_map.mp hz
    have htt := hpo.2 t htm
    generalize hpe : pO B2 (.ref t) = q at htt
    refine t_cmp ?_
    refine k_ix ?_
    refine k_n 6 ?_
    refine k_int ?_
    refine i_tv (.str (sOf q.1)) (.inl (.inl (.inl htt))) ?_ rfl
    refine k_s [] ?_
    walk_at "opNotEq"
    refine ⟨_, rfl, ?_⟩
    exact ⟨rfl, rfl, rfl⟩
  ·
    refine k_n 6 ?_
    exact ⟨rfl, rfl, rfl⟩
  show kSs _ _ _ _ _ _
  refine k_norm (by simp only [L2.start, N_mover, List.map_cons, List.map_nil, List.length_cons, List.length_nil, Nat.reduceAdd, Nat.reduceSub, List.replicate_succ, List.replicate_zero, List.cons_append, List.nil_append, List.set_cons_succ, List.set_cons_zero]; exact rfl) ?_
  have hfm : ((ts.map V.ref).filter fun v => !decide ((pO B2 v).1 = [])).map (fun v => v) = (ts.filter fun t => !decide ((pO B2 (.ref t)).1 = [])).map V.ref := by
    rw [List.map_id', List.filter_map]; rfl
  have hpa : PrO B2 (ts.filter fun t => !decide ((pO B2 (.ref t)).1 = [])) (Mv.nzp ps) := hpo.filter fun q => !decide (q.1 = [])
  rw [hfm]
  have hal : ∀ q ∈ Mv.nzp ps, q ∈ ps ∧ q.1 ≠ [] := fun q h => by
    have := List.mem_filter.mp h
    exact ⟨this.1, by simpa using this.2⟩
  have hnl : (Mv.nzp ps).length ≤ 8 := Nat.le_trans (List.length_filter_le _ _) hpb.1
  have hpb2 : PB (Mv.nzp ps) := ⟨hnl, fun q h => hpb.2 q (hal q h).1⟩
  have hne : ∀ q ∈ Mv.nzp ps, q.1 ≠ [] := fun q h => (hal q h).2
  clear hal hnl
  generalize (ts.filter fun t => !decide ((pO B2 (.ref t)).1 = [])) = ta at hpa ⊢
  generalize Mv.nzp ps = pa at hpa hpb2 hne hq
  have hlB : ∀ H', Le B2 H' → ∀ b o, H b = some o → H' b = some o := fun H' e b o x => e b o (hle b o x)
  refine k_cons ?_
  refine k_if ?_
  refine t_cmp ?_
  refine k_n 2 ?_
  refine k_lst ?_
  refine a_nil ?_
  refine ⟨by first | decide | simp, fun pe => ?_⟩
  refine o_eqP0 hr.units (.inr (by walk_at "mm")) hpa (fun q hq => ⟨(hpb2.2 q hq).1.1, (hpb2.2 q hq).2.1⟩) (.inr (by walk_at "mm")) ?_
  refine ⟨_, rfl, ?_⟩
  refine ⟨fun hk3 => ?_, fun hk3 => ?_⟩
  · have hz : pa = [] := by simpa using hk3
    rw [hz] at hq
    refine k_one ?_
    refine k_ret ?_
    refine k_s [] ?_
    exact fun H' s => hq H' (hlB H' s.ext)
  refine k_nil ?_
  have hz : pa ≠ [] := by simpa using hk3
  obtain ⟨q1, pr1, rfl⟩ : ∃ q r, pa = q :: r := by
    cases pa with
    | nil => exact absurd rfl hz
    | cons q r => exact ⟨q, r, rfl⟩
  obtain ⟨t1, tr1, rfl, ht1⟩ := hpa.cons
  have hq1 := hpb2.2 q1 List.mem_cons_self
  refine k_cons ?_
  refine k_set 3 ?_ sc_mover.nd
  refine k_fn F_first_mover (hr.mono (by decide)) ?_
  refine a_cons ?_
  refine k_ix ?_
  refine k_ix ?_
  refine k_n 2 ?_
  refine k_int ?_
  refine i_lv (.ref t1) (.inr (by walk_at "mm")) ?_ (atI_n (l := (t1 :: tr1).map V.ref) (j := 0))
  refine k_int ?_
  refine i_tv (.str (sOf q1.1)) (.inl (.inl (.inl ht1))) ?_ rfl
  refine a_cons ?_
  refine k_ix ?_
  refine k_ix ?_
  refine k_n 2 ?_
  refine k_int ?_
  refine i_lv (.ref t1) (.inr (by walk_at "mm")) ?_ (atI_n (l := (t1 :: tr1).map V.ref) (j := 0))
  refine k_int ?_
  refine i_tv (.str (sOf q1.2)) (.inl (.inl (.inl ht1))) ?_ rfl
  refine a_nil ?_
  refine use_first_mover ?_ ⟨hq1.1.1, hq1.2.1, by have := hq1.1.2.2; omega, by have := hq1.2.2.2; omega⟩
  show kSs _ _ _ _ _ _
  refine k_norm (by simp only [L2.start, N_mover, List.map_cons, List.map_nil, List.length_cons, List.length_nil, Nat.reduceAdd, Nat.reduceSub, List.replicate_succ, List.replicate_zero, List.cons_append, List.nil_append, List.set_cons_succ, List.set_cons_zero]; exact rfl) ?_
  refine k_cons ?_
  refine k_if ?_
  refine t_cmp ?_
  refine k_n 3 ?_
  refine k_non ?_
  walk_at "opIs"
  refine ⟨_, rfl, ?_⟩
  refine ⟨fun hk4 => ?_, fun hk4 => ?_⟩
  · have hf : Mv.fm q1.1 q1.2 = none := by
      cases hf : Mv.fm q1.1 q1.2 with
      | none => rfl
      | some x => rw [hf] at hk4; cases hk4
    simp only [hf] at hq
    refine k_one ?_
    refine k_ret ?_
    refine k_non ?_
    exact fun H' s => hq H' (hlB H' s.ext)
  refine k_nil ?_
  obtain ⟨bg, hbg⟩ : ∃ x, Mv.fm q1.1 q1.2 = some x := by
    cases hf : Mv.fm q1.1 q1.2 with
    | none => rw [hf] at hk4; cases hk4
    | some x => exact ⟨x, rfl⟩
  have hbo := fm_ok hq1.1 hq1.2 hbg
  simp only [hbg] at hq
  rw [hbg]
  show kSs _ _ _ _ _ _
  refine k_cons ?_
  refine k_set 4 ?_ sc_mover.nd
  refine k_non ?_
  show kSs _ _ _ _ _ _
  refine k_norm (by simp only [L2.start, N_mover, List.map_cons, List.map_nil, List.length_cons, List.length_nil, Nat.reduceAdd, Nat.reduceSub, List.replicate_succ, List.replicate_zero, List.cons_append, List.nil_append, List.set_cons_succ, List.set_cons_zero]; exact rfl) ?_
  have htk := tried_ok (w := bg) hpb2 (by simp) hne hbo
  refine k_cons ?_
  refine k_for_l2 po ?_
  refine k_fn F_tried_for (hr.mono (by decide)) ?_
  refine a_cons ?_
  refine k_n 2 ?_
  refine a_cons ?_
  refine k_n 3 ?_
  refine a_nil ?_
  refine use_tried_for (.inr (by walk_at "mm")) hpa ⟨hpb2, by simp, hne, hbo.1, hbo.2⟩ fun rr => ?_
  generalize Mv.tried (q1 :: pr1) bg = tt at htk hq ⊢
  refine ⟨rr, wV tt, fun i σ B L => ∃ v5 v6 v7 v8, σ = [some (.ref p), some (.ref q), some (.ref D), some (.str (sOf bg)), some (oV ((tt.take i).foldl (Mv.stepB klt (Mv.allm (q1 :: pr1))) none)), v5, v6, v7, v8] ∧ B = B2 ∧ (rr, .lst (wV tt)) ∈ L ∧ (D, .lst ((t1 :: tr1).map V.ref)) ∈ L, rfl, .inr (.head _), ⟨_, _, _, _, rfl, rfl, .head _, by walk_at "mm"⟩, ?_, ?_, ?_⟩
  · rintro i σ B L hi ⟨v5, v6, v7, v8, rfl, rfl, h1, h2⟩
    exact .inr h1
  · rintro i x σ B L hx ⟨v5, v6, v7, v8, rfl, rfl, h1, h2⟩
    rw [List.getElem?_map] at hx
    obtain ⟨x, hxx, rfl⟩ := Option.map_eq_some_iff.mp hx
    have hxo := htk.2 x (List.mem_of_getElem? hxx)
    have hst : (tt.take (i + 1)).foldl (Mv.stepB klt (Mv.allm (q1 :: pr1))) none = Mv.stepB klt (Mv.allm (q1 :: pr1)) ((tt.take i).foldl (Mv.stepB klt (Mv.allm (q1 :: pr1))) none) x := by
      rw [List.take_add_one, hxx, List.foldl_append]; rfl
    have hbm : ∀ y, (tt.take i).foldl (Mv.stepB klt (Mv.allm (q1 :: pr1))) none = some y → Let y ∧ y.length ≤ 60200 := fun y hy => by
      rcases fold_mem _ _ hy with h | h
      · cases h
      · exact htk.2 y (List.mem_of_mem_take h)
    generalize (tt.take i).foldl (Mv.stepB klt (Mv.allm (q1 :: pr1))) none = bb at hst hbm ⊢
    refine g_name 5 ?_ sc_mover.nd
    refine k_norm (by simp only [L2.start, N_mover, List.map_cons, List.map_nil, List.length_cons, List.length_nil, Nat.reduceAdd, Nat.reduceSub, List.replicate_succ, List.replicate_zero, List.cons_append, List.nil_append, List.set_cons_succ, List.set_cons_zero]; exact rfl) ?_
    cases bb with
    | none =>
      show kSs _ _ (_ :: _ :: _ :: _ :: some V.non :: _) _ _ _
      refine k_cons ?_
      refine k_if ?_
      refine t_pure (v := false) ?_ ⟨fun z => (nomatch z), fun _ => ?_⟩
      · refine t_w ?_
        refine w_and ?_
        refine t_cmp ?_
        refine k_n 4 ?_
        refine k_non ?_
        walk_at "opIsNot"
        refine ⟨_, rfl, ?_⟩
        exact ⟨fun z => (nomatch z), fun _ => ⟨rfl, rfl, by walk_at "sfx"⟩⟩
      refine k_nil ?_
      refine k_one ?_
      refine k_if ?_
      refine t_val ?_
      refine k_fn F_all_moved (hr.mono (by decide)) ?_
      refine a_cons ?_
      refine k_n 2 ?_
      refine a_cons ?_
      refine k_n 5 ?_
      refine a_nil ?_
      refine use_all_moved ?_ (.inr h2) hpa ⟨hpb2, hxo.1, by have := hxo.2; omega⟩
      refine ⟨_, rfl, ?_⟩
      refine ⟨fun hk5 => ?_, fun hk5 => ?_⟩
      · skip
        refine k_one ?_
        refine k_set 4 ?_ sc_mover.nd
        refine k_n 5 ?_
        refine ⟨some (.str (sOf x)), v6, v7, v8, ?_, rfl, h1, h2⟩
        rw [hst, sb_n1 hk5]; rfl
      · refine k_nil ?_
        refine ⟨some (.str (sOf x)), v6, v7, v8, ?_, rfl, h1, h2⟩
        rw [hst, sb_n0 hk5]; rfl
    | some y =>
      have hyo := hbm y rfl
      show kSs _ _ (_ :: _ :: _ :: _ :: some (.str (sOf y)) :: _) _ _ _
      refine k_cons ?_
      refine k_if ?_
      refine t_pure (v := !klt x y) ?_ ⟨fun hk6 => ?_, fun hk6 => ?_⟩
      · refine t_w ?_
        refine w_and ?_
        refine t_cmp ?_
        refine k_n 4 ?_
        refine k_non ?_
        walk_at "opIsNot"
        refine ⟨_, rfl, ?_⟩
        refine ⟨fun _ => ?_, fun z => (nomatch z)⟩
        refine w_and1 ?_
        refine t_not ?_
        refine t_val ?_
        refine k_fn F_is_before (hr.mono (by decide)) ?_
        refine a_cons ?_
        refine k_n 5 ?_
        refine a_cons ?_
        refine k_n 4 ?_
        refine a_nil ?_
        refine use_is_before ?_ ⟨hxo.1, hyo.1, by have := hxo.2; omega, by have := hyo.2; omega⟩
        refine ⟨_, rfl, ?_⟩
        exact ⟨rfl, rfl, by walk_at "sfx"⟩
      · skip
        refine k_one ?_
        refine k_continue ?_
        refine ⟨some (.str (sOf x)), v6, v7, v8, ?_, rfl, h1, h2⟩
        rw [hst, sb_k (by simpa using hk6)]; rfl
      refine k_nil ?_
      have hlt : klt x y = true := by simpa using hk6
      refine k_one ?_
      refine k_if ?_
      refine t_val ?_
      refine k_fn F_all_moved (hr.mono (by decide)) ?_
      refine a_cons ?_
      refine k_n 2 ?_
      refine a_cons ?_
      refine k_n 5 ?_
      refine a_nil ?_
      refine use_all_moved ?_ (.inr h2) hpa ⟨hpb2, hxo.1, by have := hxo.2; omega⟩
      refine ⟨_, rfl, ?_⟩
      refine ⟨fun hk5 => ?_, fun hk5 => ?_⟩
      · skip
        refine k_one ?_
        refine k_set 4 ?_ sc_mover.nd
        refine k_n 5 ?_
        refine ⟨some (.str (sOf x)), v6, v7, v8, ?_, rfl, h1, h2⟩
        rw [hst, sb_1 hlt hk5]; rfl
      · refine k_nil ?_
        refine ⟨some (.str (sOf x)), v6, v7, v8, ?_, rfl, h1, h2⟩
        rw [hst, sb_0 hlt hk5]; rfl
  · rintro σ B L ⟨v5, v6, v7, v8, rfl, rfl, h1, h2⟩
    refine k_one ?_
    refine k_ret ?_
    refine k_n 4 ?_
    rw [List.length_map, List.take_length]
    exact fun H' s => hq H' (hlB H' s.ext)
theorem let_nbk {c : Nat} (h : c ∈ ordL) : bk c ≠ c := by
  simp only [ordL, List.mem_cons, List.not_mem_nil, or_false] at h
  rcases h with h | h | h | h | h | h | h | h | h | h | h | h <;> subst h <;> decide
theorem abs_nat (n : Int) : (if n < 0 then -n else n) = ((n.natAbs : Nat) : Int) := by split <;> omega
theorem let_rep {l : List Nat} (h : Let l) (n : Nat) : Let (rep l n) := fun c hc => by
  unfold rep at hc
  obtain ⟨z, hz, hcz⟩ := List.mem_flatten.mp hc
  rw [List.mem_replicate] at hz
  rw [hz.2] at hcz
  exact h c hcz
theorem atI_mem {α : Type} {l : List α} {r : Int} (h0 : 0 ≤ r) (h1 : r < l.length) : ∃ c, c ∈ l ∧ atI l r = some c := by
  obtain ⟨n, rfl⟩ : ∃ n : Nat, r = n := ⟨r.toNat, by omega⟩
  have hn : n < l.length := by omega
  exact ⟨l[n], List.getElem_mem hn, by rw [atI_n]; exact List.getElem?_eq_getElem hn⟩
abbrev s_law_draws : Stmt := top 31
abbrev N_law_draws : List Str := ["_law_number", "_law_sizes", "_law_found", "_law_size"]
theorem sc_law_draws : FnScope N_law_draws ["_law_number", "_law_sizes"] (defScope s_law_draws) := ⟨rfl, rfl, rfl, by decide +kernel, rfl, by decide +kernel, by decide +kernel⟩
def drw : Int → List Int → List Int
  | _, [] => []
  | n, s :: r => n % s :: drw (n / s) r
def ndv : Int → List Int → Int
  | n, [] => n
  | n, s :: r => ndv (n / s) r
theorem drw_snoc : ∀ (n : Int) (a : List Int) (s : Int), drw n (a ++ [s]) = drw n a ++ [ndv n a % s]
  | _, [], _ => rfl
  | n, x :: a, s => by show _ :: drw _ (a ++ [s]) = _; rw [drw_snoc]; rfl
theorem ndv_snoc : ∀ (n : Int) (a : List Int) (s : Int), ndv n (a ++ [s]) = ndv n a / s
  | _, [], _ => rfl
  | n, x :: a, s => by show ndv _ (a ++ [s]) = _; rw [ndv_snoc]; rfl
theorem drw_len : ∀ (n : Int) (a : List Int), (drw n a).length = a.length
  | _, [] => rfl
  | n, x :: a => by show (drw _ a).length + 1 = _; rw [drw_len]; rfl
def sp_law_draws (K : PySem.W.Frag) : Sp := fun vs H Q _ => ∃ (n : Int) (p : Addr) (ns : List Int), vs = [.int n, .ref p] ∧ SqL K H p (ns.map V.int) ∧ ns.length ≤ 100 ∧ (∀ s ∈ ns, 0 < s ∧ s < 1000) ∧ ∀ H' q, (∀ b o, H b = some o → H' b = some o) → H q = none → H' q = some (.lst ((drw n ns).map V.int)) → Q (.ref q) H'
theorem use_law_draws {B : Hp} {L : HL} {Q : KQ} {E : XK} {p : Addr} {n : Int} {ns : List Int} (h : Ls K B L p (ns.map V.int)) (hn : ns.length ≤ 100) (hs : ∀ s ∈ ns, 0 < s ∧ s < 1000) (q : ∀ r, Q (.ref r) B ((r, .lst ((drw n ns).map V.int)) :: L)) : ∀ H, Sat B L H → sp_law_draws K [.int n, .ref p] H (up Q) E :=
  fun H s => ⟨n, p, ns, rfl, h.at s, hn, hs, fun H' r e h1 h2 => ⟨_, _, s.new' h1 e h2, q r⟩⟩
theorem ok_law_draws {f : Addr} {fd : FuncData} (F : Fun K "_law_draws" "_law_draws" s_law_draws f fd) (hm : mg "_law_draws" = some (.ref f)) (T : Tx mg) : Fn P w K mg base 1 "_law_draws" (sp_law_draws K) := by
  refine fn_ok F sc_law_draws hm (fun _ _ _ _ _ _ us hl => match us, hl with | [_, _], _ => rfl) ?_ fun cdv A outer s H vs Q E hr h tk po => ?_
  · rintro vs H Q E ⟨_, _, _, rfl, _⟩; rfl
  obtain ⟨n, p, ns, rfl, hp, hn, hs, hq⟩ := h
  have hls : ∀ L, Ls K H L p (ns.map V.int) := fun L => .inl hp
  refine ⟨H, [], Sat.whole, ?_⟩
  refine k_cons ?_
  refine k_set 2 ?_ sc_law_draws.nd
  refine k_lst ?_
  refine a_nil ?_
  refine ⟨by decide, fun pf => ?_⟩
  show kSs _ _ _ _ _ _
  refine k_cons ?_
  refine k_for_l (fun i σ B L => ∃ v, σ = [some (.int (ndv n (ns.take i))), some (.ref p), some (.ref pf), v] ∧ B = H ∧ L = [(pf, .lst ((drw n (ns.take i)).map V.int))]) po ?_
  refine k_n 1 ?_
  refine ⟨p, _, rfl, hls _, ⟨_, rfl, rfl, rfl⟩, ?_, ?_, ?_⟩
  · rintro i σ B L hi ⟨v, rfl, rfl, rfl⟩
    exact hls _
  · rintro i x σ B L hx ⟨v, rfl, rfl, rfl⟩
    rw [List.getElem?_map] at hx
    obtain ⟨s0, hs0, rfl⟩ := Option.map_eq_some_iff.mp hx
    have hb := hs s0 (List.mem_of_getElem? hs0)
    have hdl := drw_len n (ns.take i)
    refine g_name 3 ?_ sc_law_draws.nd
    refine k_cons ?_
    refine k_expr ?_
    refine k_m PySem.F.plainAttrs_list PySem.F.slot_list_append PySem.F.type_list_append ?_
    refine k_n 2 ?_
    refine ⟨ty_l (.inr (.head _)), ?_⟩
    refine a_cons ?_
    refine k_bin ?_
    refine k_n 0 ?_
    refine k_n 3 ?_
    refine o_mod ?_ hb.1
    refine a_nil ?_
    refine m_append .here ?_ (by rw [List.length_map, hdl, List.length_take]; omega)
    refine k_one ?_
    refine k_set 0 ?_ sc_law_draws.nd
    refine k_bin ?_
    refine k_n 0 ?_
    refine k_n 3 ?_
    refine o_fdiv ?_ (by omega)
    have e : ns.take (i + 1) = ns.take i ++ [s0] := by rw [List.take_add_one, hs0]; rfl
    refine ⟨some (.int s0), ?_, rfl, ?_⟩
    · rw [e, ndv_snoc]; rfl
    · rw [e, drw_snoc, List.map_append]; rfl
  · rintro σ B L ⟨v, rfl, rfl, rfl⟩
    rw [List.length_map, List.take_length]
    refine k_one ?_
    refine k_ret ?_
    refine k_n 2 ?_
    intro H' s
    exact hq H' pf s.ext (s.nb _ List.mem_cons_self) (s.own _ List.mem_cons_self)
abbrev s_law_mix : Stmt := top 32
abbrev N_law_mix : List Str := ["_law_number", "_law_k", "_law_mixed"]
theorem sc_law_mix : FnScope N_law_mix ["_law_number", "_law_k"] (defScope s_law_mix) := ⟨rfl, rfl, rfl, by decide +kernel, rfl, by decide +kernel, by decide +kernel⟩
def sp_law_mix : Sp := fun vs H Q _ => ∃ (n k : Int), vs = [.int n, .int k] ∧ (0 ≤ k ∧ k < 1000) ∧ ∀ H' r, (∀ b o, H b = some o → H' b = some o) → 0 ≤ r → r < 2147483629 → Q (.int r) H'
theorem use_law_mix {B : Hp} {L : HL} {Q : KQ} {E : XK} {n k : Int} (h : 0 ≤ k ∧ k < 1000) (q : ∀ r, 0 ≤ r → r < 2147483629 → Q (.int r) B L) : ∀ H, Sat B L H → sp_law_mix [.int n, .int k] H (up Q) E := fun H s => ⟨n, k, rfl, h, fun H' r e h1 h2 => s.upq e (q r h1 h2)⟩
theorem ok_law_mix {f : Addr} {fd : FuncData} (F : Fun K "_law_mix" "_law_mix" s_law_mix f fd) (hm : mg "_law_mix" = some (.ref f)) : Fn P w K mg base 1 "_law_mix" sp_law_mix := by
  refine fn_ok F sc_law_mix hm (fun _ _ _ _ _ _ us hl => match us, hl with | [_, _], _ => rfl) ?_ fun cdv A outer s H vs Q E hr h tk po => ?_
  · rintro vs H Q E ⟨_, _, rfl, _⟩; rfl
  obtain ⟨n, k, rfl, hk, hq⟩ := h
  refine ⟨H, [], Sat.whole, ?_⟩
  refine k_cons ?_
  refine k_set 2 ?_ sc_law_mix.nd
  refine k_bin ?_
  refine k_bin ?_
  refine k_bin ?_
  refine k_bin ?_
  refine k_n 0 ?_
  refine k_int ?_
  walk_at "opMult"
  refine k_bin ?_
  refine k_n 1 ?_
  refine k_int ?_
  walk_at "opMult"
  walk_at "opAdd"
  refine k_int ?_
  walk_at "opAdd"
  refine k_int ?_
  walk_at "opMod"
  show kSs _ _ _ _ _ _
  generalize hmx : ((n * 48271 + k * 104729 + 11) % 2147483647) = mx
  have hb := Int.emod_nonneg (n * 48271 + k * 104729 + 11) (b := 2147483647) (by decide)
  have hb2 := Int.emod_lt_of_pos (n * 48271 + k * 104729 + 11) (b := 2147483647) (by decide)
  rw [hmx] at hb hb2
  refine k_one ?_
  refine k_ret ?_
  refine k_bin ?_
  refine k_bin ?_
  refine k_bin ?_
  refine k_bin ?_
  refine k_n 2 ?_
  refine k_n 2 ?_
  refine o_mul ?_ (.inl (by omega))
  refine k_bin ?_
  refine k_int ?_
  refine k_n 2 ?_
  refine o_mul ?_ (.inl (by omega))
  walk_at "opAdd"
  refine k_n 1 ?_
  walk_at "opAdd"
  refine k_int ?_
  walk_at "opMod"
  intro H' s
  exact hq H' _ s.ext (Int.emod_nonneg _ (by decide)) (Int.emod_lt_of_pos _ (by decide))
abbrev s_law_back : Stmt := top 33
abbrev N_law_back : List Str := ["_law_word_here", "_law_order", "_law_found", "_law_letter", "_law_at"]
theorem sc_law_back : FnScope N_law_back ["_law_word_here"] (defScope s_law_back) := ⟨rfl, rfl, rfl, by decide +kernel, rfl, by decide +kernel, by decide +kernel⟩
def sp_law_back : Sp := fun vs H Q _ => ∃ l, vs = [.str (sOf l)] ∧ (Let l ∧ l.length ≤ 1000000) ∧ ∀ H', (∀ b o, H b = some o → H' b = some o) → Q (.str (sOf (inv l))) H'
theorem use_law_back {B : Hp} {L : HL} {Q : KQ} {E : XK} {l : List Nat} (q : Q (.str (sOf (inv l))) B L) (h : Let l) (hn : l.length ≤ 1000000) : ∀ H, Sat B L H → sp_law_back [.str (sOf l)] H (up Q) E := fun H s => ⟨l, rfl, ⟨h, hn⟩, fun H' e => s.upq e q⟩
theorem ok_law_back {f : Addr} {fd : FuncData} (F : Fun K "_law_back" "_law_back" s_law_back f fd) (hm : mg "_law_back" = some (.ref f)) (T : Tx mg) : Fn P w K mg base 1 "_law_back" sp_law_back := by
  refine fn_ok F sc_law_back hm (fun _ _ _ _ _ _ us hl => match us, hl with | [_], _ => rfl) ?_ fun cdv A outer s H vs Q E hr h tk po => ?_
  · rintro vs H Q E ⟨l, rfl, _⟩; rfl
  obtain ⟨l, rfl, ⟨hl, hn⟩, hq⟩ := h
  refine ⟨H, [], Sat.whole, ?_⟩
  refine k_cons ?_
  refine k_set 1 ?_ sc_law_back.nd
  refine k_s ordL ?_
  refine k_cons ?_
  refine k_set 2 ?_ sc_law_back.nd
  refine k_s [] ?_
  refine k_cons ?_
  refine k_for_s (fun i σ B L => ∃ v v2, σ = [some (.str (sOf l)), some (.str (sOf ordL)), some (.str (sOf (inv (l.take i)))), v, v2] ∧ B = H ∧ L = []) po ?_
  refine k_n 0 ?_
  refine ⟨l, rfl, ⟨_, _, rfl, rfl, rfl⟩, ?_, ?_⟩
  · rintro i c σ B L hi ⟨v, v2, rfl, rfl, rfl⟩
    have hc : c ∈ ordL := hl c (List.mem_of_getElem? hi)
    have hlt := ord_lt hc
    refine g_name 3 ?_ sc_law_back.nd
    refine k_cons ?_
    refine k_set 4 ?_ sc_law_back.nd
    refine k_sindex ?_ (name := "")
    refine k_n 1 ?_
    refine ⟨_, rfl, ?_⟩
    refine a_cons ?_
    refine k_n 3 ?_
    refine a_nil ?_
    refine m_index (ord_ix hc) ?_
    refine k_one ?_
    refine k_set 2 ?_ sc_law_back.nd
    refine k_bin ?_
    refine k_ix ?_
    refine k_n 1 ?_
    refine k_bin ?_
    refine k_bin ?_
    refine k_n 4 ?_
    refine k_int ?_
    walk_at "opAdd"
    refine k_bin ?_
    refine k_int ?_
    refine k_bin ?_
    refine k_n 4 ?_
    refine k_int ?_
    walk_at "opMod"
    walk_at "opMult"
    walk_at "opSub"
    refine i_sN ?_ ?_ ?_; rw [ord_at hc]
    refine k_n 2 ?_
    refine o_adds ?_ (by rw [inv_len, List.length_take]; simp only [List.length_cons, List.length_nil]; omega)
    · have e : l.take (i + 1) = l.take i ++ [c] := by rw [List.take_add_one, hi]; rfl
      refine ⟨some (.str (sOf [c])), some (.int (ordL.idxOf c : Nat)), ?_, rfl, rfl⟩
      rw [e, inv_app]; rfl
    · show -12 ≤ _ ∧ _ < (12 : Int)
      omega
    · decide
  · rintro σ B L ⟨v, v2, rfl, rfl, rfl⟩
    rw [List.take_length]
    refine k_one ?_
    refine k_ret ?_
    refine k_n 2 ?_
    exact fun H' s => hq H' s.ext
abbrev s_law_free : Stmt := top 34
abbrev N_law_free : List Str := ["_law_letters", "_law_turned", "_law_found", "_law_letter"]
theorem sc_law_free : FnScope N_law_free ["_law_letters"] (defScope s_law_free) := ⟨rfl, rfl, rfl, by decide +kernel, rfl, by decide +kernel, by decide +kernel⟩
theorem cut_lastN {α : Type} (l : List α) : cut l (some (-1)) none = l.drop (l.length - 1) := by
  unfold cut
  have e : HT.sIx l.length 0 (some (-1)) = l.length - 1 := by
    show (if (-1 : Int) < 0 then ((-1 : Int) + (l.length : Int)).toNat else min (-1 : Int).toNat l.length) = _
    rw [if_pos (by decide)]; omega
  rw [e, HT.sIx_none, List.take_of_length_le (by rw [List.length_drop]; omega)]
def sp_law_free : Sp := fun vs H Q _ => ∃ l, vs = [.str (sOf l)] ∧ (Let l ∧ l.length ≤ 1000000) ∧ ∀ H', (∀ b o, H b = some o → H' b = some o) → Q (.str (sOf (red l))) H'
theorem use_law_free {B : Hp} {L : HL} {Q : KQ} {E : XK} {l : List Nat} (q : Q (.str (sOf (red l))) B L) (h : Let l ∧ l.length ≤ 1000000) : ∀ H, Sat B L H → sp_law_free [.str (sOf l)] H (up Q) E := fun H s => ⟨l, rfl, h, fun H' e => s.upq e q⟩
def bkX : Str := sOf [97, 65, 98, 66, 99, 67, 100, 68, 101, 69, 102, 70]
def bkY : Str := sOf [65, 97, 66, 98, 67, 99, 68, 100, 69, 101, 70, 102]
theorem pairs_at {c : Nat} (h : c ∈ ordL) : valV (mergeK [] (KvZ.zipK bkX bkY)) (.inr (sOf [c]) : Key) = some (.str (sOf [bk c])) := by
  simp only [ordL, List.mem_cons, List.not_mem_nil, or_false] at h
  rcases h with h | h | h | h | h | h | h | h | h | h | h | h <;> subst h <;> decide +kernel
theorem ok_law_free {f : Addr} {fd : FuncData} (F : Fun K "_law_free" "_law_free" s_law_free f fd) (hm : mg "_law_free" = some (.ref f)) (T : Tx mg) : Fn P w K mg base 2 "_law_free" sp_law_free := by
  refine fn_ok F sc_law_free hm (fun _ _ _ _ _ _ us hl => match us, hl with | [_], _ => rfl) ?_ fun cdv A outer s H vs Q E hr h tk po => ?_
  · rintro vs H Q E ⟨c, rfl, _⟩; rfl
  obtain ⟨l, rfl, ⟨hl, hn⟩, hq⟩ := h
  refine ⟨H, [], Sat.whole, ?_⟩
  refine k_cons ?_
  refine k_set 1 ?_ sc_law_free.nd
  refine k_dzip T.b_dict T.b_zip ?_
  refine a_cons ?_
  refine k_s ordL ?_
  refine a_cons ?_
  refine k_s [65, 97, 66, 98, 67, 99, 68, 100, 69, 101, 70, 102] ?_
  refine a_nil ?_
  refine ⟨bkX, bkY, rfl, rfl, by decide, fun d => ?_⟩
  show kSs _ _ _ _ _ _
  have hun := hr.units
  refine k_norm (by simp only [L2.start, N_law_free, List.map_cons, List.map_nil, List.length_cons, List.length_nil, Nat.reduceAdd, Nat.reduceSub, List.replicate_succ, List.replicate_zero, List.cons_append, List.nil_append, List.set_cons_succ, List.set_cons_zero]; exact rfl) ?_
  refine k_cons ?_
  refine k_set 2 ?_ sc_law_free.nd
  refine k_lst ?_
  refine a_nil ?_
  refine ⟨by first | decide | simp, fun p => ?_⟩
  show kSs _ _ _ _ _ _
  refine k_norm (by simp only [L2.start, N_law_free, List.map_cons, List.map_nil, List.length_cons, List.length_nil, Nat.reduceAdd, Nat.reduceSub, List.replicate_succ, List.replicate_zero, List.cons_append, List.nil_append, List.set_cons_succ, List.set_cons_zero]; exact rfl) ?_
  refine k_cons ?_
  refine k_for_s (fun i σ B L => ∃ v, σ = [some (.str (sOf l)), some (.ref d), some (.ref p), v] ∧ B = H ∧ L = [(p, .lst (stk (act (l.take i) []))), (d, .dK (mergeK [] (KvZ.zipK bkX bkY)))]) po ?_
  refine k_n 0 ?_
  refine ⟨l, rfl, ⟨_, rfl, rfl, rfl⟩, ?_, ?_⟩
  · rintro i c σ B L hi ⟨v, rfl, rfl, rfl⟩
    have hc : c ∈ ordL := hl c (List.mem_of_getElem? hi)
    have hil := (List.getElem?_eq_some_iff.mp hi).1
    have hal := act_len (l.take i) []
    have hst := act_take hi
    rw [List.length_take] at hal
    refine g_name 3 ?_ sc_law_free.nd
    refine k_norm (by simp only [L2.start, N_law_free, List.map_cons, List.map_nil, List.length_cons, List.length_nil, Nat.reduceAdd, Nat.reduceSub, List.replicate_succ, List.replicate_zero, List.cons_append, List.nil_append, List.set_cons_succ, List.set_cons_zero]; exact rfl) ?_
    refine k_one ?_
    refine k_if ?_
    cases hs : act (l.take i) [] with
    | nil =>
      rw [hs] at hst
      refine t_pure (v := false) ?_ ⟨fun z => (nomatch z), fun _ => ?_⟩
      · refine t_w ?_
        refine w_and ?_
        refine t_cmp ?_
        refine k_n 2 ?_
        refine k_lst ?_
        refine a_nil ?_
        refine ⟨by first | decide | simp, fun p => ?_⟩
        refine o_ness (a := []) (b := []) hr.units (by walk_at "ls") (by walk_at "ls") ?_ (by simp) (by simp)
        refine ⟨_, rfl, ?_⟩
        exact ⟨fun z => (by simp at z), fun _ => ⟨rfl, rfl, by walk_at "sfx"⟩⟩
      · skip
        refine k_one ?_
        refine k_expr ?_
        refine k_m PySem.F.plainAttrs_list PySem.F.slot_list_append PySem.F.type_list_append ?_
        refine k_n 2 ?_
        refine ⟨ty_l (.inr (.head _)), ?_⟩
        refine a_cons ?_
        refine k_n 3 ?_
        refine a_nil ?_
        refine m_append .here ?_ (by simp [stk])
        refine ⟨_, rfl, rfl, ?_⟩
        rw [hst]; rfl
    | cons x s =>
      rw [hs, push_cons] at hst
      have hxo : x ∈ ordL := by
        have h1 : x ∈ red (l.take i) := by unfold red; rw [List.mem_reverse, hs]; simp
        exact hl x (List.mem_of_mem_take (red_mem h1))
      refine t_pure (v := decide (x = bk c)) ?_ ⟨fun hk => ?_, fun hk => ?_⟩
      · refine t_w ?_
        refine w_and ?_
        refine t_cmp ?_
        refine k_n 2 ?_
        refine k_lst ?_
        refine a_nil ?_
        refine ⟨by first | decide | simp, fun p => ?_⟩
        refine o_ness (a := (x :: s).reverse.map fun c => [c]) (b := []) hr.units (by rw [← map_one]; walk_at "ls") (by walk_at "ls") ?_ ?_ (by simp)
        refine ⟨_, rfl, ?_⟩
        · refine ⟨fun _ => ?_, fun z => (by simp at z)⟩
          refine w_and1 ?_
          refine t_cmp ?_
          refine k_ix ?_
          refine k_n 2 ?_
          refine k_neg ?_
          refine k_int ?_
          refine ⟨_, rfl, ?_⟩
          refine i_lv (one x) (.inr (by walk_at "mm")) ?_ (by rw [stk_push]; exact at_last _ _)
          refine k_dget (Nat.lt_of_le_of_lt (Nat.add_le_add_left (by decide : 1 ≤ 64) _) hun) ?_
          refine k_n 1 ?_
          refine k_n 3 ?_
          refine ⟨d, _, .inr (sOf [c]), _, rfl, .inr (by walk_at "mm"), rfl, pairs_at hc, ?_⟩
          refine o_eqs ?_
          exact ⟨_, rfl, by simp, rfl, by walk_at "sfx"⟩
        · intro l' hl' c' hc'
          rw [List.mem_map] at hl'
          obtain ⟨d, hd, rfl⟩ := hl'
          rw [List.mem_singleton.mp hc']
          have h2 : d ∈ act (l.take i) [] := by rw [hs]; exact List.mem_reverse.mp hd
          have h3 : d ∈ red (l.take i) := by unfold red; rw [List.mem_reverse]; exact h2
          exact let_small hl d (List.mem_of_mem_take (red_mem h3))
      · have hx : x = bk c := of_decide_eq_true hk
        rw [if_pos hx] at hst
        refine k_one ?_
        refine k_expr ?_
        refine k_m0 PySem.F.plainAttrs_list PySem.F.slot_list_pop PySem.F.type_list_pop ?_
        refine k_n 2 ?_
        refine ⟨ty_l (.inr (.head _)), ?_⟩
        refine m_pop (xs := stk (x :: s)) (v := one x) (by rw [stk_push]; exact get_last _ _) .here ?_
        skip
        refine ⟨_, rfl, rfl, ?_⟩
        rw [hst, stk_pop]
      · have hx : ¬ x = bk c := of_decide_eq_false hk
        rw [if_neg hx] at hst
        refine k_one ?_
        refine k_expr ?_
        refine k_m PySem.F.plainAttrs_list PySem.F.slot_list_append PySem.F.type_list_append ?_
        refine k_n 2 ?_
        refine ⟨ty_l (.inr (.head _)), ?_⟩
        refine a_cons ?_
        refine k_n 3 ?_
        refine a_nil ?_
        refine m_append .here ?_ ?_
        · refine ⟨_, rfl, rfl, ?_⟩
          rw [hst, stk_push (x :: s) c]
        · rw [stk_len]
          rw [hs] at hal
          simp only [List.length_nil] at hal
          omega
  · rintro σ B L ⟨v, rfl, rfl, rfl⟩
    rw [List.take_length]
    refine k_one ?_
    refine k_ret ?_
    refine k_join ?_
    refine k_s [] ?_
    refine ⟨_, rfl, ?_⟩
    skip
    refine k_n 2 ?_
    skip
    refine m_join0 (ls := (red l).map fun c => [c]) ?_ ?_ ?_
    · rw [← map_one]; exact Or.inr (List.Mem.head _)
    · rw [flat_one]
      exact fun H' s => hq H' s.ext
    · rw [flat_one]
      have := red_len l
      omega
abbrev s_law_key : Stmt := top 35
abbrev N_law_key : List Str := ["_law_word_here", "_law_letter"]
theorem sc_law_key : FnScope N_law_key ["_law_word_here"] (defScope s_law_key) := ⟨rfl, rfl, rfl, by decide +kernel, rfl, by decide +kernel, by decide +kernel⟩
def sp_law_key : Sp := sp_key_of
theorem use_law_key {B : Hp} {L : HL} {Q : KQ} {E : XK} {l : List Nat} (h : Let l) (hn : l.length ≤ 1000000) (q : ∀ p r, Q (.ref p) B ((p, .tup (keyV r l)) :: (r, .lst (keyL l)) :: L)) : ∀ H, Sat B L H → sp_law_key [.str (sOf l)] H (up Q) E := use_key_of h hn q
theorem ok_law_key {f : Addr} {fd : FuncData} (F : Fun K "_law_key" "_law_key" s_law_key f fd) (hm : mg "_law_key" = some (.ref f)) (T : Tx mg) : Fn P w K mg base 1 "_law_key" sp_law_key := by
  refine fn_ok F sc_law_key hm (fun _ _ _ _ _ _ us hl => match us, hl with | [_], _ => rfl) ?_ fun cdv A outer s H vs Q E hr h tk po => ?_
  · rintro vs H Q E ⟨c, rfl, _⟩; rfl
  obtain ⟨l, rfl, ⟨hl, hn⟩, hq⟩ := h
  refine ⟨H, [], Sat.whole, ?_⟩
  refine k_one ?_
  refine k_ret ?_
  refine k_tup ?_
  refine a_cons ?_
  refine k_callB (id := "len") T.b_len ?_
  refine a_cons ?_
  refine k_n 0 ?_
  refine a_nil ?_
  refine c_lens ?_ (by omega)
  refine a_cons ?_
  refine k_le (k_lcm_s (j := 1) (fun c => .int (ordL.idxOf c : Nat)) sc_law_key.nd (blkOk_by (N := N_law_key) (sc := defScope s_law_key) (by decide +kernel)) ?_)
  refine k_n 0 ?_
  refine ⟨l, rfl, by omega, fun c hc D acc sb Hb Cb clb fpb => ?_, fun D => ?_⟩
  ·
    refine k_sindex ?_ (name := "")
    refine k_s ordL ?_
    refine ⟨_, rfl, ?_⟩
    refine a_cons ?_
    refine k_n 1 ?_
    refine a_nil ?_
    refine m_index (ord_ix (hl c hc)) ?_
    exact ⟨rfl, rfl, rfl⟩
  refine a_nil ?_
  refine ⟨by first | decide | simp, fun p => ?_⟩
  intro H' s
  have h1 := s.own _ List.mem_cons_self
  have h2 := s.own _ (.tail _ List.mem_cons_self)
  have nd := s.nd
  refine hq H' p D s.ext (s.nb _ List.mem_cons_self) (s.nb _ (.tail _ List.mem_cons_self)) (fun z => ?_) h1 h2
  subst z
  simp at nd
abbrev s_law_word : Stmt := top 36
abbrev N_law_word : List Str := ["_law_cell", "_law_letters", "_law_most", "_law_some", "_law_many", "_law_k"]
theorem sc_law_word : FnScope N_law_word ["_law_cell", "_law_letters", "_law_most"] (defScope s_law_word) := ⟨rfl, rfl, rfl, by decide +kernel, rfl, by decide +kernel, by decide +kernel⟩
def sp_law_word : Sp := fun vs H Q _ => ∃ (n : Int) (ls : List Nat) (m : Nat), vs = [.int n, .str (sOf ls), .int m] ∧ (Let ls ∧ ls ≠ [] ∧ ls.length ≤ 100 ∧ m ≤ 200) ∧ ∀ H' wd, (∀ b o, H b = some o → H' b = some o) → Let wd → Wd wd → wd.length ≤ m → Q (.str (sOf wd)) H'
theorem use_law_word {B : Hp} {L : HL} {Q : KQ} {E : XK} {n : Int} {ls : List Nat} (m : Nat) (h : Let ls ∧ ls ≠ [] ∧ ls.length ≤ 100 ∧ m ≤ 200) (q : ∀ wd, Let wd → Wd wd → wd.length ≤ m → Q (.str (sOf wd)) B L) : ∀ H, Sat B L H → sp_law_word [.int n, .str (sOf ls), .int (m : Nat)] H (up Q) E := fun H s => ⟨n, ls, m, rfl, h, fun H' wd e h1 h2 h3 => s.upq e (q wd h1 h2 h3)⟩
theorem ok_law_word {f : Addr} {fd : FuncData} (F : Fun K "_law_word" "_law_word" s_law_word f fd) (hm : mg "_law_word" = some (.ref f)) (T : Tx mg) (F_law_mix : Fn P w K mg base 1 "_law_mix" sp_law_mix) (F_law_back : Fn P w K mg base 1 "_law_back" sp_law_back) (F_law_free : Fn P w K mg base 2 "_law_free" sp_law_free) : Fn P w K mg base 3 "_law_word" sp_law_word := by
  refine fn_ok F sc_law_word hm (fun _ _ _ _ _ _ us hl => match us, hl with | [_, _, _], _ => rfl) ?_ fun cdv A outer s H vs Q E hr h tk po => ?_
  · rintro vs H Q E ⟨_, _, _, rfl, _⟩; rfl
  obtain ⟨n, ls, m, rfl, ⟨hl, hne, hll, hmm⟩, hq⟩ := h
  have hl1 : 1 ≤ ls.length := List.length_pos_iff.mpr hne
  refine ⟨H, [], Sat.whole, ?_⟩
  refine k_cons ?_
  refine k_set 3 ?_ sc_law_word.nd
  refine k_bin ?_
  refine k_n 1 ?_
  refine k_fn F_law_back (hr.mono (by decide)) ?_
  refine a_cons ?_
  refine k_n 1 ?_
  refine a_nil ?_
  refine use_law_back ?_ hl (by omega)
  refine o_adds ?_ (by rw [inv_len]; omega)
  have hsl : Let (ls ++ inv ls) := let_app hl (let_inv hl)
  have hsn : (ls ++ inv ls).length = 2 * ls.length := by rw [List.length_append, inv_len]; omega
  show kSs _ _ _ _ _ _
  generalize ls ++ inv ls = sm at hsl hsn
  refine k_norm (by simp only [L2.start, N_law_word, List.map_cons, List.map_nil, List.length_cons, List.length_nil, Nat.reduceAdd, Nat.reduceSub, List.replicate_succ, List.replicate_zero, List.cons_append, List.nil_append, List.set_cons_succ, List.set_cons_zero]; exact rfl) ?_
  refine k_cons ?_
  refine k_set 4 ?_ sc_law_word.nd
  refine k_bin ?_
  refine k_fn F_law_mix (hr.mono (by decide)) ?_
  refine a_cons ?_
  refine k_n 0 ?_
  refine a_cons ?_
  refine k_int ?_
  refine a_nil ?_
  refine use_law_mix (by decide) fun r1 h11 h12 => ?_
  refine k_bin ?_
  refine k_n 2 ?_
  refine k_int ?_
  walk_at "opAdd"
  refine o_mod ?_ (by omega)
  have hr0 := Int.emod_nonneg r1 (b := (m : Int) + 1) (by omega)
  have hr1 := Int.emod_lt_of_pos r1 (b := (m : Int) + 1) (by omega)
  obtain ⟨k, hk⟩ : ∃ k : Nat, r1 % ((m : Int) + 1) = k := ⟨(r1 % ((m : Int) + 1)).toNat, by omega⟩
  rw [hk] at hr0 hr1 ⊢
  show kSs _ _ _ _ _ _
  refine k_norm (by simp only [L2.start, N_law_word, List.map_cons, List.map_nil, List.length_cons, List.length_nil, Nat.reduceAdd, Nat.reduceSub, List.replicate_succ, List.replicate_zero, List.cons_append, List.nil_append, List.set_cons_succ, List.set_cons_zero]; exact rfl) ?_
  refine k_one ?_
  refine k_ret ?_
  refine k_fn F_law_free (hr.mono (by decide)) ?_
  refine a_cons ?_
  refine k_join ?_
  refine k_s [] ?_
  refine ⟨_, rfl, ?_⟩
  skip
  refine k_le (k_lcv_r1 (j := 5) (fun i acc B' L' => B' = H ∧ L' = [] ∧ ∃ t, acc = t.map one ∧ t.length = i ∧ Let t) sc_law_word.nd (blkOk_by (N := N_law_word) (sc := defScope s_law_word) (by decide +kernel)) T.b_range ?_)
  refine k_n 4 ?_
  refine ⟨k, rfl, by omega, ⟨rfl, rfl, [], rfl, rfl, fun _ z => (by cases z)⟩, ?_, ?_⟩
  ·
    rintro i acc B L hi ⟨rfl, rfl, t, rfl, hti, htl⟩
    refine ⟨by rw [List.length_map]; exact hti, fun D sb Hb Cb clb fpb => ?_⟩
    refine k_ix ?_
    refine k_n 3 ?_
    refine k_bin ?_
    refine k_fn F_law_mix (hr.mono (by decide)) ?_
    refine a_cons ?_
    refine k_n 0 ?_
    refine a_cons ?_
    refine k_bin ?_
    refine k_int ?_
    refine k_n 5 ?_
    walk_at "opAdd"
    refine a_nil ?_
    refine use_law_mix (by omega) fun r2 h21 h22 => ?_; have hm0 := Int.emod_nonneg r2 (b := (sm.length : Int)) (by omega); have hm1 := Int.emod_lt_of_pos r2 (b := (sm.length : Int)) (by omega)
    refine k_callB (id := "len") T.b_len ?_
    refine a_cons ?_
    refine k_n 3 ?_
    refine a_nil ?_
    refine c_lens ?_ (by omega)
    refine o_mod ?_ (by omega)
    obtain ⟨c2, hc2m, hc2⟩ := atI_mem hm0 hm1; refine i_sv c2 ?_ hc2 (by omega)
    refine ⟨_, rfl, rfl, rfl, t ++ [c2], ?_, ?_, ?_⟩
    ·
      rw [List.map_append]; rfl
    ·
      rw [List.length_append, hti]; rfl
    ·
      exact let_app htl (fun d hd => by rw [List.mem_singleton.mp hd]; exact hsl _ hc2m)
  rintro acc B L D ⟨rfl, rfl, t, rfl, htk, htl⟩
  skip
  refine m_join0 (ls := t.map fun c => [c]) ?_ ?_ ?_
  skip
  skip
  · rw [← map_one]; exact Or.inr (List.Mem.head _)
  · rw [flat_one]
    refine a_nil ?_
    refine use_law_free ?_ ⟨htl, by omega⟩
    intro H' s
    exact hq H' (red t) s.ext (let_red htl) (rd_red t) (by have := red_len t; omega)
  · rw [flat_one]; omega
abbrev s_law_moved : Stmt := top 37
abbrev N_law_moved : List Str := ["_law_word_here", "_law_by_here"]
theorem sc_law_moved : FnScope N_law_moved ["_law_word_here", "_law_by_here"] (defScope s_law_moved) := ⟨rfl, rfl, rfl, by decide +kernel, rfl, by decide +kernel, by decide +kernel⟩
def sp_law_moved : Sp := fun vs H Q _ => ∃ a b, vs = [.str (sOf a), .str (sOf b)] ∧ (Let a ∧ Let b ∧ a.length ≤ 100000 ∧ b.length ≤ 100000) ∧ ∀ H', (∀ b o, H b = some o → H' b = some o) → Q (.str (sOf (mvd a b))) H'
theorem use_law_moved {B : Hp} {L : HL} {Q : KQ} {E : XK} {a b : List Nat} (q : Q (.str (sOf (mvd a b))) B L) (h : Let a ∧ Let b ∧ a.length ≤ 100000 ∧ b.length ≤ 100000) : ∀ H, Sat B L H → sp_law_moved [.str (sOf a), .str (sOf b)] H (up Q) E := fun H s => ⟨a, b, rfl, h, fun H' e => s.upq e q⟩
theorem ok_law_moved {f : Addr} {fd : FuncData} (F : Fun K "_law_moved" "_law_moved" s_law_moved f fd) (hm : mg "_law_moved" = some (.ref f)) (T : Tx mg) (F_law_back : Fn P w K mg base 1 "_law_back" sp_law_back) (F_law_free : Fn P w K mg base 2 "_law_free" sp_law_free) : Fn P w K mg base 3 "_law_moved" sp_law_moved := by
  refine fn_ok F sc_law_moved hm (fun _ _ _ _ _ _ us hl => match us, hl with | [_, _], _ => rfl) ?_ fun cdv A outer s H vs Q E hr h tk po => ?_
  · rintro vs H Q E ⟨_, _, rfl, _⟩; rfl
  obtain ⟨a, b, rfl, ⟨ha, hb, hn1, hn2⟩, hq⟩ := h
  refine ⟨H, [], Sat.whole, ?_⟩
  refine k_one ?_
  refine k_ret ?_
  refine k_fn F_law_free (hr.mono (by decide)) ?_
  refine a_cons ?_
  refine k_bin ?_
  refine k_bin ?_
  refine k_fn F_law_back (hr.mono (by decide)) ?_
  refine a_cons ?_
  refine k_n 1 ?_
  refine a_nil ?_
  refine use_law_back ?_ hb (by omega)
  refine k_n 0 ?_
  refine o_adds ?_ (by rw [inv_len]; omega)
  refine k_n 1 ?_
  refine o_adds ?_ (by rw [List.length_append, inv_len]; omega)
  refine a_nil ?_
  refine use_law_free ?_ ⟨let_app (let_app (let_inv hb) ha) hb, by rw [List.length_append, List.length_append, inv_len]; omega⟩
  exact fun H' s => hq H' s.ext
abbrev s_law_core : Stmt := top 38
abbrev N_law_core : List Str := ["_law_word_here"]
theorem sc_law_core : FnScope N_law_core ["_law_word_here"] (defScope s_law_core) := ⟨rfl, rfl, rfl, by decide +kernel, rfl, by decide +kernel, by decide +kernel⟩
def cor (l : List Nat) (k : Nat) : List Nat := (l.drop k).take (l.length - 2 * k)
theorem cor_len {l : List Nat} {k : Nat} (h : 2 * k ≤ l.length) : (cor l k).length = l.length - 2 * k := by unfold cor; rw [List.length_take, List.length_drop]; omega
theorem let_cor {l : List Nat} (h : Let l) (k : Nat) : Let (cor l k) := fun c hc => h c (List.mem_of_mem_drop (List.mem_of_mem_take hc))
theorem cor_tst {l : List Nat} {k : Nat} (h : 2 * k ≤ l.length) (h1 : 1 < (cor l k).length) : decide ([(atI (cor l k) 0).getD 0] = Fg.inv [(atI (cor l k) (-1)).getD 0]) = Rt.tstep l k := by
  have hl := cor_len h
  have e1 : atI (cor l k) 0 = l[k]? := by
    have := atI_n (l := cor l k) (j := 0)
    have e : (((0 : Nat) : Int)) = 0 := rfl
    rw [e] at this
    rw [this]
    unfold cor
    rw [List.getElem?_take_of_lt (by omega), List.getElem?_drop]; rfl
  have e2 : atI (cor l k) (-1) = l[l.length - 1 - k]? := by
    have := atI_neg (l := cor l k) (j := 0) (by omega)
    have e : (-1 - ((0 : Nat) : Int)) = -1 := rfl
    rw [e] at this
    rw [this, hl]
    unfold cor
    rw [List.getElem?_take_of_lt (by omega), List.getElem?_drop]
    have e3 : k + (l.length - 2 * k - 1 - 0) = l.length - 1 - k := by omega
    rw [e3]
  rw [e1, e2]
  unfold Rt.tstep
  have h2 : 2 * k + 1 < l.length := by omega
  rw [decide_eq_true h2, Bool.true_and, List.getElem?_eq_getElem (show k < l.length by omega), List.getElem?_eq_getElem (show l.length - 1 - k < l.length by omega)]
  simp [Fg.inv]
theorem cor_step {l : List Nat} {k : Nat} (h : 2 * k + 1 < l.length) : cut (cor l k) (some 1) (some (-1)) = cor l (k + 1) := by
  have hl := cor_len (l := l) (k := k) (by omega)
  unfold cut
  have e : HT.sIx (cor l k).length (cor l k).length (some (-1)) = (cor l k).length - 1 := by
    show (if (-1 : Int) < 0 then ((-1 : Int) + ((cor l k).length : Int)).toNat else min (-1 : Int).toNat (cor l k).length) = _
    rw [if_pos (by decide)]; omega
  have e2 : HT.sIx (cor l k).length 0 (some 1) = 1 := by
    have := HT.sIx_nat (cor l k).length 0 1
    have e3 : (((1 : Nat) : Int)) = 1 := rfl
    rw [e3] at this
    rw [this]; omega
  rw [e, e2, hl]
  unfold cor
  refine List.ext_getElem? fun i => ?_
  by_cases hi : i < l.length - 2 * (k + 1)
  · rw [List.getElem?_take_of_lt (by omega), List.getElem?_take_of_lt (by omega), List.getElem?_drop, List.getElem?_drop, List.getElem?_take_of_lt (by omega), List.getElem?_drop]
    have : k + (1 + i) = k + 1 + i := by omega
    rw [this]
  · rw [List.getElem?_eq_none (by rw [List.length_take, List.length_drop, List.length_take, List.length_drop]; omega), List.getElem?_eq_none (by rw [List.length_take, List.length_drop]; omega)]
def sp_law_core : Sp := fun vs H Q _ => ∃ l, vs = [.str (sOf l)] ∧ (Let l ∧ l.length ≤ 1000000) ∧ ∀ H', (∀ b o, H b = some o → H' b = some o) → Q (.str (sOf (Rt.core l))) H'
theorem use_law_core {B : Hp} {L : HL} {Q : KQ} {E : XK} {l : List Nat} (q : Q (.str (sOf (Rt.core l))) B L) (h : Let l ∧ l.length ≤ 1000000) : ∀ H, Sat B L H → sp_law_core [.str (sOf l)] H (up Q) E := fun H s => ⟨l, rfl, h, fun H' e => s.upq e q⟩
theorem ok_law_core {f : Addr} {fd : FuncData} (F : Fun K "_law_core" "_law_core" s_law_core f fd) (hm : mg "_law_core" = some (.ref f)) (T : Tx mg) (F_law_back : Fn P w K mg base 1 "_law_back" sp_law_back) : Fn P w K mg base 2 "_law_core" sp_law_core := by
  refine fn_ok F sc_law_core hm (fun _ _ _ _ _ _ us hl => match us, hl with | [_], _ => rfl) ?_ fun cdv A outer s H vs Q E hr h tk po => ?_
  · rintro vs H Q E ⟨c, rfl, _⟩; rfl
  obtain ⟨l, rfl, ⟨hl, hn⟩, hq⟩ := h
  refine ⟨H, [], Sat.whole, ?_⟩
  refine k_cons ?_
  have h0 : cor l 0 = l := by unfold cor; simp
  refine k_while (fun m σ B L => ∃ k : Nat, σ = [some (.str (sOf (cor l k)))] ∧ B = H ∧ L = [] ∧ Rt.Tin l k ∧ m + k = l.length) l.length po ⟨0, by rw [h0]; rfl, rfl, rfl, Rt.tin_0 l, rfl⟩ ?_
  rintro m σ Bo L ⟨k, rfl, rfl, rfl, hin, hmk⟩
  have h2k := hin.1
  have hcl := cor_len h2k
  refine t_pure (v := Rt.tstep l k) ?_ ⟨fun hk => ?_, fun hk => ?_⟩
  · refine t_w ?_
    refine w_and ?_
    refine t_cmp ?_
    refine k_callB (id := "len") T.b_len ?_
    refine a_cons ?_
    refine k_n 0 ?_
    refine a_nil ?_
    refine c_lens ?_ (by omega)
    refine k_int ?_
    walk_at "opGt"
    refine ⟨_, rfl, ?_⟩
    refine ⟨fun hk => ?_, fun hk => ?_⟩
    · have h1 : 1 < (cor l k).length := by have := of_decide_eq_true hk; omega
      refine w_and1 ?_
      refine t_cmp ?_
      refine k_ix ?_
      refine k_n 0 ?_
      refine k_int ?_
      refine i_sN ?_ (by omega) (by omega)
      refine k_fn F_law_back (hr.mono (by decide)) ?_
      refine a_cons ?_
      refine k_ix ?_
      refine k_n 0 ?_
      refine k_neg ?_
      refine k_int ?_
      refine ⟨_, rfl, ?_⟩
      refine i_sN ?_ (by omega) (by omega)
      refine a_nil ?_
      refine use_law_back ?_ (fun c hc => by rw [List.mem_singleton.mp hc]; exact let_at (let_cor hl k) (by omega)) (by simp)
      walk_at "opEq"
      refine ⟨_, rfl, ?_⟩
      exact ⟨cor_tst h2k h1, rfl, by walk_at "sfx"⟩
    · refine ⟨?_, rfl, by walk_at "sfx"⟩
      have h1 : ¬ (1 < (cor l k).length) := by have := of_decide_eq_false hk; omega
      unfold Rt.tstep
      rw [decide_eq_false (show ¬ (2 * k + 1 < l.length) by omega)]; rfl
  · have hlt := Rt.tstep_lt hk
    refine k_one ?_
    refine k_set 0 ?_ sc_law_core.nd
    refine k_slice ?_
    refine k_n 0 ?_
    refine p_some ?_
    refine k_int ?_
    refine ⟨_, rfl, ?_⟩
    refine p_some ?_
    refine k_neg ?_
    refine k_int ?_
    refine ⟨_, rfl, ?_⟩
    refine ⟨_, rfl, ?_⟩
    refine sl_s ?_ (by omega)
    refine ⟨m - 1, by omega, k + 1, ?_, rfl, rfl, Rt.tin_s hin hk, by omega⟩
    have e : (-(1 : Int)) = -1 := rfl
    rw [e, cor_step hlt]; rfl
  · show kSs _ _ _ _ _ _
    refine k_one ?_
    refine k_ret ?_
    refine k_n 0 ?_
    have e : cor l k = Rt.core l := by rw [Rt.tin_end hin hk]; rfl
    rw [e]
    exact fun H' s => hq H' s.ext
theorem klt_ir (a : List Nat) : klt a a = false := PyProof.Rows.lex_irrefl _
theorem klt_tr {a b c : List Nat} (h1 : klt a b = true) (h2 : klt b c = true) : klt a c = true := PyProof.Rows.lex_trans _ _ _ h1 h2
theorem klt_ln {a b : List Nat} (h : a.length < b.length) : klt a b = true := by
  unfold klt keyD
  have e1 : PySem.W.alike (.int (a.length : Nat)) (.int (b.length : Nat)) = true := by unfold PySem.W.alike; rfl
  have e2 : PySem.W.alike (.list (a.map fun c => PyData.int (ordL.idxOf c : Nat))) (.list (b.map fun c => PyData.int (ordL.idxOf c : Nat))) = true := by unfold PySem.W.alike; exact alike_ints a b
  rw [PySem.W.dataLt_pair e1 e2]
  have e3 : PyData.eqv (.int (a.length : Nat)) (.int (b.length : Nat)) = false := by
    show (((a.length : Nat) : Int) == ((b.length : Nat) : Int)) = false
    rw [beq_eq_false_iff_ne]; omega
  rw [e3, PySem.W.dataLt_int]
  simp
  omega
theorem klt_ok : Mv.LtOk klt := ⟨klt_tr, klt_ln, klt_ir⟩
abbrev s_law_root : Stmt := top 39
abbrev N_law_root : List Str := ["_law_word_here", "_law_core_here", "_law_tail", "_law_size"]
theorem sc_law_root : FnScope N_law_root ["_law_word_here"] (defScope s_law_root) := ⟨rfl, rfl, rfl, by decide +kernel, rfl, by decide +kernel, by decide +kernel⟩
def psz (c : List Nat) (s : Nat) : Bool := decide (c.length % s = 0) && decide (rep (c.take s) (c.length / s) = c)
theorem psz_pw {c u : List Nat} {m : Nat} (hu : 1 ≤ u.length) (hm : 1 ≤ m) (h : c = rep u m) : psz c u.length = true := by
  have hl : c.length = m * u.length := by rw [h, rep_len]
  have ht : c.take u.length = u := by rw [h]; exact Rt.rep_take u hm
  unfold psz
  rw [hl, Nat.mul_mod_left, Nat.mul_div_cancel _ hu, ht, ← h]
  simp
theorem psz_piece {c : List Nat} {s : Nat} (h1 : 1 ≤ s) (h2 : s ≤ c.length) (hp : psz c s = true) (hno : ∀ j, 1 ≤ j → j < s → psz c j = false) : c.take s = Rt.piece c := by
  unfold psz at hp
  rw [Bool.and_eq_true] at hp
  have hd := of_decide_eq_true hp.1
  have hr := of_decide_eq_true hp.2
  have hmul : c.length / s * s = c.length := by
    have := Nat.div_add_mod c.length s
    rw [Nat.mul_comm] at this; omega
  have hm1 : 1 ≤ c.length / s := Nat.div_pos h2 h1
  have hmle : c.length / s ≤ c.length := Nat.div_le_self _ _
  have hds : c.length / (c.length / s) = s := by
    have : (c.length / s * s) / (c.length / s) = s := Nat.mul_div_cancel_left _ hm1
    rw [hmul] at this; exact this
  have hpm : Rt.pmax c = c.length / s := by
    refine Rt.pmax_eq ⟨hm1, hmle⟩ ?_ fun k hk hkc => ?_
    · unfold Rt.Pw
      rw [hds, hr]; simp
    · rcases hpk : Rt.Pw c k with _ | _
      · rfl
      · have hk1 : 1 ≤ k := by omega
        obtain ⟨u, hu⟩ := (Rt.pw_iff hk1).mp hpk
        have hl : c.length = k * u.length := by
          have := congrArg List.length hu
          rw [rep_len] at this; exact this
        have hu1 : 1 ≤ u.length := by
          rcases Nat.eq_zero_or_pos u.length with h | h
          · rw [h] at hl; omega
          · exact h
        have hlt : u.length < s := by
          refine Nat.lt_of_not_le fun hge => ?_
          have h3 : (c.length / s + 1) * s ≤ k * u.length := Nat.mul_le_mul hk hge
          rw [Nat.add_mul, Nat.one_mul, hmul, ← hl] at h3
          omega
        have := hno u.length hu1 hlt
        rw [psz_pw hu1 hk1 hu] at this; cases this
  unfold Rt.piece
  rw [hpm, hds]
theorem psz_val (c : List Nat) (i : Nat) : (decide (((c.length : Nat) : Int) % ((i + 1 : Nat) : Int) = 0) && decide (rep (cut c none (some ((i + 1 : Nat) : Int))) (c.length / (i + 1)) = c)) = psz c (i + 1) := by
  unfold psz
  rw [cut_to]
  have e : decide (((c.length : Nat) : Int) % ((i + 1 : Nat) : Int) = 0) = decide (c.length % (i + 1) = 0) := by
    have e2 : ((c.length : Nat) : Int) % ((i + 1 : Nat) : Int) = ((c.length % (i + 1) : Nat) : Int) := rfl
    rw [e2, Bool.eq_iff_iff, decide_eq_true_iff, decide_eq_true_iff]; omega
  rw [e]
def sp_law_root : Sp := fun vs H Q _ => ∃ l, vs = [.str (sOf l)] ∧ (Let l ∧ Wd l ∧ l ≠ [] ∧ l.length ≤ 1000) ∧ ∀ H', (∀ b o, H b = some o → H' b = some o) → Q (.str (sOf (Rt.rootW l))) H'
theorem use_law_root {B : Hp} {L : HL} {Q : KQ} {E : XK} {l : List Nat} (q : Q (.str (sOf (Rt.rootW l))) B L) (h : Let l ∧ Wd l ∧ l ≠ [] ∧ l.length ≤ 1000) : ∀ H, Sat B L H → sp_law_root [.str (sOf l)] H (up Q) E := fun H s => ⟨l, rfl, h, fun H' e => s.upq e q⟩
theorem ok_law_root {f : Addr} {fd : FuncData} (F : Fun K "_law_root" "_law_root" s_law_root f fd) (hm : mg "_law_root" = some (.ref f)) (T : Tx mg) (F_law_core : Fn P w K mg base 2 "_law_core" sp_law_core) (F_law_free : Fn P w K mg base 2 "_law_free" sp_law_free) (F_law_back : Fn P w K mg base 1 "_law_back" sp_law_back) : Fn P w K mg base 3 "_law_root" sp_law_root := by
  refine fn_ok F sc_law_root hm (fun _ _ _ _ _ _ us hl => match us, hl with | [_], _ => rfl) ?_ fun cdv A outer s H vs Q E hr h tk po => ?_
  · rintro vs H Q E ⟨c, rfl, _⟩; rfl
  obtain ⟨l, rfl, ⟨hl, hw, hne, hn⟩, hq⟩ := h
  have hc1 := Rt.core_ne hw hne
  have hcl := Rt.core_len l
  have htl := Rt.tail_len l
  have ht2 := Rt.tlen_le l
  have hct : Let (Rt.core l) := let_core hl
  refine ⟨H, [], Sat.whole, ?_⟩
  refine k_cons ?_
  refine k_set 1 ?_ sc_law_root.nd
  refine k_fn F_law_core (hr.mono (by decide)) ?_
  refine a_cons ?_
  refine k_n 0 ?_
  refine a_nil ?_
  refine use_law_core ?_ ⟨hl, by omega⟩
  show kSs _ _ _ _ _ _
  refine k_norm (by simp only [L2.start, N_law_root, List.map_cons, List.map_nil, List.length_cons, List.length_nil, Nat.reduceAdd, Nat.reduceSub, List.replicate_succ, List.replicate_zero, List.cons_append, List.nil_append, List.set_cons_succ, List.set_cons_zero]; exact rfl) ?_
  refine k_cons ?_
  refine k_set 2 ?_ sc_law_root.nd
  refine k_slice ?_
  refine k_n 0 ?_
  refine p_none ?_
  refine p_some ?_
  refine k_bin ?_
  refine k_bin ?_
  refine k_callB (id := "len") T.b_len ?_
  refine a_cons ?_
  refine k_n 0 ?_
  refine a_nil ?_
  refine c_lens ?_ (by omega)
  refine k_callB (id := "len") T.b_len ?_
  refine a_cons ?_
  refine k_n 1 ?_
  refine a_nil ?_
  refine c_lens ?_ (by omega)
  walk_at "opSub"
  refine k_int ?_
  refine o_fdiv ?_ (by decide)
  refine ⟨_, rfl, ?_⟩
  refine sl_s ?_ (by omega)
  have e1 : (((l.length : Nat) : Int) - (((Rt.core l).length : Nat) : Int)) / 2 = ((Rt.tlen l : Nat) : Int) := by omega
  have e2 : cut l none (some ((((l.length : Nat) : Int) - (((Rt.core l).length : Nat) : Int)) / 2)) = Rt.tail l := by rw [e1, cut_to]; rfl
  rw [e2]
  show kSs _ _ _ _ _ _
  refine k_norm (by simp only [L2.start, N_law_root, List.map_cons, List.map_nil, List.length_cons, List.length_nil, Nat.reduceAdd, Nat.reduceSub, List.replicate_succ, List.replicate_zero, List.cons_append, List.nil_append, List.set_cons_succ, List.set_cons_zero]; exact rfl) ?_
  refine k_cons ?_
  refine k_for_r2 (fun i σ B L => ∃ v, σ = [some (.str (sOf l)), some (.str (sOf (Rt.core l))), some (.str (sOf (Rt.tail l))), v] ∧ B = H ∧ L = [] ∧ ∀ j, 1 ≤ j → j < i + 1 → psz (Rt.core l) j = false) po T.b_range ?_
  refine a_cons ?_
  refine k_int ?_
  refine a_cons ?_
  refine k_bin ?_
  refine k_callB (id := "len") T.b_len ?_
  refine a_cons ?_
  refine k_n 1 ?_
  refine a_nil ?_
  refine c_lens ?_ (by omega)
  refine k_int ?_
  walk_at "opAdd"
  refine a_nil ?_
  refine ⟨1, _, rfl, by omega, ⟨_, rfl, rfl, rfl, fun j h1 h2 => absurd h1 (by omega)⟩, ?_, ?_⟩
  · rintro i σ B L hi ⟨v, rfl, rfl, rfl, hno⟩
    have hil : i < (Rt.core l).length := by omega
    have e0 : ((1 : Int) + (i : Int)) = ((i + 1 : Nat) : Int) := by omega
    rw [e0]
    refine g_name 3 ?_ sc_law_root.nd
    refine k_norm (by simp only [L2.start, N_law_root, List.map_cons, List.map_nil, List.length_cons, List.length_nil, Nat.reduceAdd, Nat.reduceSub, List.replicate_succ, List.replicate_zero, List.cons_append, List.nil_append, List.set_cons_succ, List.set_cons_zero]; exact rfl) ?_
    refine k_one ?_
    refine k_if ?_
    have hcm : (cut (Rt.core l) none (some ((i + 1 : Nat) : Int))).length * ((Rt.core l).length / (i + 1)) ≤ 1000 * 1000 := by
      rw [cut_to, List.length_take]
      exact Nat.mul_le_mul (by omega) (Nat.le_trans (Nat.div_le_self _ _) (by omega))
    have hdv : (Rt.core l).length / (i + 1) ≤ 1000 := Nat.le_trans (Nat.div_le_self _ _) (by omega)
    refine t_pure (v := psz (Rt.core l) (i + 1)) ?_ ⟨fun hk => ?_, fun hk => ?_⟩
    · skip
      refine t_w ?_
      refine w_andP ?_
      refine t_cmp ?_
      refine k_bin ?_
      refine k_callB (id := "len") T.b_len ?_
      refine a_cons ?_
      refine k_n 1 ?_
      refine a_nil ?_
      refine c_lens ?_ (by omega)
      refine k_n 3 ?_
      refine o_mod ?_ (by omega)
      refine k_int ?_
      walk_at "opEq"
      refine ⟨_, rfl, ?_⟩
      apply Exists.intro; refine ⟨fun hk => ?_, ?_⟩
      {
      refine w_and1 ?_
      refine t_cmp ?_
      refine k_bin ?_
      refine k_slice ?_
      refine k_n 1 ?_
      refine p_none ?_
      refine p_some ?_
      refine k_n 3 ?_
      refine ⟨_, rfl, ?_⟩
      refine sl_s ?_ (by omega)
      refine k_bin ?_
      refine k_callB (id := "len") T.b_len ?_
      refine a_cons ?_
      refine k_n 1 ?_
      refine a_nil ?_
      refine c_lens ?_ (by omega)
      refine k_n 3 ?_
      refine o_fdiv ?_ (by omega)
      refine o_muls (n := (Rt.core l).length / (i + 1)) ?_ (by omega) (by omega)
      refine k_n 1 ?_
      walk_at "opEq"
      refine ⟨_, rfl, ?_⟩
      exact ⟨rfl, rfl, by walk_at "sfx"⟩
      all_goals (try walk_at "side")
      }
      refine ⟨?_, rfl, by walk_at "sfx"⟩
      exact psz_val _ _
    · have hpp := psz_piece (by omega) (by omega) hk hno
      refine k_one ?_
      refine k_ret ?_
      refine k_fn F_law_free (hr.mono (by decide)) ?_
      refine a_cons ?_
      refine k_bin ?_
      refine k_bin ?_
      refine k_n 2 ?_
      refine k_slice ?_
      refine k_n 1 ?_
      refine p_none ?_
      refine p_some ?_
      refine k_n 3 ?_
      refine ⟨_, rfl, ?_⟩
      refine sl_s ?_ (by omega)
      refine o_adds ?_ (by rw [cut_to, List.length_take]; omega)
      refine k_fn F_law_back (hr.mono (by decide)) ?_
      refine a_cons ?_
      refine k_n 2 ?_
      refine a_nil ?_
      refine use_law_back ?_ (let_tail hl) (by omega)
      refine o_adds ?_ (by rw [List.length_append, cut_to, List.length_take, inv_len]; omega)
      refine a_nil ?_
      refine use_law_free ?_ ⟨let_app (let_app (let_tail hl) (let_cut hct)) (let_inv (let_tail hl)), by rw [List.length_append, List.length_append, cut_to, List.length_take, inv_len]; omega⟩
      rw [cut_to, hpp]
      intro H' s
      have e3 : red (Rt.tail l ++ Rt.piece (Rt.core l) ++ Fg.inv (Rt.tail l)) = Rt.rootW l := red_of_rd (Rt.root_wd hw hne)
      rw [e3]
      exact hq H' s.ext
    · refine k_nil ?_
      refine ⟨_, rfl, rfl, rfl, fun j h1 h2 => ?_⟩
      rcases Nat.lt_succ_iff_lt_or_eq.mp h2 with h | rfl
      · exact hno j h1 h
      · exact hk
  · rintro σ B L ⟨v, rfl, rfl, rfl, hno⟩
    exfalso
    have h3 := hno (Rt.core l).length hc1 (by omega)
    have h4 := psz_pw (c := Rt.core l) (u := Rt.core l) (m := 1) hc1 (Nat.le_refl _) (Rt.rep_1 _).symm
    rw [h4] at h3; cases h3
theorem pick2 {α : Type} {a b : α} {t : Bool} : atI [a, b] (if t = true then (1 : Int) else 0) = some (if t = true then b else a) := by cases t <;> rfl
theorem pick_ls {d : Int} (h0 : 0 ≤ d) (h1 : d < 3) : ∃ l, (Let l ∧ l ≠ [] ∧ l.length ≤ 100) ∧ atI ([.str (sOf [97, 98]), .str (sOf [97, 98, 99]), .str (sOf [97])] : List V) d = some (.str (sOf l)) := by
  have : d = 0 ∨ d = 1 ∨ d = 2 := by omega
  rcases this with rfl | rfl | rfl
  · exact ⟨_, ⟨by decide, by decide, by decide⟩, rfl⟩
  · exact ⟨_, ⟨by decide, by decide, by decide⟩, rfl⟩
  · exact ⟨_, ⟨by decide, by decide, by decide⟩, rfl⟩
theorem isw_of {l : List Nat} (h1 : Let l) (h2 : Wd l) (h3 : l.length ≤ 60) : isW l = true := (isW_iff l).mpr ⟨h3, h1, h2⟩
/-- two words go together -/
def Cm (a b : List Nat) : Prop := Rt.G (a ++ b) (b ++ a)
theorem com_pws (u : List Nat) (a b : Int) : Rt.G (Rt.pw u a ++ Rt.pw u b) (Rt.pw u b ++ Rt.pw u a) := by
  have h := Rt.pw_com u a
  have hb : Rt.G (Rt.pw u b) (rep (if b < 0 then Fg.inv u else u) b.natAbs) := Rt.g_red _
  refine (Rt.g_midl hb).trans (Rt.G.trans ?_ (Rt.g_midr hb.symm))
  split
  · exact Rt.com_rep (Rt.com_inv h) _
  · exact Rt.com_rep h _
/-- a power of a word with a tail -/
def Fam (bs tl l : List Nat) : Prop := ∃ z : Int, Rt.G l (tl ++ (Rt.pw bs z ++ Fg.inv tl))
theorem fam_com {bs tl a b : List Nat} (h1 : Fam bs tl a) (h2 : Fam bs tl b) : Cm a b := by
  obtain ⟨y, hy⟩ := h1
  obtain ⟨z, hz⟩ := h2
  have k : ∀ y z : Int, Rt.G (tl ++ (Rt.pw bs y ++ Fg.inv tl) ++ (tl ++ (Rt.pw bs z ++ Fg.inv tl))) (tl ++ ((Rt.pw bs y ++ Rt.pw bs z) ++ Fg.inv tl)) := fun y z => by
    simp only [List.append_assoc]
    exact Rt.g_midl (Rt.g_midl (Mv.g_clb tl _))
  refine (Rt.g_app hy hz).trans ((k y z).trans (Rt.G.trans ?_ ((k z y).symm.trans (Rt.g_app hz hy).symm)))
  exact Rt.g_midl (Rt.g_midr (com_pws bs y z))
/-- what is known of a drawn row -/
def RowK (ws : List (List Nat)) : Prop := Row ws ∧ ∃ h r, ws = h :: r ∧ h.length ≤ 40 ∧ ∀ l ∈ r, l.length ≤ 8 ∨ (l.length ≤ 15 ∧ h.length ≤ 15 ∧ Cm l h)
def RowI (bs tl : List Nat) (wy : Int) (ws : List (List Nat)) : Prop := (∀ l ∈ ws, isW l = true) ∧ (wy = 0 → ∀ l ∈ ws, l.length ≤ 15 ∧ Fam bs tl l) ∧ (wy ≠ 0 → ∀ (j : Nat) l, ws[j]? = some l → l.length ≤ if j = 0 then 40 else 8)
theorem rowi_k {bs tl : List Nat} {wy : Int} {ws : List (List Nat)} (h : RowI bs tl wy ws) (h1 : 1 ≤ ws.length) (h8 : ws.length ≤ 8) : RowK ws := by
  refine ⟨⟨h1, h8, h.1⟩, ?_⟩
  cases ws with
  | nil => simp at h1
  | cons a r =>
    refine ⟨a, r, rfl, ?_, fun l hl => ?_⟩
    · by_cases hw : wy = 0
      · have := (h.2.1 hw a List.mem_cons_self).1; omega
      · exact h.2.2 hw 0 a rfl
    · by_cases hw : wy = 0
      · have ha := h.2.1 hw a List.mem_cons_self
        have hb := h.2.1 hw l (List.mem_cons_of_mem _ hl)
        exact .inr ⟨hb.1, ha.1, fam_com hb.2 ha.2⟩
      · obtain ⟨j, hj, rfl⟩ := List.getElem_of_mem hl
        have := h.2.2 hw (j + 1) r[j] (by rw [List.getElem?_cons_succ]; exact List.getElem?_eq_getElem hj)
        exact .inl (by simpa using this)
theorem rowi_set {bs tl : List Nat} {ws : List (List Nat)} {x : List Nat} (h : RowI bs tl 0 ws) (h1 : 1 ≤ ws.length) (h8 : ws.length ≤ 8) (hx : isW x = true) (hxl : x.length ≤ 8) : RowK (ws.set (ws.length - 1) x) := by
  have hm : ∀ l ∈ ws.set (ws.length - 1) x, l ∈ ws ∨ l = x := fun l hl => List.mem_or_eq_of_mem_set hl
  refine ⟨⟨by rw [List.length_set]; exact h1, by rw [List.length_set]; exact h8, fun l hl => ?_⟩, ?_⟩
  · rcases hm l hl with h2 | rfl
    · exact h.1 l h2
    · exact hx
  cases ws with
  | nil => simp at h1
  | cons a r =>
    cases r with
    | nil => exact ⟨x, [], rfl, by omega, fun l hl => nomatch hl⟩
    | cons b r =>
      refine ⟨a, (b :: r).set r.length x, rfl, ?_, fun l hl => ?_⟩
      · have := (h.2.1 rfl a List.mem_cons_self).1; omega
      · rcases List.mem_or_eq_of_mem_set hl with h2 | rfl
        · have ha := h.2.1 rfl a List.mem_cons_self
          have hb := h.2.1 rfl l (List.mem_cons_of_mem _ h2)
          exact .inr ⟨hb.1, ha.1, fam_com hb.2 ha.2⟩
        · exact .inl hxl
abbrev s_law_row : Stmt := top 40
abbrev N_law_row : List Str := ["_law_cell", "_law_base", "_law_tail", "_law_row_here", "_law_k", "_law_many", "_law_way", "_law_letters", "_law_often", "_law_grown", "_law_word_here"]
theorem sc_law_row : FnScope N_law_row ["_law_cell"] (defScope s_law_row) := ⟨rfl, rfl, rfl, by decide +kernel, rfl, by decide +kernel, by decide +kernel⟩
def sp_law_row : Sp := fun vs H Q _ => ∃ (n : Int), vs = [.int n] ∧ ∀ H' q ws, (∀ b o, H b = some o → H' b = some o) → H q = none → H' q = some (.lst (wV ws)) → RowK ws → Q (.ref q) H'
theorem use_law_row {B : Hp} {L : HL} {Q : KQ} {E : XK} {n : Int} (q : ∀ r ws, RowK ws → Q (.ref r) B ((r, .lst (wV ws)) :: L)) : ∀ H, Sat B L H → sp_law_row [.int n] H (up Q) E :=
  fun H s => ⟨n, rfl, fun H' r ws e h1 h2 h3 => ⟨_, _, s.new' h1 e h2, q r ws h3⟩⟩
theorem ok_law_row {f : Addr} {fd : FuncData} (F : Fun K "_law_row" "_law_row" s_law_row f fd) (hm : mg "_law_row" = some (.ref f)) (T : Tx mg) (F_law_draws : Fn P w K mg base 1 "_law_draws" (sp_law_draws K)) (F_law_mix : Fn P w K mg base 1 "_law_mix" sp_law_mix) (F_law_word : Fn P w K mg base 3 "_law_word" sp_law_word) (F_law_back : Fn P w K mg base 1 "_law_back" sp_law_back) (F_law_free : Fn P w K mg base 2 "_law_free" sp_law_free) : Fn P w K mg base 4 "_law_row" sp_law_row := by
  refine fn_ok F sc_law_row hm (fun _ _ _ _ _ _ us hl => match us, hl with | [_], _ => rfl) ?_ fun cdv A outer s H vs Q E hr h tk po => ?_
  · rintro vs H Q E ⟨_, rfl, _⟩; rfl
  obtain ⟨n, rfl, hq⟩ := h
  refine ⟨H, [], Sat.whole, ?_⟩
  refine k_cons ?_
  refine k_asg ?_
  refine k_fn F_law_draws (hr.mono (by decide)) ?_
  refine a_cons ?_
  refine k_fn F_law_mix (hr.mono (by decide)) ?_
  refine a_cons ?_
  refine k_n 0 ?_
  refine a_cons ?_
  refine k_int ?_
  refine a_nil ?_
  refine use_law_mix (by decide) fun r1 h11 h12 => ?_
  refine a_cons ?_
  refine k_lst ?_
  refine a_cons ?_
  refine k_int ?_
  refine a_cons ?_
  refine k_int ?_
  refine a_cons ?_
  refine k_int ?_
  refine a_nil ?_
  refine ⟨by first | decide | simp, fun p => ?_⟩
  refine a_nil ?_
  refine use_law_draws (ns := [8, 3, 3]) (.inr (.head _)) (by decide) (by decide) fun pd => ?_
  refine g_lst (xs := (drw r1 [8, 3, 3]).map V.int) (n := 3) (.inr (.head _)) rfl ?_
  refine gs_cons ?_
  refine g_name 5 ?_ sc_law_row.nd
  refine gs_cons ?_
  refine g_name 6 ?_ sc_law_row.nd
  refine gs_cons ?_
  refine g_name 7 ?_ sc_law_row.nd
  refine gs_nil ?_
  have hd1 := Int.emod_nonneg r1 (b := 8) (by decide)
  have hd2 := Int.emod_lt_of_pos r1 (b := 8) (by decide)
  have hd3 := Int.emod_nonneg (r1 / 8 / 3) (b := 3) (by decide)
  have hd4 := Int.emod_lt_of_pos (r1 / 8 / 3) (b := 3) (by decide)
  obtain ⟨mn, hmn⟩ : ∃ k : Nat, r1 % 8 = k := ⟨(r1 % 8).toNat, by omega⟩
  rw [hmn] at hd1 hd2 ⊢
  generalize r1 / 8 % 3 = wy
  generalize r1 / 8 / 3 % 3 = lt at hd3 hd4
  show kSs _ _ _ _ _ _
  refine k_norm (by simp only [L2.start, N_law_row, List.map_cons, List.map_nil, List.length_cons, List.length_nil, Nat.reduceAdd, Nat.reduceSub, List.replicate_succ, List.replicate_zero, List.cons_append, List.nil_append, List.set_cons_succ, List.set_cons_zero]; exact rfl) ?_
  refine k_sub (L' := []) (List.nil_sublist _) ?_
  refine k_cons ?_
  refine k_set 1 ?_ sc_law_row.nd
  refine k_fn F_law_word (hr.mono (by decide)) ?_
  refine a_cons ?_
  refine k_fn F_law_mix (hr.mono (by decide)) ?_
  refine a_cons ?_
  refine k_n 0 ?_
  refine a_cons ?_
  refine k_int ?_
  refine a_nil ?_
  refine use_law_mix (by decide) fun r2 h21 h22 => ?_
  refine a_cons ?_
  refine k_s [97, 98] ?_
  refine a_cons ?_
  refine k_int ?_
  refine a_nil ?_
  refine use_law_word 3 ⟨by decide, by decide, by decide, by decide⟩ fun bs hbs1 hbs2 hbs3 => ?_
  show kSs _ _ _ _ _ _
  refine k_norm (by simp only [L2.start, N_law_row, List.map_cons, List.map_nil, List.length_cons, List.length_nil, Nat.reduceAdd, Nat.reduceSub, List.replicate_succ, List.replicate_zero, List.cons_append, List.nil_append, List.set_cons_succ, List.set_cons_zero]; exact rfl) ?_
  refine k_cons ?_
  refine k_set 2 ?_ sc_law_row.nd
  refine k_fn F_law_word (hr.mono (by decide)) ?_
  refine a_cons ?_
  refine k_fn F_law_mix (hr.mono (by decide)) ?_
  refine a_cons ?_
  refine k_n 0 ?_
  refine a_cons ?_
  refine k_int ?_
  refine a_nil ?_
  refine use_law_mix (by decide) fun r3 h31 h32 => ?_
  refine a_cons ?_
  refine k_s [97, 98, 99] ?_
  refine a_cons ?_
  refine k_int ?_
  refine a_nil ?_
  refine use_law_word 3 ⟨by decide, by decide, by decide, by decide⟩ fun tl htl1 htl2 htl3 => ?_
  show kSs _ _ _ _ _ _
  refine k_norm (by simp only [L2.start, N_law_row, List.map_cons, List.map_nil, List.length_cons, List.length_nil, Nat.reduceAdd, Nat.reduceSub, List.replicate_succ, List.replicate_zero, List.cons_append, List.nil_append, List.set_cons_succ, List.set_cons_zero]; exact rfl) ?_
  refine k_cons ?_
  refine k_set 3 ?_ sc_law_row.nd
  refine k_lst ?_
  refine a_nil ?_
  refine ⟨by decide, fun pf => ?_⟩
  show kSs _ _ _ _ _ _
  refine k_norm (by simp only [L2.start, N_law_row, List.map_cons, List.map_nil, List.length_cons, List.length_nil, Nat.reduceAdd, Nat.reduceSub, List.replicate_succ, List.replicate_zero, List.cons_append, List.nil_append, List.set_cons_succ, List.set_cons_zero]; exact rfl) ?_
  refine k_cons ?_
  refine k_for_r1 (fun i σ B L => ∃ ws v1 v2 v3 v4, σ = [some (.int n), some (.str (sOf bs)), some (.str (sOf tl)), some (.ref pf), v1, some (.int mn), some (.int wy), some (.int lt), v2, v3, v4] ∧ B = H ∧ L = [(pf, .lst (wV ws))] ∧ ws.length = i ∧ RowI bs tl wy ws) po T.b_range ?_
  refine k_bin ?_
  refine k_int ?_
  refine k_n 5 ?_
  walk_at "opAdd"
  refine ⟨_, rfl, by omega, by omega, ⟨[], _, _, _, _, rfl, rfl, rfl, rfl, fun _ z => (by cases z), fun _ _ z => (by cases z), fun _ j l z => (by simp at z)⟩, ?_, ?_⟩
  · rintro i σ B L hi ⟨ws, v1, v2, v3, v4, rfl, rfl, rfl, hwl, hww⟩
    have hi8 : i < 9 := by omega
    refine g_name 4 ?_ sc_law_row.nd
    refine k_norm (by simp only [L2.start, N_law_row, List.map_cons, List.map_nil, List.length_cons, List.length_nil, Nat.reduceAdd, Nat.reduceSub, List.replicate_succ, List.replicate_zero, List.cons_append, List.nil_append, List.set_cons_succ, List.set_cons_zero]; exact rfl) ?_
    refine k_cons ?_
    refine k_set 8 ?_ sc_law_row.nd
    refine k_bin ?_
    refine k_bin ?_
    refine k_fn F_law_mix (hr.mono (by decide)) ?_
    refine a_cons ?_
    refine k_n 0 ?_
    refine a_cons ?_
    refine k_bin ?_
    refine k_int ?_
    refine k_n 4 ?_
    walk_at "opAdd"
    refine a_nil ?_
    refine use_law_mix (by omega) fun r4 h41 h42 => ?_
    refine k_int ?_
    walk_at "opMod"
    refine k_int ?_
    walk_at "opSub"
    have ho1 := Int.emod_nonneg r4 (b := 7) (by decide)
    have ho2 := Int.emod_lt_of_pos r4 (b := 7) (by decide)
    generalize r4 % 7 = of at ho1 ho2
    show kSs _ _ _ _ _ _
    refine k_norm (by simp only [L2.start, N_law_row, List.map_cons, List.map_nil, List.length_cons, List.length_nil, Nat.reduceAdd, Nat.reduceSub, List.replicate_succ, List.replicate_zero, List.cons_append, List.nil_append, List.set_cons_succ, List.set_cons_zero]; exact rfl) ?_
    have hbp : ∀ t : Bool, Let (if t = true then inv bs else bs) ∧ (if t = true then inv bs else bs).length ≤ 3 := fun t => by cases t; exact ⟨hbs1, hbs3⟩; exact ⟨let_inv hbs1, by show (inv bs).length ≤ 3; rw [inv_len]; exact hbs3⟩
    have hbq := hbp (decide (of - 3 < 0))
    have hbl : (if decide (of - 3 < 0) = true then inv bs else bs).length * (of - 3).natAbs ≤ 3 * 3 := Nat.mul_le_mul hbq.2 (by omega)
    have hpw : red (rep (if decide (of - 3 < 0) = true then inv bs else bs) (of - 3).natAbs) = Rt.pw bs (of - 3) := by
      unfold Rt.pw
      by_cases hz : of - 3 < 0
      · rw [if_pos hz, if_pos (decide_eq_true hz)]
      · rw [if_neg hz, if_neg (by rw [decide_eq_false hz]; decide)]
    refine k_cons ?_
    refine k_set 9 ?_ sc_law_row.nd
    refine k_fn F_law_free (hr.mono (by decide)) ?_
    refine a_cons ?_
    refine k_bin ?_
    refine k_ix ?_
    refine k_lst ?_
    refine a_cons ?_
    refine k_n 1 ?_
    refine a_cons ?_
    refine k_fn F_law_back (hr.mono (by decide)) ?_
    refine a_cons ?_
    refine k_n 1 ?_
    refine a_nil ?_
    refine use_law_back ?_ hbs1 (by omega)
    refine a_nil ?_
    refine ⟨by first | decide | simp, fun p => ?_⟩
    refine k_callT (T := "int") T.b_int ?_
    refine a_cons ?_
    refine k_cmp ?_
    refine k_n 8 ?_
    refine k_int ?_
    walk_at "opLt"
    refine a_nil ?_
    walk_at "c_int"
    refine i_lv (.str (sOf (if decide (of - 3 < 0) = true then inv bs else bs))) (.inr (.head _)) ?_ (by rw [pick2]; split <;> rfl)
    refine k_callB (id := "abs") T.b_abs ?_
    refine a_cons ?_
    refine k_n 8 ?_
    refine a_nil ?_
    refine c_abs ?_; rw [abs_nat]
    refine o_muls ?_ (by omega) (by omega)
    refine a_nil ?_
    refine use_law_free ?_ ⟨let_rep hbq.1 _, by rw [rep_len, Nat.mul_comm]; omega⟩
    have hgl : (red (rep (if decide (of - 3 < 0) = true then inv bs else bs) (of - 3).natAbs)).length ≤ 9 := Nat.le_trans (red_len _) (by rw [rep_len, Nat.mul_comm]; omega)
    have hgt : Let (red (rep (if decide (of - 3 < 0) = true then inv bs else bs) (of - 3).natAbs)) := let_red (let_rep hbq.1 _)
    rw [hpw] at hgl hgt ⊢
    have hfam : Fam bs tl (red (tl ++ Rt.pw bs (of - 3) ++ inv tl)) := ⟨of - 3, by rw [← List.append_assoc]; exact Rt.g_red _⟩
    show kSs _ _ _ _ _ _
    generalize Rt.pw bs (of - 3) = gr at hgl hgt hfam
    refine k_norm (by simp only [L2.start, N_law_row, List.map_cons, List.map_nil, List.length_cons, List.length_nil, Nat.reduceAdd, Nat.reduceSub, List.replicate_succ, List.replicate_zero, List.cons_append, List.nil_append, List.set_cons_succ, List.set_cons_zero]; exact rfl) ?_
    refine k_sub (L' := [(pf, .lst (wV ws))]) (by repeat (first | exact List.Sublist.refl _ | apply List.Sublist.cons)) ?_
    obtain ⟨l3, hl3, hl4⟩ := pick_ls hd3 hd4
    refine k_cons ?_
    refine k_set 10 ?_ sc_law_row.nd
    refine k_fn F_law_word (hr.mono (by decide)) ?_
    refine a_cons ?_
    refine k_fn F_law_mix (hr.mono (by decide)) ?_
    refine a_cons ?_
    refine k_n 0 ?_
    refine a_cons ?_
    refine k_bin ?_
    refine k_int ?_
    refine k_n 4 ?_
    walk_at "opAdd"
    refine a_nil ?_
    refine use_law_mix (by omega) fun r5 h51 h52 => ?_
    refine a_cons ?_
    refine k_ix ?_
    refine k_lst ?_
    refine a_cons ?_
    refine k_s [97, 98] ?_
    refine a_cons ?_
    refine k_s [97, 98, 99] ?_
    refine a_cons ?_
    refine k_s [97] ?_
    refine a_nil ?_
    refine ⟨by first | decide | simp, fun pc => ?_⟩
    refine k_n 7 ?_
    refine i_lv (.str (sOf l3)) (.inr (.head _)) ?_ hl4
    refine a_cons ?_
    refine k_int ?_
    refine a_nil ?_
    refine use_law_word 8 ⟨hl3.1, hl3.2.1, hl3.2.2, by decide⟩ fun w1 h1 h2 h3 => ?_
    show kSs _ _ _ _ _ _
    refine k_norm (by simp only [L2.start, N_law_row, List.map_cons, List.map_nil, List.length_cons, List.length_nil, Nat.reduceAdd, Nat.reduceSub, List.replicate_succ, List.replicate_zero, List.cons_append, List.nil_append, List.set_cons_succ, List.set_cons_zero]; exact rfl) ?_
    refine k_sub (L' := [(pf, .lst (wV ws))]) (by repeat (first | exact List.Sublist.refl _ | apply List.Sublist.cons)) ?_
    refine k_cut (fun σ2 B2 L2 => ∃ wd, σ2 = [some (.int n), some (.str (sOf bs)), some (.str (sOf tl)), some (.ref pf), some (.int (i : Nat)), some (.int mn), some (.int wy), some (.int lt), some (.int (of - 3)), some (.str (sOf gr)), some (.str (sOf wd))] ∧ B2 = B ∧ L2 = [(pf, .lst (wV ws))] ∧ isW wd = true ∧ (wy = 0 → wd.length ≤ 15 ∧ Fam bs tl wd) ∧ (wy ≠ 0 → wd.length ≤ 8)) ?_ ?_
    · refine k_if ?_
      refine t_cmp ?_
      refine k_n 6 ?_
      refine k_int ?_
      walk_at "opEq"
      refine ⟨_, rfl, ?_⟩
      refine ⟨fun hk => ?_, fun hk => ?_⟩
      · have hw0 : wy = 0 := of_decide_eq_true hk
        refine k_cons ?_
        refine k_set 10 ?_ sc_law_row.nd
        refine k_fn F_law_free (hr.mono (by decide)) ?_
        refine a_cons ?_
        refine k_bin ?_
        refine k_bin ?_
        refine k_n 2 ?_
        refine k_n 9 ?_
        refine o_adds ?_ (by omega)
        refine k_fn F_law_back (hr.mono (by decide)) ?_
        refine a_cons ?_
        refine k_n 2 ?_
        refine a_nil ?_
        refine use_law_back ?_ htl1 (by omega)
        refine o_adds ?_ (by rw [List.length_append, inv_len]; omega)
        refine a_nil ?_
        refine use_law_free ?_ ⟨let_app (let_app htl1 hgt) (let_inv htl1), by rw [List.length_append, List.length_append, inv_len]; omega⟩
        have hlf : (red (tl ++ gr ++ inv tl)).length ≤ 15 := Nat.le_trans (red_len _) (by rw [List.length_append, List.length_append, inv_len]; omega)
        refine k_nil ⟨_, rfl, rfl, rfl, isw_of (let_red (let_app (let_app htl1 hgt) (let_inv htl1))) (rd_red _) (by omega), fun _ => ⟨hlf, hfam⟩, fun z => absurd hw0 z⟩
      · have hw0 : wy ≠ 0 := of_decide_eq_false hk
        exact k_nil ⟨w1, rfl, rfl, rfl, isw_of h1 h2 (by omega), fun z => absurd z hw0, fun _ => h3⟩
    rintro σ2 B2 L2 ⟨wd2, rfl, rfl, rfl, hww2, hf2, hl2⟩
    refine k_cut (fun σ2 B3 L2 => ∃ wd, σ2 = [some (.int n), some (.str (sOf bs)), some (.str (sOf tl)), some (.ref pf), some (.int (i : Nat)), some (.int mn), some (.int wy), some (.int lt), some (.int (of - 3)), some (.str (sOf gr)), some (.str (sOf wd))] ∧ B3 = B2 ∧ L2 = [(pf, .lst (wV ws))] ∧ isW wd = true ∧ (wy = 0 → wd.length ≤ 15 ∧ Fam bs tl wd) ∧ (wy ≠ 0 → wd.length ≤ 8)) ?_ ?_
    · refine k_if ?_
      refine t_w ?_
      refine w_and ?_
      refine t_cmp ?_
      refine k_n 6 ?_
      refine k_int ?_
      walk_at "opEq"
      refine ⟨_, rfl, ?_⟩
      refine ⟨fun hk => ?_, fun hk => ⟨fun z => (nomatch z), fun _ => k_nil ⟨wd2, rfl, rfl, rfl, hww2, hf2, hl2⟩⟩⟩
      have hw1 : wy = 1 := of_decide_eq_true hk
      refine w_and1 ?_
      refine t_cmp ?_
      refine k_bin ?_
      refine k_fn F_law_mix (hr.mono (by decide)) ?_
      refine a_cons ?_
      refine k_n 0 ?_
      refine a_cons ?_
      refine k_bin ?_
      refine k_int ?_
      refine k_n 4 ?_
      walk_at "opAdd"
      refine a_nil ?_
      refine use_law_mix (by omega) fun r6 h61 h62 => ?_
      refine k_int ?_
      walk_at "opMod"
      refine k_int ?_
      walk_at "opEq"
      refine ⟨_, rfl, ?_⟩
      refine ⟨fun hk => ?_, fun hk => k_nil ⟨wd2, rfl, rfl, rfl, hww2, hf2, hl2⟩⟩
      refine k_one ?_
      refine k_set 10 ?_ sc_law_row.nd
      refine k_s [] ?_
      exact ⟨[], rfl, rfl, rfl, by decide, fun z => (by omega), fun _ => by simp⟩
    rintro σ3 B3 L3 ⟨wd3, rfl, rfl, rfl, hww3, hf3, hl3'⟩
    refine k_cut (fun σ2 B4 L2 => ∃ wd, σ2 = [some (.int n), some (.str (sOf bs)), some (.str (sOf tl)), some (.ref pf), some (.int (i : Nat)), some (.int mn), some (.int wy), some (.int lt), some (.int (of - 3)), some (.str (sOf gr)), some (.str (sOf wd))] ∧ B4 = B3 ∧ L2 = [(pf, .lst (wV ws))] ∧ isW wd = true ∧ (wy = 0 → wd.length ≤ 15 ∧ Fam bs tl wd) ∧ (wy ≠ 0 → wd.length ≤ if i = 0 then 40 else 8)) ?_ ?_
    · have hkeep : isW wd3 = true ∧ (wy = 0 → wd3.length ≤ 15 ∧ Fam bs tl wd3) ∧ (wy ≠ 0 → wd3.length ≤ if i = 0 then 40 else 8) := ⟨hww3, hf3, fun z => by have := hl3' z; split <;> omega⟩
      refine k_if ?_
      refine t_w ?_
      refine w_and ?_
      refine t_cmp ?_
      refine k_n 6 ?_
      refine k_int ?_
      walk_at "opEq"
      refine ⟨_, rfl, ?_⟩
      refine ⟨fun hk => ?_, fun hk => ⟨fun z => (nomatch z), fun _ => k_nil ⟨wd3, rfl, rfl, rfl, hkeep⟩⟩⟩
      have hw2 : wy = 2 := of_decide_eq_true hk
      refine w_and1 ?_
      refine t_cmp ?_
      refine k_n 4 ?_
      refine k_int ?_
      walk_at "opEq"
      refine ⟨_, rfl, ?_⟩
      refine ⟨fun hk => ?_, fun hk => k_nil ⟨wd3, rfl, rfl, rfl, hkeep⟩⟩
      have hi0 : i = 0 := by have := of_decide_eq_true hk; omega
      refine k_one ?_
      refine k_set 10 ?_ sc_law_row.nd
      refine k_fn F_law_word (hr.mono (by decide)) ?_
      refine a_cons ?_
      refine k_fn F_law_mix (hr.mono (by decide)) ?_
      refine a_cons ?_
      refine k_n 0 ?_
      refine a_cons ?_
      refine k_int ?_
      refine a_nil ?_
      refine use_law_mix (by omega) fun r7 h71 h72 => ?_
      refine a_cons ?_
      refine k_s [97, 98, 99] ?_
      refine a_cons ?_
      refine k_int ?_
      refine a_nil ?_
      refine use_law_word 40 ⟨by decide, by decide, by decide, by decide⟩ fun w2 g1 g2 g3 => ?_
      exact ⟨w2, rfl, rfl, rfl, isw_of g1 g2 (by omega), fun z => (by omega), fun _ => by rw [if_pos hi0]; exact g3⟩
    rintro σ4 B4 L4 ⟨wd4, rfl, rfl, rfl, hww4, hf4, hl4'⟩
    refine k_cons ?_
    refine k_expr ?_
    refine k_m PySem.F.plainAttrs_list PySem.F.slot_list_append PySem.F.type_list_append ?_
    refine k_n 3 ?_
    refine ⟨ty_l (.inr (.head _)), ?_⟩
    refine a_cons ?_
    refine k_n 10 ?_
    refine a_nil ?_
    refine m_append .here ?_ (by rw [List.length_map]; omega)
    show kSs _ _ _ _ _ _
    refine k_nil ⟨ws ++ [wd4], _, _, _, _, rfl, rfl, ?_, ?_, ?_, ?_, ?_⟩
    · unfold wV; rw [List.map_append]; rfl
    · rw [List.length_append, hwl]; rfl
    · intro l hl
      rcases List.mem_append.mp hl with h | h
      · exact hww.1 l h
      · rw [List.mem_singleton.mp h]; exact hww4
    · intro hz l hl
      rcases List.mem_append.mp hl with h | h
      · exact hww.2.1 hz l h
      · rw [List.mem_singleton.mp h]; exact hf4 hz
    · intro hz j l hl
      by_cases hj : j < ws.length
      · rw [List.getElem?_append_left hj] at hl
        exact hww.2.2 hz j l hl
      · rw [List.getElem?_append_right (by omega)] at hl
        have hj2 : j - ws.length = 0 := by
          have := (List.getElem?_eq_some_iff.mp hl).1
          simp at this
          omega
        rw [hj2] at hl
        have : wd4 = l := by simpa using hl
        rw [← this]
        have hji : j = i := by omega
        rw [hji]
        exact hl4' hz
  · rintro σ B L ⟨ws, v1, v2, v3, v4, rfl, rfl, rfl, hwl, hww⟩
    have hw1 : 1 ≤ ws.length := by omega
    have hw8 : ws.length ≤ 8 := by omega
    obtain ⟨l3, hl3, hl4⟩ := pick_ls hd3 hd4
    refine k_cut (fun σ2 B2 L2 => ∃ ws2, σ2 = [some (.int n), some (.str (sOf bs)), some (.str (sOf tl)), some (.ref pf), v1, some (.int mn), some (.int wy), some (.int lt), v2, v3, v4] ∧ B2 = B ∧ (pf, .lst (wV ws2)) ∈ L2 ∧ RowK ws2) ?_ ?_
    · have hkeep := rowi_k hww hw1 hw8
      refine k_if ?_
      refine t_w ?_
      refine w_and ?_
      refine t_cmp ?_
      refine k_n 6 ?_
      refine k_int ?_
      walk_at "opEq"
      refine ⟨_, rfl, ?_⟩
      refine ⟨fun hk => ?_, fun hk => ⟨fun z => (nomatch z), fun _ => k_nil ⟨ws, rfl, rfl, .head _, hkeep⟩⟩⟩
      have hw0 : wy = 0 := of_decide_eq_true hk
      refine w_and1 ?_
      refine t_cmp ?_
      refine k_bin ?_
      refine k_fn F_law_mix (hr.mono (by decide)) ?_
      refine a_cons ?_
      refine k_n 0 ?_
      refine a_cons ?_
      refine k_int ?_
      refine a_nil ?_
      refine use_law_mix (by omega) fun r6 h61 h62 => ?_
      refine k_int ?_
      walk_at "opMod"
      refine k_int ?_
      walk_at "opEq"
      refine ⟨_, rfl, ?_⟩
      refine ⟨fun hk => ?_, fun hk => k_nil ⟨ws, rfl, rfl, .head _, hkeep⟩⟩
      subst hw0
      refine k_one ?_
      refine k_asg ?_
      refine k_fn F_law_word (hr.mono (by decide)) ?_
      refine a_cons ?_
      refine k_fn F_law_mix (hr.mono (by decide)) ?_
      refine a_cons ?_
      refine k_n 0 ?_
      refine a_cons ?_
      refine k_int ?_
      refine a_nil ?_
      refine use_law_mix (by omega) fun r7 h71 h72 => ?_
      refine a_cons ?_
      refine k_ix ?_
      refine k_lst ?_
      refine a_cons ?_
      refine k_s [97, 98] ?_
      refine a_cons ?_
      refine k_s [97, 98, 99] ?_
      refine a_cons ?_
      refine k_s [97] ?_
      refine a_nil ?_
      refine ⟨by first | decide | simp, fun pc => ?_⟩
      refine k_n 7 ?_
      refine i_lv (.str (sOf l3)) (.inr (.head _)) ?_ hl4
      refine a_cons ?_
      refine k_int ?_
      refine a_nil ?_
      refine use_law_word 8 ⟨hl3.1, hl3.2.1, hl3.2.2, by decide⟩ fun w2 g1 g2 g3 => ?_
      refine g_setl ?_
      refine k_n 3 ?_
      refine k_neg ?_
      refine k_int ?_
      refine ⟨_, rfl, ?_⟩
      refine ⟨pf, wV ws, -1, ws.length - 1, _, rfl, rfl, ?_, .there .here, ?_⟩
      · rw [List.length_map]
        unfold ixN
        rw [if_neg (show ¬ (0 : Int) ≤ -1 by decide), if_pos (by omega)]
        exact congrArg some (by omega)
      · refine ⟨ws.set (ws.length - 1) w2, rfl, rfl, ?_, rowi_set hww hw1 hw8 (isw_of g1 g2 (by omega)) g3⟩
        unfold wV
        rw [List.map_set]
        exact .tail _ (.head _)
    rintro σ2 B2 L2 ⟨ws2, rfl, rfl, hm2, hk2⟩
    refine k_one ?_
    refine k_ret ?_
    refine k_n 3 ?_
    intro H' s
    exact hq H' pf ws2 s.ext (s.nb _ hm2) (s.own _ hm2) hk2
/-! ### movers, plain -/
def nz (ws : List (List Nat)) : List (List Nat) := ws.filter fun w => !decide (w = [])
theorem nz_mem {ws : List (List Nat)} {w : List Nat} (h : w ∈ nz ws) : w ∈ ws ∧ w ≠ [] := by
  unfold nz at h
  rw [List.mem_filter] at h
  exact ⟨h.1, by simpa using h.2⟩
theorem nz_len (ws : List (List Nat)) : (nz ws).length ≤ ws.length := List.length_filter_le _ _
def fNe : V → Bool
  | .str s => !decide (s.cps.toList = [])
  | _ => false
theorem nz_wV (ws : List (List Nat)) : ((wV ws).filter fNe).map (fun v => v) = wV (nz ws) := by
  rw [List.map_id', List.filter_map]; rfl
/-- the root of a row's first word -/
def b0 (ws : List (List Nat)) : List Nat := Rt.rootW ((nz ws).headD [])
theorem nbk_of {l : List Nat} (h : Let l) : ∀ x ∈ l, bk x ≠ x := fun x hx => let_nbk (h x hx)
theorem row_pw {ws os : List (List Nat)} (h1 : Row ws) (h2 : Row os) : Mv.PW (ws.zip os) := fun q hq => by
  have h := (zip_pb h1 h2).2 q hq
  exact ⟨⟨h.1.2.1, nbk_of h.1.1⟩, h.2.2.1⟩
/-- a row moved -/
abbrev mvs (ws : List (List Nat)) (y : List Nat) : List (List Nat) := ws.map fun w => mvd w y
theorem zip_iff {ws os : List (List Nat)} (hl : ws.length = os.length) (y : List Nat) : (∀ q ∈ ws.zip os, mvd q.1 y = q.2) ↔ mvs ws y = os := by
  induction ws generalizing os with
  | nil =>
    cases os with
    | nil => exact ⟨fun _ => rfl, fun _ q hq => nomatch hq⟩
    | cons o os => cases hl
  | cons w ws ih =>
    cases os with
    | nil => cases hl
    | cons o os =>
      have hl' : ws.length = os.length := by simpa using hl
      rw [List.zip_cons_cons]
      show (∀ q ∈ (w, o) :: ws.zip os, mvd q.1 y = q.2) ↔ mvd w y :: mvs ws y = o :: os
      constructor
      · intro h
        rw [h (w, o) List.mem_cons_self, (ih hl').mp fun q hq => h q (List.mem_cons_of_mem _ hq)]
      · intro h q hq
        obtain ⟨e1, e2⟩ := List.cons.inj h
        rcases List.mem_cons.mp hq with rfl | hq
        · exact e1
        · exact (ih hl').mpr e2 q hq
theorem mvr_ok {ws os : List (List Nat)} {x : List Nat} (h1 : Row ws) (h2 : Row os) (h : mvr ws os = some x) : Let x ∧ x.length ≤ 60200 := by
  have hpb := zip_pb h1 h2
  have hmv : mvr ws os = if ((ws.zip os).map Mv.odd2).any id = true then none else match Mv.nzp (ws.zip os) with
    | [] => some []
    | q :: r => match Mv.fm q.1 q.2 with
      | none => none
      | some b => (Mv.tried (q :: r) b).foldl (Mv.stepB klt (Mv.allm (q :: r))) none := rfl
  rw [hmv] at h
  have hpb2 : PB (Mv.nzp (ws.zip os)) := ⟨Nat.le_trans (List.length_filter_le _ _) hpb.1, fun q h => hpb.2 q (List.mem_filter.mp h).1⟩
  have hne : ∀ q ∈ Mv.nzp (ws.zip os), q.1 ≠ [] := fun q h => by simpa using (List.mem_filter.mp h).2
  generalize Mv.nzp (ws.zip os) = pa at h hpb2 hne
  split at h
  · cases h
  · cases pa with
    | nil => cases h; exact ⟨fun _ z => (nomatch z), by simp⟩
    | cons q r =>
      have hq := hpb2.2 q List.mem_cons_self
      cases hf : Mv.fm q.1 q.2 with
      | none => simp only [hf] at h; cases h
      | some b =>
        simp only [hf] at h
        rcases fold_mem _ _ h with h3 | h3
        · cases h3
        · exact (tried_ok hpb2 (by simp) hne (fm_ok hq.1 hq.2 hf)).2 x h3
theorem mv_some {ws os : List (List Nat)} {x : List Nat} (h1 : Row ws) (h2 : Row os) (hl : ws.length = os.length) (h : mvr ws os = some x) : Let x ∧ Wd x ∧ x.length ≤ 60200 ∧ mvs ws x = os ∧ ∀ y, Wd y → mvs ws y = os → klt y x = false := by
  have hL := (Mv.mvr_least klt_ok (row_pw h1 h2)).so x h
  have hk := mvr_ok h1 h2 h
  exact ⟨hk.1, hL.1, hk.2, (zip_iff hl x).mp hL.2.1, fun y hy hm => hL.2.2 y hy ((zip_iff hl y).mpr hm)⟩
theorem mv_none {ws os : List (List Nat)} (h1 : Row ws) (h2 : Row os) (hl : ws.length = os.length) (h : mvr ws os = none) : ∀ y, Wd y → mvs ws y ≠ os := fun y hy hm =>
  (Mv.mvr_least klt_ok (row_pw h1 h2)).no h y hy ((zip_iff hl y).mpr hm)
theorem mv_there {ws os : List (List Nat)} {y : List Nat} (h1 : Row ws) (h2 : Row os) (hl : ws.length = os.length) (hy : Wd y) (hm : mvs ws y = os) : ∃ x, mvr ws os = some x := by
  cases h : mvr ws os with
  | none => exact absurd hm (mv_none h1 h2 hl h y hy)
  | some x => exact ⟨x, rfl⟩
/-- two movers of words that don't go together are one -/
theorem mv_uniq {w1 w2 x y : List Nat} (h1 : Wd w1) (h2 : Wd w2) (hx : Wd x) (hy : Wd y) (lx : Let x) (ly : Let y) (e1 : mvd w1 x = mvd w1 y) (e2 : mvd w2 x = mvd w2 y) (hno : ¬ Cm w1 w2) : x = y := by
  have key : ∀ w, mvd w x = mvd w y → Rt.G (w ++ (y ++ Fg.inv x)) ((y ++ Fg.inv x) ++ w) := fun w e => by
    have g1 : Rt.G (Fg.inv x ++ w ++ x) (mvd w x) := (Rt.g_red _).symm
    have g2 : Rt.G (Fg.inv y ++ w ++ y) (mvd w x) := by rw [e]; exact (Rt.g_red _).symm
    have p1 := Mv.mv_pass g1
    have p2 := Mv.mv_pass g2
    generalize mvd w x = o at p1 p2
    have q1 : Rt.G (w ++ y ++ Fg.inv x) (y ++ o ++ Fg.inv x) := Rt.g_midr p2
    have g3 : Rt.G (Fg.inv x ++ w) (o ++ Fg.inv x) := by
      have g4 : Rt.G (Fg.inv x ++ (w ++ x) ++ Fg.inv x) (Fg.inv x ++ (x ++ o) ++ Fg.inv x) := Rt.g_midr (Rt.g_midl p1)
      simp only [List.append_assoc] at g4
      have g5 := Rt.g_midl (a := Fg.inv x) (Rt.g_midl (a := w) (Rt.g_inv_r x))
      rw [List.append_nil] at g5
      exact g5.symm.trans (g4.trans (Mv.g_clb x _))
    rw [← List.append_assoc]
    refine q1.trans (Rt.G.symm ?_)
    rw [List.append_assoc, List.append_assoc]
    exact Rt.g_midl g3
  have c1 := key w1 e1
  have c2 := key w2 e2
  have hr := Rt.g_red (y ++ Fg.inv x)
  by_cases hz : red (y ++ Fg.inv x) = []
  · rw [hz] at hr
    have : Rt.G y x := by
      have g6 : Rt.G (y ++ Fg.inv x ++ x) ([] ++ x) := Rt.g_midr hr.symm
      rw [List.append_assoc] at g6
      have g7 := Rt.g_midl (a := y) (Rt.g_inv_l x)
      rw [List.append_nil] at g7
      exact g7.symm.trans g6
    exact (Rt.g_wd this hy hx).symm
  · exfalso
    have hb : ∀ c ∈ red (y ++ Fg.inv x), bk c ≠ c := nbk_of (let_red (let_app ly (let_inv lx)))
    have d : ∀ w, Wd w → Rt.G (w ++ (y ++ Fg.inv x)) ((y ++ Fg.inv x) ++ w) → ∃ n : Int, w = Rt.pw (Rt.rootW (red (y ++ Fg.inv x))) n := fun w hw c =>
      Rt.com_pow hw (rd_red _) hz hb ((Rt.g_midl hr).trans (c.trans (Rt.g_midr hr.symm)))
    obtain ⟨n1, hn1⟩ := d w1 h1 c1
    obtain ⟨n2, hn2⟩ := d w2 h2 c2
    exact hno (by unfold Cm; rw [hn1, hn2]; exact com_pws _ _ _)
/-- where a word goes with a root it goes with the word, and back -/
theorem cm_root {w u : List Nat} (hw : Wd w) (hu : Wd u) (hn : u ≠ []) (hb : Let u) : Cm w (Rt.rootW u) ↔ Cm w u := by
  constructor
  · intro h
    have e := Rt.root_power (l := u)
    have hp : Rt.G u (rep (Rt.rootW u) (Rt.rootN u)) := by
      unfold Rt.rootW
      conv => lhs; rw [Rt.root_power hu hn]
      exact (Rt.g_pow _ _ _).symm
    exact (Rt.g_midl hp).trans ((Rt.com_rep h _).trans (Rt.g_midr hp.symm))
  · intro h
    obtain ⟨n, hn'⟩ := Rt.com_pow hw hu hn (nbk_of hb) h
    unfold Cm
    rw [hn']
    exact Rt.pw_com _ _
/-- the least one, as the law asks -/
structure LeastOk (ws : List (List Nat)) (b x : List Nat) : Prop where
  e : nz ws = [] → x = []
  o : nz ws ≠ [] → ((nz ws).filter fun w => !decide (red (w ++ b0 ws) = red (b0 ws ++ w))) ≠ [] → x = b
  p : nz ws ≠ [] → ((nz ws).filter fun w => !decide (red (w ++ b0 ws) = red (b0 ws ++ w))) = [] → ∀ t, klt (Mv.stp (b0 ws) b t) x = false ∧ klt (Mv.stp (Fg.inv (b0 ws)) b t) x = false
theorem cm_dec {a b : List Nat} : (!decide (red (a ++ b) = red (b ++ a))) = true ↔ ¬ Cm a b := by
  unfold Cm Rt.G
  by_cases h : red (a ++ b) = red (b ++ a)
  · rw [decide_eq_true h]; simp [h]
  · rw [decide_eq_false h]; simp [h]
theorem least_ok {ws : List (List Nat)} {b x : List Nat} (hr : Row ws) (hb : Wd b ∧ Let b) (hx : Wd x ∧ Let x) (hm : mvs ws x = mvs ws b) (hl : ∀ y, Wd y → mvs ws y = mvs ws b → klt y x = false) : LeastOk ws b x := by
  have hmw : ∀ w ∈ ws, mvd w x = mvd w b := fun w hw => List.map_inj_left.mp hm w hw
  refine ⟨fun hz => ?_, fun hz hno => ?_, fun hz hall t => ?_⟩
  · have hw : ∀ w ∈ ws, w = [] := fun w hw => by
      by_cases h : w = []
      · exact h
      · have : w ∈ nz ws := List.mem_filter.mpr ⟨hw, by simpa using h⟩
        rw [hz] at this; cases this
    have h1 : mvs ws [] = mvs ws b := List.map_congr_left fun w hw' => by rw [hw w hw']; exact (Mv.mvd_nil []).trans (Mv.mvd_nil b).symm
    have h2 := hl [] trivial h1
    cases x with
    | nil => rfl
    | cons a x => rw [klt_ln (a := []) (b := a :: x) (by simp)] at h2; cases h2
  · obtain ⟨w0, wr, hw0⟩ : ∃ a b, nz ws = a :: b := by
      cases h : nz ws with
      | nil => exact absurd h hz
      | cons a b => exact ⟨a, b, rfl⟩
    have hb0 : b0 ws = Rt.rootW w0 := by unfold b0; rw [hw0]; rfl
    have hm0 := nz_mem (show w0 ∈ nz ws by rw [hw0]; exact List.mem_cons_self)
    have hl0 := row_let hr hm0.1
    obtain ⟨w, hwf⟩ := List.exists_mem_of_ne_nil _ hno
    have hwf' := List.mem_filter.mp hwf
    have hmw1 := nz_mem hwf'.1
    have hl1 := row_let hr hmw1.1
    have hnc := cm_dec.mp hwf'.2
    rw [hb0, cm_root hl1.2.2 hl0.2.2 hm0.2 hl0.2.1] at hnc
    exact mv_uniq hl1.2.2 hl0.2.2 hx.1 hb.1 hx.2 hb.2 (hmw w hmw1.1) (hmw w0 hm0.1) hnc
  · have hcm : ∀ w ∈ ws, Cm w (b0 ws) := fun w hw => by
      by_cases h : w = []
      · subst h; unfold Cm; rw [List.append_nil]; exact Rt.G.refl _
      · have hmn : w ∈ nz ws := List.mem_filter.mpr ⟨hw, by simpa using h⟩
        rcases Classical.em (Cm w (b0 ws)) with hc | hc
        · exact hc
        · have : w ∈ (nz ws).filter fun w => !decide (red (w ++ b0 ws) = red (b0 ws ++ w)) := List.mem_filter.mpr ⟨hmn, cm_dec.mpr hc⟩
          rw [hall] at this; cases this
    have key : ∀ B, (∀ w ∈ ws, Cm w B) → mvs ws (Mv.stp B b t) = mvs ws b := fun B hB => List.map_congr_left fun w hw => by
      have hyy := Mv.stp_g B b t
      show red (Fg.inv (Mv.stp B b t) ++ w ++ Mv.stp B b t) = red (Fg.inv b ++ w ++ b)
      refine ((Rt.g_app (Rt.g_midr (Mv.g_inv hyy)) hyy).trans ?_ : Rt.G _ _)
      rw [inv_app]
      simp only [List.append_assoc]
      have h5 := Rt.g_conj (Rt.com_rep (hB w hw) t)
      refine Rt.g_midl ?_
      have h6 := Rt.g_midr (c := b) h5
      simp only [List.append_assoc] at h6
      exact h6
    exact ⟨hl _ (Mv.stp_wd hb.1 t) (key _ hcm), hl _ (Mv.stp_wd hb.1 t) (key _ fun w hw => Rt.com_inv (hcm w hw))⟩
abbrev s_law_least : Stmt := top 42
abbrev N_law_least : List Str := ["_law_row_here", "_law_by_here", "_law_found", "_law_words", "_law_base", "_law_some", "_law_most", "_law_step", "_law_here", "_law_turn", "_law_word_here"]
theorem sc_law_least : FnScope N_law_least ["_law_row_here", "_law_by_here", "_law_found"] (defScope s_law_least) := ⟨rfl, rfl, rfl, by decide +kernel, rfl, by decide +kernel, by decide +kernel⟩
def fGw (b : List Nat) : V → Bool
  | .str s => !decide (red (s.cps.toList ++ b) = red (b ++ s.cps.toList))
  | _ => false
theorem fGw_wV (ws : List (List Nat)) (b : List Nat) : ((wV ws).filter (fGw b)).map (fun v => v) = wV (ws.filter fun w => !decide (red (w ++ b) = red (b ++ w))) := by
  rw [List.map_id', List.filter_map]; rfl
def gK (x : List Nat) : V → Bool
  | .str s => klt s.cps.toList x
  | _ => false
def sp_law_least (K : PySem.W.Frag) : Sp := fun vs H Q _ => ∃ (p : Addr) (ws : List (List Nat)) (b x : List Nat), vs = [.ref p, .str (sOf b), .str (sOf x)] ∧ SqL K H p (wV ws) ∧ (Row ws ∧ Let b ∧ Wd b ∧ b.length ≤ 100000 ∧ Let x ∧ x.length ≤ 100000 ∧ LeastOk ws b x) ∧ ∀ H', (∀ b o, H b = some o → H' b = some o) → Q (.bl true) H'
theorem use_law_least {B : Hp} {L : HL} {Q : KQ} {E : XK} {p : Addr} {ws : List (List Nat)} {b x : List Nat} (hp : Ls K B L p (wV ws)) (h : Row ws ∧ Let b ∧ Wd b ∧ b.length ≤ 100000 ∧ Let x ∧ x.length ≤ 100000 ∧ LeastOk ws b x) (q : Q (.bl true) B L) : ∀ H, Sat B L H → sp_law_least K [.ref p, .str (sOf b), .str (sOf x)] H (up Q) E := fun H s => ⟨p, ws, b, x, rfl, hp.at s, h, fun H' e => s.upq e q⟩
theorem ok_law_least {f : Addr} {fd : FuncData} (F : Fun K "_law_least" "_law_least" s_law_least f fd) (hm : mg "_law_least" = some (.ref f)) (T : Tx mg) (F_law_root : Fn P w K mg base 3 "_law_root" sp_law_root) (F_law_free : Fn P w K mg base 2 "_law_free" sp_law_free) (F_law_core : Fn P w K mg base 2 "_law_core" sp_law_core) (F_law_back : Fn P w K mg base 1 "_law_back" sp_law_back) (F_law_key : Fn P w K mg base 1 "_law_key" sp_law_key) : Fn P w K mg base 4 "_law_least" (sp_law_least K) := by
  refine fn_ok F sc_law_least hm (fun _ _ _ _ _ _ us hl => match us, hl with | [_, _, _], _ => rfl) ?_ fun cdv A outer s H vs Q E hr h tk po => ?_
  · rintro vs H Q E ⟨_, _, _, _, rfl, _⟩; rfl
  obtain ⟨p, ws, b, x, rfl, hp, ⟨hrow, hb, hbw, hbl, hx, hxl, hok⟩, hq⟩ := h
  have hls : ∀ L, Ls K H L p (wV ws) := fun L => .inl hp
  have hnm : ∀ l ∈ nz ws, l.length ≤ 60 ∧ Let l ∧ Wd l := fun l hl => row_let hrow (nz_mem hl).1
  have hnl : (nz ws).length ≤ 8 := Nat.le_trans (nz_len ws) hrow.2.1
  refine ⟨H, [], Sat.whole, ?_⟩
  refine k_cons ?_
  refine k_sle 3 (k_lcf_l (j := 10) fNe (fun v => v) sc_law_least.nd (blkOk_by (N := N_law_least) (sc := defScope s_law_least) (by decide +kernel)) ?_)
  refine k_n 0 ?_
  refine ⟨p, wV ws, rfl, hls _, by rw [List.length_map]; have := hrow.2.1; omega, fun z hz D acc sb Hb Cb clb fpb => ?_, fun z hz hfz D acc sb Hb Cb clb fpb => ?_, fun D => ?_⟩
  ·
    obtain ⟨l, hlm, rfl⟩ := List.mem_map.mp hz
    refine t_cmp ?_
    refine k_n 10 ?_
    refine k_s [] ?_
    walk_at "opNotEq"
    refine ⟨_, rfl, ?_⟩
    exact ⟨rfl, rfl, rfl⟩
  ·
    refine k_n 10 ?_
    exact ⟨rfl, rfl, rfl⟩
  rw [nz_wV]
  show kSs _ _ _ _ _ _
  refine k_norm (by simp only [L2.start, N_law_least, List.map_cons, List.map_nil, List.length_cons, List.length_nil, Nat.reduceAdd, Nat.reduceSub, List.replicate_succ, List.replicate_zero, List.cons_append, List.nil_append, List.set_cons_succ, List.set_cons_zero]; exact rfl) ?_
  refine k_cons ?_
  refine k_if ?_
  refine t_cmp ?_
  refine k_n 3 ?_
  refine k_lst ?_
  refine a_nil ?_
  refine ⟨by simp, fun px => ?_⟩
  refine o_eqss (a := nz ws) (b := []) hr.units (.inr (by walk_at "mm")) (.inr (by walk_at "mm")) ?_ (fun l hl => let_small (hnm l hl).2.1) (by simp)
  refine ⟨_, rfl, ?_⟩
  refine ⟨fun hk => ?_, fun hk => ?_⟩
  · have hz : nz ws = [] := of_decide_eq_true hk
    have hx0 := hok.e hz
    refine k_one ?_
    refine k_ret ?_
    refine k_cmp ?_
    refine k_n 2 ?_
    refine k_s [] ?_
    walk_at "opEq"
    intro H' s
    rw [decide_eq_true hx0]
    exact hq H' s.ext
  refine k_nil ?_
  have hz : nz ws ≠ [] := of_decide_eq_false hk
  obtain ⟨w0, wr, hw0⟩ : ∃ a b, nz ws = a :: b := by
    cases h : nz ws with
    | nil => exact absurd h hz
    | cons a b => exact ⟨a, b, rfl⟩
  have hw0m : w0 ∈ nz ws := by rw [hw0]; exact List.mem_cons_self
  have hw0l := hnm w0 hw0m
  have hw0n := (nz_mem hw0m).2
  have hb0 : Rt.rootW w0 = b0 ws := by unfold b0; rw [hw0]; rfl
  have hlb : Let (b0 ws) := by rw [← hb0]; exact let_root hw0l.2.1
  have hbl0 : (b0 ws).length ≤ 60 := by
    rw [← hb0]
    exact Nat.le_trans (root_len hw0l.2.2 hw0n) hw0l.1
  have hcb : 1 ≤ (Rt.core (b0 ws)).length := by
    rw [← hb0, Rt.root_core hw0l.2.2 hw0n]
    exact Rt.piece_len (Rt.core_ne hw0l.2.2 hw0n)
  have hcb2 : (Rt.core (b0 ws)).length ≤ 60 := by rw [Rt.core_len]; omega
  refine k_cons ?_
  refine k_set 4 ?_ sc_law_least.nd
  refine k_fn F_law_root (hr.mono (by decide)) ?_
  refine a_cons ?_
  refine k_ix ?_
  refine k_n 3 ?_
  refine k_int ?_
  refine i_lv (.str (sOf w0)) (xs := wV (nz ws)) (.inr (by walk_at "mm")) ?_ (by rw [hw0]; exact atI_n (l := wV (w0 :: wr)) (j := 0))
  refine a_nil ?_
  refine use_law_root ?_ ⟨hw0l.2.1, hw0l.2.2, hw0n, by have := hw0l.1; omega⟩
  rw [hb0]
  show kSs _ _ _ _ _ _
  refine k_norm (by simp only [L2.start, N_law_least, List.map_cons, List.map_nil, List.length_cons, List.length_nil, Nat.reduceAdd, Nat.reduceSub, List.replicate_succ, List.replicate_zero, List.cons_append, List.nil_append, List.set_cons_succ, List.set_cons_zero]; exact rfl) ?_
  refine k_cons ?_
  refine k_if ?_
  refine t_cmp ?_
  refine k_le (k_lcf_l (j := 10) (fGw (b0 ws)) (fun v => v) sc_law_least.nd (blkOk_by (N := N_law_least) (sc := defScope s_law_least) (by decide +kernel)) ?_)
  refine k_n 3 ?_
  refine ⟨_, wV (nz ws), rfl, .inr (by walk_at "mm"), by rw [List.length_map]; omega, fun z hz D acc sb Hb Cb clb fpb => ?_, fun z hz hfz D acc sb Hb Cb clb fpb => ?_, fun D3 => ?_⟩
  ·
    obtain ⟨l, hlm, rfl⟩ := List.mem_map.mp hz
    have hl := hnm l hlm
    refine t_cmp ?_
    refine k_fn F_law_free (hr.mono (by decide)) ?_
    refine a_cons ?_
    refine k_bin ?_
    refine k_n 10 ?_
    refine k_n 4 ?_
    refine o_adds ?_ (by have := hl.1; omega)
    refine a_nil ?_
    refine use_law_free ?_ ⟨let_app hl.2.1 hlb, by rw [List.length_append]; have := hl.1; omega⟩
    refine k_fn F_law_free (hr.mono (by decide)) ?_
    refine a_cons ?_
    refine k_bin ?_
    refine k_n 4 ?_
    refine k_n 10 ?_
    refine o_adds ?_ (by have := hl.1; omega)
    refine a_nil ?_
    refine use_law_free ?_ ⟨let_app hlb hl.2.1, by rw [List.length_append]; have := hl.1; omega⟩
    walk_at "opNotEq"
    refine ⟨_, rfl, ?_⟩
    exact ⟨rfl, rfl, rfl⟩
  ·
    refine k_n 10 ?_
    exact ⟨rfl, rfl, rfl⟩
  refine k_lst ?_
  refine a_nil ?_
  refine ⟨by simp, fun py => ?_⟩
  rw [fGw_wV]; refine o_ness (a := (nz ws).filter fun w => !decide (red (w ++ b0 ws) = red (b0 ws ++ w))) (b := []) hr.units (.inr (by walk_at "mm")) (.inr (by walk_at "mm")) ?_ (fun l hl => let_small (hnm l (List.mem_filter.mp hl).1).2.1) (by simp)
  refine ⟨_, rfl, ?_⟩
  refine ⟨fun hk2 => ?_, fun hk2 => ?_⟩
  · have hne : ((nz ws).filter fun w => !decide (red (w ++ b0 ws) = red (b0 ws ++ w))) ≠ [] := by simpa using hk2
    have hxb := hok.o hz hne
    refine k_one ?_
    refine k_ret ?_
    refine k_cmp ?_
    refine k_n 2 ?_
    refine k_n 1 ?_
    walk_at "opEq"
    intro H' s
    rw [decide_eq_true hxb]
    exact hq H' s.ext
  refine k_nil ?_
  have hall : ((nz ws).filter fun w => !decide (red (w ++ b0 ws) = red (b0 ws ++ w))) = [] := by
    have h9 : (!decide (((nz ws).filter fun w => !decide (red (w ++ b0 ws) = red (b0 ws ++ w))) = [])) = false := hk2
    rw [Bool.not_eq_false'] at h9
    exact of_decide_eq_true h9
  have hpp := hok.p hz hall
  generalize b0 ws = bs at hlb hbl0 hcb hcb2 hpp ⊢
  refine k_sub (L' := []) (List.nil_sublist _) ?_
  refine k_cons ?_
  refine k_set 5 ?_ sc_law_least.nd
  refine k_lst ?_
  refine a_nil ?_
  refine ⟨by simp, fun pl => ?_⟩
  show kSs _ _ _ _ _ _
  refine k_norm (by simp only [L2.start, N_law_least, List.map_cons, List.map_nil, List.length_cons, List.length_nil, Nat.reduceAdd, Nat.reduceSub, List.replicate_succ, List.replicate_zero, List.cons_append, List.nil_append, List.set_cons_succ, List.set_cons_zero]; exact rfl) ?_
  refine k_cons ?_
  refine k_set 6 ?_ sc_law_least.nd
  refine k_bin ?_
  refine k_int ?_
  refine k_bin ?_
  refine k_bin ?_
  refine k_bin ?_
  refine k_int ?_
  refine k_callB (id := "len") T.b_len ?_
  refine a_cons ?_
  refine k_n 1 ?_
  refine a_nil ?_
  refine c_lens ?_ (by omega)
  walk_at "opMult"
  refine k_callB (id := "len") T.b_len ?_
  refine a_cons ?_
  refine k_n 4 ?_
  refine a_nil ?_
  refine c_lens ?_ (by omega)
  walk_at "opAdd"
  refine k_callB (id := "len") T.b_len ?_
  refine a_cons ?_
  refine k_fn F_law_core (hr.mono (by decide)) ?_
  refine a_cons ?_
  refine k_n 4 ?_
  refine a_nil ?_
  refine use_law_core ?_ ⟨hlb, by omega⟩
  refine a_nil ?_
  refine c_lens ?_ (by omega)
  refine o_fdiv ?_ (by omega)
  walk_at "opAdd"
  show kSs _ _ _ _ _ _
  have hm0 : 0 ≤ 2 + (2 * ((b.length : Nat) : Int) + ((bs.length : Nat) : Int)) / (((Rt.core bs).length : Nat) : Int) := by
    have := Int.ediv_nonneg (a := 2 * ((b.length : Nat) : Int) + ((bs.length : Nat) : Int)) (b := (((Rt.core bs).length : Nat) : Int)) (by omega) (by omega)
    omega
  generalize 2 + (2 * ((b.length : Nat) : Int) + ((bs.length : Nat) : Int)) / (((Rt.core bs).length : Nat) : Int) = most at hm0 ⊢
  refine k_norm (by simp only [L2.start, N_law_least, List.map_cons, List.map_nil, List.length_cons, List.length_nil, Nat.reduceAdd, Nat.reduceSub, List.replicate_succ, List.replicate_zero, List.cons_append, List.nil_append, List.set_cons_succ, List.set_cons_zero]; exact rfl) ?_
  refine k_cons ?_
  refine k_for_l2 po ?_
  refine k_lst ?_
  refine a_cons ?_
  refine k_n 4 ?_
  refine a_cons ?_
  refine k_fn F_law_back (hr.mono (by decide)) ?_
  refine a_cons ?_
  refine k_n 4 ?_
  refine a_nil ?_
  refine use_law_back ?_ hlb (by omega)
  refine a_nil ?_
  refine ⟨by simp, fun pb => ?_⟩
  have hok2 : ∀ s ∈ [bs, inv bs], Let s ∧ s.length ≤ 60 ∧ ∀ t, klt (Mv.stp s b t) x = false := fun s hs => by
    rcases List.mem_cons.mp hs with rfl | hs
    · exact ⟨hlb, hbl0, fun t => (hpp t).1⟩
    · rw [List.mem_singleton.mp hs]
      exact ⟨let_inv hlb, by rw [inv_len]; exact hbl0, fun t => (hpp t).2⟩
  refine ⟨pb, wV [bs, inv bs], fun i σ B L => ∃ v7 v8 v9 v10 acc, σ = [some (.ref p), some (.str (sOf b)), some (.str (sOf x)), some (.ref D), some (.str (sOf bs)), some (.ref pl), some (.int most), v7, v8, v9, v10] ∧ B = H ∧ L = [(pb, .lst (wV [bs, inv bs])), (pl, .lst (wV acc))] ∧ acc.length ≤ 30 * i ∧ ∀ l ∈ acc, Let l ∧ l.length ≤ 200000 ∧ klt l x = false, rfl, .inr (.head _), ⟨_, _, _, _, [], rfl, rfl, rfl, by simp, fun _ z => (nomatch z)⟩, ?_, ?_, ?_⟩
  · rintro i σ B L hi ⟨v7, v8, v9, v10, acc, rfl, rfl, rfl, _⟩
    exact .inr (.head _)
  · rintro i y σ B L hy ⟨v7, v8, v9, v10, acc, rfl, rfl, rfl, hacl, hac⟩
    rw [List.getElem?_map] at hy
    obtain ⟨s, hs, rfl⟩ := Option.map_eq_some_iff.mp hy
    have hi2 : i < 2 := (List.getElem?_eq_some_iff.mp hs).1
    obtain ⟨hs1, hs2, hs3⟩ := hok2 s (List.mem_of_getElem? hs)
    refine g_name 7 ?_ sc_law_least.nd
    refine k_norm (by simp only [L2.start, N_law_least, List.map_cons, List.map_nil, List.length_cons, List.length_nil, Nat.reduceAdd, Nat.reduceSub, List.replicate_succ, List.replicate_zero, List.cons_append, List.nil_append, List.set_cons_succ, List.set_cons_zero]; exact rfl) ?_
    refine k_cons ?_
    refine k_set 8 ?_ sc_law_least.nd
    refine k_n 1 ?_
    show kSs _ _ _ _ _ _
    refine k_norm (by simp only [L2.start, N_law_least, List.map_cons, List.map_nil, List.length_cons, List.length_nil, Nat.reduceAdd, Nat.reduceSub, List.replicate_succ, List.replicate_zero, List.cons_append, List.nil_append, List.set_cons_succ, List.set_cons_zero]; exact rfl) ?_
    refine k_one ?_
    refine k_for_r1 (fun j σ2 B2 L2 => ∃ v9 acc, σ2 = [some (.ref p), some (.str (sOf b)), some (.str (sOf x)), some (.ref D), some (.str (sOf bs)), some (.ref pl), some (.int most), some (.str (sOf s)), some (.str (sOf (Mv.stp s b j))), v9, v10] ∧ B2 = B ∧ L2 = [(pb, .lst (wV [bs, inv bs])), (pl, .lst (wV acc))] ∧ acc.length ≤ 30 * i + j ∧ ∀ l ∈ acc, Let l ∧ l.length ≤ 200000 ∧ klt l x = false) po T.b_range ?_
    refine k_callB (id := "min") T.b_min ?_
    refine a_cons ?_
    refine k_n 6 ?_
    refine a_cons ?_
    refine k_int ?_
    refine a_nil ?_
    walk_at "c_min"
    have hmn : (if (30 : Int) < most then (30 : Int) else most) ≤ 30 ∧ 0 ≤ (if (30 : Int) < most then (30 : Int) else most) := by split <;> omega
    generalize (if (30 : Int) < most then (30 : Int) else most) = nn at hmn
    refine ⟨nn, rfl, by omega, by omega, ⟨v9, acc, rfl, rfl, rfl, by omega, hac⟩, ?_, ?_⟩
    · rintro j σ2 B2 L2 hj ⟨v9', acc', rfl, rfl, rfl, hl', ha'⟩
      have hj30 : j < 30 := by omega
      have hsl := Mv.stp_len s b j
      have hsm := Nat.mul_le_mul (Nat.le_of_lt hj30) hs2
      have hst := let_stp hs1 hb j
      refine g_name 9 ?_ sc_law_least.nd
      refine k_norm (by simp only [L2.start, N_law_least, List.map_cons, List.map_nil, List.length_cons, List.length_nil, Nat.reduceAdd, Nat.reduceSub, List.replicate_succ, List.replicate_zero, List.cons_append, List.nil_append, List.set_cons_succ, List.set_cons_zero]; exact rfl) ?_
      refine k_cons ?_
      refine k_set 8 ?_ sc_law_least.nd
      refine k_fn F_law_free (hr.mono (by decide)) ?_
      refine a_cons ?_
      refine k_bin ?_
      refine k_n 7 ?_
      refine k_n 8 ?_
      refine o_adds ?_ (by omega)
      refine a_nil ?_
      refine use_law_free ?_ ⟨let_app hs1 hst, by rw [List.length_append]; omega⟩
      show kSs _ _ _ _ _ _
      refine k_norm (by simp only [L2.start, N_law_least, List.map_cons, List.map_nil, List.length_cons, List.length_nil, Nat.reduceAdd, Nat.reduceSub, List.replicate_succ, List.replicate_zero, List.cons_append, List.nil_append, List.set_cons_succ, List.set_cons_zero]; exact rfl) ?_
      refine k_one ?_
      refine k_expr ?_
      refine k_m PySem.F.plainAttrs_list PySem.F.slot_list_append PySem.F.type_list_append ?_
      refine k_n 5 ?_
      refine ⟨ty_l (.inr (by walk_at "mm")), ?_⟩
      refine a_cons ?_
      refine k_n 8 ?_
      refine a_nil ?_
      refine m_append (.there .here) ?_ (by rw [List.length_map]; omega)
      refine ⟨some (.int (j : Nat)), acc' ++ [Mv.stp s b (j + 1)], rfl, rfl, ?_, ?_, ?_⟩
      · unfold wV; rw [List.map_append]; rfl
      · rw [List.length_append, List.length_singleton]; omega
      · intro l hl
        rcases List.mem_append.mp hl with h | h
        · exact ha' l h
        · rw [List.mem_singleton.mp h]
          have h1 := Mv.stp_len s b (j + 1)
          have h2 := Nat.mul_le_mul (show j + 1 ≤ 30 by omega) hs2
          exact ⟨let_stp hs1 hb (j + 1), by omega, hs3 (j + 1)⟩
    · rintro σ2 B2 L2 ⟨v9', acc', rfl, rfl, rfl, hl', ha'⟩
      exact ⟨_, _, _, _, acc', rfl, rfl, rfl, by omega, ha'⟩
  · rintro σ B L ⟨v7, v8, v9, v10, acc, rfl, rfl, rfl, hacl, hac⟩
    have hacl2 : acc.length ≤ 60 := by
      have : (wV [bs, inv bs]).length = 2 := rfl
      rw [this] at hacl; omega
    have hall2 : ∀ l ∈ acc ++ [b], Let l ∧ l.length ≤ 200000 ∧ klt l x = false := fun l hl => by
      rcases List.mem_append.mp hl with h | h
      · exact hac l h
      · rw [List.mem_singleton.mp h]; exact ⟨hb, by omega, (hpp 0).1⟩
    have hcat : wV acc ++ [.str (sOf b)] = wV (acc ++ [b]) := by unfold wV; rw [List.map_append]; rfl
    refine k_one ?_
    refine k_ret ?_
    refine k_cmp ?_
    refine k_le (k_lcf_l (j := 10) (gK x) (fun v => v) sc_law_least.nd (blkOk_by (N := N_law_least) (sc := defScope s_law_least) (by decide +kernel)) ?_)
    refine k_bin ?_
    refine k_n 5 ?_
    refine k_lst ?_
    refine a_cons ?_
    refine k_n 1 ?_
    refine a_nil ?_
    refine ⟨by simp, fun pc => ?_⟩
    refine o_catl (.inr (by walk_at "mm")) (.inr (by walk_at "mm")) (by rw [List.length_map]; simp only [List.length_cons, List.length_nil]; omega) fun pz => ?_; rw [hcat]
    refine ⟨_, wV (acc ++ [b]), rfl, .inr (.head _), by rw [List.length_map, List.length_append]; simp only [List.length_cons, List.length_nil]; omega, fun z hz D acc sb Hb Cb clb fpb => ?_, fun z hz hfz D acc sb Hb Cb clb fpb => ?_, fun D => ?_⟩
    ·
      obtain ⟨l, hlm, rfl⟩ := List.mem_map.mp hz
      have hl := hall2 l hlm
      refine t_pure (v := klt l x) ?_ ⟨rfl, rfl, rfl⟩
      refine t_cmp ?_
      refine k_fn F_law_key (hr.mono (by decide)) ?_
      refine a_cons ?_
      refine k_n 10 ?_
      refine a_nil ?_
      refine use_law_key hl.1 (by have := hl.2.1; omega) fun p1 r1 => ?_
      refine k_fn F_law_key (hr.mono (by decide)) ?_
      refine a_cons ?_
      refine k_n 2 ?_
      refine a_nil ?_
      refine use_law_key hx (by omega) fun p2 r2 => ?_
      refine o_ltD hr.units (dd_key (l := l) (.inr (by walk_at "mm")) (.inr (by walk_at "mm"))) (dd_key (l := x) (.inr (by walk_at "mm")) (.inr (by walk_at "mm"))) (key_alike _ _) (fun z => nomatch z) (Nat.le_trans (Nat.min_le_left _ _) (Nat.le_trans (key_depth _) (by decide))) ?_
      refine ⟨_, rfl, ?_⟩
      exact ⟨rfl, rfl, by walk_at "sfx"⟩
    ·
      refine k_n 10 ?_
      exact ⟨rfl, rfl, rfl⟩
    refine k_lst ?_
    refine a_nil ?_
    refine ⟨by first | decide | simp, fun p => ?_⟩
    skip
    have hfe : (((wV (acc ++ [b])).filter (gK x)).map fun v => v) = [] := by
      rw [List.map_id', List.filter_eq_nil_iff]
      intro z hz
      obtain ⟨l, hlm, rfl⟩ := List.mem_map.mp hz
      have := (hall2 l hlm).2.2
      show ¬ (klt l x = true)
      rw [this]; decide
    rw [hfe]
    refine o_eqss (a := []) (b := []) hr.units (.inr (by walk_at "mm")) (.inr (by walk_at "mm")) ?_ (by simp) (by simp)
    exact fun H' s => hq H' s.ext
/-- a text in a text -/
theorem o_inT {X : Cx} {B : Hp} {L : HL} {Q : KQ} {x y : List Nat} (q : ∀ k : Bool, (k = true → ∃ i, i + x.length ≤ y.length ∧ (y.drop i).take x.length = x) → Q (.bl k) B L) : kO X (compareOp .In) (.str (sOf x)) (.str (sOf y)) B L Q :=
  ⟨_, op_in_str, fun H s => ⟨sOf x, sOf y, rfl, rfl, _, _, s, q _ fun hk => by
    cases ho : Builtin.Str.occurrences (sOf y) (sOf x) 0 (sOf y).length 1 with
    | nil => rw [ho] at hk; cases hk
    | cons i r =>
      have h1 := StrLaws.occ_spec (sOf y) (sOf x) 0 (sOf y).length 1 i (by rw [ho]; exact List.mem_cons_self)
      refine ⟨i, h1.1, ?_⟩
      have h2 : ((sOf y).cps.extract i (i + (sOf x).length) == (sOf x).cps) = true := h1.2
      have h3 := eq_of_beq h2
      have h4 := congrArg Array.toList h3
      rw [Array.toList_extract] at h4
      have h5 : (sOf x).length = x.length := rfl
      rw [h5] at h4
      have h6 : (sOf y).cps.toList = y := rfl
      rw [h6] at h4
      simpa [List.extract_eq_take_drop] using h4⟩⟩
abbrev s_law_alike : Stmt := top 41
abbrev N_law_alike : List Str := ["_law_one", "_law_other", "_law_first", "_law_second"]
theorem sc_law_alike : FnScope N_law_alike ["_law_one", "_law_other"] (defScope s_law_alike) := ⟨rfl, rfl, rfl, by decide +kernel, rfl, by decide +kernel, by decide +kernel⟩
def sp_law_alike : Sp := fun vs H Q _ => ∃ (a b : List Nat), vs = [.str (sOf a), .str (sOf b)] ∧ (Let a ∧ Let b ∧ a.length ≤ 1000 ∧ b.length ≤ 1000 ∧ ¬ (Rt.core a = [] ∧ Rt.core b = []) ∧ ¬ Mv.Rot (Rt.core a) (Rt.core b)) ∧ ∀ H', (∀ b o, H b = some o → H' b = some o) → Q (.bl false) H'
theorem use_law_alike {B : Hp} {L : HL} {Q : KQ} {E : XK} {a b : List Nat} (q : Q (.bl false) B L) (h : Let a ∧ Let b ∧ a.length ≤ 1000 ∧ b.length ≤ 1000 ∧ ¬ (Rt.core a = [] ∧ Rt.core b = []) ∧ ¬ Mv.Rot (Rt.core a) (Rt.core b)) : ∀ H, Sat B L H → sp_law_alike [.str (sOf a), .str (sOf b)] H (up Q) E := fun H s => ⟨a, b, rfl, h, fun H' e => s.upq e q⟩
theorem ok_law_alike {f : Addr} {fd : FuncData} (F : Fun K "_law_alike" "_law_alike" s_law_alike f fd) (hm : mg "_law_alike" = some (.ref f)) (T : Tx mg) (F_law_core : Fn P w K mg base 2 "_law_core" sp_law_core) : Fn P w K mg base 3 "_law_alike" sp_law_alike := by
  refine fn_ok F sc_law_alike hm (fun _ _ _ _ _ _ us hl => match us, hl with | [_, _], _ => rfl) ?_ fun cdv A outer s H vs Q E hr h tk po => ?_
  · rintro vs H Q E ⟨_, _, rfl, _⟩; rfl
  obtain ⟨a, b, rfl, ⟨ha, hb, hn1, hn2, hne, hno⟩, hq⟩ := h
  have hc1 := Rt.core_len a
  have hc2 := Rt.core_len b
  refine ⟨H, [], Sat.whole, ?_⟩
  refine k_cons ?_
  refine k_set 2 ?_ sc_law_alike.nd
  refine k_fn F_law_core (hr.mono (by decide)) ?_
  refine a_cons ?_
  refine k_n 0 ?_
  refine a_nil ?_
  refine use_law_core ?_ ⟨ha, by omega⟩
  show kSs _ _ _ _ _ _
  refine k_cons ?_
  refine k_set 3 ?_ sc_law_alike.nd
  refine k_fn F_law_core (hr.mono (by decide)) ?_
  refine a_cons ?_
  refine k_n 1 ?_
  refine a_nil ?_
  refine use_law_core ?_ ⟨hb, by omega⟩
  show kSs _ _ _ _ _ _
  generalize Rt.core a = c at hc1 hne hno ⊢
  generalize Rt.core b = d at hc2 hne hno ⊢
  refine k_one ?_
  refine k_ret ?_
  refine k_and ?_
  refine k_cmp ?_
  refine k_callB (id := "len") T.b_len ?_
  refine a_cons ?_
  refine k_n 2 ?_
  refine a_nil ?_
  refine c_lens ?_ (by omega)
  refine k_callB (id := "len") T.b_len ?_
  refine a_cons ?_
  refine k_n 3 ?_
  refine a_nil ?_
  refine c_lens ?_ (by omega)
  walk_at "opEq"
  refine ⟨_, rfl, fun hk => ?_, fun _ H' s => hq H' s.ext⟩
  have hcd : c.length = d.length := by have := of_decide_eq_true hk; omega
  refine k_and1 ?_
  refine k_cmp ?_
  refine k_n 3 ?_
  refine k_bin ?_
  refine k_n 2 ?_
  refine k_n 2 ?_
  refine o_adds ?_ (by omega)
  refine o_inT fun k hk2 => ?_
  cases k with
  | false => exact fun H' s => hq H' s.ext
  | true =>
    exfalso
    obtain ⟨i, hi, he⟩ := hk2 rfl
    rw [List.length_append] at hi
    have hc0 : c ≠ [] := fun z => hne ⟨z, by rw [z] at hcd; exact List.length_eq_zero_iff.mp hcd.symm⟩
    have hcl : 1 ≤ c.length := List.length_pos_iff.mpr hc0
    rcases Nat.lt_or_ge i c.length with h1 | h1
    · refine hno ⟨i, h1, ?_⟩
      rw [← he, ← hcd, List.drop_append_of_le_length (by omega), List.take_append, List.take_of_length_le (by rw [List.length_drop]; omega), List.length_drop]
      have : c.length - (c.length - i) = i := by omega
      rw [this]
    · have : i = c.length := by omega
      subst this
      refine hno ⟨0, hcl, ?_⟩
      rw [← he, ← hcd, List.drop_left, List.take_length]
      simp
abbrev s_law_by : Stmt := top 44
abbrev N_law_by : List Str := ["_law_cell", "_law_row_here", "_law_by_here", "_law_base", "_law_most"]
theorem sc_law_by : FnScope N_law_by ["_law_cell", "_law_row_here"] (defScope s_law_by) := ⟨rfl, rfl, rfl, by decide +kernel, rfl, by decide +kernel, by decide +kernel⟩
/-- a word that the law moves by -/
def ByOk (ws : List (List Nat)) (b : List Nat) : Prop := Let b ∧ Wd b ∧ b.length ≤ 60 ∧ ∀ w ∈ ws, (mvd w b).length ≤ 60
theorem by_short {ws : List (List Nat)} {b : List Nat} (hk : RowK ws) (h12 : ∀ h r, ws = h :: r → h.length ≤ 12) (hb : Let b) (hw : Wd b) (hl : b.length ≤ 9) : ByOk ws b := by
  refine ⟨hb, hw, by omega, fun w hw' => ?_⟩
  obtain ⟨hr, h, r, rfl, _, hrest⟩ := hk
  have h1 := mvd_len w b
  have h2 := h12 h r rfl
  rcases List.mem_cons.mp hw' with rfl | h3
  · omega
  · rcases hrest w h3 with h4 | ⟨h4, _⟩ <;> omega
theorem by_pow {h : List Nat} {r : List (List Nat)} {b : List Nat} {n : Nat} (hk : RowK (h :: r)) (h12 : h.length ≤ 12) (hne : h ≠ []) (hb : Let b) (hl : b.length ≤ 9) (hn : n * (Rt.rootW h).length ≤ 17) : ByOk (h :: r) (red (rep (Rt.rootW h) n ++ b)) := by
  obtain ⟨hr, h', r', e, _, hrest⟩ := hk
  cases e
  have hlh := row_let hr (List.mem_cons_self (a := h) (l := r))
  have hlb : Let (Rt.rootW h) := let_root hlh.2.1
  have hlen : (red (rep (Rt.rootW h) n ++ b)).length ≤ 26 := Nat.le_trans (red_len _) (by rw [List.length_append, rep_len]; omega)
  have hlr : Let (rep (Rt.rootW h) n) := fun c hc => by
    unfold rep at hc
    obtain ⟨z, hz, hcz⟩ := List.mem_flatten.mp hc
    rw [List.mem_replicate] at hz
    rw [hz.2] at hcz
    exact hlb c hcz
  have hcm : ∀ w, Wd w → Cm w h → (mvd w (red (rep (Rt.rootW h) n ++ b))).length ≤ w.length + 18 := fun w hw hc => by
    have h1 := (cm_root hw hlh.2.2 hne hlh.2.1).mpr hc
    have hyy : Rt.G (red (rep (Rt.rootW h) n ++ b)) (rep (Rt.rootW h) n ++ b) := Rt.g_red _
    have h2 : mvd w (red (rep (Rt.rootW h) n ++ b)) = mvd w b := by
      show red (Fg.inv _ ++ w ++ _) = red (Fg.inv b ++ w ++ b)
      refine ((Rt.g_app (Rt.g_midr (Mv.g_inv hyy)) hyy).trans ?_ : Rt.G _ _)
      rw [inv_app]
      simp only [List.append_assoc]
      have h5 := Rt.g_conj (Rt.com_rep h1 n)
      refine Rt.g_midl ?_
      have h6 := Rt.g_midr (c := b) h5
      simp only [List.append_assoc] at h6
      exact h6
    rw [h2]
    have := mvd_len w b
    omega
  refine ⟨let_red (let_app hlr hb), rd_red _, by omega, fun w hw => ?_⟩
  have hwl := row_let hr hw
  have h1 := mvd_len w (red (rep (Rt.rootW h) n ++ b))
  rcases List.mem_cons.mp hw with rfl | h3
  · have := hcm w hwl.2.2 (Rt.G.refl _); omega
  · rcases hrest w h3 with h4 | ⟨h4, _, h5⟩
    · omega
    · have := hcm w hwl.2.2 h5; omega
theorem by_pre {h : List Nat} {r : List (List Nat)} {k : Nat} (hk : RowK (h :: r)) (hkl : k < h.length) (hk25 : r ≠ [] → k ≤ 25) : ByOk (h :: r) (h.take k) := by
  obtain ⟨hr, h', r', e, h40, hrest⟩ := hk
  cases e
  have hlh := row_let hr (List.mem_cons_self (a := h) (l := r))
  have htl : (h.take k).length = k := by rw [List.length_take]; omega
  have hsp : h.take k ++ h.drop k = h := List.take_append_drop _ _
  refine ⟨fun c hc => hlh.2.1 c (List.mem_of_mem_take hc), Rt.wd_left (by rw [hsp]; exact hlh.2.2), by omega, fun w hw => ?_⟩
  rcases List.mem_cons.mp hw with rfl | h3
  · have h2 : mvd w (w.take k) = red (w.drop k ++ w.take k) := by
      show red (Fg.inv (w.take k) ++ w ++ w.take k) = _
      have e : Fg.inv (w.take k) ++ w ++ w.take k = Fg.inv (w.take k) ++ (w.take k ++ (w.drop k ++ w.take k)) := by
        rw [← List.append_assoc (w.take k), hsp, List.append_assoc]
      rw [e]
      exact Mv.g_clb _ _
    rw [h2]
    have := red_len (w.drop k ++ w.take k)
    rw [List.length_append, List.length_drop, List.length_take] at this
    omega
  · have h1 := mvd_len w (h.take k)
    have hne : r ≠ [] := fun z => by rw [z] at h3; cases h3
    have := hk25 hne
    rcases hrest w h3 with h4 | ⟨h4, h5, _⟩ <;> omega
def sp_law_by (K : PySem.W.Frag) : Sp := fun vs H Q _ => ∃ (n : Int) (p : Addr) (ws : List (List Nat)), vs = [.int n, .ref p] ∧ SqL K H p (wV ws) ∧ RowK ws ∧ ∀ H' b, (∀ b o, H b = some o → H' b = some o) → ByOk ws b → Q (.str (sOf b)) H'
theorem use_law_by {B : Hp} {L : HL} {Q : KQ} {E : XK} {n : Int} {p : Addr} {ws : List (List Nat)} (hp : Ls K B L p (wV ws)) (hk : RowK ws) (q : ∀ b, ByOk ws b → Q (.str (sOf b)) B L) : ∀ H, Sat B L H → sp_law_by K [.int n, .ref p] H (up Q) E := fun H s => ⟨n, p, ws, rfl, hp.at s, hk, fun H' b e h => s.upq e (q b h)⟩
theorem ok_law_by {f : Addr} {fd : FuncData} (F : Fun K "_law_by" "_law_by" s_law_by f fd) (hm : mg "_law_by" = some (.ref f)) (T : Tx mg) (F_law_mix : Fn P w K mg base 1 "_law_mix" sp_law_mix) (F_law_word : Fn P w K mg base 3 "_law_word" sp_law_word) (F_law_root : Fn P w K mg base 3 "_law_root" sp_law_root) (F_law_free : Fn P w K mg base 2 "_law_free" sp_law_free) : Fn P w K mg base 4 "_law_by" (sp_law_by K) := by
  refine fn_ok F sc_law_by hm (fun _ _ _ _ _ _ us hl => match us, hl with | [_, _], _ => rfl) ?_ fun cdv A outer s H vs Q E hr h tk po => ?_
  · rintro vs H Q E ⟨_, _, _, rfl, _⟩; rfl
  obtain ⟨n, p, ws, rfl, hp, hk, hq⟩ := h
  obtain ⟨h, r, rfl⟩ : ∃ h r, ws = h :: r := by obtain ⟨_, h, r, e, _⟩ := hk; exact ⟨h, r, e⟩
  have hls : ∀ L, Ls K H L p (wV (h :: r)) := fun L => .inl hp
  have hlh := row_let hk.1 (List.mem_cons_self (a := h) (l := r))
  have hl60 := hlh.1
  refine ⟨H, [], Sat.whole, ?_⟩
  refine k_cons ?_
  refine k_set 2 ?_ sc_law_by.nd
  refine k_fn F_law_word (hr.mono (by decide)) ?_
  refine a_cons ?_
  refine k_fn F_law_mix (hr.mono (by decide)) ?_
  refine a_cons ?_
  refine k_n 0 ?_
  refine a_cons ?_
  refine k_int ?_
  refine a_nil ?_
  refine use_law_mix (by decide) fun r1 h11 h12 => ?_
  refine a_cons ?_
  refine k_s [97, 98, 99] ?_
  refine a_cons ?_
  refine k_int ?_
  refine a_nil ?_
  refine use_law_word 9 ⟨by decide, by decide, by decide, by decide⟩ fun b0' hb1 hb2 hb3 => ?_
  show kSs _ _ _ _ _ _
  refine k_norm (by simp only [L2.start, N_law_by, List.map_cons, List.map_nil, List.length_cons, List.length_nil, Nat.reduceAdd, Nat.reduceSub, List.replicate_succ, List.replicate_zero, List.cons_append, List.nil_append, List.set_cons_succ, List.set_cons_zero]; exact rfl) ?_
  refine k_cons ?_
  refine k_if ?_
  refine t_cmp ?_
  refine k_callB (id := "len") T.b_len ?_
  refine a_cons ?_
  refine k_ix ?_
  refine k_n 1 ?_
  refine k_int ?_
  refine i_lv (.str (sOf h)) (hls _) ?_ (atI_n (l := wV (h :: r)) (j := 0))
  refine a_nil ?_
  refine c_lens ?_ (by omega)
  refine k_int ?_
  walk_at "opGt"
  refine ⟨_, rfl, ?_⟩
  refine ⟨fun hk1 => ?_, fun hk1 => ?_⟩
  · have h13 : 12 < h.length := by have := of_decide_eq_true hk1; omega
    refine k_cons ?_
    refine k_set 4 ?_ sc_law_by.nd
    refine k_ifeP ?_
    refine t_cmp ?_
    refine k_callB (id := "len") T.b_len ?_
    refine a_cons ?_
    refine k_n 1 ?_
    refine a_nil ?_
    refine c_lenl (hls _) ?_
    refine k_int ?_
    walk_at "opEq"
    refine ⟨_, rfl, ?_⟩
    apply Exists.intro; apply Exists.intro; refine ⟨fun hk => ?_, fun hk => ?_, ?_⟩
    {
    refine k_callB (id := "len") T.b_len ?_
    refine a_cons ?_
    refine k_ix ?_
    refine k_n 1 ?_
    refine k_int ?_
    refine i_lv (.str (sOf h)) (hls _) ?_ (atI_n (l := wV (h :: r)) (j := 0))
    refine a_nil ?_
    refine c_lens ?_ (by omega)
    exact ⟨rfl, rfl, by walk_at "sfx"⟩
    all_goals (try walk_at "side")
    }
    {
    refine k_callB (id := "min") T.b_min ?_
    refine a_cons ?_
    refine k_callB (id := "len") T.b_len ?_
    refine a_cons ?_
    refine k_ix ?_
    refine k_n 1 ?_
    refine k_int ?_
    refine i_lv (.str (sOf h)) (hls _) ?_ (atI_n (l := wV (h :: r)) (j := 0))
    refine a_nil ?_
    refine c_lens ?_ (by omega)
    refine a_cons ?_
    refine k_int ?_
    refine a_nil ?_
    walk_at "c_min"
    exact ⟨rfl, rfl, by walk_at "sfx"⟩
    all_goals (try walk_at "side")
    }
    have hM : ∃ M : Nat, (if decide ((((wV (h :: r)).length : Nat) : Int) = 1) = true then V.int ((h.length : Nat) : Int) else V.int (if (26 : Int) < ((h.length : Nat) : Int) then 26 else ((h.length : Nat) : Int))) = V.int (M : Nat) ∧ 1 ≤ M ∧ M ≤ h.length ∧ (r ≠ [] → M ≤ 26) := by
      by_cases h1 : (((wV (h :: r)).length : Nat) : Int) = 1
      · rw [if_pos (decide_eq_true h1)]
        refine ⟨h.length, rfl, by omega, Nat.le_refl _, fun hr => absurd (List.length_pos_iff.mpr hr) ?_⟩
        rw [List.length_map, List.length_cons] at h1
        omega
      · rw [if_neg (by rw [decide_eq_false h1]; decide)]
        by_cases h2 : (26 : Int) < ((h.length : Nat) : Int)
        · rw [if_pos h2]; exact ⟨26, rfl, by omega, by omega, fun _ => Nat.le_refl _⟩
        · rw [if_neg h2]; exact ⟨h.length, rfl, by omega, Nat.le_refl _, fun _ => by omega⟩
    obtain ⟨M, hM, hM1, hM2, hM3⟩ := hM
    rw [hM]
    show kSs _ _ _ _ _ _
    refine k_norm (by simp only [L2.start, N_law_by, List.map_cons, List.map_nil, List.length_cons, List.length_nil, Nat.reduceAdd, Nat.reduceSub, List.replicate_succ, List.replicate_zero, List.cons_append, List.nil_append, List.set_cons_succ, List.set_cons_zero]; exact rfl) ?_
    refine k_one ?_
    refine k_ret ?_
    refine k_slice ?_
    refine k_ix ?_
    refine k_n 1 ?_
    refine k_int ?_
    refine i_lv (.str (sOf h)) (hls _) ?_ (atI_n (l := wV (h :: r)) (j := 0))
    refine p_none ?_
    refine p_some ?_
    refine k_bin ?_
    refine k_fn F_law_mix (hr.mono (by decide)) ?_
    refine a_cons ?_
    refine k_n 0 ?_
    refine a_cons ?_
    refine k_int ?_
    refine a_nil ?_
    refine use_law_mix (by decide) fun r2 h21 h22 => ?_
    refine k_n 4 ?_
    refine o_mod ?_ (by omega)
    refine ⟨_, rfl, ?_⟩
    refine sl_s ?_ (by omega)
    have e1 := Int.emod_nonneg r2 (b := ((M : Nat) : Int)) (by omega)
    have e2 := Int.emod_lt_of_pos r2 (b := ((M : Nat) : Int)) (by omega)
    obtain ⟨k, hkk⟩ : ∃ k : Nat, r2 % ((M : Nat) : Int) = k := ⟨(r2 % ((M : Nat) : Int)).toNat, by omega⟩
    rw [hkk] at e1 e2 ⊢
    rw [cut_to]
    exact fun H' s => hq H' _ s.ext (by_pre hk (by omega) fun hr => by have := hM3 hr; omega)
  refine k_nil ?_
  have h12' : h.length ≤ 12 := by have := of_decide_eq_false hk1; omega
  have hshort : ByOk (h :: r) b0' := by_short hk (fun _ _ e => by cases e; exact h12') hb1 hb2 hb3
  refine k_cons ?_
  refine k_if ?_
  refine t_w ?_
  refine w_or ?_
  refine t_cmp ?_
  refine k_ix ?_
  refine k_n 1 ?_
  refine k_int ?_
  refine i_lv (.str (sOf h)) (hls _) ?_ (atI_n (l := wV (h :: r)) (j := 0))
  refine k_s [] ?_
  walk_at "opEq"
  refine ⟨_, rfl, ?_⟩
  refine ⟨fun hk2 => ?_, fun hk2 => ⟨fun _ => ?_, fun z => (nomatch z)⟩⟩
  rotate_left
  · skip
    refine k_one ?_
    refine k_ret ?_
    refine k_n 2 ?_
    exact fun H' s => hq H' _ s.ext hshort
  have hne : h ≠ [] := of_decide_eq_false hk2
  refine w_or1 ?_
  refine t_cmp ?_
  refine k_bin ?_
  refine k_fn F_law_mix (hr.mono (by decide)) ?_
  refine a_cons ?_
  refine k_n 0 ?_
  refine a_cons ?_
  refine k_int ?_
  refine a_nil ?_
  refine use_law_mix (by decide) fun r3 h31 h32 => ?_
  refine k_int ?_
  walk_at "opMod"
  refine k_int ?_
  walk_at "opGt"
  refine ⟨_, rfl, ?_⟩
  refine ⟨fun _ => ?_, fun _ => ?_⟩
  · skip
    refine k_one ?_
    refine k_ret ?_
    refine k_n 2 ?_
    exact fun H' s => hq H' _ s.ext hshort
  refine k_nil ?_
  have hrl := root_ok ⟨hlh.2.1, hlh.2.2, hl60⟩ hne
  have hrn := List.length_pos_iff.mpr (Rt.root_ne hlh.2.2 hne)
  refine k_cons ?_
  refine k_set 3 ?_ sc_law_by.nd
  refine k_fn F_law_root (hr.mono (by decide)) ?_
  refine a_cons ?_
  refine k_ix ?_
  refine k_n 1 ?_
  refine k_int ?_
  refine i_lv (.str (sOf h)) (hls _) ?_ (atI_n (l := wV (h :: r)) (j := 0))
  refine a_nil ?_
  refine use_law_root ?_ ⟨hlh.2.1, hlh.2.2, hne, by have := hlh.1; omega⟩
  show kSs _ _ _ _ _ _
  refine k_norm (by simp only [L2.start, N_law_by, List.map_cons, List.map_nil, List.length_cons, List.length_nil, Nat.reduceAdd, Nat.reduceSub, List.replicate_succ, List.replicate_zero, List.cons_append, List.nil_append, List.set_cons_succ, List.set_cons_zero]; exact rfl) ?_
  have hpow := fun n hn => by_pow (n := n) hk h12' hne hb1 hb3 hn
  generalize Rt.rootW h = bs at hrl hrn hpow ⊢
  obtain ⟨dv, hd17, hdm, hdv⟩ : ∃ dv : Nat, dv ≤ 17 ∧ dv * bs.length ≤ 17 ∧ (17 : Int) / ((bs.length : Nat) : Int) + 1 = ((dv + 1 : Nat) : Int) := ⟨17 / bs.length, Nat.div_le_self _ _, Nat.div_mul_le_self _ _, rfl⟩
  refine k_one ?_
  refine k_ret ?_
  refine k_fn F_law_free (hr.mono (by decide)) ?_
  refine a_cons ?_
  refine k_bin ?_
  refine k_bin ?_
  refine k_n 3 ?_
  refine k_bin ?_
  refine k_fn F_law_mix (hr.mono (by decide)) ?_
  refine a_cons ?_
  refine k_n 0 ?_
  refine a_cons ?_
  refine k_int ?_
  refine a_nil ?_
  refine use_law_mix (by decide) fun r4 h41 h42 => ?_
  refine k_bin ?_
  refine k_bin ?_
  refine k_int ?_
  refine k_callB (id := "len") T.b_len ?_
  refine a_cons ?_
  refine k_n 3 ?_
  refine a_nil ?_
  refine c_lens ?_ (by omega)
  refine o_fdiv ?_ (by omega)
  refine k_int ?_
  walk_at "opAdd"
  rw [hdv]; refine o_mod ?_ (by omega); have e1 := Int.emod_nonneg r4 (b := ((dv + 1 : Nat) : Int)) (by omega); have e2 := Int.emod_lt_of_pos r4 (b := ((dv + 1 : Nat) : Int)) (by omega); obtain ⟨k, hkk⟩ : ∃ k : Nat, r4 % ((dv + 1 : Nat) : Int) = k := ⟨(r4 % ((dv + 1 : Nat) : Int)).toNat, by omega⟩; rw [hkk] at e1 e2 ⊢; have hk17 : k * bs.length ≤ 17 := Nat.le_trans (Nat.mul_le_mul_right _ (show k ≤ dv by omega)) hdm
  refine o_muls ?_ (by rw [Nat.mul_comm]; omega) (by omega)
  refine k_n 2 ?_
  refine o_adds ?_ (by rw [rep_len]; omega)
  refine a_nil ?_
  refine use_law_free ?_ ⟨let_app (let_rep hrl.1 _) hb1, by rw [List.length_append, rep_len]; omega⟩
  exact fun H' s => hq H' _ s.ext (hpow k hk17)
theorem tpB {B : Hp} {L : HL} {p : Addr} {xs : List V} (h : B p = some (.tup xs)) : Tp K B L p xs := .inl (.inl (.inl h))
theorem mvd_back {w b : List Nat} (hw : Wd w) : mvd (mvd w b) (Fg.inv b) = w := by
  have h : Rt.G (mvd w b) (Fg.inv b ++ w ++ b) := Rt.g_red _
  show red (Fg.inv (Fg.inv b) ++ mvd w b ++ Fg.inv b) = w
  rw [inv_inv]
  have h2 : Rt.G (b ++ mvd w b ++ Fg.inv b) w := by
    refine (Rt.g_midr (Rt.g_midl h)).trans ?_
    simp only [List.append_assoc]
    refine (Mv.g_crb b _).trans ?_
    have := Rt.g_midl (a := w) (Rt.g_inv_r b)
    rw [List.append_nil] at this; exact this
  exact Rt.g_wd ((Rt.g_red _).trans h2) (rd_red _) hw
theorem mvs_back {ws : List (List Nat)} {b : List Nat} (h : Row ws) : mvs (mvs ws b) (Fg.inv b) = ws := by
  show (ws.map fun w => mvd w b).map (fun w => mvd w (Fg.inv b)) = ws
  rw [List.map_map]
  have e : ws.map ((fun w => mvd w (Fg.inv b)) ∘ fun w => mvd w b) = ws.map id := List.map_congr_left fun w hw => mvd_back (row_let h hw).2.2
  rw [e, List.map_id]
theorem row_mvs {ws : List (List Nat)} {b : List Nat} (h : Row ws) (hb : ByOk ws b) : Row (mvs ws b) := by
  refine ⟨by rw [List.length_map]; exact h.1, by rw [List.length_map]; exact h.2.1, fun l hl => ?_⟩
  obtain ⟨w, hw, rfl⟩ := List.mem_map.mp hl
  exact isw_of (let_mvd (row_let h hw).2.1 hb.1) (rd_red _) (hb.2.2.2 w hw)
theorem klt_le {a b : List Nat} (h : klt a b = false) : b.length ≤ a.length := by
  refine Nat.le_of_not_lt fun hl => ?_
  rw [klt_ln hl] at h; cases h
theorem rot_mover {w o : List Nat} (ho : Wd o) (h : Mv.Rot (Rt.core w) (Rt.core o)) : ∃ y, Wd y ∧ mvd w y = o := by
  obtain ⟨k, hk, hd⟩ := h
  cases hf : Mv.fm w o with
  | some b => exact ⟨b, Mv.fm_wd hf, Mv.fm_sound ho hf⟩
  | none =>
    exfalso
    unfold Mv.fm at hf
    have hf2 : Mv.fgo (Mv.trn w o) 0 (Rt.core w).length = none := by
      cases hg : Mv.fgo (Mv.trn w o) 0 (Rt.core w).length with
      | none => rfl
      | some r => rw [hg] at hf; cases hf
    have := Mv.fgo_none hf2 k (Nat.zero_le _) (by omega)
    unfold Mv.trn at this
    exact of_decide_eq_false this hd.symm
theorem row_small {ws : List (List Nat)} (h : Row ws) : ∀ l ∈ ws, ∀ c ∈ l, c < 1114112 := fun l hl => let_small (row_let h hl).2.1
theorem mvs_small {ws : List (List Nat)} {b : List Nat} (h : Row ws) (hb : Let b) : ∀ l ∈ mvs ws b, ∀ c ∈ l, c < 1114112 := fun l hl => by
  obtain ⟨w, hw, rfl⟩ := List.mem_map.mp hl
  exact let_small (let_mvd (row_let h hw).2.1 hb)
theorem pick3 {e1 e2 e3 : List Nat} {r : Int} (h0 : 0 ≤ r) (h1 : r < 3) (i1 : isW e1 = true) (i2 : isW e2 = true) (i3 : isW e3 = true) : ∃ e, isW e = true ∧ atI ([.str (sOf e1), .str (sOf e2), .str (sOf e3)] : List V) r = some (.str (sOf e)) := by
  have : r = 0 ∨ r = 1 ∨ r = 2 := by omega
  rcases this with rfl | rfl | rfl
  · exact ⟨e1, i1, rfl⟩
  · exact ⟨e2, i2, rfl⟩
  · exact ⟨e3, i3, rfl⟩
abbrev s_law_right : Stmt := top 45
abbrev N_law_right : List Str := ["_law_cell", "_law_row_here", "_law_by_here", "_law_other", "_law_found", "_law_again", "_law_at", "_law_bent", "_law_told", "_law_tries", "_law_word_here", "_law_k", "_law_one"]
theorem sc_law_right : FnScope N_law_right ["_law_cell"] (defScope s_law_right) := ⟨rfl, rfl, rfl, by decide +kernel, rfl, by decide +kernel, by decide +kernel⟩
def fBt (ws bs : List (List Nat)) : V → Bool
  | .str s => decide (mvs ws s.cps.toList = bs)
  | _ => false
def sp_law_right : Sp := fun vs H Q _ => ∃ (n : Int), vs = [.int n] ∧ ∀ H', (∀ b o, H b = some o → H' b = some o) → Q (.bl true) H'
theorem use_law_right {B : Hp} {L : HL} {Q : KQ} {E : XK} {n : Int} (q : Q (.bl true) B L) : ∀ H, Sat B L H → sp_law_right [.int n] H (up Q) E := fun H s => ⟨n, rfl, fun H' e => s.upq e q⟩
theorem ok_law_right {f C CW : Addr} {fd : FuncData} (F : Fun K "_law_right" "_law_right" s_law_right f fd) (hm : mg "_law_right" = some (.ref f)) (T : Tx mg) (F_law_mix : Fn P w K mg base 1 "_law_mix" sp_law_mix) (F_law_word : Fn P w K mg base 3 "_law_word" sp_law_word) (F_law_row : Fn P w K mg base 4 "_law_row" sp_law_row) (F_law_by : Fn P w K mg base 4 "_law_by" (sp_law_by K)) (F_law_moved : Fn P w K mg base 3 "_law_moved" sp_law_moved) (F_law_back : Fn P w K mg base 1 "_law_back" sp_law_back) (F_law_least : Fn P w K mg base 4 "_law_least" (sp_law_least K)) (F_law_alike : Fn P w K mg base 3 "_law_alike" sp_law_alike) (F_moved_row : Fn P w K mg base 5 "moved_row" (sp_moved_row K C CW)) (F_mover : Fn P w K mg base 6 "mover" (sp_mover K C)) : Fn P w K mg base 7 "_law_right" sp_law_right := by
  refine fn_ok F sc_law_right hm (fun _ _ _ _ _ _ us hl => match us, hl with | [_], _ => rfl) ?_ fun cdv A outer s H vs Q E hr h tk po => ?_
  · rintro vs H Q E ⟨_, rfl, _⟩; rfl
  obtain ⟨n, rfl, hq⟩ := h
  refine ⟨H, [], Sat.whole, ?_⟩
  refine k_cons ?_
  refine k_set 1 ?_ sc_law_right.nd
  refine k_fn F_law_row (hr.mono (by decide)) ?_
  refine a_cons ?_
  refine k_n 0 ?_
  refine a_nil ?_
  refine use_law_row fun pr ws hk => ?_
  have hrow := hk.1
  have hlen := hrow.2.1
  have hlen1 := hrow.1
  have hsm := row_small hrow
  show kSs _ _ _ _ _ _
  refine k_norm (by simp only [L2.start, N_law_right, List.map_cons, List.map_nil, List.length_cons, List.length_nil, Nat.reduceAdd, Nat.reduceSub, List.replicate_succ, List.replicate_zero, List.cons_append, List.nil_append, List.set_cons_succ, List.set_cons_zero]; exact rfl) ?_
  refine k_cons ?_
  refine k_set 2 ?_ sc_law_right.nd
  refine k_fn F_law_by (hr.mono (by decide)) ?_
  refine a_cons ?_
  refine k_n 0 ?_
  refine a_cons ?_
  refine k_n 1 ?_
  refine a_nil ?_
  refine use_law_by (ws := ws) (.inr (by walk_at "mm")) hk fun b hb => ?_
  obtain ⟨hb1, hb2, hb3, hb4⟩ := id hb
  have hrow2 : Row (mvs ws b) := row_mvs hrow hb
  have hwb : isW b = true := isw_of hb1 hb2 hb3
  show kSs _ _ _ _ _ _
  refine k_norm (by simp only [L2.start, N_law_right, List.map_cons, List.map_nil, List.length_cons, List.length_nil, Nat.reduceAdd, Nat.reduceSub, List.replicate_succ, List.replicate_zero, List.cons_append, List.nil_append, List.set_cons_succ, List.set_cons_zero]; exact rfl) ?_
  refine k_cons ?_
  refine k_sle 3 (k_lcm_l (j := 10) (gMv b) sc_law_right.nd (blkOk_by (N := N_law_right) (sc := defScope s_law_right) (by decide +kernel)) ?_)
  refine k_n 1 ?_
  refine ⟨_, wV ws, rfl, .inr (by walk_at "mm"), by rw [List.length_map]; omega, fun z hz D acc sb Hb Cb clb fpb => ?_, fun po' => ?_⟩
  ·
    obtain ⟨l, hlm, rfl⟩ := List.mem_map.mp hz
    have hl := row_let hrow hlm
    refine k_fn F_law_moved (hr.mono (by decide)) ?_
    refine a_cons ?_
    refine k_n 10 ?_
    refine a_cons ?_
    refine k_n 2 ?_
    refine a_nil ?_
    refine use_law_moved ?_ ⟨hl.2.1, hb1, by have := hl.1; omega, by omega⟩
    exact ⟨rfl, rfl, rfl⟩
  rw [gMv_wV]
  have hlo : ws.length = (mvs ws b).length := (List.length_map _).symm
  obtain ⟨x, hx⟩ := mv_there hrow hrow2 hlo hb2 rfl
  obtain ⟨hx1, hx2, hx3, hx4, hx5⟩ := mv_some hrow hrow2 hlo hx
  have hsm2 := row_small hrow2
  show kSs _ _ _ _ _ _
  refine k_norm (by simp only [L2.start, N_law_right, List.map_cons, List.map_nil, List.length_cons, List.length_nil, Nat.reduceAdd, Nat.reduceSub, List.replicate_succ, List.replicate_zero, List.cons_append, List.nil_append, List.set_cons_succ, List.set_cons_zero]; exact rfl) ?_
  refine k_cons ?_
  refine k_set 4 ?_ sc_law_right.nd
  refine k_fn F_mover (hr.mono (by decide)) ?_
  refine a_cons ?_
  refine k_n 1 ?_
  refine a_cons ?_
  refine k_n 3 ?_
  refine a_nil ?_
  refine use_mover (ws := ws) (os := mvs ws b) (.inr (by walk_at "mm")) (.inr (by walk_at "mm")) hrow hrow2 hlo ?_; rw [hx]
  show kSs _ _ (_ :: _ :: _ :: _ :: some (.str (sOf x)) :: _) _ _ _
  refine k_cons ?_
  refine k_if ?_
  refine t_pure (v := false) ?_ ⟨fun z => (nomatch z), fun _ => ?_⟩
  · skip
    refine t_w ?_
    refine w_orP ?_
    refine t_not ?_
    refine t_val ?_
    refine k_callB (id := "isinstance") T.b_isinstance ?_
    refine a_cons ?_
    refine k_n 4 ?_
    refine a_cons ?_
    refine k_ty (T := "str") T.b_str ?_
    refine a_nil ?_
    walk_at "c_isinstance"
    refine ⟨_, rfl, ?_⟩
    apply Exists.intro; refine ⟨fun hk => ?_, ?_⟩
    {
    refine w_or1 ?_
    refine t_cmp ?_
    refine k_le (k_lcm_l (j := 10) (gMv x) sc_law_right.nd (blkOk_by (N := N_law_right) (sc := defScope s_law_right) (by decide +kernel)) ?_)
    refine k_n 1 ?_
    refine ⟨_, wV ws, rfl, .inr (by walk_at "mm"), by rw [List.length_map]; omega, fun z hz D acc sb Hb Cb clb fpb => ?_, fun D => ?_⟩
    ·
      obtain ⟨l, hlm, rfl⟩ := List.mem_map.mp hz
      have hl := row_let hrow hlm
      refine k_fn F_law_moved (hr.mono (by decide)) ?_
      refine a_cons ?_
      refine k_n 10 ?_
      refine a_cons ?_
      refine k_n 4 ?_
      refine a_nil ?_
      refine use_law_moved ?_ ⟨hl.2.1, hx1, by have := hl.1; omega, by omega⟩
      exact ⟨rfl, rfl, rfl⟩
    refine k_n 3 ?_
    rw [gMv_wV]; refine o_ness (a := mvs ws x) (b := mvs ws b) hr.units (.inr (by walk_at "mm")) (.inr (by walk_at "mm")) ?_ (mvs_small hrow hx1) hsm2
    refine ⟨_, rfl, ?_⟩
    exact ⟨rfl, rfl, by walk_at "sfx"⟩
    all_goals (try walk_at "side")
    }
    refine ⟨?_, rfl, by walk_at "sfx"⟩
    rw [decide_eq_true hx4]; rfl
  refine k_nil ?_
  refine k_cons ?_
  refine k_if ?_
  refine t_pure (v := false) ?_ ⟨fun z => (nomatch z), fun _ => ?_⟩
  · skip
    refine t_w ?_
    refine w_orP ?_
    refine t_not ?_
    refine t_val ?_
    refine k_fn F_law_least (hr.mono (by decide)) ?_
    refine a_cons ?_
    refine k_n 1 ?_
    refine a_cons ?_
    refine k_n 2 ?_
    refine a_cons ?_
    refine k_n 4 ?_
    refine a_nil ?_
    refine use_law_least (ws := ws) (.inr (by walk_at "mm")) ⟨hrow, hb1, hb2, by omega, hx1, by omega, least_ok hrow ⟨hb2, hb1⟩ ⟨hx2, hx1⟩ hx4 hx5⟩ ?_
    refine ⟨_, rfl, ?_⟩
    apply Exists.intro; refine ⟨fun hk => ?_, ?_⟩
    {
    refine w_or1 ?_
    refine t_cmp ?_
    refine k_fn F_mover (hr.mono (by decide)) ?_
    refine a_cons ?_
    refine k_callT (T := "list") T.b_list ?_
    refine a_cons ?_
    refine k_n 1 ?_
    refine a_nil ?_
    refine c_listl (xs := wV ws) (.inr (by walk_at "mm")) fun pl => ?_
    refine a_cons ?_
    refine k_callT (T := "list") T.b_list ?_
    refine a_cons ?_
    refine k_n 3 ?_
    refine a_nil ?_
    refine c_listl (xs := wV (mvs ws b)) (.inr (by walk_at "mm")) fun pk => ?_
    refine a_nil ?_
    refine use_mover (ws := ws) (os := mvs ws b) (.inr (by walk_at "mm")) (.inr (by walk_at "mm")) hrow hrow2 hlo ?_; rw [hx]
    refine k_n 4 ?_
    refine o_nes ?_
    refine ⟨_, rfl, ?_⟩
    exact ⟨rfl, rfl, by walk_at "sfx"⟩
    all_goals (try walk_at "side")
    }
    refine ⟨?_, rfl, by walk_at "sfx"⟩
    simp
  refine k_nil ?_
  obtain ⟨y, hy⟩ := mv_there (ws := mvs ws b) (os := ws) hrow2 hrow hlo.symm (rd_map_inv hb2) (mvs_back hrow)
  obtain ⟨hy1, hy2, _, hy4, hy5⟩ := mv_some hrow2 hrow hlo.symm hy
  have hyl : y.length ≤ 60 := by
    have := klt_le (hy5 (Fg.inv b) (rd_map_inv hb2) (mvs_back hrow))
    rw [inv_len] at this
    omega
  have hwy : isW y = true := isw_of hy1 hy2 hyl
  refine k_cons ?_
  refine k_set 5 ?_ sc_law_right.nd
  refine k_fn F_mover (hr.mono (by decide)) ?_
  refine a_cons ?_
  refine k_n 3 ?_
  refine a_cons ?_
  refine k_n 1 ?_
  refine a_nil ?_
  refine use_mover (ws := mvs ws b) (os := ws) (.inr (by walk_at "mm")) (.inr (by walk_at "mm")) hrow2 hrow hlo.symm ?_; rw [hy]
  show kSs _ _ (_ :: _ :: _ :: _ :: _ :: some (.str (sOf y)) :: _) _ _ _
  refine k_cons ?_
  refine k_if ?_
  refine t_pure (v := false) ?_ ⟨fun z => (nomatch z), fun _ => ?_⟩
  · skip
    refine t_w ?_
    refine w_orP ?_
    refine t_cmp ?_
    refine k_fn F_moved_row (hr.mono (by decide)) ?_
    refine a_cons ?_
    refine k_n 1 ?_
    refine a_cons ?_
    refine k_n 2 ?_
    refine a_nil ?_
    refine use_moved_row (ws := ws) (b := b) (.inr (by walk_at "mm")) ⟨hrow, hwb⟩ fun pf => ?_
    refine k_n 3 ?_
    refine o_ness (a := mvs ws b) (b := mvs ws b) hr.units (.inr (by walk_at "mm")) (.inr (by walk_at "mm")) ?_ hsm2 hsm2
    refine ⟨_, rfl, ?_⟩
    apply Exists.intro; refine ⟨fun hk => ?_, ?_⟩
    {
    refine w_orP ?_
    refine t_not ?_
    refine t_val ?_
    refine k_callB (id := "isinstance") T.b_isinstance ?_
    refine a_cons ?_
    refine k_n 5 ?_
    refine a_cons ?_
    refine k_ty (T := "str") T.b_str ?_
    refine a_nil ?_
    walk_at "c_isinstance"
    refine ⟨_, rfl, ?_⟩
    apply Exists.intro; refine ⟨fun hk => ?_, ?_⟩
    {
    refine w_or1 ?_
    refine t_cmp ?_
    refine k_fn F_moved_row (hr.mono (by decide)) ?_
    refine a_cons ?_
    refine k_n 3 ?_
    refine a_cons ?_
    refine k_n 5 ?_
    refine a_nil ?_
    refine use_moved_row (ws := mvs ws b) (b := y) (.inr (by walk_at "mm")) ⟨hrow2, hwy⟩ fun pg => ?_
    refine k_n 1 ?_
    refine o_ness (a := mvs (mvs ws b) y) (b := ws) hr.units (.inr (by walk_at "mm")) (.inr (by walk_at "mm")) ?_ (mvs_small hrow2 hy1) hsm
    refine ⟨_, rfl, ?_⟩
    exact ⟨rfl, rfl, by walk_at "sfx"⟩
    all_goals (try walk_at "side")
    }
    exact ⟨rfl, rfl, by walk_at "sfx"⟩
    all_goals (try walk_at "side")
    }
    refine ⟨?_, rfl, by walk_at "sfx"⟩
    rw [decide_eq_true hy4]
    simp
  refine k_nil ?_
  refine k_cons ?_
  refine k_set 6 ?_ sc_law_right.nd
  refine k_bin ?_
  refine k_fn F_law_mix (hr.mono (by decide)) ?_
  refine a_cons ?_
  refine k_n 0 ?_
  refine a_cons ?_
  refine k_int ?_
  refine a_nil ?_
  refine use_law_mix (by decide) fun r6 h61 h62 => ?_
  refine k_callB (id := "len") T.b_len ?_
  refine a_cons ?_
  refine k_n 1 ?_
  refine a_nil ?_
  refine c_lenl (xs := wV ws) (.inr (by walk_at "mm")) ?_
  refine o_mod ?_ (by rw [List.length_map]; omega)
  have hw : (wV ws).length = ws.length := List.length_map _
  have e1 := Int.emod_nonneg r6 (b := (((wV ws).length : Nat) : Int)) (by omega)
  have e2 := Int.emod_lt_of_pos r6 (b := (((wV ws).length : Nat) : Int)) (by omega)
  obtain ⟨k, hkk⟩ : ∃ k : Nat, r6 % (((wV ws).length : Nat) : Int) = k := ⟨(r6 % (((wV ws).length : Nat) : Int)).toNat, by omega⟩
  rw [hkk] at e1 e2 ⊢
  have hkl : k < (mvs ws b).length := by omega
  show kSs _ _ _ _ _ _
  refine k_norm (by simp only [L2.start, N_law_right, List.map_cons, List.map_nil, List.length_cons, List.length_nil, Nat.reduceAdd, Nat.reduceSub, List.replicate_succ, List.replicate_zero, List.cons_append, List.nil_append, List.set_cons_succ, List.set_cons_zero]; exact rfl) ?_
  refine k_cons ?_
  refine k_set 7 ?_ sc_law_right.nd
  refine k_callT (T := "list") T.b_list ?_
  refine a_cons ?_
  refine k_n 3 ?_
  refine a_nil ?_
  refine c_listl (xs := wV (mvs ws b)) (.inr (by walk_at "mm")) fun pb => ?_
  show kSs _ _ _ _ _ _
  refine k_norm (by simp only [L2.start, N_law_right, List.map_cons, List.map_nil, List.length_cons, List.length_nil, Nat.reduceAdd, Nat.reduceSub, List.replicate_succ, List.replicate_zero, List.cons_append, List.nil_append, List.set_cons_succ, List.set_cons_zero]; exact rfl) ?_
  obtain ⟨o0, ho0, ho0m⟩ : ∃ o0, (mvs ws b)[k]? = some o0 ∧ o0 ∈ mvs ws b := ⟨_, List.getElem?_eq_getElem hkl, List.getElem_mem hkl⟩
  have ho0l := row_let hrow2 ho0m
  have hat0 : atI (wV (mvs ws b)) ((k : Nat) : Int) = some (.str (sOf o0)) := by
    rw [atI_n, List.getElem?_map, ho0]; rfl
  refine k_cut (fun σ2 B2 L2 => ∃ e u, isW e = true ∧ σ2 = [some (.int n), some (.ref pr), some (.str (sOf b)), some (.ref po'), some (.str (sOf x)), some (.str (sOf y)), some (.int (k : Nat)), some (.ref pb), none, none, none, none, none] ∧ B2 = H ∧ L2 = u :: [(pb, .lst (wV ((mvs ws b).set k e))), (po', .lst (wV (mvs ws b))), (pr, .lst (wV ws))]) ?_ ?_
  · skip
    refine k_asg ?_
    refine k_ix ?_
    refine k_lst ?_
    refine a_cons ?_
    refine k_fn F_law_word (hr.mono (by decide)) ?_
    refine a_cons ?_
    refine k_fn F_law_mix (hr.mono (by decide)) ?_
    refine a_cons ?_
    refine k_n 0 ?_
    refine a_cons ?_
    refine k_int ?_
    refine a_nil ?_
    refine use_law_mix (by decide) fun r8 h81 h82 => ?_
    refine a_cons ?_
    refine k_s [97, 98, 99] ?_
    refine a_cons ?_
    refine k_int ?_
    refine a_nil ?_
    refine use_law_word 8 ⟨by decide, by decide, by decide, by decide⟩ fun w8 g1 g2 g3 => ?_
    refine a_cons ?_
    refine k_s [] ?_
    refine a_cons ?_
    refine k_fn F_law_back (hr.mono (by decide)) ?_
    refine a_cons ?_
    refine k_ix ?_
    refine k_n 3 ?_
    refine k_n 6 ?_
    refine i_lv (.str (sOf o0)) (xs := wV (mvs ws b)) (.inr (by walk_at "mm")) ?_ hat0
    refine a_nil ?_
    refine use_law_back ?_ ho0l.2.1 (by have := ho0l.1; omega)
    refine a_nil ?_
    refine ⟨by simp, fun pc => ?_⟩
    refine k_bin ?_
    refine k_fn F_law_mix (hr.mono (by decide)) ?_
    refine a_cons ?_
    refine k_n 0 ?_
    refine a_cons ?_
    refine k_int ?_
    refine a_nil ?_
    refine use_law_mix (by decide) fun r9 h91 h92 => ?_; have d1 := Int.emod_nonneg r9 (b := 3) (by decide); have d2 := Int.emod_lt_of_pos r9 (b := 3) (by decide); obtain ⟨e, he1, he2⟩ := pick3 (e1 := w8) (e2 := []) (e3 := Fg.inv o0) d1 d2 (isw_of g1 g2 (by omega)) (by decide) (isw_of (let_inv ho0l.2.1) (rd_map_inv ho0l.2.2) (by rw [inv_len]; exact ho0l.1))
    refine k_int ?_
    walk_at "opMod"
    refine i_lv (.str (sOf e)) (.inr (.head _)) ?_ he2
    refine g_setl ?_
    refine k_n 7 ?_
    refine k_n 6 ?_
    refine ⟨pb, wV (mvs ws b), ((k : Nat) : Int), k, _, rfl, rfl, ?_, .there .here, ?_⟩
    · rw [List.length_map]
      unfold ixN
      rw [if_pos (by omega), if_pos (by omega)]
      exact congrArg some (by omega)
    · refine ⟨e, (pc, .lst [.str (sOf w8), .str (sOf []), .str (sOf (Fg.inv o0))]), he1, rfl, rfl, ?_⟩
      unfold wV
      rw [List.map_set]
  rintro σ2 B2 L2 ⟨e, u, he, rfl, rfl, rfl⟩
  refine k_sub (L' := [(pb, .lst (wV ((mvs ws b).set k e))), (po', .lst (wV (mvs ws b))), (pr, .lst (wV ws))]) (.cons _ (.refl _)) ?_
  have hrow3 : Row ((mvs ws b).set k e) := ⟨by rw [List.length_set]; exact hrow2.1, by rw [List.length_set]; exact hrow2.2.1, fun l hl => by
    rcases List.mem_or_eq_of_mem_set hl with h | rfl
    · exact hrow2.2.2 l h
    · exact he⟩
  have hlb : ws.length = ((mvs ws b).set k e).length := by rw [List.length_set, List.length_map]
  generalize (mvs ws b).set k e = bs at hrow3 hlb ⊢
  have hsm3 := row_small hrow3
  cases hz : mvr ws bs with
  | some z =>
    obtain ⟨hz1, hz2, hz3, hz4, hz5⟩ := mv_some hrow hrow3 hlb hz
    refine k_cons ?_
    refine k_set 8 ?_ sc_law_right.nd
    refine k_fn F_mover (hr.mono (by decide)) ?_
    refine a_cons ?_
    refine k_n 1 ?_
    refine a_cons ?_
    refine k_n 7 ?_
    refine a_nil ?_
    refine use_mover (ws := ws) (os := bs) (.inr (by walk_at "mm")) (.inr (by walk_at "mm")) hrow hrow3 hlb ?_; rw [hz]
    show kSs _ _ (_ :: _ :: _ :: _ :: _ :: _ :: _ :: _ :: some (.str (sOf z)) :: _) _ _ _
    refine k_cons ?_
    refine k_if ?_
    refine t_cmp ?_
    refine k_n 8 ?_
    refine k_non ?_
    walk_at "opIsNot"
    refine ⟨_, rfl, ?_⟩
    refine ⟨fun _ => ?_, fun z => (nomatch z)⟩
    refine k_one ?_
    refine k_ret ?_
    refine k_andP ?_
    refine k_cmp ?_
    refine k_le (k_lcm_l (j := 10) (gMv z) sc_law_right.nd (blkOk_by (N := N_law_right) (sc := defScope s_law_right) (by decide +kernel)) ?_)
    refine k_n 1 ?_
    refine ⟨_, wV ws, rfl, .inr (by walk_at "mm"), by rw [List.length_map]; omega, fun z' hz' D acc sb Hb Cb clb fpb => ?_, fun D => ?_⟩
    ·
      obtain ⟨l, hlm, rfl⟩ := List.mem_map.mp hz'
      have hl := row_let hrow hlm
      refine k_fn F_law_moved (hr.mono (by decide)) ?_
      refine a_cons ?_
      refine k_n 10 ?_
      refine a_cons ?_
      refine k_n 8 ?_
      refine a_nil ?_
      refine use_law_moved ?_ ⟨hl.2.1, hz1, by have := hl.1; omega, by omega⟩
      exact ⟨rfl, rfl, rfl⟩
    refine k_n 7 ?_
    rw [gMv_wV]; refine o_eqss (a := mvs ws z) (b := bs) hr.units (.inr (by walk_at "mm")) (.inr (by walk_at "mm")) ?_ (mvs_small hrow hz1) hsm3
    refine ⟨_, rfl, ?_⟩; apply Exists.intro; refine ⟨fun hk => ?_, ?_⟩
    {
    refine k_and1 ?_
    refine k_fn F_law_least (hr.mono (by decide)) ?_
    refine a_cons ?_
    refine k_n 1 ?_
    refine a_cons ?_
    refine k_n 8 ?_
    refine a_cons ?_
    refine k_n 8 ?_
    refine a_nil ?_
    refine use_law_least (ws := ws) (.inr (by walk_at "mm")) ⟨hrow, hz1, hz2, by omega, hz1, by omega, least_ok hrow ⟨hz2, hz1⟩ ⟨hz2, hz1⟩ rfl (fun y' hy' hm' => hz5 y' hy' (hm'.trans hz4))⟩ ?_
    exact ⟨rfl, rfl, by walk_at "sfx"⟩
    all_goals (try walk_at "side")
    }
    intro H' s
    rw [decide_eq_true hz4]
    exact hq H' s.ext
  | none =>
    have hno := mv_none hrow hrow3 hlb hz
    refine k_cons ?_
    refine k_set 8 ?_ sc_law_right.nd
    refine k_fn F_mover (hr.mono (by decide)) ?_
    refine a_cons ?_
    refine k_n 1 ?_
    refine a_cons ?_
    refine k_n 7 ?_
    refine a_nil ?_
    refine use_mover (ws := ws) (os := bs) (.inr (by walk_at "mm")) (.inr (by walk_at "mm")) hrow hrow3 hlb ?_; rw [hz]
    show kSs _ _ (_ :: _ :: _ :: _ :: _ :: _ :: _ :: _ :: some V.non :: _) _ _ _
    refine k_cons ?_
    refine k_if ?_
    refine t_cmp ?_
    refine k_n 8 ?_
    refine k_non ?_
    walk_at "opIsNot"
    refine ⟨_, rfl, ?_⟩
    refine ⟨fun z => (nomatch z), fun _ => ?_⟩
    refine k_nil ?_
    refine k_cons ?_
    refine k_set 9 ?_ sc_law_right.nd
    refine k_bin ?_
    refine k_bin ?_
    refine k_lst ?_
    refine a_cons ?_
    refine k_s [] ?_
    refine a_cons ?_
    refine k_n 2 ?_
    refine a_cons ?_
    refine k_n 4 ?_
    refine a_nil ?_
    refine ⟨by simp, fun p1 => ?_⟩
    refine k_callT (T := "list") T.b_list ?_
    refine a_cons ?_
    refine k_s [97, 65, 98, 66, 99, 67] ?_
    refine a_nil ?_
    refine c_lists (fun p2 => ?_) (by decide)
    refine o_catl (.inr (by walk_at "mm")) (.inr (by walk_at "mm")) (by simp) fun p3 => ?_
    refine k_le (k_lcv_r1 (j := 11) (fun i acc B' L' => B' = B2 ∧ L' = [(p3, .lst (wV ([[], b, x] ++ [97, 65, 98, 66, 99, 67].map fun c => [c]))), (p2, .lst (wV ([97, 65, 98, 66, 99, 67].map fun c => [c]))), (p1, .lst (wV [[], b, x])), (pb, .lst (wV bs)), (po', .lst (wV (mvs ws b))), (pr, .lst (wV ws))] ∧ ∃ ts, acc = wV ts ∧ ts.length = i ∧ ∀ l ∈ ts, isW l = true) sc_law_right.nd (blkOk_by (N := N_law_right) (sc := defScope s_law_right) (by decide +kernel)) T.b_range ?_)
    refine k_int ?_
    refine ⟨8, rfl, by omega, ⟨rfl, rfl, [], rfl, rfl, fun _ z => (by cases z)⟩, ?_, ?_⟩
    ·
      rintro i acc B L hi ⟨rfl, rfl, ts, rfl, hti, htl⟩
      have hi8 : i < 8 := by omega
      refine ⟨by rw [List.length_map]; exact hti, fun D sb Hb Cb clb fpb => ?_⟩
      refine k_fn F_law_word (hr.mono (by decide)) ?_
      refine a_cons ?_
      refine k_fn F_law_mix (hr.mono (by decide)) ?_
      refine a_cons ?_
      refine k_n 0 ?_
      refine a_cons ?_
      refine k_bin ?_
      refine k_int ?_
      refine k_n 11 ?_
      walk_at "opAdd"
      refine a_nil ?_
      refine use_law_mix (by omega) fun r2 h21 h22 => ?_
      refine a_cons ?_
      refine k_s [97, 98] ?_
      refine a_cons ?_
      refine k_int ?_
      refine a_nil ?_
      refine use_law_word 3 ⟨by decide, by decide, by decide, by decide⟩ fun wd hw1 hw2 hw3 => ?_
      refine ⟨_, rfl, rfl, rfl, ts ++ [wd], ?_, ?_, ?_⟩
      ·
        unfold wV; rw [List.map_append]; rfl
      ·
        rw [List.length_append, hti]; rfl
      ·
        intro l hl
        rcases List.mem_append.mp hl with hl | hl
        · exact htl l hl
        · rw [List.mem_singleton.mp hl]; exact isw_of hw1 hw2 (by omega)
    rintro acc B L D ⟨rfl, rfl, ts, rfl, hti, htl⟩
    skip
    have hts : ts.length = 8 := by omega
    refine o_catl (.inr (by walk_at "mm")) (.inr (by walk_at "mm")) (by simp; omega) fun p5 => ?_
    have ecat : wV ([[], b, x] ++ [97, 65, 98, 66, 99, 67].map fun c => [c]) ++ wV ts = wV (([[], b, x] ++ [97, 65, 98, 66, 99, 67].map fun c => [c]) ++ ts) := by unfold wV; rw [← List.map_append]
    rw [ecat]
    have hall : ∀ l ∈ ([[], b, x] ++ [97, 65, 98, 66, 99, 67].map fun c => [c]) ++ ts, Let l ∧ Wd l ∧ l.length ≤ 60200 := fun l hl => by
      rcases List.mem_append.mp hl with h | h
      · rcases List.mem_append.mp h with h | h
        · simp only [List.mem_cons, List.not_mem_nil, or_false] at h
          rcases h with rfl | rfl | rfl
          · exact ⟨fun _ z => (nomatch z), trivial, by simp⟩
          · exact ⟨hb1, hb2, by omega⟩
          · exact ⟨hx1, hx2, hx3⟩
        · obtain ⟨c, hc, rfl⟩ := List.mem_map.mp h
          refine ⟨fun d hd => ?_, trivial, by simp⟩
          rw [List.mem_singleton.mp hd]
          have : ∀ c ∈ [97, 65, 98, 66, 99, 67], c ∈ ordL := by decide
          exact this c hc
      · have := (isW_iff l).mp (htl l h)
        exact ⟨this.2.1, this.2.2, by omega⟩
    have hlt : (([[], b, x] ++ [97, 65, 98, 66, 99, 67].map fun c => [c]) ++ ts).length ≤ 100 := by simp; omega
    generalize (([[], b, x] ++ [97, 65, 98, 66, 99, 67].map fun c => [c]) ++ ts) = tt at hall hlt ⊢
    show kSs _ _ _ _ _ _
    refine k_sub (L' := [(p5, .lst (wV tt)), (pb, .lst (wV bs)), (pr, .lst (wV ws))]) (.cons₂ _ (.cons _ (.cons _ (.cons _ (.cons _ (.cons₂ _ (.cons _ (.cons₂ _ .slnil)))))))) ?_
    refine k_norm (by simp only [L2.start, N_law_right, List.map_cons, List.map_nil, List.length_cons, List.length_nil, Nat.reduceAdd, Nat.reduceSub, List.replicate_succ, List.replicate_zero, List.cons_append, List.nil_append, List.set_cons_succ, List.set_cons_zero]; exact rfl) ?_
    have hfe : (((wV tt).filter (fBt ws bs)).map fun v => v) = [] := by
      rw [List.map_id', List.filter_eq_nil_iff]
      intro z hz'
      obtain ⟨l, hlm, rfl⟩ := List.mem_map.mp hz'
      show ¬ (decide (mvs ws l = bs) = true)
      rw [decide_eq_false (hno l (hall l hlm).2.1)]; decide
    refine k_cons ?_
    refine k_if ?_
    refine t_cmp ?_
    refine k_le (k_lcf_l (j := 10) (fBt ws bs) (fun v => v) sc_law_right.nd (blkOk_by (N := N_law_right) (sc := defScope s_law_right) (by decide +kernel)) ?_)
    refine k_n 9 ?_
    refine ⟨_, wV tt, rfl, .inr (by walk_at "mm"), by rw [List.length_map]; omega, fun z hz' D acc sb Hb Cb clb fpb => ?_, fun z hz' hfz D acc sb Hb Cb clb fpb => ?_, fun D => ?_⟩
    ·
      obtain ⟨l, hlm, rfl⟩ := List.mem_map.mp hz'
      have hl := hall l hlm
      refine t_pure (v := decide (mvs ws l = bs)) ?_ ⟨rfl, rfl, rfl⟩
      refine t_cmp ?_
      refine k_le (k_lcm_l (j := 12) (gMv l) sc_law_right.nd (blkOk_by (N := N_law_right) (by rfl)) ?_)
      refine k_n 1 ?_
      refine ⟨_, wV ws, rfl, .inr (by walk_at "mm"), by rw [List.length_map]; omega, fun z2 hz2 D2 acc2 sb2 Hb2 Cb2 clb2 fpb2 => ?_, fun D2 => ?_⟩
      ·
        obtain ⟨l2, hlm2, rfl⟩ := List.mem_map.mp hz2
        have hl2 := row_let hrow hlm2
        refine k_fn F_law_moved (hr.mono (by decide)) ?_
        refine a_cons ?_
        refine k_n 12 ?_
        refine a_cons ?_
        refine k_n 10 ?_
        refine a_nil ?_
        refine use_law_moved ?_ ⟨hl2.2.1, hl.1, by have := hl2.1; omega, by have := hl.2.2; omega⟩
        exact ⟨rfl, rfl, rfl⟩
      refine k_n 7 ?_
      rw [gMv_wV]; refine o_eqss (a := mvs ws l) (b := bs) hr.units (.inr (by walk_at "mm")) (.inr (by walk_at "mm")) ?_ (mvs_small hrow hl.1) hsm3
      refine ⟨_, rfl, ?_⟩
      exact ⟨rfl, rfl, by walk_at "sfx"⟩
    ·
      refine k_n 10 ?_
      exact ⟨rfl, rfl, rfl⟩
    refine k_lst ?_
    refine a_nil ?_
    refine ⟨by first | decide | simp, fun p => ?_⟩
    rw [hfe]; refine o_ness (a := []) (b := []) hr.units (.inr (by walk_at "mm")) (.inr (by walk_at "mm")) ?_ (by simp) (by simp)
    refine ⟨_, rfl, ?_⟩
    refine ⟨fun hk => (by simp at hk), fun _ => ?_⟩
    refine k_nil ?_
    refine k_one ?_
    refine k_ret ?_
    refine k_or ?_
    refine k_cmp ?_
    refine k_callB (id := "len") T.b_len ?_
    refine a_cons ?_
    refine k_n 1 ?_
    refine a_nil ?_
    refine c_lenl (xs := wV ws) (.inr (by walk_at "mm")) ?_
    refine k_int ?_
    walk_at "opGt"
    refine ⟨_, rfl, fun hk1 => ?_, fun _ H' s => hq H' s.ext⟩
    have hone : ws.length = 1 := by have := of_decide_eq_false hk1; omega
    obtain ⟨w1, rfl⟩ : ∃ w, ws = [w] := by
      match ws, hone with
      | [w], _ => exact ⟨w, rfl⟩
    obtain ⟨o1, rfl⟩ : ∃ o, bs = [o] := by
      have : bs.length = 1 := by rw [← hlb]; rfl
      match bs, this with
      | [o], _ => exact ⟨o, rfl⟩
    have hw1 := row_let hrow (List.mem_cons_self (a := w1) (l := []))
    have ho1 := row_let hrow3 (List.mem_cons_self (a := o1) (l := []))
    have hrot : ¬ Mv.Rot (Rt.core w1) (Rt.core o1) := fun h => by
      obtain ⟨y', hy', hm'⟩ := rot_mover ho1.2.2 h
      exact hno y' hy' (by show [mvd w1 y'] = [o1]; rw [hm'])
    have hnn : ¬ (Rt.core w1 = [] ∧ Rt.core o1 = []) := fun h => by
      have z1 : w1 = [] := Classical.byContradiction fun hn => by
        have := Rt.core_ne hw1.2.2 hn; rw [h.1] at this; simp at this
      have z2 : o1 = [] := Classical.byContradiction fun hn => by
        have := Rt.core_ne ho1.2.2 hn; rw [h.2] at this; simp at this
      refine hno [] trivial ?_
      rw [z1, z2]
      show [mvd [] []] = [[]]
      exact congrArg (fun q => [q]) (Mv.mvd_nil [])
    refine k_or1 ?_
    refine k_not ?_
    refine k_fn F_law_alike (hr.mono (by decide)) ?_
    refine a_cons ?_
    refine k_ix ?_
    refine k_n 1 ?_
    refine k_int ?_
    refine i_lv (.str (sOf w1)) (xs := wV [w1]) (.inr (by walk_at "mm")) ?_ (atI_n (l := wV [w1]) (j := 0))
    refine a_cons ?_
    refine k_ix ?_
    refine k_n 7 ?_
    refine k_int ?_
    refine i_lv (.str (sOf o1)) (xs := wV [o1]) (.inr (by walk_at "mm")) ?_ (atI_n (l := wV [o1]) (j := 0))
    refine a_nil ?_
    refine use_law_alike ?_ ⟨hw1.2.1, ho1.2.1, by have := hw1.1; omega, by have := ho1.1; omega, hnn, hrot⟩
    refine ⟨_, rfl, ?_⟩
    exact fun H' s => hq H' s.ext
/-! ### far movers, plain -/
def farL : List (List Nat) := [[97], [97, 98], [97, 66], [66], [97, 98, 65], [98, 97, 99]]
def ffst (b : List Nat) (t : Nat) : List Nat := if t = 0 then b else if t = 1 then Fg.inv b else rep b 2
def farF (b : List Nat) (t : Nat) : List Nat := if b = [97, 98, 65] then b else ffst b t
theorem far_ok : ∀ b ∈ farL, ∀ t, t < 3 → (isW (farF b t) = true ∧ farF b t ≠ [] ∧ isW b = true ∧ 1 ≤ b.length ∧ b.length ≤ 3) ∧ red (farF b t ++ b) = red (b ++ farF b t) ∧ red (farF b t ++ [100]) ≠ red ([100] ++ farF b t) := by decide +kernel
theorem far_pick {r : Int} (h0 : 0 ≤ r) (h1 : r < 6) : ∃ b, b ∈ farL ∧ atI (wV farL) r = some (.str (sOf b)) := by
  obtain ⟨k, rfl⟩ : ∃ k : Nat, r = k := ⟨r.toNat, by omega⟩
  have hk : k < farL.length := by show k < 6; omega
  refine ⟨farL[k], List.getElem_mem hk, ?_⟩
  rw [atI_n, List.getElem?_map, List.getElem?_eq_getElem hk]; rfl
theorem cm_conj {f g d : List Nat} (h : Cm f g) : Cm f (g ++ d ++ Fg.inv g) → Cm f d := fun h2 => by
  have hi : Rt.G (f ++ Fg.inv g) (Fg.inv g ++ f) := Rt.com_inv h
  unfold Cm at h h2 ⊢
  have e1 : Rt.G (f ++ d) (Fg.inv g ++ (f ++ (g ++ d ++ Fg.inv g)) ++ g) := by
    have a1 : Rt.G (Fg.inv g ++ (f ++ (g ++ d ++ Fg.inv g)) ++ g) (Fg.inv g ++ f ++ g ++ d) := by
      simp only [List.append_assoc]
      refine Rt.g_midl (Rt.g_midl (Rt.g_midl ?_))
      have := Rt.g_midl (a := d) (Rt.g_inv_l g)
      rw [List.append_nil] at this; exact this
    refine (a1.trans (Rt.g_midr (Rt.g_conj h))).symm
  have e2 : Rt.G (d ++ f) (Fg.inv g ++ ((g ++ d ++ Fg.inv g) ++ f) ++ g) := by
    have a1 : Rt.G (Fg.inv g ++ ((g ++ d ++ Fg.inv g) ++ f) ++ g) (d ++ (Fg.inv g ++ f ++ g)) := by
      simp only [List.append_assoc]
      exact Mv.g_clb g _
    exact (a1.trans (Rt.g_midl (Rt.g_conj h))).symm
  exact e1.trans ((Rt.g_midr (Rt.g_midl h2)).trans e2.symm)
theorem cm_of {a b c : List Nat} (h : Rt.G b c) (k : Cm a c) : Cm a b := (Rt.g_midl h).trans (k.trans (Rt.g_midr h.symm))
theorem far_mover {b f : List Nat} (i j : Nat) (hf : isW f = true) (hfn : f ≠ []) (hb : isW b = true) (h1 : Cm f b) (hd : ¬ Cm f [100]) (hi : i * b.length ≤ 28) (hj : j * b.length ≤ 28) :
    mvr [f, red (red (rep b i) ++ [100] ++ Fg.inv (red (rep b i)))] [f, red (Fg.inv (red (rep b j)) ++ [100] ++ red (rep b j))] = some (red (red (rep b i) ++ red (rep b j))) ∧
    mvr [f, red (Fg.inv (red (rep b j)) ++ [100] ++ red (rep b j))] [f, red (red (rep b i) ++ [100] ++ Fg.inv (red (rep b i)))] = some (Fg.inv (red (red (rep b i) ++ red (rep b j)))) ∧
    Row [f, red (red (rep b i) ++ [100] ++ Fg.inv (red (rep b i)))] ∧ Row [f, red (Fg.inv (red (rep b j)) ++ [100] ++ red (rep b j))] := by
  have hff := (isW_iff f).mp hf
  have hbb := (isW_iff b).mp hb
  have l100 : Let [100] := by decide
  have lA : Let (red (rep b i)) := let_red (let_rep hbb.2.1 i)
  have lB : Let (red (rep b j)) := let_red (let_rep hbb.2.1 j)
  have nA : (red (rep b i)).length ≤ 28 := Nat.le_trans (red_len _) (by rw [rep_len]; exact hi)
  have nB : (red (rep b j)).length ≤ 28 := Nat.le_trans (red_len _) (by rw [rep_len]; exact hj)
  have cA : Cm f (red (rep b i)) := cm_of (Rt.g_red _) (Rt.com_rep h1 i)
  have cB : Cm f (red (rep b j)) := cm_of (Rt.g_red _) (Rt.com_rep h1 j)
  generalize red (rep b i) = A at lA nA cA ⊢
  generalize red (rep b j) = B at lB nB cB ⊢
  have hw2 : isW (red (A ++ [100] ++ Fg.inv A)) = true := isw_of (let_red (let_app (let_app lA l100) (let_inv lA))) (rd_red _) (Nat.le_trans (red_len _) (by rw [List.length_append, List.length_append, inv_len]; simp only [List.length_cons, List.length_nil]; omega))
  have ho2 : isW (red (Fg.inv B ++ [100] ++ B)) = true := isw_of (let_red (let_app (let_app (let_inv lB) l100) lB)) (rd_red _) (Nat.le_trans (red_len _) (by rw [List.length_append, List.length_append, inv_len]; simp only [List.length_cons, List.length_nil]; omega))
  have hR1 : Row [f, red (A ++ [100] ++ Fg.inv A)] := ⟨by simp, by simp, fun l hl => by
    rcases List.mem_cons.mp hl with rfl | hl
    · exact hf
    · rw [List.mem_singleton.mp hl]; exact hw2⟩
  have hR2 : Row [f, red (Fg.inv B ++ [100] ++ B)] := ⟨by simp, by simp, fun l hl => by
    rcases List.mem_cons.mp hl with rfl | hl
    · exact hf
    · rw [List.mem_singleton.mp hl]; exact ho2⟩
  have hD : Rt.G (red (A ++ B)) (A ++ B) := Rt.g_red _
  have lD : Let (red (A ++ B)) := let_red (let_app lA lB)
  have cD : Cm f (red (A ++ B)) := by
    refine cm_of hD ?_
    unfold Cm at cA cB ⊢
    rw [← List.append_assoc]
    refine (Rt.g_midr cA).trans ?_
    rw [List.append_assoc, List.append_assoc]
    exact Rt.g_midl cB
  have m1 : mvd f (red (A ++ B)) = f := by
    have : Rt.G (Fg.inv (red (A ++ B)) ++ f ++ red (A ++ B)) f := Rt.g_conj cD
    show red _ = f
    have h2 : red (Fg.inv (red (A ++ B)) ++ f ++ red (A ++ B)) = red f := this
    rw [h2, red_of_rd hff.2.2]
  have m2 : mvd (red (A ++ [100] ++ Fg.inv A)) (red (A ++ B)) = red (Fg.inv B ++ [100] ++ B) := by
    show red (Fg.inv (red (A ++ B)) ++ red (A ++ [100] ++ Fg.inv A) ++ red (A ++ B)) = red (Fg.inv B ++ [100] ++ B)
    refine ((Rt.g_app (Rt.g_app (Mv.g_inv hD) (Rt.g_red _)) hD).trans ?_ : Rt.G _ _)
    rw [inv_app]
    simp only [List.append_assoc]
    refine (Rt.g_midl (Mv.g_clb A _)).trans ?_
    exact Rt.g_midl (Rt.g_midl (Mv.g_clb A B))
  have hmv : mvs [f, red (A ++ [100] ++ Fg.inv A)] (red (A ++ B)) = [f, red (Fg.inv B ++ [100] ++ B)] := by
    show [mvd f _, mvd _ _] = _
    rw [m1, m2]
  have hnc : ¬ Cm f (red (A ++ [100] ++ Fg.inv A)) := fun h => hd (cm_conj cA (cm_of (Rt.g_red _).symm h))
  have uq : ∀ x, Wd x → Let x → mvs [f, red (A ++ [100] ++ Fg.inv A)] x = [f, red (Fg.inv B ++ [100] ++ B)] → x = red (A ++ B) := fun x hx hxl hm => by
    have e := hm.trans hmv.symm
    have e1 : mvd f x = mvd f (red (A ++ B)) := (List.cons.inj e).1
    have e2 : mvd (red (A ++ [100] ++ Fg.inv A)) x = mvd (red (A ++ [100] ++ Fg.inv A)) (red (A ++ B)) := (List.cons.inj (List.cons.inj e).2).1
    exact mv_uniq hff.2.2 (rd_red _) hx (rd_red _) hxl lD e1 e2 hnc
  refine ⟨?_, ?_, hR1, hR2⟩
  · obtain ⟨x, hx⟩ := mv_there hR1 hR2 rfl (rd_red _) hmv
    obtain ⟨x1, x2, _, x4, _⟩ := mv_some hR1 hR2 rfl hx
    rw [hx, uq x x2 x1 x4]
  · have hmi : mvs [f, red (Fg.inv B ++ [100] ++ B)] (Fg.inv (red (A ++ B))) = [f, red (A ++ [100] ++ Fg.inv A)] := by rw [← hmv]; exact mvs_back hR1
    obtain ⟨x, hx⟩ := mv_there hR2 hR1 rfl (rd_map_inv (rd_red _)) hmi
    obtain ⟨x1, x2, _, x4, _⟩ := mv_some hR2 hR1 rfl hx
    have h3 : mvs [f, red (A ++ [100] ++ Fg.inv A)] (Fg.inv x) = [f, red (Fg.inv B ++ [100] ++ B)] := by rw [← x4]; exact mvs_back hR2
    have h4 := uq (Fg.inv x) (rd_map_inv x2) (let_inv x1) h3
    rw [hx, ← h4, inv_inv]
abbrev s_law_far : Stmt := top 43
abbrev N_law_far : List Str := ["_law_cell", "_law_base", "_law_most", "_law_first", "_law_ahead", "_law_behind", "_law_row_here", "_law_gone", "_law_due", "_law_one", "_law_other", "_law_turn"]
theorem sc_law_far : FnScope N_law_far ["_law_cell"] (defScope s_law_far) := ⟨rfl, rfl, rfl, by decide +kernel, rfl, by decide +kernel, by decide +kernel⟩
def sp_law_far : Sp := fun vs H Q _ => ∃ (n : Int), vs = [.int n] ∧ ∀ H', (∀ b o, H b = some o → H' b = some o) → Q (.bl true) H'
theorem use_law_far {B : Hp} {L : HL} {Q : KQ} {E : XK} {n : Int} (q : Q (.bl true) B L) : ∀ H, Sat B L H → sp_law_far [.int n] H (up Q) E := fun H s => ⟨n, rfl, fun H' e => s.upq e q⟩
theorem ok_law_far {f C : Addr} {fd : FuncData} (F : Fun K "_law_far" "_law_far" s_law_far f fd) (hm : mg "_law_far" = some (.ref f)) (T : Tx mg) (F_law_mix : Fn P w K mg base 1 "_law_mix" sp_law_mix) (F_law_draws : Fn P w K mg base 1 "_law_draws" (sp_law_draws K)) (F_law_back : Fn P w K mg base 1 "_law_back" sp_law_back) (F_law_free : Fn P w K mg base 2 "_law_free" sp_law_free) (F_mover : Fn P w K mg base 6 "mover" (sp_mover K C)) : Fn P w K mg base 7 "_law_far" sp_law_far := by
  refine fn_ok F sc_law_far hm (fun _ _ _ _ _ _ us hl => match us, hl with | [_], _ => rfl) ?_ fun cdv A outer s H vs Q E hr h tk po => ?_
  · rintro vs H Q E ⟨_, rfl, _⟩; rfl
  obtain ⟨n, rfl, hq⟩ := h
  refine ⟨H, [], Sat.whole, ?_⟩
  refine k_cons ?_
  refine k_set 1 ?_ sc_law_far.nd
  refine k_ix ?_
  refine k_lst ?_
  refine a_cons ?_
  refine k_s [97] ?_
  refine a_cons ?_
  refine k_s [97, 98] ?_
  refine a_cons ?_
  refine k_s [97, 66] ?_
  refine a_cons ?_
  refine k_s [66] ?_
  refine a_cons ?_
  refine k_s [97, 98, 65] ?_
  refine a_cons ?_
  refine k_s [98, 97, 99] ?_
  refine a_nil ?_
  refine ⟨by simp, fun p0 => ?_⟩
  refine k_bin ?_
  refine k_fn F_law_mix (hr.mono (by decide)) ?_
  refine a_cons ?_
  refine k_n 0 ?_
  refine a_cons ?_
  refine k_int ?_
  refine a_nil ?_
  refine use_law_mix (by decide) fun r1 h11 h12 => ?_; have d1 := Int.emod_nonneg r1 (b := 6) (by decide); have d2 := Int.emod_lt_of_pos r1 (b := 6) (by decide); obtain ⟨bs, hbm, hba⟩ := far_pick d1 d2
  refine k_int ?_
  walk_at "opMod"
  refine i_lv (.str (sOf bs)) (xs := wV farL) (.inr (by walk_at "mm")) ?_ hba
  have hfo := far_ok bs hbm
  obtain ⟨_, _, hbw, hbl1, hbl3⟩ := (hfo 0 (by decide)).1
  have hbb := (isW_iff bs).mp hbw
  show kSs _ _ _ _ _ _
  refine k_sub (L' := []) (List.nil_sublist _) ?_
  refine k_norm (by simp only [L2.start, N_law_far, List.map_cons, List.map_nil, List.length_cons, List.length_nil, Nat.reduceAdd, Nat.reduceSub, List.replicate_succ, List.replicate_zero, List.cons_append, List.nil_append, List.set_cons_succ, List.set_cons_zero]; exact rfl) ?_
  obtain ⟨dv, hd1, hd2, hdv⟩ : ∃ dv : Nat, dv ≤ 28 ∧ dv * bs.length ≤ 28 ∧ (28 : Int) / ((bs.length : Nat) : Int) = ((dv : Nat) : Int) := ⟨28 / bs.length, Nat.div_le_self _ _, Nat.div_mul_le_self _ _, rfl⟩
  refine k_cons ?_
  refine k_set 2 ?_ sc_law_far.nd
  refine k_bin ?_
  refine k_int ?_
  refine k_callB (id := "len") T.b_len ?_
  refine a_cons ?_
  refine k_n 1 ?_
  refine a_nil ?_
  refine c_lens ?_ (by omega)
  refine o_fdiv ?_ (by omega)
  rw [hdv]
  show kSs _ _ _ _ _ _
  refine k_norm (by simp only [L2.start, N_law_far, List.map_cons, List.map_nil, List.length_cons, List.length_nil, Nat.reduceAdd, Nat.reduceSub, List.replicate_succ, List.replicate_zero, List.cons_append, List.nil_append, List.set_cons_succ, List.set_cons_zero]; exact rfl) ?_
  refine k_cons ?_
  refine k_asg ?_
  refine k_fn F_law_draws (hr.mono (by decide)) ?_
  refine a_cons ?_
  refine k_fn F_law_mix (hr.mono (by decide)) ?_
  refine a_cons ?_
  refine k_n 0 ?_
  refine a_cons ?_
  refine k_int ?_
  refine a_nil ?_
  refine use_law_mix (by decide) fun r2 h21 h22 => ?_
  refine a_cons ?_
  refine k_lst ?_
  refine a_cons ?_
  refine k_bin ?_
  refine k_n 2 ?_
  refine k_int ?_
  walk_at "opAdd"
  refine a_cons ?_
  refine k_bin ?_
  refine k_n 2 ?_
  refine k_int ?_
  walk_at "opAdd"
  refine a_cons ?_
  refine k_int ?_
  refine a_nil ?_
  refine ⟨by simp, fun p1 => ?_⟩
  refine a_nil ?_
  refine use_law_draws (ns := [((dv : Nat) : Int) + 1, ((dv : Nat) : Int) + 1, 3]) (.inr (.head _)) (by simp) (by intro s hs; simp only [List.mem_cons, List.not_mem_nil, or_false] at hs; rcases hs with rfl | rfl | rfl <;> omega) fun pd => ?_
  refine g_lst (xs := (drw r2 [((dv : Nat) : Int) + 1, ((dv : Nat) : Int) + 1, 3]).map V.int) (n := 3) (.inr (.head _)) rfl ?_
  refine gs_cons ?_
  refine g_name 9 ?_ sc_law_far.nd
  refine gs_cons ?_
  refine g_name 10 ?_ sc_law_far.nd
  refine gs_cons ?_
  refine g_name 11 ?_ sc_law_far.nd
  refine gs_nil ?_
  have a1 := Int.emod_nonneg r2 (b := ((dv : Nat) : Int) + 1) (by omega)
  have a2 := Int.emod_lt_of_pos r2 (b := ((dv : Nat) : Int) + 1) (by omega)
  have a3 := Int.emod_nonneg (r2 / (((dv : Nat) : Int) + 1)) (b := ((dv : Nat) : Int) + 1) (by omega)
  have a4 := Int.emod_lt_of_pos (r2 / (((dv : Nat) : Int) + 1)) (b := ((dv : Nat) : Int) + 1) (by omega)
  have a5 := Int.emod_nonneg (r2 / (((dv : Nat) : Int) + 1) / (((dv : Nat) : Int) + 1)) (b := 3) (by decide)
  have a6 := Int.emod_lt_of_pos (r2 / (((dv : Nat) : Int) + 1) / (((dv : Nat) : Int) + 1)) (b := 3) (by decide)
  obtain ⟨i, hi⟩ : ∃ k : Nat, r2 % (((dv : Nat) : Int) + 1) = k := ⟨(r2 % (((dv : Nat) : Int) + 1)).toNat, by omega⟩
  obtain ⟨j, hj⟩ : ∃ k : Nat, r2 / (((dv : Nat) : Int) + 1) % (((dv : Nat) : Int) + 1) = k := ⟨(r2 / (((dv : Nat) : Int) + 1) % (((dv : Nat) : Int) + 1)).toNat, by omega⟩
  obtain ⟨t, ht⟩ : ∃ k : Nat, r2 / (((dv : Nat) : Int) + 1) / (((dv : Nat) : Int) + 1) % 3 = k := ⟨(r2 / (((dv : Nat) : Int) + 1) / (((dv : Nat) : Int) + 1) % 3).toNat, by omega⟩
  rw [hi] at a1 a2 ⊢
  rw [hj] at a3 a4 ⊢
  rw [ht] at a5 a6 ⊢
  have ht3 : t < 3 := by omega
  have hil : i * bs.length ≤ 28 := Nat.le_trans (Nat.mul_le_mul_right _ (by omega)) hd2
  have hjl : j * bs.length ≤ 28 := Nat.le_trans (Nat.mul_le_mul_right _ (by omega)) hd2
  have hi28 : i ≤ 28 := by omega
  have hj28 : j ≤ 28 := by omega
  show kSs _ _ _ _ _ _
  refine k_sub (L' := []) (List.nil_sublist _) ?_
  refine k_norm (by simp only [L2.start, N_law_far, List.map_cons, List.map_nil, List.length_cons, List.length_nil, Nat.reduceAdd, Nat.reduceSub, List.replicate_succ, List.replicate_zero, List.cons_append, List.nil_append, List.set_cons_succ, List.set_cons_zero]; exact rfl) ?_
  have hpk : atI (wV [bs, Fg.inv bs, rep bs 2]) ((t : Nat) : Int) = some (.str (sOf (ffst bs t))) := by
    rw [atI_n]
    have : t = 0 ∨ t = 1 ∨ t = 2 := by omega
    rcases this with rfl | rfl | rfl <;> rfl
  refine k_cons ?_
  refine k_set 3 ?_ sc_law_far.nd
  refine k_ifeP ?_
  refine t_cmp ?_
  refine k_n 1 ?_
  refine k_s [97, 98, 65] ?_
  walk_at "opNotEq"
  refine ⟨_, rfl, ?_⟩
  apply Exists.intro; apply Exists.intro; refine ⟨fun hk => ?_, fun hk => ?_, ?_⟩
  {
  refine k_ix ?_
  refine k_lst ?_
  refine a_cons ?_
  refine k_n 1 ?_
  refine a_cons ?_
  refine k_fn F_law_back (hr.mono (by decide)) ?_
  refine a_cons ?_
  refine k_n 1 ?_
  refine a_nil ?_
  refine use_law_back ?_ hbb.2.1 (by omega)
  refine a_cons ?_
  refine k_bin ?_
  refine k_n 1 ?_
  refine k_int ?_
  refine o_muls (n := 2) ?_ (by omega) (by decide)
  refine a_nil ?_
  refine ⟨by simp, fun p2 => ?_⟩
  refine k_n 11 ?_
  refine i_lv (.str (sOf (ffst bs t))) (xs := wV [bs, Fg.inv bs, rep bs 2]) (.inr (by walk_at "mm")) ?_ hpk
  exact ⟨rfl, rfl, by walk_at "sfx"⟩
  all_goals (try walk_at "side")
  }
  {
  refine k_n 1 ?_
  exact ⟨rfl, rfl, by walk_at "sfx"⟩
  all_goals (try walk_at "side")
  }
  have hfe : (if (!decide (bs = [97, 98, 65])) = true then V.str (sOf (ffst bs t)) else V.str (sOf bs)) = .str (sOf (farF bs t)) := by
    unfold farF
    by_cases h : bs = [97, 98, 65]
    · rw [if_pos h, decide_eq_true h]; rfl
    · rw [if_neg h, decide_eq_false h]; rfl
  rw [hfe]
  obtain ⟨⟨hf1, hf2, _⟩, hf3, hf4⟩ := hfo t ht3
  have hff := (isW_iff _).mp hf1
  have hfm := far_mover (b := bs) (f := farF bs t) i j hf1 hf2 hbw hf3 (fun z => hf4 z) hil hjl
  generalize farF bs t = ff at hff hfm ⊢
  show kSs _ _ _ _ _ _
  refine k_norm (by simp only [L2.start, N_law_far, List.map_cons, List.map_nil, List.length_cons, List.length_nil, Nat.reduceAdd, Nat.reduceSub, List.replicate_succ, List.replicate_zero, List.cons_append, List.nil_append, List.set_cons_succ, List.set_cons_zero]; exact rfl) ?_
  refine k_cons ?_
  refine k_set 4 ?_ sc_law_far.nd
  refine k_fn F_law_free (hr.mono (by decide)) ?_
  refine a_cons ?_
  refine k_bin ?_
  refine k_n 1 ?_
  refine k_n 9 ?_
  refine o_muls (n := i) ?_ (by rw [Nat.mul_comm]; omega) (by omega)
  refine a_nil ?_
  refine use_law_free ?_ ⟨let_rep hbb.2.1 _, by rw [rep_len]; omega⟩
  show kSs _ _ _ _ _ _
  refine k_norm (by simp only [L2.start, N_law_far, List.map_cons, List.map_nil, List.length_cons, List.length_nil, Nat.reduceAdd, Nat.reduceSub, List.replicate_succ, List.replicate_zero, List.cons_append, List.nil_append, List.set_cons_succ, List.set_cons_zero]; exact rfl) ?_
  refine k_cons ?_
  refine k_set 5 ?_ sc_law_far.nd
  refine k_fn F_law_free (hr.mono (by decide)) ?_
  refine a_cons ?_
  refine k_bin ?_
  refine k_n 1 ?_
  refine k_n 10 ?_
  refine o_muls (n := j) ?_ (by rw [Nat.mul_comm]; omega) (by omega)
  refine a_nil ?_
  refine use_law_free ?_ ⟨let_rep hbb.2.1 _, by rw [rep_len]; omega⟩
  have lA : Let (red (rep bs i)) := let_red (let_rep hbb.2.1 i)
  have lB : Let (red (rep bs j)) := let_red (let_rep hbb.2.1 j)
  have nA : (red (rep bs i)).length ≤ 28 := Nat.le_trans (red_len _) (by rw [rep_len]; exact hil)
  have nB : (red (rep bs j)).length ≤ 28 := Nat.le_trans (red_len _) (by rw [rep_len]; exact hjl)
  have l100 : Let [100] := by decide
  generalize red (rep bs i) = A at lA nA hfm ⊢
  generalize red (rep bs j) = Bh at lB nB hfm ⊢
  have n100 : [100].length = 1 := rfl
  show kSs _ _ _ _ _ _
  refine k_norm (by simp only [L2.start, N_law_far, List.map_cons, List.map_nil, List.length_cons, List.length_nil, Nat.reduceAdd, Nat.reduceSub, List.replicate_succ, List.replicate_zero, List.cons_append, List.nil_append, List.set_cons_succ, List.set_cons_zero]; exact rfl) ?_
  refine k_cons ?_
  refine k_set 6 ?_ sc_law_far.nd
  refine k_lst ?_
  refine a_cons ?_
  refine k_n 3 ?_
  refine a_cons ?_
  refine k_fn F_law_free (hr.mono (by decide)) ?_
  refine a_cons ?_
  refine k_bin ?_
  refine k_bin ?_
  refine k_n 4 ?_
  refine k_s [100] ?_
  refine o_adds ?_ (by omega)
  refine k_fn F_law_back (hr.mono (by decide)) ?_
  refine a_cons ?_
  refine k_n 4 ?_
  refine a_nil ?_
  refine use_law_back ?_ lA (by omega)
  refine o_adds ?_ (by rw [List.length_append, inv_len]; omega)
  refine a_nil ?_
  refine use_law_free ?_ ⟨let_app (let_app lA l100) (let_inv lA), by rw [List.length_append, List.length_append, inv_len]; omega⟩
  refine a_nil ?_
  refine ⟨by simp, fun p3 => ?_⟩
  show kSs _ _ _ _ _ _
  refine k_norm (by simp only [L2.start, N_law_far, List.map_cons, List.map_nil, List.length_cons, List.length_nil, Nat.reduceAdd, Nat.reduceSub, List.replicate_succ, List.replicate_zero, List.cons_append, List.nil_append, List.set_cons_succ, List.set_cons_zero]; exact rfl) ?_
  refine k_cons ?_
  refine k_set 7 ?_ sc_law_far.nd
  refine k_lst ?_
  refine a_cons ?_
  refine k_n 3 ?_
  refine a_cons ?_
  refine k_fn F_law_free (hr.mono (by decide)) ?_
  refine a_cons ?_
  refine k_bin ?_
  refine k_bin ?_
  refine k_fn F_law_back (hr.mono (by decide)) ?_
  refine a_cons ?_
  refine k_n 5 ?_
  refine a_nil ?_
  refine use_law_back ?_ lB (by omega)
  refine k_s [100] ?_
  refine o_adds ?_ (by rw [inv_len]; omega)
  refine k_n 5 ?_
  refine o_adds ?_ (by rw [List.length_append, inv_len]; omega)
  refine a_nil ?_
  refine use_law_free ?_ ⟨let_app (let_app (let_inv lB) l100) lB, by rw [List.length_append, List.length_append, inv_len]; omega⟩
  refine a_nil ?_
  refine ⟨by simp, fun p4 => ?_⟩
  show kSs _ _ _ _ _ _
  refine k_norm (by simp only [L2.start, N_law_far, List.map_cons, List.map_nil, List.length_cons, List.length_nil, Nat.reduceAdd, Nat.reduceSub, List.replicate_succ, List.replicate_zero, List.cons_append, List.nil_append, List.set_cons_succ, List.set_cons_zero]; exact rfl) ?_
  refine k_cons ?_
  refine k_set 8 ?_ sc_law_far.nd
  refine k_fn F_law_free (hr.mono (by decide)) ?_
  refine a_cons ?_
  refine k_bin ?_
  refine k_n 4 ?_
  refine k_n 5 ?_
  refine o_adds ?_ (by omega)
  refine a_nil ?_
  refine use_law_free ?_ ⟨let_app lA lB, by rw [List.length_append]; omega⟩
  show kSs _ _ _ _ _ _
  refine k_norm (by simp only [L2.start, N_law_far, List.map_cons, List.map_nil, List.length_cons, List.length_nil, Nat.reduceAdd, Nat.reduceSub, List.replicate_succ, List.replicate_zero, List.cons_append, List.nil_append, List.set_cons_succ, List.set_cons_zero]; exact rfl) ?_
  have lD : Let (red (A ++ Bh)) := let_red (let_app lA lB)
  have nD : (red (A ++ Bh)).length ≤ 56 := Nat.le_trans (red_len _) (by rw [List.length_append]; omega)
  refine k_one ?_
  refine k_ret ?_
  refine k_andP ?_
  refine k_cmp ?_
  refine k_fn F_mover (hr.mono (by decide)) ?_
  refine a_cons ?_
  refine k_n 6 ?_
  refine a_cons ?_
  refine k_n 7 ?_
  refine a_nil ?_
  refine use_mover (ws := [ff, red (A ++ [100] ++ Fg.inv A)]) (os := [ff, red (Fg.inv Bh ++ [100] ++ Bh)]) (.inr (by walk_at "mm")) (.inr (by walk_at "mm")) hfm.2.2.1 hfm.2.2.2 rfl ?_; rw [hfm.1]
  refine k_n 8 ?_
  refine o_eqs ?_
  refine ⟨_, rfl, ?_⟩; apply Exists.intro; refine ⟨fun hk => ?_, ?_⟩
  {
  refine k_and1 ?_
  refine k_cmp ?_
  refine k_fn F_mover (hr.mono (by decide)) ?_
  refine a_cons ?_
  refine k_n 7 ?_
  refine a_cons ?_
  refine k_n 6 ?_
  refine a_nil ?_
  refine use_mover (ws := [ff, red (Fg.inv Bh ++ [100] ++ Bh)]) (os := [ff, red (A ++ [100] ++ Fg.inv A)]) (.inr (by walk_at "mm")) (.inr (by walk_at "mm")) hfm.2.2.2 hfm.2.2.1 rfl ?_; rw [hfm.2.1]
  refine k_fn F_law_back (hr.mono (by decide)) ?_
  refine a_cons ?_
  refine k_n 8 ?_
  refine a_nil ?_
  refine use_law_back ?_ lD (by omega)
  refine o_eqs ?_
  exact ⟨rfl, rfl, by walk_at "sfx"⟩
  all_goals (try walk_at "side")
  }
  intro H' s
  simp only [decide_true, Bool.and_self]
  exact hq H' s.ext
theorem cut_le {α : Type} (l : List α) (lo hi : Option Int) : (cut l lo hi).length ≤ l.length := by
  unfold cut
  rw [List.length_take, List.length_drop]; omega
abbrev s_law : Stmt := top 46
abbrev N_law : List Str := ["_law_script", "_law_cells", "_law_cell"]
theorem sc_law : FnScope N_law ["_law_script"] (defScope s_law) := ⟨rfl, rfl, rfl, by decide +kernel, rfl, by decide +kernel, by decide +kernel⟩
def gT : V → V := fun _ => .bl true
def spLaw (K : PySem.W.Frag) : Sp := fun vs H Q _ => ∃ (a : Addr) (ns : List Int), vs = [.ref a] ∧ SqL K H a (ns.map V.int) ∧ ns.length ≤ 63 ∧ ∀ H', Q (.bl true) H'
theorem ok_law {f : Addr} {fd : FuncData} (F : Fun K "law" "law" s_law f fd) (hm : mg "law" = some (.ref f)) (T : Tx mg) (F_law_right : Fn P w K mg base 7 "_law_right" sp_law_right) (F_law_far : Fn P w K mg base 7 "_law_far" sp_law_far) : FnOk P w K mg base (L2.CX P w) 8 f fd ["_law_script"] (spLaw K) := by
  refine fn_okF F sc_law ?_ fun cdv A outer s H vs Q E hr h tk po => ?_
  · rintro vs H Q E ⟨_, _, rfl, _⟩; rfl
  obtain ⟨a, ns, rfl, ha, hn, hq⟩ := h
  have ha' : ∀ L, Ls K H L a (ns.map V.int) := fun L => .inl ha
  have hcl := cut_le (ns.map V.int) none (some 3)
  rw [List.length_map] at hcl
  refine ⟨H, [], Sat.whole, ?_⟩
  refine k_cons ?_
  refine k_set 1 ?_ sc_law.nd
  refine k_bin ?_
  refine k_slice ?_
  refine k_n 0 ?_
  refine p_none ?_
  refine p_some ?_
  refine k_int ?_
  refine ⟨_, rfl, ?_⟩
  refine sl_l (ha' _) fun pp => ?_
  refine k_lst ?_
  refine a_cons ?_
  refine k_callB (id := "sum") T.b_sum ?_
  refine a_cons ?_
  refine k_n 0 ?_
  refine a_nil ?_
  refine c_sum (ha' _) ?_
  refine a_nil ?_
  refine ⟨by simp, fun pc => ?_⟩
  refine o_catl (.inr (by walk_at "mm")) (.inr (by walk_at "mm")) (by simp only [List.length_cons, List.length_nil]; omega) fun pz => ?_
  show kSs _ _ _ _ _ _
  refine k_norm (by simp only [L2.start, N_law, List.map_cons, List.map_nil, List.length_cons, List.length_nil, Nat.reduceAdd, Nat.reduceSub, List.replicate_succ, List.replicate_zero, List.cons_append, List.nil_append, List.set_cons_succ, List.set_cons_zero]; exact rfl) ?_
  refine k_one ?_
  refine k_ret ?_
  refine k_andP ?_
  refine k_callB (id := "all") T.b_all ?_
  refine a_cons ?_
  refine k_le (k_lcm_l (j := 2) gT sc_law.nd (blkOk_by (N := N_law) (sc := defScope s_law) (by decide +kernel)) ?_)
  refine k_n 1 ?_
  refine ⟨_, _, rfl, .inr (.head _), by rw [List.length_append]; simp only [List.length_cons, List.length_nil]; omega, fun z hz D acc sb Hb Cb clb fpb => ?_, fun D => ?_⟩
  ·
    obtain ⟨n, rfl⟩ : ∃ n, z = V.int n := by
      rcases List.mem_append.mp hz with h | h
      ·
        obtain ⟨n, _, rfl⟩ := List.mem_map.mp (List.mem_of_mem_drop (List.mem_of_mem_take h))
        exact ⟨n, rfl⟩
      ·
        exact ⟨_, List.mem_singleton.mp h⟩
    refine k_fn F_law_right (hr.mono (by decide)) ?_
    refine a_cons ?_
    refine k_n 2 ?_
    refine a_nil ?_
    refine use_law_right ?_
    exact ⟨rfl, rfl, rfl⟩
  refine a_nil ?_
  refine c_all (bs := (cut (ns.map V.int) none (some 3) ++ [V.int ns.sum]).map fun _ => true) (by rw [List.map_map]; exact .inr (.head _)) ?_
  refine ⟨_, rfl, ?_⟩; apply Exists.intro; refine ⟨fun hk => ?_, ?_⟩
  {
  refine k_and1 ?_
  refine k_fn F_law_far (hr.mono (by decide)) ?_
  refine a_cons ?_
  refine k_callB (id := "sum") T.b_sum ?_
  refine a_cons ?_
  refine k_n 0 ?_
  refine a_nil ?_
  refine c_sum (ha' _) ?_
  refine a_nil ?_
  refine use_law_far ?_
  exact ⟨rfl, rfl, by walk_at "sfx"⟩
  all_goals (try walk_at "side")
  }
  intro H' s
  have e : ((cut (ns.map V.int) none (some 3) ++ [V.int ns.sum]).map fun _ => true).all id = true := by
    rw [List.all_eq_true]
    intro b hb
    obtain ⟨_, _, rfl⟩ := List.mem_map.mp hb
    rfl
  rw [e]
  exact hq H'
end
def hfa0 : List He.Fa := [.glo "back_of", .glo "are_letters", .glo "is_word", .glo "put_together", .glo "times", .glo "back", .glo "tail_length", .glo "key_of", .glo "is_before", .glo "parts", .glo "root", .glo "need_row", .glo "moved_by", .glo "moved_row", .glo "goes_with", .glo "first_mover", .glo "along_powers", .glo "all_moved", .glo "tried_for", .glo "mover", .glo "_law_draws", .glo "_law_mix", .glo "_law_back", .glo "_law_free", .glo "_law_key", .glo "_law_word", .glo "_law_moved", .glo "_law_core", .glo "_law_root", .glo "_law_row"]
def hfa1 : List He.Fa := [.glo "_law_alike", .glo "_law_least", .glo "_law_far", .glo "_law_by", .glo "_law_right", .glo "law", .str "ORDER" (sOf ordL), .int "MOST_LETTERS" 60, .int "MOST_WORDS" 8, .free "ValueError", .free "len", .free "range", .free "all", .free "list", .free "any", .free "dict", .free "isinstance", .free "str", .free "zip", .free "min", .free "sum", .free "reversed", .free "abs", .free "enumerate", .free "int", .glo "NoWord", .exc "NoWord", .glo "NoRow", .exc "NoRow"]
def hfa : List He.Fa := hfa0 ++ hfa1
def hfn0 : List He.DefD := [dTop "back_of" s_back_of, dTop "are_letters" s_are_letters, dTop "is_word" s_is_word, dTop "put_together" s_put_together, dTop "times" s_times, dTop "back" s_back, dTop "tail_length" s_tail_length, dTop "key_of" s_key_of, dTop "is_before" s_is_before, dTop "parts" s_parts, dTop "root" s_root, dTop "need_row" s_need_row, dTop "moved_by" s_moved_by, dTop "moved_row" s_moved_row, dTop "goes_with" s_goes_with, dTop "first_mover" s_first_mover, dTop "along_powers" s_along_powers, dTop "all_moved" s_all_moved, dTop "tried_for" s_tried_for, dTop "mover" s_mover, dTop "_law_draws" s_law_draws, dTop "_law_mix" s_law_mix, dTop "_law_back" s_law_back, dTop "_law_free" s_law_free, dTop "_law_key" s_law_key, dTop "_law_word" s_law_word, dTop "_law_moved" s_law_moved, dTop "_law_core" s_law_core, dTop "_law_root" s_law_root, dTop "_law_row" s_law_row]
def hfn1 : List He.DefD := [dTop "_law_alike" s_law_alike, dTop "_law_least" s_law_least, dTop "_law_far" s_law_far, dTop "_law_by" s_law_by, dTop "_law_right" s_law_right, dTop "law" s_law]
def hfn : List He.DefD := hfn0 ++ hfn1
def hnm0 : List Str := ["WordError", "NoWord", "NoRow", "ORDER", "MOST_LETTERS", "back_of", "are_letters", "is_word", "put_together", "times", "back", "tail_length", "key_of", "is_before", "parts", "root", "MOST_WORDS", "need_row", "moved_by", "moved_row", "goes_with", "first_mover", "along_powers", "all_moved", "tried_for", "mover", "_law_draws", "_law_mix", "_law_back", "_law_free"]
def hnm1 : List Str := ["_law_key", "_law_word", "_law_moved", "_law_core", "_law_root", "_law_row", "_law_alike", "_law_least", "_law_far", "_law_by", "_law_right"]
def hnm : List Str := hnm0 ++ hnm1
def hex (K : PySem.W.Frag) : Bool := true
abbrev hR : PySem.W.OpenRow := PySem.W.OpenLaw.row PySem.Challenge.rw_backwords_k91_whole_movers
abbrev hk : PySem.W.Hook := He.hookX 7 hfa hfn [] [] hex
def hob (s : PySem.W.SharedT) : He.AlX := He.obsX 7 hfa hfn [] [] hex (HandSHeadRun.getT s)
theorem hob_eq (s : PySem.W.SharedT) : hob s = hk.obs s.abs := He.obsX_eq (HandSHeadRun.getT_eq s)
abbrev hq : Program := PySem.W.view hR.prog [46]
theorem hrun (w : World) : HandSHeadRun.RunEq hR hq hk hob 20000 hnm w := by
  intro os
  kernel_rfl
theorem facts {P : Program} {w : World} {K : PySem.W.Frag} {h : Heap} {mg : Str → Option Value} {f : Addr} (X : K.In h) (G : h.Ns mainGlobals mg) (hlf : mg ("law" : Str) = some (.ref f)) (c : He.SaysX hfa hfn [] [] hex w h K) :
    ∃ fd : FuncData, (∀ (s : Shared) (v : Value), BindsTo s fd ⟨[v], []⟩ [("_law_script", v)]) ∧ ∀ base : Heap, K.In base → base.Ns mainGlobals mg → FnOk P w K mg base (L2.CX P w) 8 f fd ["_law_script"] (spLaw K) := by
  have cd := c.t.d
  obtain ⟨fd0, G_back_of⟩ := d_top (x := "back_of") (st := s_back_of) cd 0 rfl
  have m_back_of := He.glo_ok X G (cd.fact 0 (f := .glo "back_of") rfl)
  have D_back_of := fun_d G_back_of
  obtain ⟨fd1, G_are_letters⟩ := d_top (x := "are_letters") (st := s_are_letters) cd 1 rfl
  have m_are_letters := He.glo_ok X G (cd.fact 1 (f := .glo "are_letters") rfl)
  have D_are_letters := fun_d G_are_letters
  obtain ⟨fd2, G_is_word⟩ := d_top (x := "is_word") (st := s_is_word) cd 2 rfl
  have m_is_word := He.glo_ok X G (cd.fact 2 (f := .glo "is_word") rfl)
  have D_is_word := fun_d G_is_word
  obtain ⟨fd3, G_put_together⟩ := d_top (x := "put_together") (st := s_put_together) cd 3 rfl
  have m_put_together := He.glo_ok X G (cd.fact 3 (f := .glo "put_together") rfl)
  have D_put_together := fun_d G_put_together
  obtain ⟨fd4, G_times⟩ := d_top (x := "times") (st := s_times) cd 4 rfl
  have m_times := He.glo_ok X G (cd.fact 4 (f := .glo "times") rfl)
  have D_times := fun_d G_times
  obtain ⟨fd5, G_back⟩ := d_top (x := "back") (st := s_back) cd 5 rfl
  have m_back := He.glo_ok X G (cd.fact 5 (f := .glo "back") rfl)
  have D_back := fun_d G_back
  obtain ⟨fd6, G_tail_length⟩ := d_top (x := "tail_length") (st := s_tail_length) cd 6 rfl
  have m_tail_length := He.glo_ok X G (cd.fact 6 (f := .glo "tail_length") rfl)
  have D_tail_length := fun_d G_tail_length
  obtain ⟨fd7, G_key_of⟩ := d_top (x := "key_of") (st := s_key_of) cd 7 rfl
  have m_key_of := He.glo_ok X G (cd.fact 7 (f := .glo "key_of") rfl)
  have D_key_of := fun_d G_key_of
  obtain ⟨fd8, G_is_before⟩ := d_top (x := "is_before") (st := s_is_before) cd 8 rfl
  have m_is_before := He.glo_ok X G (cd.fact 8 (f := .glo "is_before") rfl)
  have D_is_before := fun_d G_is_before
  obtain ⟨fd9, G_parts⟩ := d_top (x := "parts") (st := s_parts) cd 9 rfl
  have m_parts := He.glo_ok X G (cd.fact 9 (f := .glo "parts") rfl)
  have D_parts := fun_d G_parts
  obtain ⟨fd10, G_root⟩ := d_top (x := "root") (st := s_root) cd 10 rfl
  have m_root := He.glo_ok X G (cd.fact 10 (f := .glo "root") rfl)
  have D_root := fun_d G_root
  obtain ⟨fd11, G_need_row⟩ := d_top (x := "need_row") (st := s_need_row) cd 11 rfl
  have m_need_row := He.glo_ok X G (cd.fact 11 (f := .glo "need_row") rfl)
  have D_need_row := fun_d G_need_row
  obtain ⟨fd12, G_moved_by⟩ := d_top (x := "moved_by") (st := s_moved_by) cd 12 rfl
  have m_moved_by := He.glo_ok X G (cd.fact 12 (f := .glo "moved_by") rfl)
  have D_moved_by := fun_d G_moved_by
  obtain ⟨fd13, G_moved_row⟩ := d_top (x := "moved_row") (st := s_moved_row) cd 13 rfl
  have m_moved_row := He.glo_ok X G (cd.fact 13 (f := .glo "moved_row") rfl)
  have D_moved_row := fun_d G_moved_row
  obtain ⟨fd14, G_goes_with⟩ := d_top (x := "goes_with") (st := s_goes_with) cd 14 rfl
  have m_goes_with := He.glo_ok X G (cd.fact 14 (f := .glo "goes_with") rfl)
  have D_goes_with := fun_d G_goes_with
  obtain ⟨fd15, G_first_mover⟩ := d_top (x := "first_mover") (st := s_first_mover) cd 15 rfl
  have m_first_mover := He.glo_ok X G (cd.fact 15 (f := .glo "first_mover") rfl)
  have D_first_mover := fun_d G_first_mover
  obtain ⟨fd16, G_along_powers⟩ := d_top (x := "along_powers") (st := s_along_powers) cd 16 rfl
  have m_along_powers := He.glo_ok X G (cd.fact 16 (f := .glo "along_powers") rfl)
  have D_along_powers := fun_d G_along_powers
  obtain ⟨fd17, G_all_moved⟩ := d_top (x := "all_moved") (st := s_all_moved) cd 17 rfl
  have m_all_moved := He.glo_ok X G (cd.fact 17 (f := .glo "all_moved") rfl)
  have D_all_moved := fun_d G_all_moved
  obtain ⟨fd18, G_tried_for⟩ := d_top (x := "tried_for") (st := s_tried_for) cd 18 rfl
  have m_tried_for := He.glo_ok X G (cd.fact 18 (f := .glo "tried_for") rfl)
  have D_tried_for := fun_d G_tried_for
  obtain ⟨fd19, G_mover⟩ := d_top (x := "mover") (st := s_mover) cd 19 rfl
  have m_mover := He.glo_ok X G (cd.fact 19 (f := .glo "mover") rfl)
  have D_mover := fun_d G_mover
  obtain ⟨fd20, G_law_draws⟩ := d_top (x := "_law_draws") (st := s_law_draws) cd 20 rfl
  have m_law_draws := He.glo_ok X G (cd.fact 20 (f := .glo "_law_draws") rfl)
  have D_law_draws := fun_d G_law_draws
  obtain ⟨fd21, G_law_mix⟩ := d_top (x := "_law_mix") (st := s_law_mix) cd 21 rfl
  have m_law_mix := He.glo_ok X G (cd.fact 21 (f := .glo "_law_mix") rfl)
  have D_law_mix := fun_d G_law_mix
  obtain ⟨fd22, G_law_back⟩ := d_top (x := "_law_back") (st := s_law_back) cd 22 rfl
  have m_law_back := He.glo_ok X G (cd.fact 22 (f := .glo "_law_back") rfl)
  have D_law_back := fun_d G_law_back
  obtain ⟨fd23, G_law_free⟩ := d_top (x := "_law_free") (st := s_law_free) cd 23 rfl
  have m_law_free := He.glo_ok X G (cd.fact 23 (f := .glo "_law_free") rfl)
  have D_law_free := fun_d G_law_free
  obtain ⟨fd24, G_law_key⟩ := d_top (x := "_law_key") (st := s_law_key) cd 24 rfl
  have m_law_key := He.glo_ok X G (cd.fact 24 (f := .glo "_law_key") rfl)
  have D_law_key := fun_d G_law_key
  obtain ⟨fd25, G_law_word⟩ := d_top (x := "_law_word") (st := s_law_word) cd 25 rfl
  have m_law_word := He.glo_ok X G (cd.fact 25 (f := .glo "_law_word") rfl)
  have D_law_word := fun_d G_law_word
  obtain ⟨fd26, G_law_moved⟩ := d_top (x := "_law_moved") (st := s_law_moved) cd 26 rfl
  have m_law_moved := He.glo_ok X G (cd.fact 26 (f := .glo "_law_moved") rfl)
  have D_law_moved := fun_d G_law_moved
  obtain ⟨fd27, G_law_core⟩ := d_top (x := "_law_core") (st := s_law_core) cd 27 rfl
  have m_law_core := He.glo_ok X G (cd.fact 27 (f := .glo "_law_core") rfl)
  have D_law_core := fun_d G_law_core
  obtain ⟨fd28, G_law_root⟩ := d_top (x := "_law_root") (st := s_law_root) cd 28 rfl
  have m_law_root := He.glo_ok X G (cd.fact 28 (f := .glo "_law_root") rfl)
  have D_law_root := fun_d G_law_root
  obtain ⟨fd29, G_law_row⟩ := d_top (x := "_law_row") (st := s_law_row) cd 29 rfl
  have m_law_row := He.glo_ok X G (cd.fact 29 (f := .glo "_law_row") rfl)
  have D_law_row := fun_d G_law_row
  obtain ⟨fd30, G_law_alike⟩ := d_top (x := "_law_alike") (st := s_law_alike) cd 30 rfl
  have m_law_alike := He.glo_ok X G (cd.fact 30 (f := .glo "_law_alike") rfl)
  have D_law_alike := fun_d G_law_alike
  obtain ⟨fd31, G_law_least⟩ := d_top (x := "_law_least") (st := s_law_least) cd 31 rfl
  have m_law_least := He.glo_ok X G (cd.fact 31 (f := .glo "_law_least") rfl)
  have D_law_least := fun_d G_law_least
  obtain ⟨fd32, G_law_far⟩ := d_top (x := "_law_far") (st := s_law_far) cd 32 rfl
  have m_law_far := He.glo_ok X G (cd.fact 32 (f := .glo "_law_far") rfl)
  have D_law_far := fun_d G_law_far
  obtain ⟨fd33, G_law_by⟩ := d_top (x := "_law_by") (st := s_law_by) cd 33 rfl
  have m_law_by := He.glo_ok X G (cd.fact 33 (f := .glo "_law_by") rfl)
  have D_law_by := fun_d G_law_by
  obtain ⟨fd34, G_law_right⟩ := d_top (x := "_law_right") (st := s_law_right) cd 34 rfl
  have m_law_right := He.glo_ok X G (cd.fact 34 (f := .glo "_law_right") rfl)
  have D_law_right := fun_d G_law_right
  obtain ⟨fd35, G_law⟩ := d_top (x := "law") (st := s_law) cd 35 rfl
  have m_law := He.glo_ok X G (cd.fact 35 (f := .glo "law") rfl)
  have D_law := fun_d G_law
  have g_back_of := He.glo_ok X G (cd.fact 0 (f := .glo "back_of") rfl)
  have g_are_letters := He.glo_ok X G (cd.fact 1 (f := .glo "are_letters") rfl)
  have g_is_word := He.glo_ok X G (cd.fact 2 (f := .glo "is_word") rfl)
  have g_put_together := He.glo_ok X G (cd.fact 3 (f := .glo "put_together") rfl)
  have g_times := He.glo_ok X G (cd.fact 4 (f := .glo "times") rfl)
  have g_back := He.glo_ok X G (cd.fact 5 (f := .glo "back") rfl)
  have g_tail_length := He.glo_ok X G (cd.fact 6 (f := .glo "tail_length") rfl)
  have g_key_of := He.glo_ok X G (cd.fact 7 (f := .glo "key_of") rfl)
  have g_is_before := He.glo_ok X G (cd.fact 8 (f := .glo "is_before") rfl)
  have g_parts := He.glo_ok X G (cd.fact 9 (f := .glo "parts") rfl)
  have g_root := He.glo_ok X G (cd.fact 10 (f := .glo "root") rfl)
  have g_need_row := He.glo_ok X G (cd.fact 11 (f := .glo "need_row") rfl)
  have g_moved_by := He.glo_ok X G (cd.fact 12 (f := .glo "moved_by") rfl)
  have g_moved_row := He.glo_ok X G (cd.fact 13 (f := .glo "moved_row") rfl)
  have g_goes_with := He.glo_ok X G (cd.fact 14 (f := .glo "goes_with") rfl)
  have g_first_mover := He.glo_ok X G (cd.fact 15 (f := .glo "first_mover") rfl)
  have g_along_powers := He.glo_ok X G (cd.fact 16 (f := .glo "along_powers") rfl)
  have g_all_moved := He.glo_ok X G (cd.fact 17 (f := .glo "all_moved") rfl)
  have g_tried_for := He.glo_ok X G (cd.fact 18 (f := .glo "tried_for") rfl)
  have g_mover := He.glo_ok X G (cd.fact 19 (f := .glo "mover") rfl)
  have g__law_draws := He.glo_ok X G (cd.fact 20 (f := .glo "_law_draws") rfl)
  have g__law_mix := He.glo_ok X G (cd.fact 21 (f := .glo "_law_mix") rfl)
  have g__law_back := He.glo_ok X G (cd.fact 22 (f := .glo "_law_back") rfl)
  have g__law_free := He.glo_ok X G (cd.fact 23 (f := .glo "_law_free") rfl)
  have g__law_key := He.glo_ok X G (cd.fact 24 (f := .glo "_law_key") rfl)
  have g__law_word := He.glo_ok X G (cd.fact 25 (f := .glo "_law_word") rfl)
  have g__law_moved := He.glo_ok X G (cd.fact 26 (f := .glo "_law_moved") rfl)
  have g__law_core := He.glo_ok X G (cd.fact 27 (f := .glo "_law_core") rfl)
  have g__law_root := He.glo_ok X G (cd.fact 28 (f := .glo "_law_root") rfl)
  have g__law_row := He.glo_ok X G (cd.fact 29 (f := .glo "_law_row") rfl)
  have g__law_alike := He.glo_ok X G (cd.fact 30 (f := .glo "_law_alike") rfl)
  have g__law_least := He.glo_ok X G (cd.fact 31 (f := .glo "_law_least") rfl)
  have g__law_far := He.glo_ok X G (cd.fact 32 (f := .glo "_law_far") rfl)
  have g__law_by := He.glo_ok X G (cd.fact 33 (f := .glo "_law_by") rfl)
  have g__law_right := He.glo_ok X G (cd.fact 34 (f := .glo "_law_right") rfl)
  have g_law := He.glo_ok X G (cd.fact 35 (f := .glo "law") rfl)
  have g_NoWord := He.glo_ok X G (cd.fact 55 (f := .glo "NoWord") rfl)
  have e_NoWord := exk_of X G (cd.fact 55 (f := .glo "NoWord") rfl) (cd.fact 56 (f := .exc "NoWord") rfl)
  have g_NoRow := He.glo_ok X G (cd.fact 57 (f := .glo "NoRow") rfl)
  have e_NoRow := exk_of X G (cd.fact 57 (f := .glo "NoRow") rfl) (cd.fact 58 (f := .exc "NoRow") rfl)
  have T : Tx mg := ⟨He.str_ok X G (cd.fact 36 (f := .str "ORDER" (sOf ordL)) rfl), He.int_ok X G (cd.fact 37 (f := .int "MOST_LETTERS" 60) rfl), He.int_ok X G (cd.fact 38 (f := .int "MOST_WORDS" 8) rfl), He.free_ok X G (cd.fact 39 (f := .free "ValueError") rfl), He.free_ok X G (cd.fact 40 (f := .free "len") rfl), He.free_ok X G (cd.fact 41 (f := .free "range") rfl), He.free_ok X G (cd.fact 42 (f := .free "all") rfl), He.free_ok X G (cd.fact 43 (f := .free "list") rfl), He.free_ok X G (cd.fact 44 (f := .free "any") rfl), He.free_ok X G (cd.fact 45 (f := .free "dict") rfl), He.free_ok X G (cd.fact 46 (f := .free "isinstance") rfl), He.free_ok X G (cd.fact 47 (f := .free "str") rfl), He.free_ok X G (cd.fact 48 (f := .free "zip") rfl), He.free_ok X G (cd.fact 49 (f := .free "min") rfl), He.free_ok X G (cd.fact 50 (f := .free "sum") rfl), He.free_ok X G (cd.fact 51 (f := .free "reversed") rfl), He.free_ok X G (cd.fact 52 (f := .free "abs") rfl), He.free_ok X G (cd.fact 53 (f := .free "enumerate") rfl), He.free_ok X G (cd.fact 54 (f := .free "int") rfl)⟩
  have e := hlf.symm.trans m_law
  cases e
  have b := FunD.bindsA (ps := ["_law_script"]) G_law fun _ _ _ _ _ _ us hl => match us, hl with | [_], _ => rfl
  refine ⟨_, fun s v => b s [v] rfl, fun base _ _ => ?_⟩
  have F1 := ok_back_of (P := P) (w := w) (base := base) D_back_of m_back_of T
  have F2 := ok_back D_back m_back T F1
  have F4 := ok_tail_length D_tail_length m_tail_length T F1
  have F5 := ok_parts D_parts m_parts T F4
  have F6 := ok_are_letters (P := P) (w := w) (base := base) D_are_letters m_are_letters T
  have F7 := ok_is_word D_is_word m_is_word T F6 F1
  have F8 := ok_put_together D_put_together m_put_together T F1
  have F9 := ok_root D_root m_root T e_NoWord F5 F2
  have F10 := ok_times D_times m_times T F8
  have F11 := ok_key_of (P := P) (w := w) (base := base) D_key_of m_key_of T
  have F12 := ok_is_before D_is_before m_is_before T F11
  have F13 := ok_need_row D_need_row m_need_row T e_NoRow F7
  have F14 := ok_moved_by D_moved_by m_moved_by T F10 F2
  have F15 := ok_moved_row D_moved_row m_moved_row T e_NoWord F13 F7 F14
  have F16 := ok_goes_with D_goes_with m_goes_with T F10
  have F18 := ok_first_mover D_first_mover m_first_mover T F5 F10 F2
  have F19 := ok_along_powers D_along_powers m_along_powers T F10 F2
  have F20 := ok_all_moved D_all_moved m_all_moved T F14
  have F21 := ok_tried_for D_tried_for m_tried_for T F9 F5 F16 F19 F14
  have F22 := ok_mover D_mover m_mover T e_NoRow F13 F18 F21 F20 F12
  have L1 := ok_law_draws (P := P) (w := w) (base := base) D_law_draws m_law_draws T
  have L2 := ok_law_mix (P := P) (w := w) (base := base) D_law_mix m_law_mix
  have L3 := ok_law_back (P := P) (w := w) (base := base) D_law_back m_law_back T
  have L4 := ok_law_free (P := P) (w := w) (base := base) D_law_free m_law_free T
  have L5 := ok_law_key (P := P) (w := w) (base := base) D_law_key m_law_key T
  have L6 := ok_law_word D_law_word m_law_word T L2 L3 L4
  have L7 := ok_law_moved D_law_moved m_law_moved T L3 L4
  have L8 := ok_law_core D_law_core m_law_core T L3
  have L9 := ok_law_root D_law_root m_law_root T L8 L4 L3
  have L10 := ok_law_row D_law_row m_law_row T L1 L2 L6 L3 L4
  have L11 := ok_law_alike D_law_alike m_law_alike T L8
  have L12 := ok_law_least D_law_least m_law_least T L9 L4 L8 L3 L5
  have L13 := ok_law_by D_law_by m_law_by T L2 L6 L9 L4
  have L14 := ok_law_right D_law_right m_law_right T L2 L6 L10 L13 L7 L3 L12 L11 F15 F22
  have L15 := ok_law_far D_law_far m_law_far T L2 L1 L3 L4 F22
  exact ok_law D_law m_law T L14 L15
end K91
open PySem PySem.W PySem.Calls PyProof.Rows
theorem PySem.Challenge.cw_backwords_k91_whole_movers_holds : PySem.Challenge.rw_backwords_k91_whole_movers.Holds := by
  w_on; o_law
  refine HandSHeadRun.head_any (r := OpenLaw.row PySem.Challenge.rw_backwords_k91_whole_movers) (q := K91.hq) (H := K91.hk) (ob := K91.hob) (M := 20000) (loose := K91.hnm) (d := HandSHeadRun.topDef (OpenLaw.row PySem.Challenge.rw_backwords_k91_whole_movers).prog 46) (kwd := []) K91.hob_eq
    (by kernel_rfl) (fun s => by kernel_rfl) K91.hrun (by kernel_rfl) (by kernel_rfl) (by kernel_rfl) (by rfl) (by first | assumption | decide +kernel) (by decide +kernel) ⟨rfl, rfl, rfl, rfl, rfl, by decide +kernel⟩ ?hw ?hc
  case hw => w_witness2
  case hc =>
    refine Kv.walk_end (l := PySem.Challenge.rw_backwords_k91_whole_movers) (n := 63) (k := 8) (x := "_law_script") rfl (by decide) (by kernel_rfl) ⟨rfl, by decide, by decide⟩ ?F
    intro w mg fa h Y G hmg0
    obtain ⟨K, KX, c⟩ := Y
    have hmg : mg ("law" : PySem.Str) = some (.ref fa) := by
      have e : (HandSHeadRun.topDef (OpenLaw.row PySem.Challenge.rw_backwords_k91_whole_movers).prog 46).name = ("law" : PySem.Str) := by kernel_rfl
      rw [← e]
      exact hmg0
    obtain ⟨fd, hb, hF⟩ := K91.facts (P := (PySem.Challenge.rw_backwords_k91_whole_movers).prog) (w := w) KX G hmg c
    exact ⟨K, fd, K91.spLaw K, KX, hb, fun H a ns hl _ hS => ⟨a, ns, rfl, hS, hl, fun _ => rfl⟩, hF⟩

