import PyProof.Rows.All
import Wide.All
import OpenK.AllK
import Wide.FinOn
import HandS.ForMost
import HandS.Exc
import HandS.TryOnly
import HandS.ExcOwn
import HandS.WordsExc
import HandS.Walk
import HandS.IsInst
import HandS.StrMore
import HandS.RevTup
import HandS.ExcIs
import KE.KDictZip
import KE.GoesMore
import HandS.TupLe
import KE.DataCmp
import HandS.NoneIn
import KE.SortKeyed
import KE.SortData
import HandS.SortKw
import HandS.Keys
import HandS.CallLocal
import HandS.Flow
import HandS.Dict
import KE.DataFind
import PyProof.ListStr
import HandS.More
import HandS.Small
import HandS.Style
import HandS.TupSets
import HandS.Conv
import HandS.SetKeys
import HandS.CallSlots
import HandS.Defaults
import KE.KStateDown
import HandS.Head0
import HandS.Head1
import HandS.Head2
import HandS.HeadEnd
import HandS.HeadHook1
import HandS.HeadHook2
import HandS.HeadHook3
import HandS.HeadHook4
import PySem.Challenge.RW_backwords_k51_fewest_words
set_option Elab.async false
set_option linter.all false
set_option maxRecDepth 100000
set_option maxHeartbeats 0
namespace Kv
open PySem PySem.Spec PyProof.Rows L2

abbrev HL := List (Addr × HO)
/-- the heap H holds the base B and the named objects L -/
structure Sat (B : Hp) (L : HL) (H : Hp) : Prop where
  ext : ∀ a o, B a = some o → H a = some o
  own : ∀ p ∈ L, H p.1 = some p.2
  nb : ∀ p ∈ L, B p.1 = none
  nd : (L.map (·.1)).Nodup
abbrev KQ := V → Hp → HL → Prop
abbrev KB := Bool → Hp → HL → Prop
abbrev KA := List V → Hp → HL → Prop
abbrev KN := L2.St → Hp → HL → Prop
def up (Q : KQ) : VK := fun v H => ∃ B L, Sat B L H ∧ Q v B L
def upB (Q : KB) : Bool → Hp → Prop := fun v H => ∃ B L, Sat B L H ∧ Q v B L
def upA (Q : KA) : List V → Hp → Prop := fun v H => ∃ B L, Sat B L H ∧ Q v B L
def upN (Q : KN) : L2.St → Hp → Prop := fun v H => ∃ B L, Sat B L H ∧ Q v B L
structure KD where
  nx : KN
  rt : KQ
  bk : KN := fun _ _ _ => False
  ct : KN := fun _ _ _ => False
def KD.dn (D : KD) : Ends := { nx := upN D.nx, rt := up D.rt, bk := upN D.bk, ct := upN D.ct }

section
variable (X : Cx)
def kE (e : Expr) (σ : L2.St) (B : Hp) (L : HL) (Q : KQ) : Prop :=
  ∃ te, PE X e te ∧ ∀ H, Sat B L H → te σ H (up Q)
def kT (e : Expr) (σ : L2.St) (B : Hp) (L : HL) (Q : KB) : Prop :=
  ∃ te, PT X e te ∧ ∀ H, Sat B L H → te σ H (upB Q)
def kW (e : Expr) (σ : L2.St) (B : Hp) (L : HL) (Q : KB) : Prop :=
  ∃ te, PW X e te ∧ ∀ H, Sat B L H → te σ H (upB Q)
def kA (es : List Expr) (σ : L2.St) (B : Hp) (L : HL) (Q : KA) : Prop :=
  ∃ te, PA X es te ∧ ∀ H, Sat B L H → te σ H (upA Q)
def kS (st : Stmt) (σ : L2.St) (B : Hp) (L : HL) (D : KD) : Prop :=
  ∃ t, PS X st t ∧ ∀ H, Sat B L H → t D.dn σ H
def kSs (st : List Stmt) (σ : L2.St) (B : Hp) (L : HL) (D : KD) : Prop :=
  ∃ t, PSs X st t ∧ ∀ H, Sat B L H → t D.dn σ H
def kG (tg : Expr) (v : V) (σ : L2.St) (B : Hp) (L : HL) (Q : KN) : Prop :=
  ∃ t, PG X tg t ∧ ∀ H, Sat B L H → t v σ H (upN Q)
def kGs (ts : List Expr) (vs : List V) (σ : L2.St) (B : Hp) (L : HL) (Q : KN) : Prop :=
  ∃ t, PGs X ts t ∧ ∀ H, Sat B L H → t vs σ H (upN Q)
/-- the canonical readings -/
def cE (e : Expr) : TE := fun σ H Q => ∃ B L Q', Sat B L H ∧ kE X e σ B L Q' ∧ ∀ v H', up Q' v H' → Q v H'
def cT (e : Expr) : TT := fun σ H Q => ∃ B L Q', Sat B L H ∧ kT X e σ B L Q' ∧ ∀ v H', upB Q' v H' → Q v H'
def cW (e : Expr) : TT := fun σ H Q => ∃ B L Q', Sat B L H ∧ kW X e σ B L Q' ∧ ∀ v H', upB Q' v H' → Q v H'
def cA (e : List Expr) : TA := fun σ H Q => ∃ B L Q', Sat B L H ∧ kA X e σ B L Q' ∧ ∀ v H', upA Q' v H' → Q v H'
def cS (st : Stmt) : TS := fun E σ H => ∃ B L D, Sat B L H ∧ kS X st σ B L D ∧ (∀ σ' H', upN D.nx σ' H' → E.nx σ' H') ∧ (∀ v H', up D.rt v H' → E.rt v H') ∧ (∀ σ' H', upN D.bk σ' H' → E.bk σ' H') ∧ (∀ σ' H', upN D.ct σ' H' → E.ct σ' H')
def cSs (st : List Stmt) : TS := fun E σ H => ∃ B L D, Sat B L H ∧ kSs X st σ B L D ∧ (∀ σ' H', upN D.nx σ' H' → E.nx σ' H') ∧ (∀ v H', up D.rt v H' → E.rt v H') ∧ (∀ σ' H', upN D.bk σ' H' → E.bk σ' H') ∧ (∀ σ' H', upN D.ct σ' H' → E.ct σ' H')
def cG (tg : Expr) : TG := fun v σ H Q => ∃ B L Q', Sat B L H ∧ kG X tg v σ B L Q' ∧ ∀ σ' H', upN Q' σ' H' → Q σ' H'
def cGs (tg : List Expr) : TGs := fun v σ H Q => ∃ B L Q', Sat B L H ∧ kGs X tg v σ B L Q' ∧ ∀ σ' H', upN Q' σ' H' → Q σ' H'
end
section
variable {X : Cx} {σ : L2.St} {B : Hp} {L : HL}
theorem pe_c {e : Expr} : PE X e (cE X e) := ⟨fun pins s σ H Q I ⟨B, L, Q', sat, ⟨te, h, q⟩, m⟩ =>
  thn (h.run pins s σ H _ I (q H sat)) fun _ _ ⟨v, H', I', r, z⟩ => ⟨v, H', I', r, m v H' z⟩⟩
theorem pt_c {e : Expr} : PT X e (cT X e) := ⟨fun pins s σ H Q I ⟨B, L, Q', sat, ⟨te, h, q⟩, m⟩ =>
  thn (h.run pins s σ H _ I (q H sat)) fun _ _ ⟨H', I', z⟩ => ⟨H', I', m _ H' z⟩⟩
theorem pw_c {e : Expr} : PW X e (cW X e) := ⟨fun wh pins s σ H Q I ⟨B, L, Q', sat, ⟨te, h, q⟩, m⟩ =>
  thn (h.run wh pins s σ H _ I (q H sat)) fun _ _ ⟨H', I', z⟩ => ⟨H', I', m _ H' z⟩⟩
theorem pa_c {e : List Expr} : PA X e (cA X e) := ⟨fun pos pins s σ H Q I ⟨B, L, Q', sat, ⟨te, h, q⟩, m⟩ =>
  thn (h.run pos pins s σ H _ I (q H sat)) fun _ _ ⟨v, H', I', r, z⟩ => ⟨v, H', I', r, m v H' z⟩⟩
theorem sp_mono {pins : List (Addr × Obj)} {E E' : Ends} (h1 : ∀ σ' H', E.nx σ' H' → E'.nx σ' H') (h2 : ∀ v H', E.rt v H' → E'.rt v H') (h3 : ∀ σ' H', E.bk σ' H' → E'.bk σ' H') (h4 : ∀ σ' H', E.ct σ' H' → E'.ct σ' H') {f : Flow} {s' : Shared} (h : SP X pins E f s') : SP X pins E' f s' := by
  cases f with
  | next => obtain ⟨σ', H', I, q⟩ := h; exact ⟨σ', H', I, h1 _ _ q⟩
  | brk => obtain ⟨σ', H', I, q⟩ := h; exact ⟨σ', H', I, h3 _ _ q⟩
  | cont => obtain ⟨σ', H', I, q⟩ := h; exact ⟨σ', H', I, h4 _ _ q⟩
  | ret u => obtain ⟨v, σ', H', I, r, q⟩ := h; exact ⟨v, σ', H', I, r, h2 _ _ q⟩
theorem ps_c {st : Stmt} : PS X st (cS X st) := ⟨fun pins s σ H E I ⟨B, L, D, sat, ⟨te, h, q⟩, m1, m2, m3, m4⟩ =>
  thn (h.run pins s σ H D.dn I (q H sat)) fun _ _ z => sp_mono m1 m2 m3 m4 z⟩
theorem pss_c {st : List Stmt} : PSs X st (cSs X st) := ⟨fun pins s σ H E I ⟨B, L, D, sat, ⟨te, h, q⟩, m1, m2, m3, m4⟩ =>
  thn (h.run pins s σ H D.dn I (q H sat)) fun _ _ z => sp_mono m1 m2 m3 m4 z⟩
theorem pg_c {tg : Expr} : PG X tg (cG X tg) := ⟨fun pins s σ H v u Q I r ⟨B, L, Q', sat, ⟨te, h, q⟩, m⟩ =>
  thn (h.run pins s σ H v u _ I r (q H sat)) fun _ _ ⟨σ', H', I', z⟩ => ⟨σ', H', I', m σ' H' z⟩⟩
theorem pgs_c {tg : List Expr} : PGs X tg (cGs X tg) := ⟨fun pins s σ H v u Q I r ⟨B, L, Q', sat, ⟨te, h, q⟩, m⟩ =>
  thn (h.run pins s σ H v u _ I r (q H sat)) fun _ _ ⟨σ', H', I', z⟩ => ⟨σ', H', I', m σ' H' z⟩⟩

/-- from a canonical reading's place to the judgement -/
theorem toE {e : Expr} {H : Hp} {Q' : KQ} {Q : VK} (sat : Sat B L H) (h : kE X e σ B L Q') (m : ∀ v H' B' L', Sat B' L' H' → Q' v B' L' → Q v H') : cE X e σ H Q :=
  ⟨B, L, Q', sat, h, fun v H' ⟨B', L', s, q⟩ => m v H' B' L' s q⟩
theorem toT {e : Expr} {H : Hp} {Q' : KB} {Q : Bool → Hp → Prop} (sat : Sat B L H) (h : kT X e σ B L Q') (m : ∀ v H' B' L', Sat B' L' H' → Q' v B' L' → Q v H') : cT X e σ H Q :=
  ⟨B, L, Q', sat, h, fun v H' ⟨B', L', s, q⟩ => m v H' B' L' s q⟩
theorem toW {e : Expr} {H : Hp} {Q' : KB} {Q : Bool → Hp → Prop} (sat : Sat B L H) (h : kW X e σ B L Q') (m : ∀ v H' B' L', Sat B' L' H' → Q' v B' L' → Q v H') : cW X e σ H Q :=
  ⟨B, L, Q', sat, h, fun v H' ⟨B', L', s, q⟩ => m v H' B' L' s q⟩
theorem toA {e : List Expr} {H : Hp} {Q' : KA} {Q : List V → Hp → Prop} (sat : Sat B L H) (h : kA X e σ B L Q') (m : ∀ v H' B' L', Sat B' L' H' → Q' v B' L' → Q v H') : cA X e σ H Q :=
  ⟨B, L, Q', sat, h, fun v H' ⟨B', L', s, q⟩ => m v H' B' L' s q⟩
theorem toG {tg : Expr} {v : V} {H : Hp} {Q' : KN} {Q : L2.St → Hp → Prop} (sat : Sat B L H) (h : kG X tg v σ B L Q') (m : ∀ σ' H' B' L', Sat B' L' H' → Q' σ' B' L' → Q σ' H') : cG X tg v σ H Q :=
  ⟨B, L, Q', sat, h, fun v H' ⟨B', L', s, q⟩ => m v H' B' L' s q⟩
theorem toGs {tg : List Expr} {v : List V} {H : Hp} {Q' : KN} {Q : L2.St → Hp → Prop} (sat : Sat B L H) (h : kGs X tg v σ B L Q') (m : ∀ σ' H' B' L', Sat B' L' H' → Q' σ' B' L' → Q σ' H') : cGs X tg v σ H Q :=
  ⟨B, L, Q', sat, h, fun v H' ⟨B', L', s, q⟩ => m v H' B' L' s q⟩
theorem toS {st : Stmt} {H : Hp} {D : KD} {E : Ends} (sat : Sat B L H) (h : kS X st σ B L D) (m1 : ∀ σ' H' B' L', Sat B' L' H' → D.nx σ' B' L' → E.nx σ' H') (m2 : ∀ v H', up D.rt v H' → E.rt v H') (m3 : ∀ σ' H', upN D.bk σ' H' → E.bk σ' H') (m4 : ∀ σ' H', upN D.ct σ' H' → E.ct σ' H') : cS X st E σ H :=
  ⟨B, L, D, sat, h, fun v H' ⟨B', L', s, q⟩ => m1 v H' B' L' s q, m2, m3, m4⟩
theorem toSs {st : List Stmt} {H : Hp} {D : KD} {E : Ends} (sat : Sat B L H) (h : kSs X st σ B L D) (m1 : ∀ σ' H', upN D.nx σ' H' → E.nx σ' H') (m2 : ∀ v H', up D.rt v H' → E.rt v H') (m3 : ∀ σ' H', upN D.bk σ' H' → E.bk σ' H') (m4 : ∀ σ' H', upN D.ct σ' H' → E.ct σ' H') : cSs X st E σ H :=
  ⟨B, L, D, sat, h, m1, m2, m3, m4⟩
theorem toSs0 {st : List Stmt} {H : Hp} {D : KD} (sat : Sat B L H) (h : kSs X st σ B L D) : cSs X st D.dn σ H :=
  ⟨B, L, D, sat, h, fun _ _ q => q, fun _ _ q => q, fun _ _ q => q, fun _ _ q => q⟩

/-! ### blocks, simple statements -/
variable {D : KD} {st : Stmt} {rest : List Stmt} {pos : Pos} {e a b c : Expr} {Q : KQ}
theorem k_nil (q : D.nx σ B L) : kSs X [] σ B L D := ⟨_, pss_nil, fun H sat => ⟨B, L, sat, q⟩⟩
theorem k_cons (h : kS X st σ B L { D with nx := fun σ' B' L' => kSs X rest σ' B' L' D }) : kSs X (st :: rest) σ B L D :=
  ⟨_, pss_cons ps_c pss_c, fun H sat => toS sat h (fun _ _ _ _ s q => toSs0 s q) (fun _ _ q => q) (fun _ _ q => q) (fun _ _ q => q)⟩
theorem k_one (h : kS X st σ B L D) : kSs X [st] σ B L D := ⟨_, pss_one ps_c, fun H sat => toS sat h (fun _ _ _ _ s q => ⟨_, _, s, q⟩) (fun _ _ q => q) (fun _ _ q => q) (fun _ _ q => q)⟩
theorem k_ret (h : kE X e σ B L D.rt) : kS X (.Return (some e) pos) σ B L D := ⟨_, ps_ret pe_c, fun H sat => toE sat h fun _ _ _ _ s q => ⟨_, _, s, q⟩⟩
theorem k_expr (h : kE X e σ B L fun _ B' L' => D.nx σ B' L') (hs : swapsWith e none pos.line X.env = pure false := by rfl) : kS X (.Expr e pos) σ B L D :=
  ⟨_, ps_expr pe_c hs, fun H sat => toE sat h fun _ _ _ _ s q => ⟨_, _, s, q⟩⟩
theorem k_pass (h : D.nx σ B L) : kS X (.Pass pos) σ B L D := ⟨_, ps_pass, fun H sat => ⟨_, _, sat, h⟩⟩
theorem k_break (h : D.bk σ B L) : kS X (.Break pos) σ B L D := ⟨_, ps_break, fun H sat => ⟨_, _, sat, h⟩⟩
theorem k_continue (h : D.ct σ B L) : kS X (.Continue pos) σ B L D := ⟨_, ps_continue, fun H sat => ⟨_, _, sat, h⟩⟩
theorem k_if {t u : List Stmt} (h : kT X c σ B L fun k B' L' => (k = true → kSs X t σ B' L' D) ∧ (k = false → kSs X u σ B' L' D)) : kS X (.If c t u pos) σ B L D :=
  ⟨_, ps_if pt_c pss_c pss_c, fun H sat => toT sat h fun k H' B' L' s q => by
    cases k with
    | true => exact toSs0 s (q.1 rfl)
    | false => exact toSs0 s (q.2 rfl)⟩
theorem k_set (i : Nat) {x : Str} {pos' : Pos} (h : kE X e σ B L fun v B' L' => D.nx (σ.set i (some v)) B' L') (hN : X.N.Nodup) (hi : X.N[i]? = some x := by rfl) (hx : Loc X.env.scope x := by first | exact Or.inl rfl | exact Or.inr rfl) (hs : swapsWith e (some (.Name x pos')) pos.line X.env = pure false := by rfl)
    (hf : X.fn x = true ∨ X.env.scope.names.lookup x = some .local := by first | exact .inl rfl | exact .inr rfl | assumption) : kS X (.Assign [.Name x pos'] e pos) σ B L D :=
  ⟨_, ps_set hN hi hx pe_c hs hf, fun H sat => toE sat h fun _ _ _ _ s q => ⟨_, _, s, q⟩⟩
theorem k_asg {tg : Expr} (h : kE X e σ B L fun v B' L' => kG X tg v σ B' L' D.nx) (hs : swapsWithSole [tg] e pos.line X.env = pure false := by rfl) (hw : swappedStores [tg] e X.env = pure none := by rfl)
    (h1 : (assignEach [tg] X.env).map (·.2) = [assign tg X.env] := by rfl) : kS X (.Assign [tg] e pos) σ B L D :=
  ⟨_, ps_asg pe_c pg_c hs hw h1, fun H sat => toE sat h fun _ _ _ _ s q => toG s q fun _ _ _ _ s q => ⟨_, _, s, q⟩⟩
theorem g_name (i : Nat) {x : Str} {v : V} {Q : KN} (q : Q (σ.set i (some v)) B L) (hN : X.N.Nodup) (hi : X.N[i]? = some x := by rfl) (hx : Loc X.env.scope x := by first | exact Or.inl rfl | exact Or.inr rfl)
    (hf : X.fn x = true ∨ X.env.scope.names.lookup x = some .local := by first | exact .inl rfl | exact .inr rfl | assumption) : kG X (.Name x pos) v σ B L Q :=
  ⟨_, pg_name hN hi hx hf, fun H sat => ⟨_, _, sat, q⟩⟩
theorem gs_nil {Q : KN} (q : Q σ B L) : kGs X [] [] σ B L Q := ⟨_, pgs_nil, fun H sat => ⟨rfl, _, _, sat, q⟩⟩
theorem gs_cons {t : Expr} {ts : List Expr} {v : V} {vs : List V} {Q : KN} (h : kG X t v σ B L fun σ' B' L' => kGs X ts vs σ' B' L' Q) (hs : (assignEach (t :: ts) X.env).map (·.2) = assign t X.env :: (assignEach ts X.env).map (·.2) := by rfl) : kGs X (t :: ts) (v :: vs) σ B L Q :=
  ⟨_, pgs_cons pg_c pgs_c hs, fun H sat => ⟨_, _, rfl, toG sat h fun _ _ _ _ s q => toGs s q fun _ _ _ _ s q => ⟨_, _, s, q⟩⟩⟩

/-! ### names and constants -/
theorem k_n (i : Nat) {x : Str} {v : V} (q : Q v B L) (hi : X.N[i]? = some x := by rfl) (hs : σ[i]? = some (some v) := by rfl) (hv : Vis X.env.scope x := by first | exact Or.inl rfl | exact Or.inr (Or.inl rfl) | exact Or.inr (Or.inr rfl)) (hd : (x == ("__debug__" : Str)) = false := by decide)
    (hcd : (x == ("__classdict__" : Str)) = false := by decide) : kE X (.Name x pos) σ B L Q := ⟨_, pe_var hi hv hd hcd, fun H sat => ⟨v, hs, _, _, sat, q⟩⟩
theorem k_int {i j} (q : Q (.int i) B L) : kE X (.Constant (.int i) j pos) σ B L Q := ⟨_, pe_int, fun H sat => ⟨_, _, sat, q⟩⟩
theorem k_bl {i j} (q : Q (.bl i) B L) : kE X (.Constant (.bool i) j pos) σ B L Q := ⟨_, pe_bl, fun H sat => ⟨_, _, sat, q⟩⟩
theorem k_non {j} (q : Q .non B L) : kE X (.Constant .none j pos) σ B L Q := ⟨_, pe_non, fun H sat => ⟨_, _, sat, q⟩⟩
theorem k_str {i j} (q : Q (.str i) B L) : kE X (.Constant (.str i) j pos) σ B L Q := ⟨_, pe_str, fun H sat => ⟨_, _, sat, q⟩⟩
/-- a module's name -/
theorem k_g {x : Str} {v : V} {u : Value} (hm : X.mg x = some u) (r : RelV v u) (q : Q v B L) (hg : Gl X x := by rfl) (hd : (x == ("__debug__" : Str)) = false := by decide) : kE X (.Name x pos) σ B L Q := ⟨_, pe_glob hg hm r hd, fun H sat => ⟨_, _, sat, q⟩⟩

/-! ### operators by values -/
def kO (X : Cx) (f : Value → Value → Sem Value) (x y : V) (B : Hp) (L : HL) (Q : KQ) : Prop := ∃ r, OpR X f r ∧ ∀ H, Sat B L H → r x y H (up Q)
def cO (X : Cx) (f : Value → Value → Sem Value) : R2 := fun x y H Q => ∃ B L Q', Sat B L H ∧ kO X f x y B L Q' ∧ ∀ v H', up Q' v H' → Q v H'
theorem or_c {f : Value → Value → Sem Value} : OpR X f (cO X f) := fun pins s σ H x y v u Q I rx ry ⟨B, L, Q', sat, ⟨r, h, q⟩, m⟩ =>
  thn (h pins s σ H x y v u _ I rx ry (q H sat)) fun _ _ ⟨v, H', I', r, z⟩ => ⟨v, H', I', r, m v H' z⟩
theorem toO {f : Value → Value → Sem Value} {x y : V} {H : Hp} {Q' : KQ} {Q : VK} (sat : Sat B L H) (h : kO X f x y B L Q') (m : ∀ v H' B' L', Sat B' L' H' → Q' v B' L' → Q v H') : cO X f x y H Q :=
  ⟨B, L, Q', sat, h, fun v H' ⟨B', L', s, q⟩ => m v H' B' L' s q⟩
theorem k_bin {op : Operator} (h : kE X a σ B L fun x B1 L1 => kE X b σ B1 L1 fun y B2 L2 => kO X (binaryOp op) x y B2 L2 Q) : kE X (.BinOp a op b pos) σ B L Q :=
  ⟨_, pe_op or_c pe_c pe_c, fun H sat => toE sat h fun _ _ _ _ s q => toE s q fun _ _ _ _ s q => toO s q fun _ _ _ _ s q => ⟨_, _, s, q⟩⟩
theorem k_cmp {op : CmpOp} (h : kE X a σ B L fun x B1 L1 => kE X b σ B1 L1 fun y B2 L2 => kO X (compareOp op) x y B2 L2 Q) (hm : behindInMarks op b = false := by first | rfl | exact nomark _) : kE X (.Compare a [op] [b] pos) σ B L Q :=
  ⟨_, pe_cmpR or_c pe_c pe_c hm, fun H sat => toE sat h fun _ _ _ _ s q => toE s q fun _ _ _ _ s q => toO s q fun _ _ _ _ s q => ⟨_, _, s, q⟩⟩
theorem t_cmp {op : CmpOp} {Q : KB} (h : kE X a σ B L fun x B1 L1 => kE X b σ B1 L1 fun y B2 L2 => kO X (compareOp op) x y B2 L2 fun z B3 L3 => ∃ k, z = .bl k ∧ Q k B3 L3) (hm : behindInMarks op b = false := by first | rfl | exact nomark _) : kT X (.Compare a [op] [b] pos) σ B L Q :=
  ⟨_, pt_cmpR or_c pe_c pe_c hm, fun H sat => toE sat h fun _ _ _ _ s q => toE s q fun _ _ _ _ s q => toO s q fun _ _ _ _ s ⟨k, e, q⟩ => ⟨k, e, _, _, s, q⟩⟩
/-- a test whose value is True or False -/
theorem t_val {Q : KB} (h : kE X e σ B L fun x B1 L1 => ∃ k, x = .bl k ∧ Q k B1 L1) (he : ∀ whole, isTrue e X.env whole = (do let v ← whole; standAt e.pos; holding [v] (truthy v)) := by intro _; rfl) : kT X e σ B L Q :=
  ⟨_, pt_val pe_c he, fun H sat => toE sat h fun _ _ _ _ s ⟨k, e, q⟩ => ⟨k, e, _, _, s, q⟩⟩
theorem t_not {Q : KB} (h : kT X a σ B L fun k B1 L1 => Q (!k) B1 L1) : kT X (.UnaryOp .Not a pos) σ B L Q := ⟨_, pt_not pt_c, fun H sat => toT sat h fun _ _ _ _ s q => ⟨_, _, s, q⟩⟩
theorem t_w {Q : KB} (h : kW X e σ B L Q) : kT X e σ B L Q := by
  obtain ⟨t, p, q⟩ := h
  exact ⟨t, p.pt, q⟩
theorem w_and {Q : KB} {es : List Expr} (h : kT X a σ B L fun k B1 L1 => (k = true → kW X (.BoolOp .And (b :: es) pos) σ B1 L1 Q) ∧ (k = false → Q false B1 L1)) : kW X (.BoolOp .And (a :: b :: es) pos) σ B L Q :=
  ⟨_, pw_and pt_c pw_c, fun H sat => toT sat h fun k H' _ _ s q => by
    cases k with
    | true => exact iteT (toW s (q.1 rfl) fun _ _ _ _ s q => ⟨_, _, s, q⟩)
    | false => exact iteF ⟨_, _, s, q.2 rfl⟩⟩
theorem w_and1 {Q : KB} (h : kT X a σ B L Q) : kW X (.BoolOp .And [a] pos) σ B L Q := ⟨_, pw_and1 pt_c, fun H sat => toT sat h fun _ _ _ _ s q => ⟨_, _, s, q⟩⟩
theorem w_or {Q : KB} {es : List Expr} (h : kT X a σ B L fun k B1 L1 => (k = false → kW X (.BoolOp .Or (b :: es) pos) σ B1 L1 Q) ∧ (k = true → Q true B1 L1)) : kW X (.BoolOp .Or (a :: b :: es) pos) σ B L Q :=
  ⟨_, pw_or pt_c pw_c, fun H sat => toT sat h fun k H' _ _ s q => by
    cases k with
    | false => exact iteF (toW s (q.1 rfl) fun _ _ _ _ s q => ⟨_, _, s, q⟩)
    | true => exact iteT ⟨_, _, s, q.2 rfl⟩⟩
theorem w_or1 {Q : KB} (h : kT X a σ B L Q) : kW X (.BoolOp .Or [a] pos) σ B L Q := ⟨_, pw_or1 pt_c, fun H sat => toT sat h fun _ _ _ _ s q => ⟨_, _, s, q⟩⟩
theorem k_and {es : List Expr} (h : kE X a σ B L fun x B1 L1 => ∃ k, x = .bl k ∧ (k = true → kE X (.BoolOp .And (b :: es) pos) σ B1 L1 Q) ∧ (k = false → Q (.bl false) B1 L1)) : kE X (.BoolOp .And (a :: b :: es) pos) σ B L Q :=
  ⟨_, pe_and pe_c pe_c, fun H sat => toE sat h fun x H' _ _ s ⟨k, e, q1, q2⟩ => ⟨k, e, by
    cases k with
    | true => exact iteT (toE s (q1 rfl) fun _ _ _ _ s q => ⟨_, _, s, q⟩)
    | false => exact iteF ⟨_, _, s, q2 rfl⟩⟩⟩
theorem k_or {es : List Expr} (h : kE X a σ B L fun x B1 L1 => ∃ k, x = .bl k ∧ (k = false → kE X (.BoolOp .Or (b :: es) pos) σ B1 L1 Q) ∧ (k = true → Q (.bl true) B1 L1)) : kE X (.BoolOp .Or (a :: b :: es) pos) σ B L Q :=
  ⟨_, pe_or pe_c pe_c, fun H sat => toE sat h fun x H' _ _ s ⟨k, e, q1, q2⟩ => ⟨k, e, by
    cases k with
    | false => exact iteF (toE s (q1 rfl) fun _ _ _ _ s q => ⟨_, _, s, q⟩)
    | true => exact iteT ⟨_, _, s, q2 rfl⟩⟩⟩
theorem k_and1 (h : kE X a σ B L Q) : kE X (.BoolOp .And [a] pos) σ B L Q := ⟨_, pe_one pe_c, fun H sat => toE sat h fun _ _ _ _ s q => ⟨_, _, s, q⟩⟩
theorem k_or1 (h : kE X a σ B L Q) : kE X (.BoolOp .Or [a] pos) σ B L Q := ⟨_, pe_one pe_c, fun H sat => toE sat h fun _ _ _ _ s q => ⟨_, _, s, q⟩⟩
theorem k_not (h : kE X a σ B L fun x B1 L1 => ∃ k, x = .bl k ∧ Q (.bl (!k)) B1 L1) : kE X (.UnaryOp .Not a pos) σ B L Q := ⟨_, pe_not pe_c, fun H sat => toE sat h fun _ _ _ _ s ⟨k, e, q⟩ => ⟨k, e, _, _, s, q⟩⟩
theorem k_ife (h : kT X c σ B L fun k B1 L1 => (k = true → kE X a σ B1 L1 Q) ∧ (k = false → kE X b σ B1 L1 Q)) : kE X (.IfExp c a b pos) σ B L Q :=
  ⟨_, pe_ifExp pt_c pe_c pe_c, fun H sat => toT sat h fun k H' _ _ s q => by
    cases k with
    | true => exact iteT (toE s (q.1 rfl) fun _ _ _ _ s q => ⟨_, _, s, q⟩)
    | false => exact iteF (toE s (q.2 rfl) fun _ _ _ _ s q => ⟨_, _, s, q⟩)⟩
end
end Kv

namespace Kv
open PySem PySem.Spec PyProof.Rows L2

/-- a text by its codes -/
abbrev sOf (l : List Nat) : Str := ⟨l.toArray⟩
theorem sOf_len (l : List Nat) : (sOf l).length = l.length := by simp [Str.length]
theorem sOf_inj {a b : List Nat} : V.str (sOf a) = V.str (sOf b) ↔ a = b := by simp [sOf]
theorem sOf_app (a b : List Nat) : sOf a ++ sOf b = sOf (a ++ b) := by
  show Str.append _ _ = _
  simp [Str.append, sOf]
theorem sOf_size (l : List Nat) : (sOf l).cps.size = l.length := by simp [sOf]
theorem small {n : Nat} (h : n ≤ 16777216) : n ≤ sizeLine := by rw [sizeLine_eq]; exact h
theorem small' {n : Nat} (h : n < 16777216) : n < sizeLine := by rw [sizeLine_eq]; exact h

section
variable {X : Cx} {σ : L2.St} {B : Hp} {L : HL} {Q : KQ} {D : KD} {pos p2 : Pos} {e a b c : Expr} {es : List Expr}
theorem Sat.keep {H H' : Hp} (s : Sat B L H) (e : ∀ b o, H b = some o → H' b = some o) : Sat B L H' := ⟨fun a o h => e a o (s.ext a o h), fun p hp => e _ _ (s.own p hp), s.nb, s.nd⟩
/-- behind a call that keeps all -/
theorem Sat.upq {H H' : Hp} {v : V} (s : Sat B L H) (e : ∀ b o, H b = some o → H' b = some o) (q : Q v B L) : up Q v H' := ⟨B, L, s.keep e, q⟩
theorem Sat.free {H : Hp} {p : Addr} (s : Sat B L H) (h : H p = none) : B p = none := by
  cases e : B p with
  | none => rfl
  | some o => rw [s.ext p o e] at h; cases h
theorem Sat.notin {H : Hp} {p : Addr} (s : Sat B L H) (h : H p = none) : p ∉ L.map (·.1) := fun hm => by
  obtain ⟨q, hq, e⟩ := List.mem_map.mp hm
  have := s.own q hq
  rw [e, h] at this
  cases this
/-- a new object -/
theorem Sat.new {H : Hp} {p : Addr} {o : HO} (s : Sat B L H) (h : H p = none) : Sat B ((p, o) :: L) (upd H p o) := by
  refine ⟨fun a u e => ?_, fun q hq => ?_, fun q hq => ?_, ?_⟩
  · rw [upd_ne (ne_of_none (s.ext a u e) h)]; exact s.ext a u e
  · rcases List.mem_cons.mp hq with e | hq
    · rw [e]; exact upd_same
    · rw [upd_ne (ne_of_none (s.own q hq) h)]; exact s.own q hq
  · rcases List.mem_cons.mp hq with e | hq
    · rw [e]; exact s.free h
    · exact s.nb q hq
  · exact List.nodup_cons.mpr ⟨s.notin h, s.nd⟩
/-- the same, the rest of the heap grown as well -/
theorem Sat.new' {H H' : Hp} {p : Addr} {o : HO} (s : Sat B L H) (h : H p = none) (e : ∀ b o, H b = some o → H' b = some o) (h' : H' p = some o) : Sat B ((p, o) :: L) H' :=
  ⟨fun a u q => e a u (s.ext a u q), fun q hq => by
    rcases List.mem_cons.mp hq with z | hq
    · rw [z]; exact h'
    · exact e _ _ (s.own q hq), fun q hq => by
    rcases List.mem_cons.mp hq with z | hq
    · rw [z]; exact s.free h
    · exact s.nb q hq, List.nodup_cons.mpr ⟨s.notin h, s.nd⟩⟩
/-- a store to an object of ours -/
theorem Sat.set {H : Hp} {p : Addr} {o o' : HO} {L1 L2 : HL} (s : Sat B (L1 ++ (p, o) :: L2) H) : Sat B (L1 ++ (p, o') :: L2) (upd H p o') := by
  have nd := s.nd
  rw [List.map_append, List.map_cons] at nd
  have hd : ∀ q ∈ L1 ++ L2, q.1 ≠ p := by
    intro q hq e
    have h1 := List.nodup_append.mp nd
    rcases List.mem_append.mp hq with h | h
    · exact h1.2.2 q.1 (List.mem_map.mpr ⟨q, h, rfl⟩) p (by simp) e
    · exact (List.nodup_cons.mp h1.2.1).1 (e ▸ List.mem_map.mpr ⟨q, h, rfl⟩)
  refine ⟨fun a u e => ?_, fun q hq => ?_, fun q hq => ?_, by rw [List.map_append, List.map_cons]; exact nd⟩
  · have hp := s.nb (p, o) (by simp)
    rw [upd_ne (fun z => by rw [z, hp] at e; cases e)]; exact s.ext a u e
  · rcases List.mem_append.mp hq with h | h
    · rw [upd_ne (hd q (List.mem_append_left _ h))]; exact s.own q (List.mem_append_left _ h)
    · rcases List.mem_cons.mp h with z | h
      · rw [z]; exact upd_same
      · rw [upd_ne (hd q (List.mem_append_right _ h))]; exact s.own q (List.mem_append_right _ (List.mem_cons_of_mem _ h))
  · rcases List.mem_append.mp hq with h | h
    · exact s.nb q (List.mem_append_left _ h)
    · rcases List.mem_cons.mp h with z | h
      · rw [z]; exact s.nb (p, o) (by simp)
      · exact s.nb q (List.mem_append_right _ (List.mem_cons_of_mem _ h))
/-- forget an object of ours -/
theorem Sat.drop {H : Hp} {p : Addr × HO} (s : Sat B (p :: L) H) : Sat B L H := ⟨s.ext, fun q hq => s.own q (List.mem_cons_of_mem _ hq), fun q hq => s.nb q (List.mem_cons_of_mem _ hq), (List.nodup_cons.mp s.nd).2⟩
theorem Sat.whole {H : Hp} : Sat H [] H := ⟨fun _ _ h => h, fun _ h => (by cases h), fun _ h => (by cases h), List.nodup_nil⟩
/-- the whole heap is the base -/
theorem Sat.base {H : Hp} (s : Sat B L H) : ∃ B', (∀ a o, B a = some o → B' a = some o) ∧ (∀ p ∈ L, B' p.1 = some p.2) ∧ Sat B' [] H := ⟨H, s.ext, s.own, Sat.whole⟩

/-- a list, a tuple that is read: of the base, or ours -/
def Ls (K : PySem.W.Frag) (B : Hp) (L : HL) (a : Addr) (xs : List V) : Prop := SqL K B a xs ∨ (a, HO.lst xs) ∈ L
def Tp (K : PySem.W.Frag) (B : Hp) (L : HL) (a : Addr) (xs : List V) : Prop := SqT K B a xs ∨ (a, HO.tup xs) ∈ L
theorem ext_l {K : PySem.W.Frag} {H H' : Hp} {a : Addr} {xs : List V} (e : ∀ b o, H b = some o → H' b = some o) (h : SqL K H a xs) : SqL K H' a xs := by
  rcases h with (h | ⟨o, h⟩) | h
  · exact .inl (.inl (e _ _ h))
  · exact .inl (.inr ⟨o, e _ _ h⟩)
  · exact .inr h
theorem ext_t {K : PySem.W.Frag} {H H' : Hp} {a : Addr} {xs : List V} (e : ∀ b o, H b = some o → H' b = some o) (h : SqT K H a xs) : SqT K H' a xs := by
  rcases h with (h | ⟨o, h⟩) | h
  · exact .inl (.inl (e _ _ h))
  · exact .inl (.inr ⟨o, e _ _ h⟩)
  · exact .inr h
theorem Ls.at {K : PySem.W.Frag} {H : Hp} {p : Addr} {xs : List V} (h : Ls K B L p xs) (s : Sat B L H) : SqL K H p xs := by
  rcases h with h | h
  · exact ext_l s.ext h
  · exact .inl (.inl (s.own _ h))
theorem Tp.at {K : PySem.W.Frag} {H : Hp} {p : Addr} {xs : List V} (h : Tp K B L p xs) (s : Sat B L H) : SqT K H p xs := by
  rcases h with h | h
  · exact ext_t s.ext h
  · exact .inl (.inl (s.own _ h))

/-! ### values' operators -/
theorem o_of {f : Value → Value → Sem Value} {x y : V} {r : R2} (h : OpR X f r) (q : ∀ H, Sat B L H → r x y H (up Q)) : kO X f x y B L Q := ⟨r, h, q⟩
theorem o_add {i j : Int} (q : Q (.int (i + j)) B L) : kO X (binaryOp .Add) (.int i) (.int j) B L Q := ⟨_, op_add, fun H s => ⟨i, j, rfl, rfl, _, _, s, q⟩⟩
theorem o_sub {i j : Int} (q : Q (.int (i - j)) B L) : kO X (binaryOp .Sub) (.int i) (.int j) B L Q := ⟨_, op_sub, fun H s => ⟨i, j, rfl, rfl, _, _, s, q⟩⟩
theorem o_mul {i j : Int} (q : Q (.int (i * j)) B L) (h : CMul i j) : kO X (binaryOp .Mult) (.int i) (.int j) B L Q := ⟨_, op_mul, fun H s => ⟨i, j, rfl, rfl, h, _, _, s, q⟩⟩
theorem o_mod {i j : Int} (q : Q (.int (i % j)) B L) (h : 0 < j) : kO X (binaryOp .Mod) (.int i) (.int j) B L Q := ⟨_, op_mod, fun H s => ⟨i, j, rfl, rfl, h, _, _, s, q⟩⟩
theorem o_fdiv {i j : Int} (q : Q (.int (i / j)) B L) (h : 0 < j ∧ j < 1073741824) : kO X (binaryOp .FloorDiv) (.int i) (.int j) B L Q := ⟨_, op_fdiv, fun H s => ⟨i, j, rfl, rfl, h, _, _, s, q⟩⟩
theorem o_pow {i j : Int} (q : Q (.int (i ^ j.toNat)) B L) (h : CPow i j) : kO X (binaryOp .Pow) (.int i) (.int j) B L Q := ⟨_, op_pow, fun H s => ⟨i, j, rfl, rfl, h, _, _, s, q⟩⟩
theorem o_adds {i j : List Nat} (q : Q (.str (sOf (i ++ j))) B L) (h : i.length + j.length ≤ 16777216) : kO X (binaryOp .Add) (.str (sOf i)) (.str (sOf j)) B L Q :=
  ⟨_, op_add_str, fun H s => ⟨_, _, rfl, rfl, by rw [sOf_len, sOf_len]; exact small h, by rw [sOf_app]; exact ⟨_, _, s, q⟩⟩⟩
theorem o_lt {i j : Int} (q : Q (.bl (decide (i < j))) B L) : kO X (compareOp .Lt) (.int i) (.int j) B L Q := ⟨_, op_lt, fun H s => ⟨i, j, rfl, rfl, _, _, s, q⟩⟩
theorem o_le {i j : Int} (q : Q (.bl (decide (i ≤ j))) B L) : kO X (compareOp .LtE) (.int i) (.int j) B L Q := ⟨_, op_le, fun H s => ⟨i, j, rfl, rfl, _, _, s, q⟩⟩
theorem o_gt {i j : Int} (q : Q (.bl (decide (j < i))) B L) : kO X (compareOp .Gt) (.int i) (.int j) B L Q := ⟨_, op_gt, fun H s => ⟨i, j, rfl, rfl, _, _, s, q⟩⟩
theorem o_ge {i j : Int} (q : Q (.bl (decide (j ≤ i))) B L) : kO X (compareOp .GtE) (.int i) (.int j) B L Q := ⟨_, op_ge, fun H s => ⟨i, j, rfl, rfl, _, _, s, q⟩⟩
theorem o_eqi {i j : Int} (q : Q (.bl (decide (i = j))) B L) : kO X (compareOp .Eq) (.int i) (.int j) B L Q := ⟨_, op_eq, fun H s => ⟨rfl, _, _, s, by
  have e : decide (V.int i = V.int j) = decide (i = j) := by simp
  rw [e]; exact q⟩⟩
theorem o_nei {i j : Int} (q : Q (.bl (!decide (i = j))) B L) : kO X (compareOp .NotEq) (.int i) (.int j) B L Q := ⟨_, op_ne, fun H s => ⟨rfl, _, _, s, by
  have e : decide (V.int i = V.int j) = decide (i = j) := by simp
  rw [e]; exact q⟩⟩
theorem o_eqs {i j : List Nat} (q : Q (.bl (decide (i = j))) B L) : kO X (compareOp .Eq) (.str (sOf i)) (.str (sOf j)) B L Q := ⟨_, op_eq, fun H s => ⟨rfl, _, _, s, by
  have e : decide (V.str (sOf i) = V.str (sOf j)) = decide (i = j) := by simp
  rw [e]; exact q⟩⟩
theorem o_nes {i j : List Nat} (q : Q (.bl (!decide (i = j))) B L) : kO X (compareOp .NotEq) (.str (sOf i)) (.str (sOf j)) B L Q := ⟨_, op_ne, fun H s => ⟨rfl, _, _, s, by
  have e : decide (V.str (sOf i) = V.str (sOf j)) = decide (i = j) := by simp
  rw [e]; exact q⟩⟩
theorem o_eqb {i j : Bool} (q : Q (.bl (decide (i = j))) B L) : kO X (compareOp .Eq) (.bl i) (.bl j) B L Q := ⟨_, op_eq, fun H s => ⟨rfl, _, _, s, by
  have e : decide (V.bl i = V.bl j) = decide (i = j) := by simp
  rw [e]; exact q⟩⟩
theorem o_neb {i j : Bool} (q : Q (.bl (!decide (i = j))) B L) : kO X (compareOp .NotEq) (.bl i) (.bl j) B L Q := ⟨_, op_ne, fun H s => ⟨rfl, _, _, s, by
  have e : decide (V.bl i = V.bl j) = decide (i = j) := by simp
  rw [e]; exact q⟩⟩
/-- one sign in a text -/
theorem o_ins {i : Nat} {l : List Nat} (q : Q (.bl (decide (i ∈ l))) B L) : kO X (compareOp .In) (.str (sOf [i])) (.str (sOf l)) B L Q := ⟨_, op_in_sign, fun H s => ⟨i, _, rfl, rfl, _, _, s, q⟩⟩
theorem o_nins {i : Nat} {l : List Nat} (q : Q (.bl (!decide (i ∈ l))) B L) : kO X (compareOp .NotIn) (.str (sOf [i])) (.str (sOf l)) B L Q := ⟨_, op_notIn_sign, fun H s => ⟨i, _, rfl, rfl, _, _, s, q⟩⟩
theorem o_isN {x : V} (q : Q (.bl (decide (x = .non))) B L) : kO X (compareOp .Is) x .non B L Q := ⟨_, op_isN, fun H s => ⟨rfl, _, _, s, q⟩⟩
theorem o_notN {x : V} (q : Q (.bl (!decide (x = .non))) B L) : kO X (compareOp .IsNot) x .non B L Q := ⟨_, op_notN, fun H s => ⟨rfl, _, _, s, q⟩⟩

/-! ### arguments, displays -/
theorem a_nil {Q : KA} (q : Q [] B L) : kA X [] σ B L Q := ⟨_, pa_nil, fun H s => ⟨_, _, s, q⟩⟩
theorem a_cons {Q : KA} (h : kE X e σ B L fun v B1 L1 => kA X es σ B1 L1 fun vs B2 L2 => Q (v :: vs) B2 L2) (hs : starEach (e :: es) X.env = (false, eval e X.env) :: starEach es X.env := by rfl) : kA X (e :: es) σ B L Q :=
  ⟨_, pa_cons pe_c pa_c hs, fun H s => toE s h fun _ _ _ _ s q => toA s q fun _ _ _ _ s q => ⟨_, _, s, q⟩⟩
theorem k_tup {x1} (h : kA X es σ B L fun vs B1 L1 => vs.length ≤ 16777216 ∧ ∀ p, Q (.ref p) B1 ((p, .tup vs) :: L1)) : kE X (.Tuple es x1 pos) σ B L Q :=
  ⟨_, pe_tup pa_c, fun H s => toA s h fun _ _ _ _ s q => ⟨small q.1, fun p hp => ⟨_, _, s.new hp, q.2 p⟩⟩⟩
theorem k_lst (h : kA X es σ B L fun vs B1 L1 => vs.length ≤ 16777216 ∧ ∀ p, Q (.ref p) B1 ((p, .lst vs) :: L1)) : kE X (.List es pos) σ B L Q :=
  ⟨_, pe_lst pa_c, fun H s => toA s h fun _ _ _ _ s q => ⟨small q.1, fun p hp => ⟨_, _, s.new hp, q.2 p⟩⟩⟩

/-! ### calls by values -/
def kC (X : Cx) (f : Value) (vs : List V) (B : Hp) (L : HL) (Q : KQ) : Prop := ∃ r, CallR X f r ∧ ∀ H, Sat B L H → r vs H (up Q)
def cC (X : Cx) (f : Value) : List V → Hp → VK → Prop := fun vs H Q => ∃ B L Q', Sat B L H ∧ kC X f vs B L Q' ∧ ∀ v H', up Q' v H' → Q v H'
theorem cr_c {f : Value} : CallR X f (cC X f) := fun pins s σ H xs us Q I r ⟨B, L, Q', sat, ⟨k, h, q⟩, m⟩ =>
  thn (h pins s σ H xs us _ I r (q H sat)) fun _ _ ⟨v, H', I', r, z⟩ => ⟨v, H', I', r, m v H' z⟩
theorem toC {f : Value} {vs : List V} {H : Hp} {Q' : KQ} {Q : VK} (sat : Sat B L H) (h : kC X f vs B L Q') (m : ∀ v H' B' L', Sat B' L' H' → Q' v B' L' → Q v H') : cC X f vs H Q :=
  ⟨B, L, Q', sat, h, fun v H' ⟨B', L', s, q⟩ => m v H' B' L' s q⟩
theorem k_callB {x : Str} {id : String} (hm : X.mg x = none) (h : kA X (e :: es) σ B L fun vs B1 L1 => kC X (.builtin id) vs B1 L1 Q) (hv : bootBuiltins x = some (.builtin id) := by decide +kernel) (hg : Gl X x := by rfl) (hn : x ≠ "__name__" := by decide) (hdb : (x == ("__debug__" : Str)) = false := by decide)
    (he : starEach (e :: es) X.env = (false, eval e X.env) :: starEach es X.env := by rfl) (hpl : (backTo pos (starEach es X.env)).any (·.1) = false := by rfl) : kE X (.Call (.Name x p2) (e :: es) [] pos) σ B L Q :=
  ⟨_, pe_callB cr_c hg hm hv pa_c hn hdb he hpl, fun H s => toA s h fun _ _ _ _ s q => toC s q fun _ _ _ _ s q => ⟨_, _, s, q⟩⟩
theorem k_callT {x : Str} {T : String} (hm : X.mg x = none) (h : kA X (e :: es) σ B L fun vs B1 L1 => kC X (.type T) vs B1 L1 Q) (hv : bootBuiltins x = some (.type T) := by decide +kernel) (hg : Gl X x := by rfl) (hn : x ≠ "__name__" := by decide) (hdb : (x == ("__debug__" : Str)) = false := by decide)
    (he : starEach (e :: es) X.env = (false, eval e X.env) :: starEach es X.env := by rfl) (hpl : (backTo pos (starEach es X.env)).any (·.1) = false := by rfl) : kE X (.Call (.Name x p2) (e :: es) [] pos) σ B L Q :=
  ⟨_, pe_callTy cr_c hg hm hv pa_c hn hdb he hpl, fun H s => toA s h fun _ _ _ _ s q => toC s q fun _ _ _ _ s q => ⟨_, _, s, q⟩⟩
theorem c_lens {l : List Nat} (q : Q (.int l.length) B L) (h : l.length ≤ 16777216) : kC X (.builtin "len") [.str (sOf l)] B L Q := ⟨_, call_len_str, fun H s => ⟨_, rfl, by rw [sOf_len]; exact small h, by rw [sOf_len]; exact ⟨_, _, s, q⟩⟩⟩
theorem c_lenl {p : Addr} {xs : List V} (h : Ls X.K B L p xs) (q : Q (.int xs.length) B L) : kC X (.builtin "len") [.ref p] B L Q := ⟨_, call_len_seq, fun H s => ⟨p, xs, rfl, .inl (h.at s), _, _, s, q⟩⟩
theorem c_lent {p : Addr} {xs : List V} (h : Tp X.K B L p xs) (q : Q (.int xs.length) B L) : kC X (.builtin "len") [.ref p] B L Q := ⟨_, call_len_seq, fun H s => ⟨p, xs, rfl, .inr (h.at s), _, _, s, q⟩⟩
theorem c_abs {i : Int} (q : Q (.int (if i < 0 then -i else i)) B L) : kC X (.builtin "abs") [.int i] B L Q := ⟨_, call_abs, fun H s => ⟨i, rfl, _, _, s, q⟩⟩
theorem c_min2 {i j : Int} (q : Q (.int (if j < i then j else i)) B L) (hc : X.calm = true := by rfl) : kC X (.builtin "min") [.int i, .int j] B L Q := ⟨_, call_min2 hc, fun H s => ⟨i, j, rfl, _, _, s, q⟩⟩
theorem c_max2 {i j : Int} (q : Q (.int (if j > i then j else i)) B L) (hc : X.calm = true := by rfl) : kC X (.builtin "max") [.int i, .int j] B L Q := ⟨_, call_max2 hc, fun H s => ⟨i, j, rfl, _, _, s, q⟩⟩
theorem c_intb {k : Bool} (q : Q (.int (if k then 1 else 0)) B L) : kC X (.type "int") [.bl k] B L Q := ⟨_, call_int1, fun H s => .inr ⟨k, rfl, _, _, s, q⟩⟩
theorem c_listl {p : Addr} {xs : List V} (h : Ls X.K B L p xs) (q : ∀ l, Q (.ref l) B ((l, .lst xs) :: L)) : kC X (.type "list") [.ref p] B L Q := ⟨_, call_list_of, fun H s => ⟨p, xs, rfl, .inl (h.at s), fun l hl => ⟨_, _, s.new hl, q l⟩⟩⟩
theorem c_listt {p : Addr} {xs : List V} (h : Tp X.K B L p xs) (q : ∀ l, Q (.ref l) B ((l, .lst xs) :: L)) : kC X (.type "list") [.ref p] B L Q := ⟨_, call_list_of, fun H s => ⟨p, xs, rfl, .inr (h.at s), fun l hl => ⟨_, _, s.new hl, q l⟩⟩⟩
theorem c_tupl {p : Addr} {xs : List V} (h : Ls X.K B L p xs) (q : ∀ l, Q (.ref l) B ((l, .tup xs) :: L)) : kC X (.type "tuple") [.ref p] B L Q := ⟨_, call_tuple_of, fun H s => ⟨p, xs, rfl, .inl ⟨h.at s, fun l hl => ⟨_, _, s.new hl, q l⟩⟩⟩⟩
theorem c_all {p : Addr} {bs : List Bool} (h : Ls X.K B L p (bs.map V.bl)) (q : Q (.bl (bs.all id)) B L) (hc : X.calm = true := by rfl) : kC X (.builtin "all") [.ref p] B L Q := ⟨_, cr_all hc, fun H s => ⟨p, bs, rfl, h.at s, _, _, s, q⟩⟩
theorem c_any {p : Addr} {bs : List Bool} (h : Ls X.K B L p (bs.map V.bl)) (q : Q (.bl (bs.any id)) B L) (hc : X.calm = true := by rfl) : kC X (.builtin "any") [.ref p] B L Q := ⟨_, cr_any hc, fun H s => ⟨p, bs, rfl, h.at s, _, _, s, q⟩⟩
theorem c_sum {p : Addr} {ns : List Int} (h : Ls X.K B L p (ns.map V.int)) (q : Q (.int ns.sum) B L) (hc : X.calm = true := by rfl) : kC X (.builtin "sum") [.ref p] B L Q := ⟨_, cr_sum hc, fun H s => ⟨p, ns, rfl, h.at s, _, _, s, q⟩⟩
theorem c_isi {x c : V} {t u : Value} {k : Bool} (hc : ClsV c u) (ht : ∀ H, Sat B L H → TyX X.K H x t) (hk : PySem.W.kitOne X.K t u = some k) (q : Q (.bl k) B L) : kC X (.builtin "isinstance") [x, c] B L Q := ⟨_, call_isi, fun H s => ⟨x, c, t, u, k, rfl, hc, ht H s, hk, _, _, s, q⟩⟩

/-! ### calls of the program's own defs -/
structure Fn (P : Program) (w : World) (K : PySem.W.Frag) (mg : Str → Option Value) (base : Heap) (k : Nat) (x : Str) (sp : Sp) : Prop where
  ex : ∃ f fd ps, FnOk P w K mg base (L2.CX P w) k f fd ps sp ∧ mg x = some (.ref f) ∧ PySem.W.keepIn K (.ref f) = true ∧ Binds K fd ps []
theorem k_call {x : Str} {k : Nat} {sp : Sp} {W : WX} (F : Fn X.prog X.w X.K X.mg X.base k x sp) (hr : Room k X.A) (tk : Takes X W) (h : kA X (e :: es) σ B L fun vs B1 L1 => ∀ H, Sat B1 L1 H → sp vs H (up Q) (WE W σ)) (hg : Gl X x := by rfl)
    (hdb : (x == ("__debug__" : Str)) = false := by decide) (he : starEach (e :: es) X.env = (false, eval e X.env) :: starEach es X.env := by rfl) (hpl : (backTo pos (starEach es X.env)).any (·.1) = false := by rfl) : kE X (.Call (.Name x p2) (e :: es) [] pos) σ B L Q := by
  obtain ⟨f, fd, ps, hF, hm, hk, hb⟩ := F.ex
  exact ⟨_, pe_callS hF hr hg hm hk hb (fun σ => passAt tk σ) pa_c hdb he hpl, fun H s => toA s h fun _ _ _ _ s q => q _ s⟩
theorem k_call0 {x : Str} {k : Nat} {sp : Sp} {W : WX} (F : Fn X.prog X.w X.K X.mg X.base k x sp) (hr : Room k X.A) (h : ∀ H, Sat B L H → sp [] H (up Q) E0) (hg : Gl X x := by rfl)
    (hdb : (x == ("__debug__" : Str)) = false := by decide) : kE X (.Call (.Name x p2) [] [] pos) σ B L Q := by
  obtain ⟨f, fd, ps, hF, hm, hk, hb⟩ := F.ex
  exact ⟨_, pe_call0 hF hr hg hm hk hb .nil passL hdb, fun H s => h H s⟩

/-! ### subscripts -/
def kI (X : Cx) (x y : V) (B : Hp) (L : HL) (Q : KQ) : Prop := ∃ r, IxR X r ∧ ∀ H, Sat B L H → r x y H (up Q)
def cI (X : Cx) : R2 := fun x y H Q => ∃ B L Q', Sat B L H ∧ kI X x y B L Q' ∧ ∀ v H', up Q' v H' → Q v H'
theorem ix_c : IxR X (cI X) := fun v1 s1 pins s σ H x y v u Q I rx ry ⟨B, L, Q', sat, ⟨k, h, q⟩, m⟩ hs =>
  thn (h v1 s1 pins s σ H x y v u _ I rx ry (q H sat) hs) fun _ _ ⟨v, H', I', r, z⟩ => ⟨v, H', I', r, m v H' z⟩
theorem k_ix (h : kE X a σ B L fun x B1 L1 => kE X b σ B1 L1 fun y B2 L2 => kI X x y B2 L2 Q) (hs : PlainIx b := by exact fun _ _ => rfl) : kE X (.Subscript a b pos) σ B L Q :=
  ⟨_, pe_ix ix_c pe_c pe_c hs, fun H s => toE s h fun _ _ _ _ s q => toE s q fun _ _ _ _ s q => ⟨_, _, _, s, q, fun _ _ z => z⟩⟩
theorem i_list {p : Addr} {xs : List V} {i : Int} {v : V} (h : Ls X.K B L p xs) (hv : atI xs i = some v) (q : Q v B L) : kI X (.ref p) (.int i) B L Q := ⟨_, ix_list, fun H s => ⟨p, xs, i, v, rfl, rfl, h.at s, hv, _, _, s, q⟩⟩
theorem i_tup {p : Addr} {xs : List V} {i : Int} {v : V} (h : Tp X.K B L p xs) (hv : atI xs i = some v) (q : Q v B L) : kI X (.ref p) (.int i) B L Q := ⟨_, ix_tup, fun H s => ⟨p, xs, i, v, rfl, rfl, h.at s, hv, _, _, s, q⟩⟩
theorem i_str {l : List Nat} {i : Int} {c : Nat} (hv : atI l i = some c) (q : Q (.str (sOf [c])) B L) (hl : l.length ≤ 16777216) : kI X (.str (sOf l)) (.int i) B L Q := ⟨_, ix_str, fun H s => ⟨_, i, c, rfl, rfl, by rw [sOf_len]; exact small hl, hv, _, _, s, q⟩⟩
def kSl (X : Cx) (x : V) (lo hi : Option Int) (B : Hp) (L : HL) (Q : KQ) : Prop := ∃ r, SlR X r ∧ ∀ H, Sat B L H → r x lo hi H (up Q)
def kP (X : Cx) (e : Option Expr) (σ : L2.St) (B : Hp) (L : HL) (Q : Option Int → Hp → HL → Prop) : Prop := ∃ t, PO X e t ∧ ∀ H, Sat B L H → t σ H fun o H' => ∃ B L, Sat B L H' ∧ Q o B L
theorem p_none {Q : Option Int → Hp → HL → Prop} (q : Q none B L) : kP X none σ B L Q := ⟨_, po_none, fun H s => ⟨_, _, s, q⟩⟩
theorem p_some {Q : Option Int → Hp → HL → Prop} (h : kE X e σ B L fun v B1 L1 => ∃ i, v = .int i ∧ Q (some i) B1 L1) : kP X (some e) σ B L Q := ⟨_, po_some pe_c, fun H s => toE s h fun _ _ _ _ s ⟨i, e, q⟩ => ⟨i, e, _, _, s, q⟩⟩
def cSl (X : Cx) : V → Option Int → Option Int → Hp → VK → Prop := fun x lo hi H Q => ∃ B L Q', Sat B L H ∧ kSl X x lo hi B L Q' ∧ ∀ v H', up Q' v H' → Q v H'
theorem sl_c : SlR X (cSl X) := fun pins s σ H x v vl vu lo hi sl Q I r1 hs pl pu ⟨B, L, Q', sat, ⟨r, h, q⟩, m⟩ => by
  obtain ⟨T, id, h1, h2, h3⟩ := h pins s σ H x v vl vu lo hi sl _ I r1 hs pl pu (q H sat)
  exact ⟨T, id, h1, h2, thn h3 fun _ _ ⟨v, H', I', r, z⟩ => ⟨v, H', I', r, m v H' z⟩⟩
def cP (X : Cx) (e : Option Expr) : TO := fun σ H Q => ∃ B L Q', Sat B L H ∧ kP X e σ B L Q' ∧ ∀ o H' B' L', Sat B' L' H' → Q' o B' L' → Q o H'
theorem po_c {e : Option Expr} : PO X e (cP X e) := ⟨fun pins s σ H Q I ⟨B, L, Q', sat, ⟨t, h, q⟩, m⟩ =>
  thn (h.run pins s σ H _ I (q H sat)) fun _ _ ⟨o, H', I', r, B', L', s, z⟩ => ⟨o, H', I', r, m o H' B' L' s z⟩⟩
theorem k_slice {lo hi : Option Expr} {p3 : Pos} (h : kE X e σ B L fun x B1 L1 => kP X lo σ B1 L1 fun l B2 L2 => kP X hi σ B2 L2 fun u B3 L3 => kSl X x l u B3 L3 Q) : kE X (.Subscript e (.Slice lo hi none p3) pos) σ B L Q :=
  ⟨_, pe_slice sl_c pe_c po_c po_c, fun H s => toE s h fun _ _ _ _ s q => ⟨_, _, _, s, q, fun _ _ _ _ s q => ⟨_, _, _, s, q, fun _ _ _ _ s q => ⟨_, _, _, s, q, fun _ _ z => z⟩⟩⟩⟩
/-- a text's slice, a list's -/
def cut {α : Type} (l : List α) (lo hi : Option Int) : List α := (l.drop (HT.sIx l.length 0 lo)).take (HT.sIx l.length l.length hi - HT.sIx l.length 0 lo)
theorem sl_s {l : List Nat} {lo hi : Option Int} (q : Q (.str (sOf (cut l lo hi))) B L) (hl : l.length ≤ 16777216) : kSl X (.str (sOf l)) lo hi B L Q :=
  ⟨_, sl_str, fun H s => ⟨_, rfl, by rw [sOf_len]; exact small hl, by
    have e : cutS (sOf l) lo hi = sOf (cut l lo hi) := by unfold cutS cut; rw [sOf_len]
    rw [e]; exact ⟨_, _, s, q⟩⟩⟩
theorem sl_l {p : Addr} {xs : List V} {lo hi : Option Int} (h : Ls X.K B L p xs) (q : ∀ l, Q (.ref l) B ((l, .lst (cut xs lo hi)) :: L)) : kSl X (.ref p) lo hi B L Q :=
  ⟨_, sl_list, fun H s => ⟨p, xs, rfl, h.at s, fun l hl => ⟨_, _, s.new hl, q l⟩⟩⟩
end
end Kv

namespace Kv
open PySem PySem.Spec PyProof.Rows L2

/-- where an object of ours stands, and the list with another one there -/
inductive Rep : HL → Addr → HO → HO → HL → Prop where
  | here {p : Addr} {o o' : HO} {L : HL} : Rep ((p, o) :: L) p o o' ((p, o') :: L)
  | there {q : Addr × HO} {p : Addr} {o o' : HO} {L L' : HL} : Rep L p o o' L' → Rep (q :: L) p o o' (q :: L')
theorem Rep.split {L L' : HL} {p : Addr} {o o' : HO} (r : Rep L p o o' L') : ∃ L1 L2, L = L1 ++ (p, o) :: L2 ∧ L' = L1 ++ (p, o') :: L2 := by
  induction r with
  | here => exact ⟨[], _, rfl, rfl⟩
  | there _ ih =>
    obtain ⟨L1, L2, e1, e2⟩ := ih
    exact ⟨_ :: L1, L2, by rw [e1]; rfl, by rw [e2]; rfl⟩
theorem Rep.mem {L L' : HL} {p : Addr} {o o' : HO} (r : Rep L p o o' L') : (p, o) ∈ L := by
  obtain ⟨L1, L2, e1, _⟩ := r.split
  rw [e1]; simp
theorem Sat.rep {B : Hp} {L L' : HL} {H : Hp} {p : Addr} {o o' : HO} (s : Sat B L H) (r : Rep L p o o' L') : Sat B L' (upd H p o') := by
  obtain ⟨L1, L2, e1, e2⟩ := r.split
  rw [e2]
  rw [e1] at s
  exact s.set
/-- the heap changed at p alone, grown elsewhere -/
theorem Sat.rep' {B : Hp} {L L' : HL} {H H' : Hp} {p : Addr} {o o' : HO} (s : Sat B L H) (r : Rep L p o o' L') (e : ∀ b u, b ≠ p → H b = some u → H' b = some u) (h : H' p = some o') : Sat B L' H' := by
  have s2 := s.rep r
  refine s2.keep fun b u q => ?_
  by_cases hb : b = p
  · subst hb
    rw [upd_same] at q
    rw [h]; exact q
  · rw [upd_ne hb] at q
    exact e b u hb q

section
variable {X : Cx} {σ : L2.St} {B : Hp} {L : HL} {Q : KQ} {D : KD} {pos p2 : Pos} {e a b c tg iter elt : Expr} {es : List Expr} {body : List Stmt}
theorem k_drop {p : Addr × HO} (h : kE X e σ B L Q) : kE X e σ B (p :: L) Q := by
  obtain ⟨t, h1, h2⟩ := h
  exact ⟨t, h1, fun H s => h2 H s.drop⟩

/-! ### what is walked -/
def kR (X : Cx) (tg iter : Expr) (σ : L2.St) (B : Hp) (L : HL) (R : It → Hp → HL → Prop) : Prop := ∃ wi, PI X tg iter wi ∧ ∀ H, Sat B L H → wi σ H fun J H' => ∃ B' L', Sat B' L' H' ∧ R J B' L'
def cR (X : Cx) (tg iter : Expr) : TI := fun σ H R => ∃ B L R', Sat B L H ∧ kR X tg iter σ B L R' ∧ ∀ J H' B' L', Sat B' L' H' → R' J B' L' → R J H'
theorem pi_c : PI X tg iter (cR X tg iter) := ⟨fun pins s σ H R I ⟨B, L, R', sat, ⟨wi, h, q⟩, m⟩ =>
  thn (h.run pins s σ H _ I (q H sat)) fun _ _ h1 => thn h1 fun _ _ ⟨it, fp, tn, J, H', e, I', T, t0, f, B', L', s, z⟩ => ⟨it, fp, tn, J, H', e, I', T, t0, f, m J H' B' L' s z⟩⟩
theorem r_list (h : kE X iter σ B L fun v B1 L1 => ∃ a xs, v = .ref a ∧ Ls X.K B1 L1 a xs ∧ R (Itl X.K a) B1 L1) : kR X tg iter σ B L R := ⟨_, pi_list pe_c, fun H s => toE s h fun _ _ _ _ s ⟨a, xs, e, h, q⟩ => ⟨a, e, ⟨xs, h.at s⟩, _, _, s, q⟩⟩
theorem r_tup (h : kE X iter σ B L fun v B1 L1 => ∃ a xs, v = .ref a ∧ Tp X.K B1 L1 a xs ∧ R (Itt X.K a) B1 L1) : kR X tg iter σ B L R := ⟨_, pi_tup pe_c, fun H s => toE s h fun _ _ _ _ s ⟨a, xs, e, h, q⟩ => ⟨a, e, ⟨xs, h.at s⟩, _, _, s, q⟩⟩
theorem r_str (h : kE X iter σ B L fun v B1 L1 => ∃ l, v = .str (sOf l) ∧ R (Its (sOf l)) B1 L1) : kR X tg iter σ B L R := ⟨_, pi_str pe_c, fun H s => toE s h fun _ _ _ _ s ⟨l, e, q⟩ => ⟨_, e, _, _, s, q⟩⟩
theorem r_rng1 (hm : X.mg "range" = none) (h : kE X e σ B L fun v B1 L1 => ∃ n : Int, v = .int n ∧ -(2 ^ 62) ≤ n ∧ n < 2 ^ 62 ∧ R (Itr 0 n.toNat) B1 L1) (hg : Gl X "range" := by rfl) (hs : starEach [e] X.env = (false, eval e X.env) :: starEach [] X.env := by rfl) (hs' : starEach [e] X.env = [(false, eval e X.env)] := by rfl) : kR X tg (.Call (.Name "range" p2) [e] [] pos) σ B L R :=
  ⟨_, pi_range1 hg hm (pa_cons pe_c pa_nil hs) hs', fun H s => toE s h fun _ _ _ _ s ⟨n, e, h1, h2, q⟩ => ⟨n, by rw [e], h1, h2, _, _, s, q⟩⟩
theorem r_rng2 (hm : X.mg "range" = none) (h : kA X [a, b] σ B L fun vs B1 L1 => ∃ i j : Int, vs = [.int i, .int j] ∧ (-(2 ^ 62) ≤ i ∧ i < 2 ^ 62 ∧ -(2 ^ 62) ≤ j ∧ j < 2 ^ 62) ∧ R (Itr i (j - i).toNat) B1 L1) (hg : Gl X "range" := by rfl) (hs1 : starEach [a, b] X.env = [(false, eval a X.env), (false, eval b X.env)] := by rfl) (hs2 : starEach [b] X.env = [(false, eval b X.env)] := by rfl) : kR X tg (.Call (.Name "range" p2) [a, b] [] pos) σ B L R :=
  ⟨_, pi_range2 hg hm pa_c hs1 hs2, fun H s => toA s h fun _ _ _ _ s ⟨i, j, e, h1, q⟩ => ⟨i, j, e, h1, _, _, s, q⟩⟩
theorem r_enum {elts : List Expr} {kk : Nat} {tpos : Pos} (hm : X.mg "enumerate" = none) (h : kE X e σ B L fun v B1 L1 => ∃ a xs, v = .ref a ∧ Ls X.K B1 L1 a xs ∧ R (Ite X.K a) B1 L1) (hg : Gl X "enumerate" := by rfl)
    (hs : starEach [e] X.env = (false, eval e X.env) :: starEach [] X.env := by rfl) (hs' : starEach [e] X.env = [(false, eval e X.env)] := by rfl) : kR X (.Tuple elts kk tpos) (.Call (.Name "enumerate" p2) [e] [] pos) σ B L R :=
  ⟨_, pi_enum hg hm (pa_cons pe_c pa_nil hs) hs', fun H s => toE s h fun _ _ _ _ s ⟨a, xs, e, h, q⟩ => ⟨a, xs, by rw [e], h.at s, _, _, s, q⟩⟩

/-! ### for -/
theorem k_for (hp : PassesOwn (model X.prog X.w) X.A X.env X.xe) (h : kR X tg iter σ B L fun J B1 L1 => ∃ (n : Nat) (G : Hp → Prop) (Y : Nat → Hp → V → Hp → Prop) (Pv : Nat → KN), Walk J n G Y ∧ Pv 0 σ B1 L1 ∧ (∀ i σ B L H, i ≤ n → Pv i σ B L → Sat B L H → G H) ∧
      (∀ i x σ B L H H', i < n → Pv i σ B L → Sat B L H → Y i H x H' → ∃ B' L', Sat B' L' H' ∧ kG X tg x σ B' L' fun σ2 B2 L2 => kSs X body σ2 B2 L2 { D with nx := Pv (i + 1), ct := Pv (i + 1), bk := D.nx }) ∧ ∀ σ B L, Pv n σ B L → D.nx σ B L)
    (hc : X.calm = true := by rfl) (hs : ∀ x, foldedSetIterable iter X.env x = pure x := by intro _; rfl) : kS X (.For tg iter body [] pos) σ B L D :=
  ⟨_, ps_for hp hc pi_c pg_c pss_c hs, fun H s => ⟨B, L, _, s, h, fun J H1 B1 L1 s1 ⟨n, G, Y, Pv, w, p0, hG, ht, hd⟩ =>
    for_it w (fun i σ H => ∃ B L, Sat B L H ∧ Pv i σ B L) ⟨B1, L1, s1, p0⟩ (fun i σ H hi ⟨B, L, s, p⟩ => hG i σ B L H hi p s)
      (fun i x σ H H' hi ⟨B, L, s, p⟩ y => by
        obtain ⟨B', L', s', g⟩ := ht i x σ B L H H' hi p s y
        exact toG s' g fun _ _ _ _ s2 q2 => toSs s2 q2 (fun _ _ z => z) (fun _ _ z => z) (fun _ _ z => z) (fun _ _ z => z))
      fun σ H ⟨B, L, s, p⟩ => ⟨B, L, s, hd σ B L p⟩⟩⟩
theorem k_for_l (Pv : Nat → KN) (hp : PassesOwn (model X.prog X.w) X.A X.env X.xe)
    (h : kE X iter σ B L fun v B1 L1 => ∃ a xs, v = .ref a ∧ Ls X.K B1 L1 a xs ∧ Pv 0 σ B1 L1 ∧ (∀ i σ B L, i ≤ xs.length → Pv i σ B L → Ls X.K B L a xs) ∧
      (∀ i x σ B L, xs[i]? = some x → Pv i σ B L → kG X tg x σ B L fun σ2 B2 L2 => kSs X body σ2 B2 L2 { D with nx := Pv (i + 1), ct := Pv (i + 1), bk := D.nx }) ∧ ∀ σ B L, Pv xs.length σ B L → D.nx σ B L)
    (hc : X.calm = true := by rfl) (hs : ∀ x, foldedSetIterable iter X.env x = pure x := by intro _; rfl) : kS X (.For tg iter body [] pos) σ B L D :=
  k_for hp (r_list (by
    obtain ⟨t, h1, h2⟩ := h
    refine ⟨_, pe_c, fun H s => toE s ⟨t, h1, h2⟩ fun v H' B' L' s' ⟨a, xs, e, hl, p0, hL, ht, hd⟩ => ⟨B', L', s', a, xs, e, hl, xs.length, _, _, Pv, walk_list, p0, fun i σ B L H hi p s => (hL i σ B L hi p).at s, fun i x σ B L H H' hi p s y => ?_, hd⟩⟩
    obtain ⟨rfl, hx⟩ := y
    exact ⟨B, L, s, ht i x σ B L hx p⟩)) hc hs
theorem k_for_t (Pv : Nat → KN) (hp : PassesOwn (model X.prog X.w) X.A X.env X.xe)
    (h : kE X iter σ B L fun v B1 L1 => ∃ a xs, v = .ref a ∧ Tp X.K B1 L1 a xs ∧ Pv 0 σ B1 L1 ∧ (∀ i σ B L, i ≤ xs.length → Pv i σ B L → Tp X.K B L a xs) ∧
      (∀ i x σ B L, xs[i]? = some x → Pv i σ B L → kG X tg x σ B L fun σ2 B2 L2 => kSs X body σ2 B2 L2 { D with nx := Pv (i + 1), ct := Pv (i + 1), bk := D.nx }) ∧ ∀ σ B L, Pv xs.length σ B L → D.nx σ B L)
    (hc : X.calm = true := by rfl) (hs : ∀ x, foldedSetIterable iter X.env x = pure x := by intro _; rfl) : kS X (.For tg iter body [] pos) σ B L D :=
  k_for hp (r_tup (by
    obtain ⟨t, h1, h2⟩ := h
    refine ⟨_, pe_c, fun H s => toE s ⟨t, h1, h2⟩ fun v H' B' L' s' ⟨a, xs, e, hl, p0, hL, ht, hd⟩ => ⟨B', L', s', a, xs, e, hl, xs.length, _, _, Pv, walk_tup, p0, fun i σ B L H hi p s => (hL i σ B L hi p).at s, fun i x σ B L H H' hi p s y => ?_, hd⟩⟩
    obtain ⟨rfl, hx⟩ := y
    exact ⟨B, L, s, ht i x σ B L hx p⟩)) hc hs
theorem k_for_s (Pv : Nat → KN) (hp : PassesOwn (model X.prog X.w) X.A X.env X.xe)
    (h : kE X iter σ B L fun v B1 L1 => ∃ l, v = .str (sOf l) ∧ Pv 0 σ B1 L1 ∧
      (∀ i c σ B L, l[i]? = some c → Pv i σ B L → kG X tg (.str (sOf [c])) σ B L fun σ2 B2 L2 => kSs X body σ2 B2 L2 { D with nx := Pv (i + 1), ct := Pv (i + 1), bk := D.nx }) ∧ ∀ σ B L, Pv l.length σ B L → D.nx σ B L)
    (hc : X.calm = true := by rfl) (hs : ∀ x, foldedSetIterable iter X.env x = pure x := by intro _; rfl) : kS X (.For tg iter body [] pos) σ B L D :=
  k_for hp (r_str (by
    obtain ⟨t, h1, h2⟩ := h
    refine ⟨_, pe_c, fun H s => toE s ⟨t, h1, h2⟩ fun v H' B' L' s' ⟨l, e, p0, ht, hd⟩ => ⟨B', L', s', l, e, (sOf l).cps.size, _, _, Pv, walk_str, p0, fun i σ B L H hi p s => trivial, fun i x σ B L H H' hi p s y => ?_, by rw [sOf_size]; exact hd⟩⟩
    obtain ⟨rfl, c, hx, rfl⟩ := y
    exact ⟨B, L, s, ht i c σ B L (by simpa [sOf] using hx) p⟩)) hc hs
theorem k_for_r1 (Pv : Nat → KN) (hp : PassesOwn (model X.prog X.w) X.A X.env X.xe) (hm : X.mg "range" = none)
    (h : kE X e σ B L fun v B1 L1 => ∃ n : Int, v = .int n ∧ -(2 ^ 62) ≤ n ∧ n < 2 ^ 62 ∧ Pv 0 σ B1 L1 ∧
      (∀ (i : Nat) σ B L, i < n.toNat → Pv i σ B L → kG X tg (.int i) σ B L fun σ2 B2 L2 => kSs X body σ2 B2 L2 { D with nx := Pv (i + 1), ct := Pv (i + 1), bk := D.nx }) ∧ ∀ σ B L, Pv n.toNat σ B L → D.nx σ B L)
    (hg : Gl X "range" := by rfl) (hst : starEach [e] X.env = (false, eval e X.env) :: starEach [] X.env := by rfl) (hst' : starEach [e] X.env = [(false, eval e X.env)] := by rfl) (hc : X.calm = true := by rfl) (hs : ∀ x, foldedSetIterable (.Call (.Name "range" p2) [e] [] pos) X.env x = pure x := by intro _; rfl) :
    kS X (.For tg (.Call (.Name "range" p2) [e] [] pos) body [] pos') σ B L D :=
  k_for hp (r_rng1 hm (by
    obtain ⟨t, h1, h2⟩ := h
    refine ⟨_, pe_c, fun H s => toE s ⟨t, h1, h2⟩ fun v H' B' L' s' ⟨n, e, b1, b2, p0, ht, hd⟩ => ⟨B', L', s', n, e, b1, b2, n.toNat, _, _, Pv, walk_range, p0, fun i σ B L H hi p s => trivial, fun i x σ B L H H' hi p s y => ?_, hd⟩⟩
    obtain ⟨rfl, rfl⟩ := y
    refine ⟨B, L, s, ?_⟩
    have e0 : ((0 : Int) + (i : Int)) = (i : Int) := Int.zero_add _
    show kG X tg (.int ((0 : Int) + (i : Int))) σ B L _
    rw [e0]
    exact ht i σ B L hi p) hg hst hst') hc hs
theorem k_for_r2 (Pv : Nat → KN) (hp : PassesOwn (model X.prog X.w) X.A X.env X.xe) (hm : X.mg "range" = none)
    (h : kA X [a, b] σ B L fun vs B1 L1 => ∃ i0 n : Int, vs = [.int i0, .int n] ∧ (-(2 ^ 62) ≤ i0 ∧ i0 < 2 ^ 62 ∧ -(2 ^ 62) ≤ n ∧ n < 2 ^ 62) ∧ Pv 0 σ B1 L1 ∧
      (∀ (i : Nat) σ B L, i < (n - i0).toNat → Pv i σ B L → kG X tg (.int (i0 + i)) σ B L fun σ2 B2 L2 => kSs X body σ2 B2 L2 { D with nx := Pv (i + 1), ct := Pv (i + 1), bk := D.nx }) ∧ ∀ σ B L, Pv (n - i0).toNat σ B L → D.nx σ B L)
    (hg : Gl X "range" := by rfl) (hs1 : starEach [a, b] X.env = [(false, eval a X.env), (false, eval b X.env)] := by rfl) (hs2 : starEach [b] X.env = [(false, eval b X.env)] := by rfl) (hc : X.calm = true := by rfl) (hs : ∀ x, foldedSetIterable (.Call (.Name "range" p2) [a, b] [] pos) X.env x = pure x := by intro _; rfl) :
    kS X (.For tg (.Call (.Name "range" p2) [a, b] [] pos) body [] pos') σ B L D :=
  k_for hp (r_rng2 hm (by
    obtain ⟨t, h1, h2⟩ := h
    refine ⟨_, pa_c, fun H s => toA s ⟨t, h1, h2⟩ fun v H' B' L' s' ⟨i0, n, e, b1, p0, ht, hd⟩ => ⟨B', L', s', i0, n, e, b1, (n - i0).toNat, _, _, Pv, walk_range, p0, fun i σ B L H hi p s => trivial, fun i x σ B L H H' hi p s y => ?_, hd⟩⟩
    obtain ⟨rfl, rfl⟩ := y
    exact ⟨B, L, s, ht i σ B L hi p⟩) hg hs1 hs2) hc hs
/-- a pair that a walk has made goes to two targets, and is forgotten -/
theorem g_pair {t u : Expr} {kk : Nat} {T : Addr} {x y : V} {Q : KN} (h : kGs X [t, u] [x, y] σ B L Q) (hc : X.calm = true := by rfl) (hn : (assignEach [t, u] X.env).length = 2 := by rfl) (hst : (assignEach [t, u] X.env).findIdx? (·.1) = none := by rfl) :
    kG X (.Tuple [t, u] kk pos) (.ref T) σ B ((T, .tup [x, y]) :: L) Q :=
  ⟨_, pg_tup hc pgs_c hn hst, fun H s => ⟨T, _, rfl, .inl (.inl (s.own _ List.mem_cons_self)), rfl, toGs s.drop h fun _ _ _ _ s q => ⟨_, _, s, q⟩⟩⟩
theorem g_tup {ts : List Expr} {kk n : Nat} {T : Addr} {xs : List V} {Q : KN} (h1 : Tp X.K B L T xs) (hl : xs.length = n) (h : kGs X ts xs σ B L Q) (hc : X.calm = true := by rfl) (hn : (assignEach ts X.env).length = n := by rfl) (hst : (assignEach ts X.env).findIdx? (·.1) = none := by rfl) :
    kG X (.Tuple ts kk pos) (.ref T) σ B L Q :=
  ⟨_, pg_tup hc pgs_c hn hst, fun H s => ⟨T, _, rfl, h1.at s, hl, toGs s h fun _ _ _ _ s q => ⟨_, _, s, q⟩⟩⟩
theorem k_for_en (Pv : Nat → KN) (hp : PassesOwn (model X.prog X.w) X.A X.env X.xe) (hm : X.mg "enumerate" = none) {t u : Expr} {kk : Nat} {tpos : Pos}
    (h : kE X e σ B L fun v B1 L1 => ∃ a xs, v = .ref a ∧ Ls X.K B1 L1 a xs ∧ Pv 0 σ B1 L1 ∧ (∀ i σ B L, i ≤ xs.length → Pv i σ B L → Ls X.K B L a xs) ∧
      (∀ (i : Nat) x σ B L, xs[i]? = some x → Pv i σ B L → kGs X [t, u] [.int i, x] σ B L fun σ2 B2 L2 => kSs X body σ2 B2 L2 { D with nx := Pv (i + 1), ct := Pv (i + 1), bk := D.nx }) ∧ ∀ σ B L, Pv xs.length σ B L → D.nx σ B L)
    (hg : Gl X "enumerate" := by rfl) (hst : starEach [e] X.env = (false, eval e X.env) :: starEach [] X.env := by rfl) (hst' : starEach [e] X.env = [(false, eval e X.env)] := by rfl) (hc : X.calm = true := by rfl) (hs : ∀ x, foldedSetIterable (.Call (.Name "enumerate" p2) [e] [] pos) X.env x = pure x := by intro _; rfl)
    (hn : (assignEach [t, u] X.env).length = 2 := by rfl) (hfi : (assignEach [t, u] X.env).findIdx? (·.1) = none := by rfl) : kS X (.For (.Tuple [t, u] kk tpos) (.Call (.Name "enumerate" p2) [e] [] pos) body [] pos') σ B L D :=
  k_for hp (r_enum hm (by
    obtain ⟨te, h1, h2⟩ := h
    refine ⟨_, pe_c, fun H s => toE s ⟨te, h1, h2⟩ fun v H' B' L' s' ⟨a, xs, e, hl, p0, hL, ht, hd⟩ => ⟨B', L', s', a, xs, e, hl, xs.length, _, _, Pv, walk_enum, p0, fun i σ B L H hi p s => (hL i σ B L hi p).at s, fun i x σ B L H H' hi p s y => ?_, hd⟩⟩
    obtain ⟨T, x1, y1, rfl, hT, rfl, e1, e2⟩ := y
    cases e1
    exact ⟨B, _, s.new hT, g_pair (ht i y1 σ B L e2 p) hc hn hfi⟩) hg hst hst') hc hs

/-! ### while, op= -/
theorem k_while (W : Nat → KN) (m0 : Nat) (hp : PassesOwn (model X.prog X.w) X.A X.env X.xe) (h0 : W m0 σ B L)
    (hs : ∀ m σ B L, W m σ B L → kT X c σ B L fun k B1 L1 => (k = true → kSs X body σ B1 L1 { D with nx := fun σ' B' L' => ∃ m', m' < m ∧ W m' σ' B' L', ct := fun σ' B' L' => ∃ m', m' < m ∧ W m' σ' B' L', bk := D.nx }) ∧ (k = false → D.nx σ B1 L1)) :
    kS X (.While c body [] pos) σ B L D :=
  ⟨_, ps_while hp pt_c pss_c, fun H s => ⟨fun m σ H => ∃ B L, Sat B L H ∧ W m σ B L, ⟨m0, B, L, s, h0⟩, fun m σ H ⟨B, L, s, w⟩ => toT s (hs m σ B L w) fun k H' B' L' s' q => by
    cases k with
    | true =>
      refine iteT ⟨_, fun σ' H' ⟨B2, L2, s2, m', hm, w'⟩ => ⟨m', hm, B2, L2, s2, w'⟩, toSs s' (q.1 rfl) (fun _ _ z => z) (fun _ _ z => z) (fun _ _ z => z) (fun _ _ z => z)⟩
    | false => exact iteF ⟨_, _, s', q.2 rfl⟩⟩⟩
theorem k_aug_add (i : Nat) {x : Str} {pos' : Pos} {n : Int} (h : kE X e σ B L fun v B1 L1 => ∃ m, v = .int m ∧ D.nx (σ.set i (some (.int (n + m)))) B1 L1) (hN : X.N.Nodup) (hx : σ[i]? = some (some (.int n)) := by rfl) (hi : X.N[i]? = some x := by rfl) (hl : Loc X.env.scope x := by first | exact Or.inl rfl | exact Or.inr rfl)
    (hf : X.fn x = true ∨ X.env.scope.names.lookup x = some .local := by first | exact .inl rfl | exact .inr rfl | assumption) : kS X (.AugAssign (.Name x pos') .Add e pos) σ B L D := ⟨_, ps_aug hN hi hl pe_c ip_add (hf := hf), fun H s => ⟨_, hx, toE s h fun _ _ _ _ s ⟨m, e, q⟩ => ⟨n, m, rfl, e, _, _, s, q⟩⟩⟩
theorem k_aug_sub (i : Nat) {x : Str} {pos' : Pos} {n : Int} (h : kE X e σ B L fun v B1 L1 => ∃ m, v = .int m ∧ D.nx (σ.set i (some (.int (n - m)))) B1 L1) (hN : X.N.Nodup) (hx : σ[i]? = some (some (.int n)) := by rfl) (hi : X.N[i]? = some x := by rfl) (hl : Loc X.env.scope x := by first | exact Or.inl rfl | exact Or.inr rfl)
    (hf : X.fn x = true ∨ X.env.scope.names.lookup x = some .local := by first | exact .inl rfl | exact .inr rfl | assumption) : kS X (.AugAssign (.Name x pos') .Sub e pos) σ B L D := ⟨_, ps_aug hN hi hl pe_c ip_sub (hf := hf), fun H s => ⟨_, hx, toE s h fun _ _ _ _ s ⟨m, e, q⟩ => ⟨n, m, rfl, e, _, _, s, q⟩⟩⟩
/-- xs[i] = v, xs ours -/
theorem g_setl {v : V} {Q : KN} (h : kE X a σ B L fun x B1 L1 => kE X b σ B1 L1 fun y B2 L2 => ∃ p xs k j L3, x = .ref p ∧ y = .int k ∧ ixN xs.length k = some j ∧ Rep L2 p (.lst xs) (.lst (xs.set j v)) L3 ∧ Q σ B2 L3)
    (ha : ∀ v, assign (.Subscript a b pos) X.env v = (do
      let ov ← holding [v] (eval a X.env)
      let iv ← holding [v, ov] (eval b X.env)
      standAt pos
      holding [v, ov, iv] (setItem ov iv v)
      release [v, ov, iv] []) := by intro _; rfl) : kG X (.Subscript a b pos) v σ B L Q :=
  ⟨_, pg_sub pe_c pe_c set_list ha, fun H s => toE s h fun _ _ _ _ s q => toE s q fun _ _ _ _ s ⟨p, xs, k, j, L3, e1, e2, hj, r, q⟩ => ⟨p, xs, k, j, e1, e2, s.own _ r.mem, hj, _, _, s.rep r, q⟩⟩

/-! ### methods of built-in types -/
def kMt (X : Cx) (id : String) (x : V) (vs : List V) (B : Hp) (L : HL) (Q : KQ) : Prop := ∃ r, MtR X id r ∧ ∀ H, Sat B L H → r x vs H (up Q)
def cMt (X : Cx) (id : String) : V → List V → Hp → VK → Prop := fun x vs H Q => ∃ B L Q', Sat B L H ∧ kMt X id x vs B L Q' ∧ ∀ v H', up Q' v H' → Q v H'
theorem mt_c {id : String} : MtR X id (cMt X id) := fun pins s σ H x xs v us Q I rx r ⟨B, L, Q', sat, ⟨k, h, q⟩, m⟩ =>
  thn (h pins s σ H x xs v us _ I rx r (q H sat)) fun _ _ ⟨v, H', I', r, z⟩ => ⟨v, H', I', r, m v H' z⟩
theorem k_m {T id : String} {name : Str} {apos : Pos} (pa : PlainAttrs T) (slot : Slot T name id) (hty : typeOf (.builtin id) = pure (.type "method_descriptor"))
    (h : kE X a σ B L fun x B1 L1 => (∀ H, Sat B1 L1 H → tyV X.K T x H) ∧ kA X (e :: es) σ B1 L1 fun vs B2 L2 => kMt X id x vs B2 L2 Q)
    (hbase : attributeBase a name X.env (eval a X.env) = eval a X.env := by rfl)
    (hfew : ((backTo pos (starEach (e :: es) X.env)).all (fun x => !x.1) && (backToKw pos (keywordEach [] X.env)).all (fun x => x.1.isSome)
      && decide ((e :: es).length + ([] : List Keyword).length + (if ([] : List Keyword).isEmpty then 0 else 1) < 30)) = true := by rfl)
    (hline : (apos.endLine == pos.line) = true := by rfl) (hs : starEach (e :: es) X.env = (false, eval e X.env) :: starEach es X.env := by rfl) (hplain : (backTo pos (starEach es X.env)).any (·.1) = false := by rfl) :
    kE X (.Call (.Attribute a name apos) (e :: es) [] pos) σ B L Q :=
  ⟨_, pe_bm pa slot hty mt_c pe_c pa_c hbase hfew hline hs hplain, fun H s => toE s h fun x H' _ _ s ⟨ty, q⟩ => ⟨ty H' s, toA s q fun _ _ _ _ s q => ⟨_, _, _, s, q, fun _ _ z => z⟩⟩⟩
theorem k_m0 {T id : String} {name : Str} {apos : Pos} (pa : PlainAttrs T) (slot : Slot T name id) (hty : typeOf (.builtin id) = pure (.type "method_descriptor"))
    (h : kE X a σ B L fun x B1 L1 => (∀ H, Sat B1 L1 H → tyV X.K T x H) ∧ kMt X id x [] B1 L1 Q)
    (hbase : attributeBase a name X.env (eval a X.env) = eval a X.env := by rfl) (hline : (apos.endLine == pos.line) = true := by rfl) :
    kE X (.Call (.Attribute a name apos) [] [] pos) σ B L Q :=
  ⟨_, pe_bm0 pa slot hty mt_c pe_c hbase hline, fun H s => toE s h fun x H' _ _ s ⟨ty, q⟩ => ⟨ty H' s, ⟨_, _, _, s, q, fun _ _ z => z⟩⟩⟩
theorem m_append {p : Addr} {xs : List V} {v : V} {L' : HL} (r : Rep L p (.lst xs) (.lst (xs ++ [v])) L') (q : Q .non B L') (hl : xs.length < 16777216) : kMt X "list.append" (.ref p) [v] B L Q :=
  ⟨_, mt_append, fun H s => ⟨p, xs, v, rfl, rfl, s.own _ r.mem, small' hl, _, _, s.rep r, q⟩⟩
theorem m_pop {p : Addr} {xs : List V} {v : V} {L' : HL} (hv : xs[xs.length - 1]? = some v) (r : Rep L p (.lst xs) (.lst xs.dropLast) L') (q : Q v B L') : kMt X "list.pop" (.ref p) [] B L Q :=
  ⟨_, mt_pop, fun H s => ⟨p, xs, v, rfl, rfl, s.own _ r.mem, hv, _, _, s.rep r, q⟩⟩
theorem m_clear {p : Addr} {xs : List V} {L' : HL} (r : Rep L p (.lst xs) (.lst []) L') (q : Q .non B L') : kMt X "list.clear" (.ref p) [] B L Q :=
  ⟨_, mt_clear, fun H s => ⟨p, xs, rfl, rfl, s.own _ r.mem, _, _, s.rep r, q⟩⟩
theorem ty_l {p : Addr} {xs : List V} (h : Ls X.K B L p xs) : ∀ H, Sat B L H → tyV X.K "list" (.ref p) H := fun H s => .inl ⟨rfl, xs, h.at s⟩
theorem ty_s {l : Str} : ∀ H, Sat B L H → tyV X.K "str" (.str l) H := fun H s => rfl
end
end Kv

namespace Kv
open PySem PySem.Spec PyProof.Rows L2

/-- a comprehension's block -/
abbrev Bk (X : Cx) (scope : Scope) (s : Shared) (H : Hp) (C : Addr) (cl : List (Str × Addr)) (fp : List Addr) : Cx := X.blk s H scope (compEnvC scope cl C X.env) fp
def gB (X : Cx) (scope : Scope) (tg : Expr) : TG := fun v σ H Q => ∀ s H0 C cl fp, cG (Bk X scope s H0 C cl fp) tg v σ H Q
def eB (X : Cx) (scope : Scope) (e : Expr) : TE := fun σ H Q => ∀ s H0 C cl fp, cE (Bk X scope s H0 C cl fp) e σ H Q
def tBk (X : Cx) (scope : Scope) (e : Expr) : TT := fun σ H Q => ∀ s H0 C cl fp, cT (Bk X scope s H0 C cl fp) e σ H Q
section
variable {X : Cx} {σ : L2.St} {B : Hp} {L : HL} {Q : KQ} {D : KD} {pos p2 : Pos} {e a b c tg iter elt : Expr} {es : List Expr} {body : List Stmt} {scope : Scope} {own : List (Str × Nat)}
theorem pg_b : ∀ (s : Shared) (H : Hp) (C : Addr) (cl : List (Str × Addr)) (fp : List Addr), PG (X.blk s H scope (compEnvC scope cl C X.env) fp) tg (gB X scope tg) := fun s H0 C cl fp => ⟨fun pins s' σ H v u Q I r h => pg_c.run pins s' σ H v u Q I r (h s H0 C cl fp)⟩
theorem pe_b : ∀ (s : Shared) (H : Hp) (C : Addr) (cl : List (Str × Addr)) (fp : List Addr), PE (X.blk s H scope (compEnvC scope cl C X.env) fp) e (eB X scope e) := fun s H0 C cl fp => ⟨fun pins s' σ H Q I h => pe_c.run pins s' σ H Q I (h s H0 C cl fp)⟩
theorem pt_b : ∀ (s : Shared) (H : Hp) (C : Addr) (cl : List (Str × Addr)) (fp : List Addr), PT (X.blk s H scope (compEnvC scope cl C X.env) fp) e (tBk X scope e) := fun s H0 C cl fp => ⟨fun pins s' σ H Q I h => pt_c.run pins s' σ H Q I (h s H0 C cl fp)⟩
theorem pe_bu {e : Expr} {σ : L2.St} {H : Hp} {Q' : KQ} {Q : VK} (sat : Sat B L H) (h : ∀ s H0 C cl fp, kE (Bk X scope s H0 C cl fp) e σ B L Q') (m : ∀ v H' B' L', Sat B' L' H' → Q' v B' L' → Q v H') : eB X scope e σ H Q := fun s H0 C cl fp => toE sat (h s H0 C cl fp) m

/-- the slots of a comprehension with one name of its own -/
theorem wipe1 (σ : L2.St) (j : Nat) (x : V) : wipe ((wipe σ [j]).set j (some x)) [j] = wipe σ [j] := by simp [wipe, List.set_set]
theorem wipe1' (σ : L2.St) (j : Nat) (x : V) : (wipe σ [j]).set j (some x) = σ.set j (some x) := by simp [wipe, List.set_set]

theorem tyes {σ : L2.St} {H : Hp} {Q : Bool → Hp → Prop} (h : Q true H) : tYes σ H Q := h
/-- [elt for tg in iter if ..], of a list of names of its own -/
def kL (X : Cx) (elt tg iter : Expr) (ifs : List Expr) (scope : Scope) (own : List (Str × Nat)) (σ : L2.St) (B : Hp) (L : HL) (Q : KQ) : Prop :=
  X.calm = true ∧ X.N.Nodup ∧ BlkOk X.N X.env.scope scope own ∧ (∀ x, foldedSetIterable iter X.env x = pure x) ∧ ∃ tt, (∀ (s : Shared) (H : Hp) (C : Addr) (cl : List (Str × Addr)) (fp : List Addr), PTs (X.blk s H scope (compEnvC scope cl C X.env) fp) ifs tt) ∧
    ∀ H, Sat B L H → tLc (cR X tg iter) (gB X scope tg) tt (eB X scope elt) (own.map (·.2)) σ H (up Q)
theorem k_le {ifs : List Expr} (h : kL X elt tg iter ifs scope own σ B L Q) : kE X (.ListComp elt [⟨tg, iter, ifs, 0⟩] scope pos) σ B L Q := by
  obtain ⟨hc, hN, ok, hs, tt, ht, q⟩ := h
  exact ⟨_, pe_lc hc hN pi_c ok pg_b ht pe_b hs, q⟩
/-- name = [..] on one row -/
theorem k_sle (i : Nat) {y : Str} {py spos : Pos} {ifs : List Expr} (h : kL X elt tg iter ifs scope own σ B L fun v B1 L1 => D.nx (σ.set i (some v)) B1 L1)
    (hy : X.N[i]? = some y := by rfl) (hyl : X.env.scope.names.lookup y = some .local := by rfl) (hk : X.env.scope.kind = .function := by rfl) (hl : (py.line == pos.line) = true := by rfl) (ha : (scope.names.any fun (n, k) => n == y && (k == .local || k == .cell)) = false := by decide +kernel) :
    kS X (.Assign [.Name y py] (.ListComp elt [⟨tg, iter, ifs, 0⟩] scope pos) spos) σ B L D := by
  obtain ⟨hc, hN, ok, hs, tt, ht, q⟩ := h
  exact ⟨_, ps_setLc hc hN hy hyl (sw_true hk hyl hl ha) pi_c ok pg_b ht pe_b hs, fun H s => q H s⟩
/-- [elt for tg in iter] -/
theorem k_lc (hN : X.N.Nodup) (ok : BlkOk X.N X.env.scope scope own)
    (h : kR X tg iter σ B L fun J B1 L1 => ∃ (n : Nat) (G : Hp → Prop) (Y : Nat → Hp → V → Hp → Prop) (Pv : Nat → List V → Hp → HL → Prop), Walk J n G Y ∧ Pv 0 [] B1 L1 ∧ (∀ i acc B L H, i ≤ n → Pv i acc B L → Sat B L H → G H) ∧
      (∀ D i acc x B L H H', i < n → Pv i acc B L → Sat B ((D, .lst acc) :: L) H → Y i H x H' → ∃ B' L', Sat B' L' H' ∧ ∀ s H0 C cl fp, kG (Bk X scope s H0 C cl fp) tg x (wipe σ (own.map (·.2))) B' L' fun σ2 B2 L2 => wipe σ2 (own.map (·.2)) = wipe σ (own.map (·.2)) ∧
        ∀ s H0 C cl fp, kE (Bk X scope s H0 C cl fp) elt σ2 B2 L2 fun y B3 L3 => acc.length < 16777216 ∧ ∃ L4, L3 = (D, .lst acc) :: L4 ∧ Pv (i + 1) (acc ++ [y]) B3 L4) ∧
      ∀ acc B L D, Pv n acc B L → Q (.ref D) B ((D, .lst acc) :: L))
    (hc : X.calm = true := by rfl) (hs : ∀ x, foldedSetIterable iter X.env x = pure x := by intro _; rfl) : kL X elt tg iter [] scope own σ B L Q :=
  ⟨hc, hN, ok, hs, _, (fun _ _ _ _ _ => pts_nil), fun H s => ⟨B, L, _, s, h, fun J H1 B1 L1 s1 ⟨n, G, Y, Pv, w, p0, hG, ht, hd⟩ D hD =>
    lc_it w (fun i H => ∃ acc B L, Sat B ((D, .lst acc) :: L) H ∧ Pv i acc B L) ⟨[], B1, L1, s1.new hD, p0⟩ (fun i H hi ⟨acc, B, L, s, p⟩ => hG i acc B L H hi p s.drop)
      (fun i x H H' hi ⟨acc, B, L, s, p⟩ y => by
        obtain ⟨B', L', s', g⟩ := ht D i acc x B L H H' hi p s y
        intro sa Ha Ca cla fpa
        refine toG s' (g sa Ha Ca cla fpa) fun σ2 H2 B2 L2 s2 ⟨hw, q2⟩ => ⟨hw, ?_⟩
        refine tyes ?_
        rw [if_pos rfl]
        refine pe_bu s2 q2 fun v H3 B3 L3 s3 ⟨hl, L4, eL, q3⟩ => ?_
        subst eL
        exact ⟨acc, s3.own _ List.mem_cons_self, small' hl, acc ++ [v], B3, L4, s3.rep .here, q3⟩)
      fun H ⟨acc, B, L, s, p⟩ => ⟨_, _, s, hd acc B L D p⟩⟩⟩
/-- .. with one test -/
theorem k_lcf (hN : X.N.Nodup) (ok : BlkOk X.N X.env.scope scope own)
    (h : kR X tg iter σ B L fun J B1 L1 => ∃ (n : Nat) (G : Hp → Prop) (Y : Nat → Hp → V → Hp → Prop) (Pv : Nat → List V → Hp → HL → Prop), Walk J n G Y ∧ Pv 0 [] B1 L1 ∧ (∀ i acc B L H, i ≤ n → Pv i acc B L → Sat B L H → G H) ∧
      (∀ D i acc x B L H H', i < n → Pv i acc B L → Sat B ((D, .lst acc) :: L) H → Y i H x H' → ∃ B' L', Sat B' L' H' ∧ ∀ s H0 C cl fp, kG (Bk X scope s H0 C cl fp) tg x (wipe σ (own.map (·.2))) B' L' fun σ2 B2 L2 => wipe σ2 (own.map (·.2)) = wipe σ (own.map (·.2)) ∧
        ∀ s H0 C cl fp, kT (Bk X scope s H0 C cl fp) c σ2 B2 L2 fun k B3 L3 => (k = true → ∀ s H0 C cl fp, kE (Bk X scope s H0 C cl fp) elt σ2 B3 L3 fun y B3 L3 => acc.length < 16777216 ∧ ∃ L4, L3 = (D, .lst acc) :: L4 ∧ Pv (i + 1) (acc ++ [y]) B3 L4) ∧
          (k = false → ∃ L4, L3 = (D, .lst acc) :: L4 ∧ Pv (i + 1) acc B3 L4)) ∧
      ∀ acc B L D, Pv n acc B L → Q (.ref D) B ((D, .lst acc) :: L))
    (hc : X.calm = true := by rfl) (hs : ∀ x, foldedSetIterable iter X.env x = pure x := by intro _; rfl) : kL X elt tg iter [c] scope own σ B L Q :=
  ⟨hc, hN, ok, hs, _, (fun s H C cl fp => pts_one (pt_b s H C cl fp)), fun H s => ⟨B, L, _, s, h, fun J H1 B1 L1 s1 ⟨n, G, Y, Pv, w, p0, hG, ht, hd⟩ D hD =>
    lc_it w (fun i H => ∃ acc B L, Sat B ((D, .lst acc) :: L) H ∧ Pv i acc B L) ⟨[], B1, L1, s1.new hD, p0⟩ (fun i H hi ⟨acc, B, L, s, p⟩ => hG i acc B L H hi p s.drop)
      (fun i x H H' hi ⟨acc, B, L, s, p⟩ y => by
        obtain ⟨B', L', s', g⟩ := ht D i acc x B L H H' hi p s y
        intro sa Ha Ca cla fpa
        refine toG s' (g sa Ha Ca cla fpa) fun σ2 H2 B2 L2 s2 ⟨hw, q2⟩ => ⟨hw, ?_⟩
        intro sb Hb Cb clb fpb
        refine toT s2 (q2 sb Hb Cb clb fpb) fun k H3 B3 L3 s3 ⟨q3, q4⟩ => ?_
        cases k with
        | true =>
          rw [if_pos rfl]
          refine pe_bu s3 (q3 rfl) fun v H3 B3 L3 s3 ⟨hl, L4, eL, q3⟩ => ?_
          subst eL
          exact ⟨acc, s3.own _ List.mem_cons_self, small' hl, acc ++ [v], B3, L4, s3.rep .here, q3⟩
        | false =>
          obtain ⟨L4, eL, q5⟩ := q4 rfl
          subst eL
          rw [if_neg Bool.false_ne_true]
          exact ⟨acc, B3, L4, s3, q5⟩)
      fun H ⟨acc, B, L, s, p⟩ => ⟨_, _, s, hd acc B L D p⟩⟩⟩

/-! ### comprehensions that reckon each item by itself -/
/-- .. over a text -/
theorem k_lcm_s {x : Str} {j : Nat} {px : Pos} (g : Nat → V) (hN : X.N.Nodup) (ok : BlkOk X.N X.env.scope scope [(x, j)])
    (h : kE X iter σ B L fun v B1 L1 => ∃ l, v = .str (sOf l) ∧ l.length ≤ 16777216 ∧ (∀ c ∈ l, ∀ D acc s H0 C cl fp, kE (Bk X scope s H0 C cl fp) elt (σ.set j (some (.str (sOf [c])))) B1 ((D, .lst acc) :: L1) fun y B3 L3 => y = g c ∧ B3 = B1 ∧ L3 = (D, .lst acc) :: L1) ∧
      ∀ D, Q (.ref D) B1 ((D, .lst (l.map g)) :: L1))
    (hp : ∀ s H0 C cl fp, Loc (Bk X scope s H0 C cl fp).env.scope x := by intro _ _ _ _ _; first | exact Or.inl rfl | exact Or.inr rfl) (hf : ∀ s H0 C cl fp, (Bk X scope s H0 C cl fp).fn x = true ∨ (Bk X scope s H0 C cl fp).env.scope.names.lookup x = some .local := by intro _ _ _ _ _; first | exact .inr rfl | exact .inl rfl)
    (hj : X.N[j]? = some x := by rfl) (hc : X.calm = true := by rfl) (hs : ∀ x, foldedSetIterable iter X.env x = pure x := by intro _; rfl) : kL X elt (.Name x px) iter [] scope [(x, j)] σ B L Q :=
  k_lc hN ok (r_str (by
    obtain ⟨t, h1, h2⟩ := h
    refine ⟨_, pe_c, fun H s => toE s ⟨t, h1, h2⟩ fun v H' B1 L1 s' ⟨l, e, hl, ht, hd⟩ => ⟨B1, L1, s', l, e, (sOf l).cps.size, _, _, fun i acc B L => B = B1 ∧ L = L1 ∧ acc = (l.take i).map g, walk_str, ⟨rfl, rfl, by simp⟩, fun i acc B L H hi p s => trivial, ?_, ?_⟩⟩
    · rintro D i acc x B L H H' hi ⟨rfl, rfl, rfl⟩ s ⟨rfl, c, hx, rfl⟩
      have hx' : l[i]? = some c := by simpa [sOf] using hx
      refine ⟨_, _, s, fun sa Ha Ca cla fpa => g_name j ?_ hN hj (hp sa Ha Ca cla fpa) (hf sa Ha Ca cla fpa)⟩
      refine ⟨wipe1 σ j _, fun sb Hb Cb clb fpb => ?_⟩
      show kE _ _ ((wipe σ [j]).set j _) _ _ _
      rw [wipe1']
      obtain ⟨t2, k1, k2⟩ := ht c (List.mem_of_getElem? hx') D ((l.take i).map g) sb Hb Cb clb fpb
      refine ⟨_, pe_c, fun H s => toE s ⟨t2, k1, k2⟩ fun y H2 B2 L2 s2 ⟨e1, e2, e3⟩ => ⟨B2, L2, s2, ?_, L, e3, e2, rfl, ?_⟩⟩
      · have := (List.getElem?_eq_some_iff.mp hx').1
        simp; omega
      · rw [e1, List.take_add_one, hx']; simp
    · rintro acc B L D ⟨rfl, rfl, rfl⟩
      rw [sOf_size, List.take_length]
      exact hd D)) hc hs
/-- .. over a list -/
theorem k_lcm_l {x : Str} {j : Nat} {px : Pos} (g : V → V) (hN : X.N.Nodup) (ok : BlkOk X.N X.env.scope scope [(x, j)])
    (h : kE X iter σ B L fun v B1 L1 => ∃ a xs, v = .ref a ∧ Ls X.K B1 L1 a xs ∧ xs.length ≤ 16777216 ∧ (∀ z ∈ xs, ∀ D acc s H0 C cl fp, kE (Bk X scope s H0 C cl fp) elt (σ.set j (some z)) B1 ((D, .lst acc) :: L1) fun y B3 L3 => y = g z ∧ B3 = B1 ∧ L3 = (D, .lst acc) :: L1) ∧
      ∀ D, Q (.ref D) B1 ((D, .lst (xs.map g)) :: L1))
    (hp : ∀ s H0 C cl fp, Loc (Bk X scope s H0 C cl fp).env.scope x := by intro _ _ _ _ _; first | exact Or.inl rfl | exact Or.inr rfl) (hf : ∀ s H0 C cl fp, (Bk X scope s H0 C cl fp).fn x = true ∨ (Bk X scope s H0 C cl fp).env.scope.names.lookup x = some .local := by intro _ _ _ _ _; first | exact .inr rfl | exact .inl rfl)
    (hj : X.N[j]? = some x := by rfl) (hc : X.calm = true := by rfl) (hs : ∀ x, foldedSetIterable iter X.env x = pure x := by intro _; rfl) : kL X elt (.Name x px) iter [] scope [(x, j)] σ B L Q :=
  k_lc hN ok (r_list (by
    obtain ⟨t, h1, h2⟩ := h
    refine ⟨_, pe_c, fun H s => toE s ⟨t, h1, h2⟩ fun v H' B1 L1 s' ⟨a, xs, e, hls, hl, ht, hd⟩ => ⟨B1, L1, s', a, xs, e, hls, xs.length, _, _, fun i acc B L => B = B1 ∧ L = L1 ∧ acc = (xs.take i).map g, walk_list, ⟨rfl, rfl, by simp⟩, ?_, ?_, ?_⟩⟩
    · rintro i acc B L H hi ⟨rfl, rfl, _⟩ s
      exact hls.at s
    · rintro D i acc x B L H H' hi ⟨rfl, rfl, rfl⟩ s ⟨rfl, hx⟩
      refine ⟨_, _, s, fun sa Ha Ca cla fpa => g_name j ?_ hN hj (hp sa Ha Ca cla fpa) (hf sa Ha Ca cla fpa)⟩
      refine ⟨wipe1 σ j _, fun sb Hb Cb clb fpb => ?_⟩
      show kE _ _ ((wipe σ [j]).set j _) _ _ _
      rw [wipe1']
      obtain ⟨t2, k1, k2⟩ := ht x (List.mem_of_getElem? hx) D ((xs.take i).map g) sb Hb Cb clb fpb
      refine ⟨_, pe_c, fun H s => toE s ⟨t2, k1, k2⟩ fun y H2 B2 L2 s2 ⟨e1, e2, e3⟩ => ⟨B2, L2, s2, ?_, L, e3, e2, rfl, ?_⟩⟩
      · simp; omega
      · rw [e1, List.take_add_one, hx]; simp
    · rintro acc B L D ⟨rfl, rfl, rfl⟩
      rw [List.take_length]
      exact hd D)) hc hs

/-! ### a def's promise by its body -/
/-- what a def wants behind its body -/
def fD (Q : VK) : KD := { nx := fun _ B L => ∀ H, Sat B L H → Q .non H, rt := fun v B L => ∀ H, Sat B L H → Q v H }
theorem fn_okF {P : Program} {w : World} {K : PySem.W.Frag} {mg : Str → Option Value} {base : Heap} {x qual : Str} {st : Stmt} {f : Addr} {fd : FuncData} {N ps : List Str} {k : Nat} {sp : Sp} (F : Fun K x qual st f fd) (S : FnScope N ps (defScope st))
    (len : ∀ vs H Q E, sp vs H Q E → vs.length = ps.length)
    (hbody : ∀ (cdv : Value) (A : Around) (outer : List Env) (s : Shared) (H : Hp) (vs : List V) (Q : VK) (E : XK), Room k (A.deeper (envOfC qual (defScope st) s.heap.objs.size f cdv)) → sp vs H Q E →
      Takes (cxOf (L2.CX P w) P w K mg base N qual (defScope st) f cdv A outer s H E) (fun cls d _ H => E cls d H) →
      PassesOwn (model P w) (A.deeper (envOfC qual (defScope st) s.heap.objs.size f cdv)) (envOfC qual (defScope st) s.heap.objs.size f cdv) (cxOf (L2.CX P w) P w K mg base N qual (defScope st) f cdv A outer s H E).xe →
      ∃ B L, Sat B L H ∧ kSs (cxOf (L2.CX P w) P w K mg base N qual (defScope st) f cdv A outer s H E) (defBody st) (start N vs) B L (fD Q)) : FnOk P w K mg base (L2.CX P w) (k + 1) f fd ps sp := by
  refine F.okX S len fun cdv A outer s H vs Q E hr h => ?_
  obtain ⟨B, L, sat, t, h1, h2⟩ := hbody cdv A outer s H vs Q E hr h (takes_of rfl rfl rfl rfl) (passes_of rfl)
  refine ⟨_, pss_c, B, L, fD Q, sat, ⟨t, h1, h2⟩, ?_, ?_, ?_, ?_⟩
  · rintro σ' H' ⟨B', L', s', q⟩
    exact q H' s'
  · rintro v H' ⟨B', L', s', q⟩
    exact q H' s'
  · rintro σ' H' ⟨B', L', s', q⟩
    exact q.elim
  · rintro σ' H' ⟨B', L', s', q⟩
    exact q.elim
theorem fn_ok {P : Program} {w : World} {K : PySem.W.Frag} {mg : Str → Option Value} {base : Heap} {x qual : Str} {st : Stmt} {f : Addr} {fd : FuncData} {N ps : List Str} {k : Nat} {sp : Sp} (F : Fun K x qual st f fd) (S : FnScope N ps (defScope st)) (hm : mg x = some (.ref f))
    (hb : ∀ (kV doc pm : Value) (an : Option Addr) (cdv ct : Value) (us : List Value), us.length = ps.length → bindArgs (PySem.W.fnOf x qual (defArgs st) (defBody st) (defScope st) .none kV doc pm an cdv ct) ⟨us, []⟩ = pure (ps.zip us))
    (len : ∀ vs H Q E, sp vs H Q E → vs.length = ps.length)
    (hbody : ∀ (cdv : Value) (A : Around) (outer : List Env) (s : Shared) (H : Hp) (vs : List V) (Q : VK) (E : XK), Room k (A.deeper (envOfC qual (defScope st) s.heap.objs.size f cdv)) → sp vs H Q E →
      Takes (cxOf (L2.CX P w) P w K mg base N qual (defScope st) f cdv A outer s H E) (fun cls d _ H => E cls d H) →
      PassesOwn (model P w) (A.deeper (envOfC qual (defScope st) s.heap.objs.size f cdv)) (envOfC qual (defScope st) s.heap.objs.size f cdv) (cxOf (L2.CX P w) P w K mg base N qual (defScope st) f cdv A outer s H E).xe →
      ∃ B L, Sat B L H ∧ kSs (cxOf (L2.CX P w) P w K mg base N qual (defScope st) f cdv A outer s H E) (defBody st) (start N vs) B L (fD Q)) : Fn P w K mg base (k + 1) x sp := ⟨f, fd, ps, fn_okF F S len hbody, hm, F.kp, F.binds hb⟩
/-- a method of the class at C; the __init__ of one -/
theorem mt_ok {P : Program} {w : World} {K : PySem.W.Frag} {mg : Str → Option Value} {base : Heap} {x qual : Str} {st : Stmt} {C f : Addr} {fd : FuncData} {N ps : List Str} {k : Nat} {sp : Sp} (F : Fun K x qual st f fd) (S : FnScope N ps (defScope st)) (hm : Meth K C x f) (hc : Cls K C)
    (hb : ∀ (kV doc pm : Value) (an : Option Addr) (cdv ct : Value) (us : List Value), us.length = ps.length → bindArgs (PySem.W.fnOf x qual (defArgs st) (defBody st) (defScope st) .none kV doc pm an cdv ct) ⟨us, []⟩ = pure (ps.zip us))
    (len : ∀ vs H Q E, sp vs H Q E → vs.length = ps.length)
    (hbody : ∀ (cdv : Value) (A : Around) (outer : List Env) (s : Shared) (H : Hp) (vs : List V) (Q : VK) (E : XK), Room k (A.deeper (envOfC qual (defScope st) s.heap.objs.size f cdv)) → sp vs H Q E →
      Takes (cxOf (L2.CX P w) P w K mg base N qual (defScope st) f cdv A outer s H E) (fun cls d _ H => E cls d H) →
      PassesOwn (model P w) (A.deeper (envOfC qual (defScope st) s.heap.objs.size f cdv)) (envOfC qual (defScope st) s.heap.objs.size f cdv) (cxOf (L2.CX P w) P w K mg base N qual (defScope st) f cdv A outer s H E).xe →
      ∃ B L, Sat B L H ∧ kSs (cxOf (L2.CX P w) P w K mg base N qual (defScope st) f cdv A outer s H E) (defBody st) (start N vs) B L (fD Q)) : FnOk P w K mg base (L2.CX P w) (k + 1) f fd ps sp ∧ Binds K fd ps [] := ⟨fn_okF F S len hbody, F.binds hb⟩
end
end Kv

namespace Kv
open PySem PySem.Spec PyProof.Rows L2
section
variable {X : Cx} {σ : L2.St} {B : Hp} {L : HL} {Q : KQ} {D : KD} {pos p2 : Pos} {e a b c tg iter elt : Expr} {es : List Expr} {body : List Stmt}
theorem Sat.suf {L' : HL} {H : Hp} (h : L <:+ L') (s : Sat B L' H) : Sat B L H := by
  obtain ⟨t, rfl⟩ := h
  exact ⟨s.ext, fun p hp => s.own p (List.mem_append_right _ hp), fun p hp => s.nb p (List.mem_append_right _ hp), by
    have := s.nd
    rw [List.map_append] at this
    exact (List.nodup_append.mp this).2.1⟩
/-- an expression that comes to v, leaving what there was -/
theorem k_pure {v : V} (h : kE X e σ B L fun y B' L' => y = v ∧ B' = B ∧ L <:+ L') (q : Q v B L) : kE X e σ B L Q := by
  obtain ⟨t, h1, h2⟩ := h
  refine ⟨_, pe_c, fun H s => toE s ⟨t, h1, h2⟩ fun y H' B' L' s' ⟨e1, e2, e3⟩ => ?_⟩
  subst e1 e2
  exact ⟨B', L, s'.suf e3, q⟩
theorem t_pure {v : Bool} {Q : KB} (h : kT X e σ B L fun y B' L' => y = v ∧ B' = B ∧ L <:+ L') (q : Q v B L) : kT X e σ B L Q := by
  obtain ⟨t, h1, h2⟩ := h
  refine ⟨_, pt_c, fun H s => toT s ⟨t, h1, h2⟩ fun y H' B' L' s' ⟨e1, e2, e3⟩ => ?_⟩
  subst e1 e2
  exact ⟨B', L, s'.suf e3, q⟩
theorem w_pure {v : Bool} {Q : KB} (h : kW X e σ B L fun y B' L' => y = v ∧ B' = B ∧ L <:+ L') (q : Q v B L) : kW X e σ B L Q := by
  obtain ⟨t, h1, h2⟩ := h
  refine ⟨_, pw_c, fun H s => toW s ⟨t, h1, h2⟩ fun y H' B' L' s' ⟨e1, e2, e3⟩ => ?_⟩
  subst e1 e2
  exact ⟨B', L, s'.suf e3, q⟩
theorem k_andP (h : kE X a σ B L fun x B1 L1 => ∃ k1, x = .bl k1 ∧ ∃ k2 : Bool, (k1 = true → kE X (.BoolOp .And (b :: es) pos) σ B1 L1 fun y B2 L2 => y = .bl k2 ∧ B2 = B1 ∧ L1 <:+ L2) ∧ Q (.bl (k1 && k2)) B1 L1) : kE X (.BoolOp .And (a :: b :: es) pos) σ B L Q := by
  refine k_and ?_
  obtain ⟨t, h1, h2⟩ := h
  refine ⟨_, pe_c, fun H s => toE s ⟨t, h1, h2⟩ fun x H' B' L' s' ⟨k1, e, k2, h3, q⟩ => ⟨B', L', s', k1, e, fun hk => k_pure (h3 hk) ?_, fun hk => ?_⟩⟩
  · rw [hk] at q; exact q
  · rw [hk] at q; exact q
theorem k_orP (h : kE X a σ B L fun x B1 L1 => ∃ k1, x = .bl k1 ∧ ∃ k2 : Bool, (k1 = false → kE X (.BoolOp .Or (b :: es) pos) σ B1 L1 fun y B2 L2 => y = .bl k2 ∧ B2 = B1 ∧ L1 <:+ L2) ∧ Q (.bl (k1 || k2)) B1 L1) : kE X (.BoolOp .Or (a :: b :: es) pos) σ B L Q := by
  refine k_or ?_
  obtain ⟨t, h1, h2⟩ := h
  refine ⟨_, pe_c, fun H s => toE s ⟨t, h1, h2⟩ fun x H' B' L' s' ⟨k1, e, k2, h3, q⟩ => ⟨B', L', s', k1, e, fun hk => k_pure (h3 hk) ?_, fun hk => ?_⟩⟩
  · rw [hk] at q; exact q
  · rw [hk] at q; exact q
theorem w_andP {Q : KB} (h : kT X a σ B L fun k1 B1 L1 => ∃ k2 : Bool, (k1 = true → kW X (.BoolOp .And (b :: es) pos) σ B1 L1 fun y B2 L2 => y = k2 ∧ B2 = B1 ∧ L1 <:+ L2) ∧ Q (k1 && k2) B1 L1) : kW X (.BoolOp .And (a :: b :: es) pos) σ B L Q := by
  refine w_and ?_
  obtain ⟨t, h1, h2⟩ := h
  refine ⟨_, pt_c, fun H s => toT s ⟨t, h1, h2⟩ fun k1 H' B' L' s' ⟨k2, h3, q⟩ => ⟨B', L', s', fun hk => w_pure (h3 hk) ?_, fun hk => ?_⟩⟩
  · rw [hk] at q; exact q
  · rw [hk] at q; exact q
theorem w_orP {Q : KB} (h : kT X a σ B L fun k1 B1 L1 => ∃ k2 : Bool, (k1 = false → kW X (.BoolOp .Or (b :: es) pos) σ B1 L1 fun y B2 L2 => y = k2 ∧ B2 = B1 ∧ L1 <:+ L2) ∧ Q (k1 || k2) B1 L1) : kW X (.BoolOp .Or (a :: b :: es) pos) σ B L Q := by
  refine w_or ?_
  obtain ⟨t, h1, h2⟩ := h
  refine ⟨_, pt_c, fun H s => toT s ⟨t, h1, h2⟩ fun k1 H' B' L' s' ⟨k2, h3, q⟩ => ⟨B', L', s', fun hk => w_pure (h3 hk) ?_, fun hk => ?_⟩⟩
  · rw [hk] at q; exact q
  · rw [hk] at q; exact q
theorem k_ifeP (h : kT X c σ B L fun k B1 L1 => ∃ v1 v2 : V, (k = true → kE X a σ B1 L1 fun y B2 L2 => y = v1 ∧ B2 = B1 ∧ L1 <:+ L2) ∧ (k = false → kE X b σ B1 L1 fun y B2 L2 => y = v2 ∧ B2 = B1 ∧ L1 <:+ L2) ∧ Q (if k = true then v1 else v2) B1 L1) : kE X (.IfExp c a b pos) σ B L Q := by
  refine k_ife ?_
  obtain ⟨t, h1, h2⟩ := h
  refine ⟨_, pt_c, fun H s => toT s ⟨t, h1, h2⟩ fun k H' B' L' s' ⟨v1, v2, h3, h4, q⟩ => ⟨B', L', s', fun hk => k_pure (h3 hk) ?_, fun hk => k_pure (h4 hk) ?_⟩⟩
  · rw [if_pos hk] at q; exact q
  · rw [if_neg (by rw [hk]; exact Bool.false_ne_true)] at q; exact q
theorem k_neg (h : kE X a σ B L fun x B1 L1 => ∃ i, x = .int i ∧ Q (.int (-i)) B1 L1) : kE X (.UnaryOp .USub a pos) σ B L Q := ⟨_, pe_un un_neg pe_c, fun H s => toE s h fun _ _ _ _ s ⟨i, e, q⟩ => ⟨i, e, _, _, s, q⟩⟩
theorem k_s {x : Str} {j} (l : List Nat) (q : Q (.str (sOf l)) B L) (h : x = sOf l := by decide +kernel) : kE X (.Constant (.str x) j pos) σ B L Q := by
  subst h
  exact k_str q
theorem k_gs {x y : Str} {t : Tok} (hm : X.mg x = some (.str y t)) (q : Q (.str y) B L) (hg : Gl X x := by rfl) (hd : (x == ("__debug__" : Str)) = false := by decide) : kE X (.Name x pos) σ B L Q := k_g (v := .str y) hm ⟨t, rfl⟩ q hg hd
theorem k_gi {x : Str} {y : Int} {t : Tok} (hm : X.mg x = some (.int y t)) (q : Q (.int y) B L) (hg : Gl X x := by rfl) (hd : (x == ("__debug__" : Str)) = false := by decide) : kE X (.Name x pos) σ B L Q := k_g (v := .int y) hm ⟨t, rfl⟩ q hg hd
theorem k_fn {x : Str} {k : Nat} {sp : Sp} (F : Fn X.prog X.w X.K X.mg X.base k x sp) (hr : Room k X.A) (h : kA X (e :: es) σ B L fun vs B1 L1 => ∀ H, Sat B1 L1 H → sp vs H (up Q) (WE (fun _ _ _ _ => False) σ)) (hg : Gl X x := by rfl)
    (hdb : (x == ("__debug__" : Str)) = false := by decide) (he : starEach (e :: es) X.env = (false, eval e X.env) :: starEach es X.env := by rfl) (hpl : (backTo pos (starEach es X.env)).any (·.1) = false := by rfl) : kE X (.Call (.Name x p2) (e :: es) [] pos) σ B L Q := k_call F hr takes0 h hg hdb he hpl
/-- a built-in type's name as a value -/
theorem k_ty {x : Str} {T : String} (hm : X.mg x = none) (q : Q (.ty T) B L) (hv : bootBuiltins x = some (.type T) := by decide +kernel) (hg : Gl X x := by rfl) (hn : x ≠ "__name__" := by decide) (hd : (x == ("__debug__" : Str)) = false := by decide) : kE X (.Name x pos) σ B L Q :=
  ⟨_, pe_bltn (v := .ty T) hg hm hv rfl hn hd, fun H s => ⟨_, _, s, q⟩⟩
theorem i_sN {l : List Nat} {i : Int} (q : Q (.str (sOf [(atI l i).getD 0])) B L) (h : -(l.length : Int) ≤ i ∧ i < l.length) (hl : l.length ≤ 16777216) : kI X (.str (sOf l)) (.int i) B L Q := by
  refine i_str (c := (atI l i).getD 0) ?_ q hl
  unfold atI ixN
  by_cases h0 : 0 ≤ i
  · have : i.toNat < l.length := by omega
    rw [if_pos h0, if_pos h.2]
    simp [this]
  · have : (i + l.length).toNat < l.length := by omega
    rw [if_neg h0, if_pos h.1]
    simp [this]
theorem i_lN {p : Addr} {xs : List V} {i : Int} (h0 : Ls X.K B L p xs) (q : Q ((atI xs i).getD .non) B L) (h : -(xs.length : Int) ≤ i ∧ i < xs.length) : kI X (.ref p) (.int i) B L Q := by
  refine i_list (v := (atI xs i).getD .non) h0 ?_ q
  unfold atI ixN
  by_cases h0 : 0 ≤ i
  · have : i.toNat < xs.length := by omega
    rw [if_pos h0, if_pos h.2]
    simp [this]
  · have : (i + xs.length).toNat < xs.length := by omega
    rw [if_neg h0, if_pos h.1]
    simp [this]
theorem atI_n {α : Type} {l : List α} {j : Nat} : atI l (j : Int) = l[j]? := by
  unfold atI ixN
  rw [if_pos (by omega)]
  by_cases h : j < l.length
  · rw [if_pos (by omega)]; simp
  · rw [if_neg (by omega)]; simp; omega
theorem atI_neg {α : Type} {l : List α} {j : Nat} (h : j < l.length) : atI l (-1 - (j : Int)) = l[l.length - 1 - j]? := by
  unfold atI ixN
  rw [if_neg (by omega), if_pos (by omega)]
  have : (-1 - (j : Int) + (l.length : Int)).toNat = l.length - 1 - j := by omega
  simp [this]
/-- an int of a list of ints at a place -/
theorem i_li {p : Addr} {ns : List Int} {i : Int} (h0 : Ls X.K B L p (ns.map V.int)) (q : Q (.int ((atI ns i).getD 0)) B L) (h : -(ns.length : Int) ≤ i ∧ i < ns.length) : kI X (.ref p) (.int i) B L Q := by
  refine i_lN h0 ?_ (by simpa using h)
  have e : (atI (ns.map V.int) i).getD .non = .int ((atI ns i).getD 0) := by
    unfold atI ixN
    rw [List.length_map]
    by_cases h0 : 0 ≤ i
    · have : i.toNat < ns.length := by omega
      rw [if_pos h0, if_pos h.2]
      simp [this]
    · have : (i + ns.length).toNat < ns.length := by omega
      rw [if_neg h0, if_pos h.1]
      simp [this]
  rw [e]
  exact q
/-- text * number -/
def rep {α : Type} (l : List α) (n : Nat) : List α := (List.replicate n l).flatten
theorem rep_len {α : Type} (l : List α) (n : Nat) : (rep l n).length = n * l.length := by simp [rep]
theorem foldl_rep' (c : List Nat) : ∀ (k : Nat) (acc : List Nat), List.foldl (· ++ ·) acc.toArray (List.replicate k c.toArray) = (acc ++ (List.replicate k c).flatten).toArray
  | 0, acc => by simp
  | k + 1, acc => by
    rw [List.replicate_succ, List.foldl_cons, List.replicate_succ, List.flatten_cons, ← List.append_assoc, ← foldl_rep' c k (acc ++ c)]
    simp
theorem mul_is {l : List Nat} {n : Nat} : Txt.mul (sOf l) (n : Int) = sOf (rep l n) := by
  unfold Txt.mul rep
  by_cases h1 : (n : Int) < 1
  · have : n = 0 := by omega
    subst this
    rw [if_pos h1]
    rfl
  · rw [if_neg h1]
    split
    · rename_i h2
      simp only [Bool.or_eq_true, beq_iff_eq] at h2
      rcases h2 with h2 | h2
      · have : n = 1 := by omega
        subst this
        simp
      · rw [sOf_len] at h2
        have : l = [] := List.length_eq_zero_iff.mp h2
        subst this
        simp
    · have := foldl_rep' l n []
      simp only [List.nil_append] at this
      show (⟨_⟩ : Str) = ⟨_⟩
      congr 1
theorem o_muls {l : List Nat} {n : Nat} (q : Q (.str (sOf (rep l n))) B L) (h : l.length * n ≤ 16777216) (hn : (n : Int) < 2 ^ 62) : kO X (binaryOp .Mult) (.str (sOf l)) (.int (n : Int)) B L Q := by
  refine ⟨fun x y H Q => x = .str (sOf l) ∧ y = .int (n : Int) ∧ Q (.str (sOf (rep l n))) H, fun pins s σ H x y v u Q I rx ry ⟨e1, e2, q⟩ => ?_, fun H s => ⟨rfl, rfl, _, _, s, q⟩⟩
  subst e1 e2
  obtain ⟨t, rfl⟩ := rx
  obtain ⟨t', rfl⟩ := ry
  refine SB.mul ⟨?_, fun _ hh => ?_, fun _ hh => ?_⟩ fun t' k => ?_
  · have h1 : decide ((n : Int) < -(2 ^ 63 : Int)) = false := decide_eq_false (by omega)
    have h2 : decide ((n : Int) ≥ 2 ^ 63) = false := decide_eq_false (by omega)
    rw [h1, h2] <;> rfl
  · rw [sOf_len]
    simp only [Bool.or_eq_false_iff, beq_eq_false_iff_ne, ne_eq] at hh
    have hn0 : (0 : Int) < n := by omega
    intro hgt
    have h3 := Int.lt_mul_of_ediv_lt hn0 hgt
    have h4 : ((l.length * n : Nat) : Int) ≤ 16777216 := Int.ofNat_le.mpr h
    rw [Int.natCast_mul] at h4
    have h5 : (16777216 : Int) < 2 ^ 63 - 1 := by decide
    exact absurd (Int.lt_of_lt_of_le (Int.lt_trans h5 h3) h4) (Int.lt_irrefl _)
  · rw [sOf_len]
    have := small h
    rw [Int.toNat_natCast]
    unfold Builtin.Str.tooLong
    exact decide_eq_false (Nat.not_lt.mpr this)
  · rw [mul_is]
    exact ⟨V.str (sOf (rep l n)), _, I.tok _, ⟨_, rfl⟩, q⟩
end
end Kv

namespace KvR
open PySem PySem.Spec PyProof.Rows
theorem no_rev : typeLookup (.type "str") "__reversed__" = pure none := by rw [typeLookup_type, builtinLookup_eq_fast]; kernel_rfl
theorem has_get : typeLookup (.type "str") "__getitem__" = pure (some (.builtin "str.__getitem__")) := by rw [typeLookup_type, builtinLookup_eq_fast]; kernel_rfl
theorem not_dict : isSubtype (.type "str") (.type "dict") = pure false := by rw [isSubtype_type]; kernel_rfl
/-- reversed(text): the next place is i -/
def IsRs (h : Heap) (a : Addr) (x : Str) (t : Tok) (i : Int) : Prop := ∃ o, h.get? a = some o ∧ o.cls = .type "reversed" ∧ o.data = .fields #[.str x t, rawInt i]
def rsObj (x : Str) (t : Tok) (i : Int) : Obj := { cls := .type "reversed", data := .fields #[.str x t, rawInt i] }
section
variable {prog : Program} {w : World} {A : Around} {E : Value → Shared → Prop} {s : Shared}
theorem IsRs.ty {a : Addr} {x : Str} {t : Tok} {i : Int} (q : IsRs s.heap a x t i) : s.TypeIs (.ref a) "reversed" := let ⟨o, ho, hc, _⟩ := q; ⟨o, ho, hc⟩
theorem code_rev {x : Str} {t : Tok} {Q₁ : Value → Shared → Prop}
    (hlen : ∀ (A : Around) (E : Value → Shared → Prop) (Q : Value → Shared → Prop), (∀ tk u, Q (.int x.length u) { s with toks := tk }) → wpAny (model prog w) A (call (.builtin "len") [.str x t]) Q E s)
    (h : ∀ tk, Q₁ (.ref s.heap.objs.size) { s with heap := s.heap.push (rsObj x t ((x.length : Int) - 1)), toks := tk }) :
    codeAny (model prog w) A (.call (.builtin "reversed.__new__") ⟨[.type "reversed", .str x t], []⟩) (wants Q₁ E) s := by
  have hT : s.TypeIs (.str x t) "str" := typeIs_str s x t
  refine codeAny_of_tree ?_
  show wpAny _ A.in1 (do checkBuiltinCall "reversed.__new__" ⟨[.type "reversed", .str x t], []⟩; again (.builtin "reversed.__new__" ⟨[.type "reversed", .str x t], []⟩)) _ _ s
  refine wpAny_bind (wpAny_of_eq (F.newCall_reversed_1 _) (wpAny_pure ⟨plainId_quiet F.plain_reversed_new _, codeAny_builtin F.entry_reversed_new ?_⟩))
  rw [Around.under_plainId F.plain_reversed_new _]
  unfold Builtin.«reversed.__new__»
  refine wpAny_bind (wpAny_of_eq (newClass_reversed _) ?_)
  refine wpAny_bind (wpAny_of_eq (a := ()) (by first | rfl | kernel_rfl) ?_)
  refine wpAny_bind (wpAny_of_eq (a := ()) (by first | rfl | kernel_rfl) ?_)
  refine wpAny_bind (wpAny_specialOf hT no_rev ?_)
  refine wpAny_bind ?_
  wp_delta
  refine wpAny_bind (wpAny_isInstance (T := "str") (U := "dict") (b := false) hT not_dict ?_)
  try rw [if_neg Bool.false_ne_true]
  refine wpAny_bind (wpAny_specialOf hT has_get ?_)
  try rw [if_pos (by decide +kernel)]
  refine wpAny_pure ?_
  try rw [if_neg (by decide)]
  refine wpAny_bind (hlen _ _ _ fun tk u => ?_)
  refine wpAny_bind (wpAny_of_eq (a := some ((x.length : Nat) : Int)) rfl ?_)
  refine wpAny_bind ?_
  show wpAny _ _ (newObj (.type "reversed") (.fields #[.str x t, rawInt ((x.length : Int) - 1)])) _ _ _
  refine wpAny_newObj_type ?_
  exact wpAny_pure (h tk)
theorem call_rev {x : Str} {t : Tok} {Q : Value → Shared → Prop}
    (hlen : ∀ (A : Around) (E : Value → Shared → Prop) (Q : Value → Shared → Prop), (∀ tk u, Q (.int x.length u) { s with toks := tk }) → wpAny (model prog w) A (call (.builtin "len") [.str x t]) Q E s)
    (h : ∀ tk, Q (.ref s.heap.objs.size) { s with heap := s.heap.push (rsObj x t ((x.length : Int) - 1)), toks := tk }) : wpAny (model prog w) A (call (.type "reversed") [.str x t]) Q E s := by
  refine callType_codes (Q₁ := fun obj s₁ => s₁.TypeIs obj "reversed" ∧ Q obj s₁) RT.called_rt (F.typeCall_reversed_1 _) F.entry_object_init
    (code_rev (A := A.in1) hlen fun tk => ⟨⟨_, Heap.get?_push_size _ rfl, rfl⟩, h tk⟩) fun obj s₁ h₁ => ?_
  exact ⟨h₁.1, F.args_object_init_2 obj _, object_init_meets RT.called_rt.init.lookup RT.called_rt.made (by decide) prog w A.in1 _ s₁ ⟨h₁.1, rfl, h₁.2⟩⟩
theorem next_item {it : Addr} {i : Nat} {x : Str} {t : Tok} {c : Nat} {Q : Option Value → Shared → Prop} (hit : IsRs s.heap it x t (i : Int)) (hx : x.cps[i]? = some c) (hsz : x.length ≤ sizeLine)
    (hQ : ∀ h' tk u, IsRs h' it x t ((i : Int) - 1) → Heap.SameBut it s.heap h' → Q (some (.str ⟨#[c]⟩ u)) { s with heap := h', toks := tk }) : wpAny (model prog w) A (pyNext (.ref it)) Q E s := by
  obtain ⟨o, ho, hc, hd⟩ := id hit
  have hi : i < x.length := (Array.getElem?_eq_some_iff.mp hx).1
  have hT : s.TypeIs (.str x t) "str" := typeIs_str s x t
  rw [sizeLine_eq] at hsz
  unfold pyNext
  refine wpAny_bind (wpAny_attempt (wpAny_callSpecial?_slot (name := Str.ofString "__next__") hit.ty RT.slot_rt_next (wpAny_call_entry RT.slot_rt_next hit.ty RT.entry_rt_next ?_ (RT.args_rt_next _))))
  unfold Builtin.«reversed.__next__»
  refine wpAny_bind (wpAny_of_eq (a := (Value.ref it, [])) rfl ?_)
  refine wpAny_bind (wpAny_field ho hd (x := .str x t) rfl ?_)
  refine wpAny_bind (wpAny_field ho hd (x := rawInt (i : Int)) rfl ?_)
  show wpAny _ _ (if (i : Int) < 0 then _ else _) _ _ s
  rw [if_neg (by omega)]
  refine wpAny_bind (wpAny_specialOf hT has_get ?_)
  try rw [if_neg (by decide)]
  refine wpAny_bind (wpAny_mkInt ?_)
  refine wpAny_bind (wpAny_attempt ?_)
  have fin : seqIndex? (i : Int) x.length = some i := PySem.StrLaws.seqIndex_nonneg (by omega) (by omega)
  have e1 : decide ((i : Int) < -(2 ^ 63 : Int)) = false := decide_eq_false (by omega)
  have e2 : decide ((i : Int) ≥ 2 ^ 63) = false := decide_eq_false (by omega)
  refine getItem_str (s := { s with toks := s.toks + 1 }) (c := c) (by rw [e1, e2] <;> rfl) (by rw [fin]; exact hx) ?_
  try dsimp only
  refine wpAny_bind (wpAny_field (s := { s with toks := s.toks + 1 + 1 }) ho hd (x := rawInt (i : Int)) rfl ?_)
  try dsimp only
  refine wpAny_bind (wpAny_setField (s := { s with toks := s.toks + 1 + 1 }) ho hd (by simp) ?_)
  first
  | refine wpAny_pure ⟨_, rfl, wpAny_pure (hQ _ _ _ ?_ (Heap.SameBut.update ..))⟩
  | refine wpAny_bind (wpAny_pure (wpAny_pure ⟨_, rfl, wpAny_pure (hQ _ _ _ ?_ (Heap.SameBut.update ..))⟩))
  exact ⟨_, Heap.get?_update_self _ ho (Obj.isFreed_of_fields (Obj.data_mapFields hd _)), (Obj.cls_mapFields ..).trans hc, by
    rw [Obj.data_mapFields hd]; simp⟩
theorem next_end {it : Addr} {x : Str} {t : Tok} {Q : Option Value → Shared → Prop} (hh : A.handled = none) (hit : IsRs s.heap it x t (-1))
    (hQ : ∀ h', Heap.ExtBut it s.heap h' → Q none { s with heap := h' }) : wpAny (model prog w) A (pyNext (.ref it)) Q E s := by
  obtain ⟨o, ho, hc, hd⟩ := id hit
  unfold pyNext
  refine wpAny_bind (wpAny_attempt (wpAny_callSpecial?_slot (name := Str.ofString "__next__") hit.ty RT.slot_rt_next (wpAny_call_entry RT.slot_rt_next hit.ty RT.entry_rt_next ?_ (RT.args_rt_next _))))
  unfold Builtin.«reversed.__next__»
  refine wpAny_bind (wpAny_of_eq (a := (Value.ref it, [])) rfl ?_)
  refine wpAny_bind (wpAny_field ho hd (x := .str x t) rfl ?_)
  refine wpAny_bind (wpAny_field ho hd (x := rawInt (-1)) rfl ?_)
  show wpAny _ _ (if (-1 : Int) < 0 then _ else _) _ _ s
  rw [if_pos (by decide)]
  refine wpAny_bind (wpAny_rule ?_)
  refine wpAny_bind ?_
  wp_delta
  refine wpAny_bind (wpAny_setField ho hd (by simp) ?_)
  have ho2 := Heap.get?_update_self (Obj.mapFields (·.setIfInBounds 1 (rawInt (-1)))) ho (Obj.isFreed_of_fields (Obj.data_mapFields hd _))
  refine wpAny_setField (s := { s with heap := s.heap.update it (Obj.mapFields (·.setIfInBounds 1 (rawInt (-1)))) }) ho2 (Obj.data_mapFields hd _) (by simp) ?_
  first
  | show wpAny _ _ (newExc (.type "StopIteration") [] >>= _) _ _ _
  | (refine wpAny_bind ?_; show wpAny _ _ (newExc (.type "StopIteration") [] >>= _) _ _ _)
  | (refine wpAny_bind ?_; wp_delta; show wpAny _ _ (newExc (.type "StopIteration") [] >>= _) _ _ _)
  refine wpAny_bind ?_
  simp only [newExc, newTuple]
  refine wpAny_bind (wpAny_newObj_type ?_ (by size_fits))
  refine wpAny_bind (m := firstArgMember _ _) (wpAny_of_eq (a := Value.none) (by first | rfl | (simp only [firstArgMember]; rfl)) ?_)
  refine wpAny_newObj_type ?_ (by size_fits)
  simp only [raiseNew]
  refine wpAny_bind (wpAny_handled ?_)
  first | rw [show A.in1.handled = none from hh] | rw [hh]
  refine wpAny_bind (wpAny_pure (wpAny_throw ?_))
  refine wpAny_bind (wpAny_isInstance (T := "StopIteration") (b := true) ⟨_, Heap.get?_push_size _ rfl, rfl⟩ isSubtype_stop ?_)
  refine wpAny_pure (hQ _ ?_)
  refine ((?_ : Heap.ExtBut it s.heap _).push _).push _
  exact fun b ob hb e => (Heap.get?_update_other _ _ (Ne.symm hb)).trans ((Heap.get?_update_other _ _ (Ne.symm hb)).trans e)
theorem iter_self {it : Addr} {x : Str} {t : Tok} {i : Int} {Q : Value → Shared → Prop} (hit : IsRs s.heap it x t i) (h : Q (.ref it) s) : wpAny (model prog w) A (pyIter (.ref it)) Q E s := by
  refine wpAny_pyIter_slot hit.ty RT.slot_rt_iter (wpAny_call_entry RT.slot_rt_iter hit.ty RT.entry_rt_iter ?_ (RT.args_rt_iter _))
  show wpAny _ _ (ret (.ref it)) _ _ s
  exact wpAny_pure ⟨_, rfl, "reversed", _, hit.ty, RT.slot_rt_next.lookup, h⟩
end
end KvR
namespace Kv
open PySem PySem.Spec PyProof.Rows L2
/-- a text's signs from behind -/
def Irs (x : Str) : It := ⟨fun i _ => i < x.cps.size, fun i H v H' => H' = H ∧ ∃ c, x.cps[x.cps.size - 1 - i]? = some c ∧ v = .str ⟨#[c]⟩, fun i _ => i = x.cps.size⟩
theorem turn_rs {P : Program} {w : World} {K : PySem.W.Frag} {tg : Expr} (it : Addr) (x : Str) (t : Tok) (hsz : x.length ≤ sizeLine) :
    Turn P w K tg (Irs x) [it] it (fun i h => KvR.IsRs h it x t ((x.cps.size : Int) - 1 - (i : Nat))) where
  mem := by simp
  obj := fun i h st b hb => by
    have e : b = it := by simpa using hb
    subst e
    obtain ⟨o, e, c, d⟩ := st
    exact ⟨o, e, fun v z => by rw [d] at z; cases z⟩
  keep := fun i h h' st k => let ⟨o, ho, r⟩ := st; ⟨o, k it (by simp) o ho, r⟩
  item := by
    intro X hP hw hK hc i pins s σ H E I hf st hg
    subst hP hw hK
    obtain ⟨f0, f1, f2, f3, f4, f5⟩ := hf it (by simp)
    have hi : i < x.cps.size := hg
    have e0 : ((x.cps.size : Int) - 1 - (i : Nat)) = ((x.cps.size - 1 - i : Nat) : Int) := by omega
    have st' : KvR.IsRs s.heap it x t ((x.cps.size - 1 - i : Nat) : Int) := by rw [← e0]; exact st
    have hx : x.cps[x.cps.size - 1 - i]? = some (x.cps[x.cps.size - 1 - i]'(by omega)) := by simp [show x.cps.size - 1 - i < x.cps.size by omega]
    refine KvR.next_item st' hx hsz fun h' tk u hit hs => ?_
    have I1 : Inv X pins σ H { s with heap := h', toks := tk } := I.turned (fun b o hb e => (hs.2 b (by simpa using hb)).trans e) f0 f1 f3 f4 f5
    obtain ⟨oi, e, cc, dd⟩ := id hit
    refine ⟨_, rfl, go_of (s := { s with heap := h', toks := tk }) e cc dd (by decide) ⟨.str ⟨#[_]⟩, H, I1, ⟨u, rfl⟩, ⟨rfl, _, hx, rfl⟩, ?_, fun b hb => (hf b hb).1⟩⟩
    have e1 : ((x.cps.size : Int) - 1 - ((i + 1 : Nat) : Int)) = ((x.cps.size - 1 - i : Nat) : Int) - 1 := by omega
    rw [e1]
    exact hit
  done := by
    intro X hP hw hK hc i pins s σ H E I hf st hg
    subst hP hw hK
    obtain ⟨f0, f1, f2, f3, f4, f5⟩ := hf it (by simp)
    have hi : i = x.cps.size := hg
    have e0 : ((x.cps.size : Int) - 1 - (i : Nat)) = -1 := by omega
    rw [e0] at st
    exact KvR.next_end (I.ok.hd hc) st fun h' eb => ⟨rfl, I.turned (t' := s.toks) (fun b o hb e => eb b o (by simpa using hb) e) f0 f1 f3 f4 f5⟩
  self := fun A i s Q E st h => KvR.iter_self st h
theorem walk_rs {x : Str} : Walk (Irs x) x.cps.size (fun _ => True) (fun i H v H' => H' = H ∧ ∃ c, x.cps[x.cps.size - 1 - i]? = some c ∧ v = .str ⟨#[c]⟩) := ⟨fun _ _ hi _ => hi, fun _ _ => rfl, fun _ _ _ _ _ _ y => y⟩
theorem pi_rs {X : Cx} {tg e : Expr} {te : TE} {p pos : Pos} (hg : Gl X "reversed") (hm : X.mg "reversed" = none) (he : PE X e te) (hs : starEach [e] X.env = (false, eval e X.env) :: starEach [] X.env := by rfl) (hs' : starEach [e] X.env = [(false, eval e X.env)] := by rfl) :
    PI X tg (.Call (.Name "reversed" p) [e] [] pos) (fun σ H R => te σ H fun v H1 => ∃ x, v = .str x ∧ x.length ≤ sizeLine ∧ R (Irs x) H1) := by
  refine ⟨fun pins s σ H R I h => ?_⟩
  refine Call_ (ld_blt I hg hm PyProof.Rows.boot_reversed (PyProof.Rows.callWith_type1 (thn ((pa_cons he pa_nil hs).run pos pins s σ H (fun vs H1 => ∃ x, vs = [.str x] ∧ x.length ≤ sizeLine ∧ R (Irs x) H1) I ?_) fun us s1 ⟨vs, H1, I1, r1, q1⟩ => ?_) hs' rfl))
  · have hh : (fun v H1 => ∃ x, v = V.str x ∧ x.length ≤ sizeLine ∧ R (Irs x) H1) = fun v H1 => tNil σ H1 fun xs H2 => ∃ x, v :: xs = [V.str x] ∧ x.length ≤ sizeLine ∧ R (Irs x) H2 := by
      funext v H1
      simp [tNil]
    show te σ H _
    rw [← hh]
    exact h
  obtain ⟨x, ex, hl, q⟩ := q1
  subst ex
  cases r1 with
  | cons r rr =>
    cases rr
    obtain ⟨t, rfl⟩ := r
    refine KvR.call_rev (fun A E Q hq => ?_) fun tk => ?_
    · have hn := line63
      exact P.len_str (by omega) (hq _ _)
    · have I2 : Inv X pins σ H1 { s1 with heap := s1.heap.push (KvR.rsObj x t ((x.length : Int) - 1)), toks := tk } := I1.kept (t' := tk) fun b o z => Heap.get?_push_of_some _ z
      have st : KvR.IsRs (s1.heap.push (KvR.rsObj x t ((x.length : Int) - 1))) s1.heap.objs.size x t ((x.length : Int) - 1) := ⟨_, Heap.get?_push_size _ rfl, rfl, rfl⟩
      refine KvR.iter_self st (pi_one (tk := tk) I1 _ (turn_rs _ x t hl) ?_ q)
      have e0 : ((x.cps.size : Int) - 1 - ((0 : Nat) : Int)) = (x.length : Int) - 1 := by show _ = (x.cps.size : Int) - 1; omega
      show KvR.IsRs _ _ _ _ ((x.cps.size : Int) - 1 - ((0 : Nat) : Int))
      rw [e0]
      exact st
section
variable {X : Cx} {σ : L2.St} {B : Hp} {L : HL} {Q : KQ} {D : KD} {pos p2 pos' : Pos} {e a b c tg iter elt : Expr} {es : List Expr} {body : List Stmt} {scope : Scope}
theorem r_rs {R : It → Hp → HL → Prop} (hm : X.mg "reversed" = none) (h : kE X e σ B L fun v B1 L1 => ∃ l, v = .str (sOf l) ∧ l.length ≤ 16777216 ∧ R (Irs (sOf l)) B1 L1) (hg : Gl X "reversed" := by rfl) (hs : starEach [e] X.env = (false, eval e X.env) :: starEach [] X.env := by rfl) (hs' : starEach [e] X.env = [(false, eval e X.env)] := by rfl) :
    kR X tg (.Call (.Name "reversed" p2) [e] [] pos) σ B L R := ⟨_, pi_rs hg hm pe_c hs hs', fun H s => toE s h fun _ _ _ _ s ⟨l, e, hl, q⟩ => ⟨_, e, by rw [sOf_len]; exact small hl, _, _, s, q⟩⟩
/-- a comprehension over a text from behind -/
theorem k_lcm_rs {x : Str} {j : Nat} {px : Pos} (g : Nat → V) (hN : X.N.Nodup) (ok : BlkOk X.N X.env.scope scope [(x, j)]) (hm : X.mg "reversed" = none)
    (h : kE X e σ B L fun v B1 L1 => ∃ l, v = .str (sOf l) ∧ l.length ≤ 16777216 ∧ (∀ c ∈ l, ∀ D acc s H0 C cl fp, kE (Bk X scope s H0 C cl fp) elt (σ.set j (some (.str (sOf [c])))) B1 ((D, .lst acc) :: L1) fun y B3 L3 => y = g c ∧ B3 = B1 ∧ L3 = (D, .lst acc) :: L1) ∧
      ∀ D, Q (.ref D) B1 ((D, .lst (l.reverse.map g)) :: L1))
    (hp : ∀ s H0 C cl fp, Loc (Bk X scope s H0 C cl fp).env.scope x := by intro _ _ _ _ _; first | exact Or.inl rfl | exact Or.inr rfl) (hf : ∀ s H0 C cl fp, (Bk X scope s H0 C cl fp).fn x = true ∨ (Bk X scope s H0 C cl fp).env.scope.names.lookup x = some .local := by intro _ _ _ _ _; first | exact .inr rfl | exact .inl rfl)
    (hg : Gl X "reversed" := by rfl) (hst : starEach [e] X.env = (false, eval e X.env) :: starEach [] X.env := by rfl) (hst' : starEach [e] X.env = [(false, eval e X.env)] := by rfl)
    (hj : X.N[j]? = some x := by rfl) (hc : X.calm = true := by rfl) (hs : ∀ x, foldedSetIterable (.Call (.Name "reversed" p2) [e] [] pos') X.env x = pure x := by intro _; rfl) :
    kL X elt (.Name x px) (.Call (.Name "reversed" p2) [e] [] pos') [] scope [(x, j)] σ B L Q :=
  k_lc hN ok (r_rs hm (by
    obtain ⟨t, h1, h2⟩ := h
    refine ⟨_, pe_c, fun H s => toE s ⟨t, h1, h2⟩ fun v H' B1 L1 s' ⟨l, e, hl, ht, hd⟩ => ⟨B1, L1, s', l, e, hl, (sOf l).cps.size, _, _, fun i acc B L => B = B1 ∧ L = L1 ∧ acc = (l.reverse.take i).map g, walk_rs, ⟨rfl, rfl, by simp⟩, fun i acc B L H hi p s => trivial, ?_, ?_⟩⟩
    · rintro D i acc x B L H H' hi ⟨rfl, rfl, rfl⟩ s ⟨rfl, c, hx, rfl⟩
      rw [sOf_size] at hi
      have hx1 : l[l.length - 1 - i]? = some c := by simpa [sOf] using hx
      have hx' : l.reverse[i]? = some c := by rw [List.getElem?_reverse hi]; exact hx1
      refine ⟨_, _, s, fun sa Ha Ca cla fpa => g_name j ?_ hN hj (hp sa Ha Ca cla fpa) (hf sa Ha Ca cla fpa)⟩
      refine ⟨wipe1 σ j _, fun sb Hb Cb clb fpb => ?_⟩
      show kE _ _ ((wipe σ [j]).set j _) _ _ _
      rw [wipe1']
      obtain ⟨t2, k1, k2⟩ := ht c (List.mem_of_getElem? hx1) D ((l.reverse.take i).map g) sb Hb Cb clb fpb
      refine ⟨_, pe_c, fun H s => toE s ⟨t2, k1, k2⟩ fun y H2 B2 L2 s2 ⟨e1, e2, e3⟩ => ⟨B2, L2, s2, ?_, L, e3, e2, rfl, ?_⟩⟩
      · simp; omega
      · rw [e1, List.take_add_one, hx']; simp
    · rintro acc B L D ⟨rfl, rfl, rfl⟩
      rw [sOf_size, show l.length = l.reverse.length by simp, List.take_length]
      exact hd D) hg hst hst') hc hs
theorem k_for_rs (Pv : Nat → KN) (hp : PassesOwn (model X.prog X.w) X.A X.env X.xe) (hm : X.mg "reversed" = none)
    (h : kE X e σ B L fun v B1 L1 => ∃ l, v = .str (sOf l) ∧ l.length ≤ 16777216 ∧ Pv 0 σ B1 L1 ∧
      (∀ i c σ B L, l.reverse[i]? = some c → Pv i σ B L → kG X tg (.str (sOf [c])) σ B L fun σ2 B2 L2 => kSs X body σ2 B2 L2 { D with nx := Pv (i + 1), ct := Pv (i + 1), bk := D.nx }) ∧ ∀ σ B L, Pv l.length σ B L → D.nx σ B L)
    (hg : Gl X "reversed" := by rfl) (hst : starEach [e] X.env = (false, eval e X.env) :: starEach [] X.env := by rfl) (hst' : starEach [e] X.env = [(false, eval e X.env)] := by rfl)
    (hc : X.calm = true := by rfl) (hs : ∀ x, foldedSetIterable (.Call (.Name "reversed" p2) [e] [] pos') X.env x = pure x := by intro _; rfl) : kS X (.For tg (.Call (.Name "reversed" p2) [e] [] pos') body [] pos) σ B L D :=
  k_for hp (r_rs hm (by
    obtain ⟨t, h1, h2⟩ := h
    refine ⟨_, pe_c, fun H s => toE s ⟨t, h1, h2⟩ fun v H' B' L' s' ⟨l, e, hl, p0, ht, hd⟩ => ⟨B', L', s', l, e, hl, (sOf l).cps.size, _, _, Pv, walk_rs, p0, fun i σ B L H hi p s => trivial, fun i x σ B L H H' hi p s y => ?_, by rw [sOf_size]; exact hd⟩⟩
    obtain ⟨rfl, c, hx, rfl⟩ := y
    rw [sOf_size] at hi
    have hx1 : l[l.length - 1 - i]? = some c := by simpa [sOf] using hx
    exact ⟨B, L, s, ht i c σ B L (by rw [List.getElem?_reverse hi]; exact hx1) p⟩) hg hst hst') hc hs
end
end Kv

namespace Kv
open PySem PySem.Spec PyProof.Rows L2 TL
theorem rev_is (l : List Nat) (u : Tok) : Txt.sliceBy (sOf l) none none (-1, u) = sOf l.reverse := by
  apply ext_toList
  rw [step_rev_list, sOf_len]
  show _ = l.reverse.toArray.toList
  rw [List.toList_toArray]
  apply List.ext_getElem
  · simp
  · intro i h1 h2
    simp at h1 h2
    simp [sOf, Array.getD, List.getElem_reverse, show l.length - 1 - i < l.length by omega]
section
variable {X : Cx} {σ : L2.St} {B : Hp} {L : HL} {Q : KQ} {D : KD} {pos p2 pos' p1 p3 : Pos} {e a b c tg iter elt : Expr} {es : List Expr} {body : List Stmt} {scope : Scope}
/-- text[::-1] -/
theorem k_revs {k : Nat} (h : kE X e σ B L fun v B1 L1 => ∃ l, v = .str (sOf l) ∧ l.length ≤ 16777216 ∧ Q (.str (sOf l.reverse)) B1 L1) : kE X (.Subscript e (.Slice none none (some (.UnaryOp .USub (.Constant (.int 1) k p1) p2)) p3) pos) σ B L Q := by
  refine ⟨fun σ H Q => cE X e σ H fun v H1 => ∃ l, v = .str (sOf l) ∧ l.length ≤ 16777216 ∧ Q (.str (sOf l.reverse)) H1, ⟨fun pins s σ H Q I h => ?_⟩, fun H s => toE s h fun _ _ _ _ s ⟨l, e, hl, q⟩ => ⟨l, e, hl, _, _, s, q⟩⟩
  refine Subscript_ (thn (pe_c.run pins s σ H _ I h) fun v s1 ⟨x, H1, I1, r1, l, ex, hl, q⟩ => ?_)
  subst ex
  obtain ⟨t, rfl⟩ := r1
  have part : PO X (some (.UnaryOp .USub (.Constant (.int 1) k p1) p2)) (tPart (tUn (rU fun i => .int (-i)) (tC (.int 1)))) := po_some (pe_un un_neg pe_int)
  refine wpAny_Slice (thn (po_none.run pins s1 σ H1 (fun o H2 => o = none ∧ H2 = H1) I1 ⟨rfl, rfl⟩) fun vl s2 ⟨o1, H2, I2, pl, e1, e2⟩ => ?_)
  subst e1 e2
  refine thn (po_none.run pins s2 σ H2 (fun o H3 => o = none ∧ H3 = H2) I2 ⟨rfl, rfl⟩) fun vu s3 ⟨o2, H3, I3, pu, e1, e2⟩ => ?_
  subst e1 e2
  refine thn (part.run pins s3 σ H3 (fun o H4 => o = some (-1) ∧ H4 = H3) I3 ⟨1, rfl, -1, rfl, rfl, rfl⟩) fun vs s4 ⟨o3, H4, I4, ps, e1, e2⟩ => ?_
  subst e1 e2
  have I5 : Inv X pins σ H4 { s4 with heap := s4.heap.push { cls := .type "slice", data := .fields #[vl, vu, vs] } } := I4.kept (t' := s4.toks) fun b ob q => Heap.get?_push_of_some _ q
  cases pl
  cases pu
  obtain ⟨st, rfl, hst⟩ := IsPart.raw ps
  cases st with
  | none => cases hst
  | some z =>
    obtain ⟨zk, zu⟩ := z
    have ez : zk = -1 := Option.some.inj hst
    subst ez
    show wpAny (model X.prog X.w) X.A (subscriptTail e (.Slice none none (some (.UnaryOp .USub (.Constant (.int 1) k p1) p2)) p3) (.str (sOf l) t) (.ref s4.heap.objs.size)) (EP X pins σ Q) X.xe { s4 with heap := s4.heap.push { cls := .type "slice", data := .fields #[.none, .none, _] } }
    refine tail_any (ops := [.str (sOf l) t, .ref s4.heap.objs.size]) (typeIs_str _ _ _) (F.slot_str_getitem.lookup) ?_ (by with_unfolding_all rfl)
    refine wpAny_getItem_str_slice (l := none) (u := none) (st := some (-1, zu)) ⟨_, Heap.get?_push_size _ rfl, rfl, rfl⟩ rfl ?_
    refine post_val_or_str ⟨?_, fun t' c => ?_⟩
    · refine Nat.le_trans (Txt.sliceBy_le (sOf l) none none (-1, zu) (by show (-1 : Int) ≠ 0; decide)) ?_
      rw [sOf_len]; exact small hl
    · refine ⟨.str (sOf l.reverse), H4, I5.tok _, ?_, q⟩
      rw [← rev_is l zu]
      exact ⟨_, rfl⟩

/-! ### methods of texts -/
theorem m_index {x y : Str} {k : Nat} (h : Txt.index0 x y = some k) (q : Q (.int k) B L) (hc : X.calm = true := by rfl) : kMt X "str.index" (.str x) [.str y] B L Q :=
  ⟨fun x xs H Q => rIndexX (fun _ _ _ _ => False) [] x xs H Q, fun pins s σ H x xs v us Q I rx rs q => mt_indexX hc takes0 pins s σ H x xs v us Q I rx rs q, fun H s => ⟨x, y, rfl, rfl, fun j hj => by
    rw [h] at hj; cases hj; exact ⟨_, _, s, q⟩, fun hn => by rw [h] at hn; cases hn⟩⟩
theorem k_sindex {name : Str} {apos : Pos} (h : kE X a σ B L fun x B1 L1 => ∃ z, x = .str z ∧ kA X (e :: es) σ B1 L1 fun vs B2 L2 => kMt X "str.index" x vs B2 L2 Q)
    (hbase : attributeBase a "index" X.env (eval a X.env) = eval a X.env := by rfl)
    (hfew : ((backTo pos (starEach (e :: es) X.env)).all (fun x => !x.1) && (backToKw pos (keywordEach [] X.env)).all (fun x => x.1.isSome)
      && decide ((e :: es).length + ([] : List Keyword).length + (if ([] : List Keyword).isEmpty then 0 else 1) < 30)) = true := by rfl)
    (hline : (apos.endLine == pos.line) = true := by rfl) (hs : starEach (e :: es) X.env = (false, eval e X.env) :: starEach es X.env := by rfl) (hplain : (backTo pos (starEach es X.env)).any (·.1) = false := by rfl) :
    kE X (.Call (.Attribute a "index" apos) (e :: es) [] pos) σ B L Q := by
  refine k_m PySem.F.plainAttrs_str PySem.F.slot_str_index PySem.F.type_str_index ?_ hbase hfew hline hs hplain
  obtain ⟨t, h1, h2⟩ := h
  refine ⟨_, pe_c, fun H s => toE s ⟨t, h1, h2⟩ fun x H' B' L' s' ⟨z, e, q⟩ => ⟨B', L', s', ?_, q⟩⟩
  subst e
  exact ty_s
theorem joinN (ls : List (List Nat)) : Txt.join (sOf []) (ls.map sOf) = sOf ls.flatten := by
  rw [join_eq]
  apply ext_toList
  show tl _ = _
  rw [tl_join]
  have e : (ls.map sOf).map tl = ls := by rw [List.map_map]; exact (List.map_congr_left (fun l _ => by simp [tl, sOf])).trans (List.map_id _)
  rw [e]
  have h : ∀ ls : List (List Nat), joinL [] ls = ls.flatten := by
    intro ls
    induction ls with
    | nil => rfl
    | cons a r ih =>
      cases r with
      | nil => simp [joinL]
      | cons b r =>
        have e2 : joinL [] (a :: b :: r) = a ++ ([] ++ joinL [] (b :: r)) := rfl
        rw [e2, ih]; simp
  show joinL [] ls = (sOf ls.flatten).cps.toList
  rw [h]
/-- ''.join(list of texts) -/
theorem m_join0 {p : Addr} {ls : List (List Nat)} (h : Ls X.K B L p (ls.map fun l => V.str (sOf l))) (q : Q (.str (sOf ls.flatten)) B L) (hl : ls.flatten.length ≤ 16777216) : kMt X "str.join" (.str (sOf [])) [.ref p] B L Q :=
  ⟨_, mt_join, fun H s => ⟨sOf [], p, ls.map sOf, rfl, rfl, .inl (by rw [List.map_map]; exact h.at s), by
    have e : ((ls.map sOf).map (·.length)).sum = ls.flatten.length := by rw [List.map_map, List.length_flatten]; congr 1
    rw [e, show (sOf []).length = 0 from rfl]; omega, by rw [joinN]; exact ⟨_, _, s, q⟩⟩⟩
theorem k_join (h : kE X a σ B L fun x B1 L1 => ∃ z, x = .str z ∧ kE X e σ B1 L1 fun v B2 L2 => kMt X "str.join" x [v] B2 L2 Q) {apos : Pos}
    (hbase : attributeBase a "join" X.env (eval a X.env) = eval a X.env := by rfl)
    (hfew : ((backTo pos (starEach [e] X.env)).all (fun x => !x.1) && (backToKw pos (keywordEach [] X.env)).all (fun x => x.1.isSome)
      && decide ([e].length + ([] : List Keyword).length + (if ([] : List Keyword).isEmpty then 0 else 1) < 30)) = true := by rfl)
    (hline : (apos.endLine == pos.line) = true := by rfl) (hs : starEach [e] X.env = (false, eval e X.env) :: starEach [] X.env := by rfl) (hplain : (backTo pos (starEach [] X.env)).any (·.1) = false := by rfl) :
    kE X (.Call (.Attribute a "join" apos) [e] [] pos) σ B L Q := by
  refine k_m PySem.F.plainAttrs_str PySem.F.slot_str_join PySem.F.type_str_join ?_ hbase hfew hline hs hplain
  obtain ⟨t, h1, h2⟩ := h
  refine ⟨_, pe_c, fun H s => toE s ⟨t, h1, h2⟩ fun x H' B' L' s' ⟨z, ez, q⟩ => ⟨B', L', s', ?_, ?_⟩⟩
  · subst ez; exact ty_s
  · refine a_cons ?_ hs
    obtain ⟨t2, k1, k2⟩ := q
    exact ⟨_, pe_c, fun H s => toE s ⟨t2, k1, k2⟩ fun v H2 B2 L2 s2 q2 => ⟨B2, L2, s2, a_nil q2⟩⟩
/-- c.lower() -/
theorem m_lower {x y : Str} (hy : Txt.lower x = y) (q : Q (.str y) B L) (hl : x.length ≤ 5592405) : kMt X "str.lower" (.str x) [] B L Q := ⟨_, mt_lower, fun H s => ⟨x, rfl, rfl, hl, by rw [hy]; exact ⟨_, _, s, q⟩⟩⟩
end
end Kv

namespace Kv
open PySem PySem.Spec PyProof.Rows L2
/-! ### enumerate(text) -/
/-- a text's signs with their places, each pair a new tuple -/
def Ies (x : Str) : It := ⟨fun i _ => i < x.cps.size, fun i H v H' => ∃ T c, v = .ref T ∧ H T = none ∧ H' = upd H T (.tup [.int (i : Nat), .str ⟨#[c]⟩]) ∧ x.cps[i]? = some c, fun i _ => i = x.cps.size⟩
theorem draws_str {prog : Program} {w : World} {A : Around} (hh : A.handled = none) (it : Addr) (x : Str) (t : Tok) (ty : String) (hty : ty = "str_ascii_iterator" ∨ ty = "str_iterator") :
    Draws prog w A it [it] x.cps.size (fun i v => ∃ c u, x.cps[i]? = some c ∧ v = .str ⟨#[c]⟩ u) (fun i h => h.IsStrIter it ty x t i) := by
  rcases hty with e | e
  · rw [e]; exact Draws.strAscii hh it x t
  · rw [e]; exact Draws.strWide hh it x t
theorem turn_es {P : Program} {w : World} {K : PySem.W.Frag} {elts : List Expr} {kk : Nat} {tpos : Pos} (x : Str) (t : Tok) (e it : Addr) (ty : String) (hty : ty = "str_ascii_iterator" ∨ ty = "str_iterator") :
    Turn P w K (.Tuple elts kk tpos) (Ies x) [e, it] e (fun i h => (∃ old, IsEnum h e it ((i : Nat) : Int) old) ∧ h.IsStrIter it ty x t i ∧ e ≠ it) where
  mem := by simp
  obj := fun i h st b hb => by
    obtain ⟨⟨old, he⟩, ⟨o, ho, hc, hd⟩, _⟩ := st
    have e' : b = e ∨ b = it := by simpa using hb
    rcases e' with z | z
    · subst z; exact ⟨_, he, fun v q => nomatch q⟩
    · subst z; exact ⟨o, ho, fun v q => by rw [hd] at q; cases q⟩
  keep := fun i h h' st k => by
    obtain ⟨⟨old, he⟩, ⟨o, ho, r⟩, hne⟩ := st
    exact ⟨⟨old, k e (by simp) _ he⟩, ⟨o, k it (by simp) o ho, r⟩, hne⟩
  item := by
    intro X hP hw hK hc i pins s σ H E I hf st hg
    subst hP hw hK
    obtain ⟨⟨old, he⟩, hit, hne⟩ := st
    have D := draws_str (prog := X.prog) (w := X.w) (A := X.A.in1) (I.ok.hd hc) it x t ty hty
    have hel : e < s.heap.objs.size := Heap.lt_size he
    have hil : it < s.heap.objs.size := by obtain ⟨_, q, _⟩ := hit; exact Heap.lt_size q
    refine wpAny_pyNext_enum_itemD D he hit hg hne (by simpa using hne) fun v h' tk hv ho hit' hT hsz hk => ?_
    obtain ⟨c, u, hcx, rfl⟩ := hv
    refine ⟨_, rfl, wpAny_letOwnedTupleGo_enum (s := { s with heap := h', toks := tk + 1 }) ho fun h2 he2 sb => ?_⟩
    have hT2 : h2.get? s.heap.objs.size = some { cls := .type "tuple", data := .seq #[.int i tk, .str ⟨#[c]⟩ u] } := (sb.2 _ (Nat.ne_of_gt hel)).trans hT
    have nw : ObjOk X.prog X.w (upd H s.heap.objs.size (.tup [.int (i : Nat), .str ⟨#[c]⟩])) h2 s.heap.objs.size (.tup [.int (i : Nat), .str ⟨#[c]⟩]) :=
      ⟨by show 2 ≤ sizeLine; decide, [.int i tk, .str ⟨#[c]⟩ u], .cons ⟨_, rfl⟩ (.cons ⟨_, rfl⟩ .nil), ⟨_, hT2, rfl, _, rfl⟩⟩
    have J : Inv X pins σ (upd H s.heap.objs.size (.tup [.int (i : Nat), .str ⟨#[c]⟩])) { s with heap := h2, toks := tk + 1 } :=
      I.turnedNew (ch := [e, it]) (fun b ob hb q => (sb.2 b (fun z => hb (by simp [z]))).trans (hk b ob (fun z => hb (by simp [z])) (fun z => hb (by simp [z])) q)) hf (Nat.le_refl _) nw
    refine ⟨.ref s.heap.objs.size, _, J, rfl, ⟨_, c, rfl, I.hok.fresh (Nat.le_refl _), rfl, hcx⟩, ⟨⟨.str ⟨#[c]⟩ u, ?_⟩, ?_, hne⟩, fun b hb => ?_⟩
    · have e1 : ((i + 1 : Nat) : Int) = (i : Int) + 1 := by omega
      rw [e1]; exact he2
    · obtain ⟨o, ho1, r⟩ := hit'
      exact ⟨o, (sb.2 it (Ne.symm hne)).trans ho1, r⟩
    · have hb' : b < s.heap.objs.size := by
        have e' : b = e ∨ b = it := by simpa using hb
        rcases e' with z | z
        · rw [z]; exact hel
        · rw [z]; exact hil
      rw [upd_ne (Nat.ne_of_lt hb')]
      exact (hf b hb).1
  done := by
    intro X hP hw hK hc i pins s σ H E I hf st hg
    subst hP hw hK
    obtain ⟨⟨old, he⟩, hit, hne⟩ := st
    have D := draws_str (prog := X.prog) (w := X.w) (A := X.A.in1) (I.ok.hd hc) it x t ty hty
    obtain ⟨f0, f1, f2, f3, f4, f5⟩ := hf it (by simp)
    have hi : i = x.cps.size := hg
    subst hi
    exact wpAny_pyNext_enum_endD D he hit fun h' eb => ⟨rfl, I.turned (t' := s.toks) (fun b o hb q => eb b o hb q) f0 f1 f3 f4 f5⟩
  self := fun A i s Q E st h => let ⟨⟨_, he⟩, _⟩ := st; wpAny_pyIter_enum he h
theorem walk_es {x : Str} : Walk (Ies x) x.cps.size (fun _ => True) (fun i H v H' => ∃ T c, v = .ref T ∧ H T = none ∧ H' = upd H T (.tup [.int (i : Nat), .str ⟨#[c]⟩]) ∧ x.cps[i]? = some c) := ⟨fun _ _ hi _ => hi, fun _ _ => rfl, fun _ _ _ _ _ _ y => y⟩
theorem pi_es {X : Cx} {e : Expr} {te : TE} {p pos tpos : Pos} {elts : List Expr} {kk : Nat} (hg : Gl X "enumerate") (hm : X.mg "enumerate" = none) (he : PE X e te) (hs : starEach [e] X.env = (false, eval e X.env) :: starEach [] X.env := by rfl) (hs' : starEach [e] X.env = [(false, eval e X.env)] := by rfl) :
    PI X (.Tuple elts kk tpos) (.Call (.Name "enumerate" p) [e] [] pos) (fun σ H R => te σ H fun v H1 => ∃ x, v = .str x ∧ R (Ies x) H1) := by
  refine ⟨fun pins s σ H R I h => ?_⟩
  refine Call_ (ld_blt I hg hm boot_enumerate (PyProof.Rows.callWith_type1 (thn ((pa_cons he pa_nil hs).run pos pins s σ H (fun vs H1 => ∃ x, vs = [.str x] ∧ R (Ies x) H1) I ?_) fun us s1 ⟨vs, H1, I1, r1, q1⟩ => ?_) hs' rfl))
  · have hh : (fun v H1 => ∃ x, v = V.str x ∧ R (Ies x) H1) = fun v H1 => tNil σ H1 fun xs H2 => ∃ x, v :: xs = [V.str x] ∧ R (Ies x) H2 := by
      funext v H1
      simp [tNil]
    show te σ H _
    rw [← hh]
    exact h
  obtain ⟨x, ex, q⟩ := q1
  subst ex
  cases r1 with
  | cons r rr =>
    cases rr
    obtain ⟨t, rfl⟩ := r
    refine call_enumerate_str fun h' he hit hsz hk => wpAny_pyIter_enum he ?_
    have I2 : Inv X pins σ H1 { s1 with heap := h' } := I1.kept (t' := s1.toks) hk
    have hty : strIterType x = "str_ascii_iterator" ∨ strIterType x = "str_iterator" := by unfold strIterType; split <;> simp
    refine ⟨s1.heap.objs.size + 1, [s1.heap.objs.size + 1, s1.heap.objs.size], _, _, H1, rfl, I2, turn_es x t (s1.heap.objs.size + 1) s1.heap.objs.size _ hty, ⟨⟨.none, he⟩, hit, Nat.succ_ne_self _⟩, fun b hb => ?_, q⟩
    have hle : s1.heap.objs.size ≤ b := by
      have e' : b = s1.heap.objs.size + 1 ∨ b = s1.heap.objs.size := by simpa using hb
      rcases e' with z | z
      · rw [z]; exact Nat.le_add_right _ _
      · rw [z]; exact Nat.le_refl _
    exact I1.fpOk hle (I1.hok.fresh hle)
section
variable {X : Cx} {σ : L2.St} {B : Hp} {L : HL} {Q : KQ} {D : KD} {pos p2 pos' : Pos} {e a b c tg iter elt : Expr} {es : List Expr} {body : List Stmt} {scope : Scope}
theorem r_es {R : It → Hp → HL → Prop} {elts : List Expr} {kk : Nat} {tpos : Pos} (hm : X.mg "enumerate" = none) (h : kE X e σ B L fun v B1 L1 => ∃ l, v = .str (sOf l) ∧ R (Ies (sOf l)) B1 L1) (hg : Gl X "enumerate" := by rfl) (hs : starEach [e] X.env = (false, eval e X.env) :: starEach [] X.env := by rfl) (hs' : starEach [e] X.env = [(false, eval e X.env)] := by rfl) :
    kR X (.Tuple elts kk tpos) (.Call (.Name "enumerate" p2) [e] [] pos) σ B L R := ⟨_, pi_es hg hm pe_c hs hs', fun H s => toE s h fun _ _ _ _ s ⟨l, e, q⟩ => ⟨_, e, _, _, s, q⟩⟩
theorem wipe2' (σ : L2.St) (i j : Nat) (x y : V) : ((wipe σ [i, j]).set i (some x)).set j (some y) = (σ.set i (some x)).set j (some y) := by
  by_cases h : i = j
  · subst h; simp [wipe, List.set_set]
  · show (((σ.set j none).set i none).set i (some x)).set j (some y) = _
    rw [List.set_set, List.set_comm none (some x) (Ne.symm h), List.set_set]
theorem wipe2 (σ : L2.St) (i j : Nat) (x y : V) : wipe (((wipe σ [i, j]).set i (some x)).set j (some y)) [i, j] = wipe σ [i, j] := by
  rw [wipe2']
  by_cases h : i = j
  · subst h; simp [wipe, List.set_set]
  · show (((σ.set i (some x)).set j (some y)).set j none).set i none = (σ.set j none).set i none
    rw [List.set_set, List.set_comm (some x) none h, List.set_set]
/-- [elt for i, c in enumerate(text)] -/
theorem k_lcm_es {x y : Str} {i j kk : Nat} {px py tpos : Pos} (g : Nat → Nat → V) (hN : X.N.Nodup) (ok : BlkOk X.N X.env.scope scope [(x, i), (y, j)]) (hm : X.mg "enumerate" = none)
    (h : kE X e σ B L fun v B1 L1 => ∃ l, v = .str (sOf l) ∧ l.length ≤ 16777216 ∧ (∀ (n : Nat) c, l[n]? = some c → ∀ D acc s H0 C cl fp, kE (Bk X scope s H0 C cl fp) elt ((σ.set i (some (.int n))).set j (some (.str (sOf [c])))) B1 ((D, .lst acc) :: L1) fun y B3 L3 => y = g n c ∧ B3 = B1 ∧ L3 = (D, .lst acc) :: L1) ∧
      ∀ D, Q (.ref D) B1 ((D, .lst (l.mapIdx g)) :: L1))
    (hp : ∀ s H0 C cl fp, Loc (Bk X scope s H0 C cl fp).env.scope x ∧ Loc (Bk X scope s H0 C cl fp).env.scope y := by intro _ _ _ _ _; exact ⟨Or.inl rfl, Or.inl rfl⟩) (hf : ∀ s H0 C cl fp, (Bk X scope s H0 C cl fp).env.scope.names.lookup x = some .local ∧ (Bk X scope s H0 C cl fp).env.scope.names.lookup y = some .local := by intro _ _ _ _ _; exact ⟨rfl, rfl⟩)
    (hn : ∀ s H0 C cl fp, (assignEach [.Name x px, .Name y py] (Bk X scope s H0 C cl fp).env).length = 2 := by intro _ _ _ _ _; rfl) (hfi : ∀ s H0 C cl fp, (assignEach [.Name x px, .Name y py] (Bk X scope s H0 C cl fp).env).findIdx? (·.1) = none := by intro _ _ _ _ _; rfl)
    (h1 : ∀ s H0 C cl fp, (assignEach [.Name x px, .Name y py] (Bk X scope s H0 C cl fp).env).map (·.2) = assign (.Name x px) (Bk X scope s H0 C cl fp).env :: (assignEach [.Name y py] (Bk X scope s H0 C cl fp).env).map (·.2) := by intro _ _ _ _ _; rfl)
    (h2 : ∀ s H0 C cl fp, (assignEach [.Name y py] (Bk X scope s H0 C cl fp).env).map (·.2) = assign (.Name y py) (Bk X scope s H0 C cl fp).env :: (assignEach [] (Bk X scope s H0 C cl fp).env).map (·.2) := by intro _ _ _ _ _; rfl)
    (hg : Gl X "enumerate" := by rfl) (hst : starEach [e] X.env = (false, eval e X.env) :: starEach [] X.env := by rfl) (hst' : starEach [e] X.env = [(false, eval e X.env)] := by rfl)
    (hi : X.N[i]? = some x := by rfl) (hj : X.N[j]? = some y := by rfl) (hc : X.calm = true := by rfl) (hs : ∀ x, foldedSetIterable (.Call (.Name "enumerate" p2) [e] [] pos') X.env x = pure x := by intro _; rfl) :
    kL X elt (.Tuple [.Name x px, .Name y py] kk tpos) (.Call (.Name "enumerate" p2) [e] [] pos') [] scope [(x, i), (y, j)] σ B L Q :=
  k_lc hN ok (r_es hm (by
    obtain ⟨t, k1, k2⟩ := h
    refine ⟨_, pe_c, fun H s => toE s ⟨t, k1, k2⟩ fun v H' B1 L1 s' ⟨l, e, hl, ht, hd⟩ => ⟨B1, L1, s', l, e, (sOf l).cps.size, _, _, fun i acc B L => B = B1 ∧ L = L1 ∧ acc = (l.mapIdx g).take i, walk_es, ⟨rfl, rfl, by simp⟩, fun i acc B L H hi p s => trivial, ?_, ?_⟩⟩
    · rintro D n acc z B L H H' hn' ⟨rfl, rfl, rfl⟩ s ⟨T, c, rfl, hT, rfl, hx⟩
      have hx' : l[n]? = some c := by simpa [sOf] using hx
      refine ⟨_, _, s.new hT, fun sa Ha Ca cla fpa => g_pair ?_ hc (hn sa Ha Ca cla fpa) (hfi sa Ha Ca cla fpa)⟩
      refine gs_cons (g_name i ?_ hN hi (hp sa Ha Ca cla fpa).1 (.inr (hf sa Ha Ca cla fpa).1)) (h1 sa Ha Ca cla fpa)
      refine gs_cons (g_name j ?_ hN hj (hp sa Ha Ca cla fpa).2 (.inr (hf sa Ha Ca cla fpa).2)) (h2 sa Ha Ca cla fpa)
      refine gs_nil ⟨wipe2 σ i j _ _, fun sb Hb Cb clb fpb => ?_⟩
      show kE _ _ (((wipe σ [i, j]).set i _).set j _) _ _ _
      rw [wipe2']
      obtain ⟨t2, m1, m2⟩ := ht n c hx' D ((l.mapIdx g).take n) sb Hb Cb clb fpb
      refine ⟨_, pe_c, fun H s => toE s ⟨t2, m1, m2⟩ fun y H2 B2 L2 s2 ⟨e1, e2, e3⟩ => ⟨B2, L2, s2, ?_, L, e3, e2, rfl, ?_⟩⟩
      · have := (List.getElem?_eq_some_iff.mp hx').1
        simp; omega
      · rw [e1, List.take_add_one, List.getElem?_mapIdx, hx']; simp
    · rintro acc B L D ⟨rfl, rfl, rfl⟩
      rw [sOf_size, show l.length = (l.mapIdx g).length by simp, List.take_length]
      exact hd D) hg hst hst') hc hs

/-! ### objects -/
def At (B : Hp) (L : HL) (p : Addr) (o : HO) : Prop := B p = some o ∨ (p, o) ∈ L
theorem At.at {H : Hp} {p : Addr} {o : HO} (h : At B L p o) (s : Sat B L H) : H p = some o := by
  rcases h with h | h
  · exact s.ext _ _ h
  · exact s.own _ h
theorem k_fld {f : Str} {C : Addr} (c : Cls X.K C) (n : NoAttr X.K C f) (h : kE X a σ B L fun x B1 L1 => ∃ p dx fs v, x = .ref p ∧ At B1 L1 p (.ins C dx fs) ∧ fs.lookup f = some v ∧ Q v B1 L1)
    (hb : attributeBase a f X.env (eval a X.env) = eval a X.env := by rfl) : kE X (.Attribute a f pos) σ B L Q := ⟨_, pe_fld pe_c hb, fun H s => toE s h fun _ _ _ _ s ⟨p, dx, fs, v, e, ha, hl, q⟩ => ⟨p, C, dx, fs, v, e, ha.at s, c, n, hl, _, _, s, q⟩⟩
theorem k_setf {f : Str} {C : Addr} (c : Cls X.K C) (n : NoAttr X.K C f) (h : kE X e σ B L fun y B1 L1 => kE X a σ B1 L1 fun x B2 L2 => ∃ p dx fs L3, x = .ref p ∧ Rep L2 p (.ins C dx fs) (.ins C dx (putF f y fs)) L3 ∧ fs.length < 1000 ∧ D.nx σ B2 L3)
    (hs : swapsWith e (some (.Attribute a f pos')) pos.line X.env = pure false := by rfl) : kS X (.Assign [.Attribute a f pos'] e pos) σ B L D :=
  ⟨_, ps_fld pe_c pe_c hs, fun H s => toE s h fun _ _ _ _ s q => toE s q fun _ _ _ _ s ⟨p, dx, fs, L3, e, r, hl, q⟩ => ⟨p, C, dx, fs, e, s.own _ r.mem, c, n, hl, _, _, s.rep r, q⟩⟩
/-- a method of the program's own class at C, an object of that class made -/
structure Mt (P : Program) (w : World) (K : PySem.W.Frag) (mg : Str → Option Value) (base : Heap) (k : Nat) (C : Addr) (m : Str) (sp : Sp) : Prop where
  ex : ∃ f fd ps, FnOk P w K mg base (L2.CX P w) k f fd ps sp ∧ Meth K C m f ∧ Binds K fd ps []
  cls : Cls K C
structure Mkr (P : Program) (w : World) (K : PySem.W.Frag) (mg : Str → Option Value) (base : Heap) (k : Nat) (x : Str) (C : Addr) (sp : Sp) : Prop where
  ex : ∃ f fd ps, FnOk P w K mg base (L2.CX P w) k f fd ps sp ∧ Mk K C f ∧ Binds K fd ps []
  mg : mg x = some (.ref C)
theorem k_meth {m : Str} {C : Addr} {k : Nat} {sp : Sp} {W : WX} {apos : Pos} {pl : Sem Bool} (F : Mt X.prog X.w X.K X.mg X.base k C m sp) (hr : Room k X.A) (tk : Takes X W)
    (h : kE X a σ B L fun x B1 L1 => ∃ p dx fs, x = .ref p ∧ At B1 L1 p (.ins C dx fs) ∧ fs.lookup m = none ∧ kA X (e :: es) σ B1 L1 fun vs B2 L2 => ∀ H, Sat B2 L2 H → sp (.ref p :: vs) H (up Q) (WE W σ))
    (hst : starEach (e :: es) X.env = (false, eval e X.env) :: starEach es X.env := by rfl) (hpl : (backTo pos (starEach es X.env)).any (·.1) = false := by rfl)
    (ht : eval (.Call (.Attribute a m apos) (e :: es) [] pos) X.env = (do
      let ov ← eval a X.env
      standAt apos.atName
      let (f, first) ← holding [ov] (getMethod ov m pl)
      callWith pos f first (backTo pos (starEach (e :: es) X.env)) (backToKw pos (keywordEach [] X.env))) := by rfl) : kE X (.Call (.Attribute a m apos) (e :: es) [] pos) σ B L Q := by
  obtain ⟨f, fd, ps, hF, hm, hb⟩ := F.ex
  refine ⟨fun σ H Q => cE X a σ H fun x H1 => ∃ p dx fs, x = .ref p ∧ H1 p = some (.ins C dx fs) ∧ fs.lookup m = none ∧ cA X (e :: es) σ H1 fun vs H2 => sp (.ref p :: vs) H2 Q (WE W σ), ⟨fun pins s σ H Q I h => ?_⟩, fun H s => toE s h fun _ _ _ _ s ⟨p, dx, fs, e, ha, hl, q⟩ => ⟨p, dx, fs, e, ha.at s, hl, toA s q fun _ _ _ _ s q => q _ s⟩⟩
  refine PySem.W.methodCall_KW (pl := pl) (thn (pe_c.run pins s σ H _ I h) fun u s1 ⟨x, H1, I1, rx, p, dx, fs, ex, ea, l, q⟩ => ?_) ht
  subst ex
  obtain rfl : u = Value.ref p := rx
  refine getmeth_ok I1 ea F.cls hm l ?_
  refine PySem.W.callWith_K (first := [.ref p]) (h₀ := X.base) I.ok.mod.kin hm.kp (thn (pa_c.run pos pins s1 σ H1 _ I1 q) fun us s2 ⟨vs, H2, I2, r, q2⟩ => ⟨I2.kIn, ?_⟩) hst hpl
  exact run_fnS (E := WE W) (us := .ref p :: us) (vs := .ref p :: vs) hF hr hb (passAt tk σ) I2 (.cons rfl r) q2
theorem k_meth0 {m : Str} {C : Addr} {k : Nat} {sp : Sp} {W : WX} {apos : Pos} {pl : Sem Bool} (F : Mt X.prog X.w X.K X.mg X.base k C m sp) (hr : Room k X.A) (tk : Takes X W)
    (h : kE X a σ B L fun x B1 L1 => ∃ p dx fs, x = .ref p ∧ At B1 L1 p (.ins C dx fs) ∧ fs.lookup m = none ∧ ∀ H, Sat B1 L1 H → sp [.ref p] H (up Q) (WE W σ))
    (ht : eval (.Call (.Attribute a m apos) [] [] pos) X.env = (do
      let ov ← eval a X.env
      standAt apos.atName
      let (f, first) ← holding [ov] (getMethod ov m pl)
      callWith pos f first (backTo pos (starEach [] X.env)) (backToKw pos (keywordEach [] X.env))) := by rfl) : kE X (.Call (.Attribute a m apos) [] [] pos) σ B L Q := by
  obtain ⟨f, fd, ps, hF, hm, hb⟩ := F.ex
  refine ⟨fun σ H Q => cE X a σ H fun x H1 => ∃ p dx fs, x = .ref p ∧ H1 p = some (.ins C dx fs) ∧ fs.lookup m = none ∧ sp [.ref p] H1 Q (WE W σ), ⟨fun pins s σ H Q I h => ?_⟩, fun H s => toE s h fun _ _ _ _ s ⟨p, dx, fs, e, ha, hl, q⟩ => ⟨p, dx, fs, e, ha.at s, hl, q _ s⟩⟩
  refine PySem.W.methodCall_KW (pl := pl) (thn (pe_c.run pins s σ H _ I h) fun u s1 ⟨x, H1, I1, rx, p, dx, fs, ex, ea, l, q⟩ => ?_) ht
  subst ex
  obtain rfl : u = Value.ref p := rx
  refine getmeth_ok I1 ea F.cls hm l ?_
  exact PySem.W.callWith_K0 (first := [.ref p]) I1.kIn hm.kp (run_fnS (E := WE W) (us := [.ref p]) (vs := [.ref p]) hF hr hb (passAt tk σ) I1 (.cons rfl .nil) q)
/-- C(e, ..) -/
theorem k_make {x : Str} {C : Addr} {k : Nat} {sp : Sp} {E : XK} (F : Mkr X.prog X.w X.K X.mg X.base k x C sp) (hr : Room (k + 1) X.A) (hx : Passes (L2.CX X.prog X.w) X E)
    (h : kA X (e :: es) σ B L fun vs B1 L1 => ∀ x dx, ∀ H, Sat B1 ((x, .ins C dx []) :: (dx, .own x) :: L1) H → sp (.ref x :: vs) H (fun v H2 => v = .non ∧ up Q (.ref x) H2) E)
    (hg : Gl X x := by rfl) (hdb : (x == ("__debug__" : Str)) = false := by decide) (he : starEach (e :: es) X.env = (false, eval e X.env) :: starEach es X.env := by rfl) (hpl : (backTo pos (starEach es X.env)).any (·.1) = false := by rfl) : kE X (.Call (.Name x p2) (e :: es) [] pos) σ B L Q := by
  obtain ⟨f, fd, ps, hF, hm, hb⟩ := F.ex
  refine ⟨_, pe_make hm hF hr hg F.mg hb .nil hx pa_c hdb he hpl, fun H s => toA s h fun vs H' B' L' s' q => fun x dx nx ndx nex => ?_⟩
  have s2 := s'.new (o := .own x) ndx
  have nx2 : (upd H' dx (.own x)) x = none := by rw [upd_ne (Ne.symm nex)]; exact nx
  have s3 := s2.new (o := .ins C dx []) nx2
  have := q x dx _ s3
  rw [List.append_nil]
  exact this

/-! ### errors -/
/-- what the top says of an own error class without __init__ -/
structure ExK (K : PySem.W.Frag) (mg : Str → Option Value) (x : Str) (C : Addr) : Prop where
  g : mg x = some (.ref C)
  x : PySem.W.excIn K C [.type "ValueError", .type "Exception", .type "BaseException", .type "object"] "ValueError.__new__" = true
  k : PySem.W.keepIn K (.ref C) = true
  b : PySem.W.subIn K (.ref C) (.type "BaseException") = some true
  t : PySem.W.typeIn K (.ref C) = some (.type "type")
theorem k_raise {x m : Str} {j : Nat} {W : WX} {C : Addr} {p p3 : Pos} (T : ExK X.K X.mg x C) (tk : Takes X W) (h : ∀ H, Sat B L H → W (.ref C) none σ H) (hg : Gl X x := by rfl) (hdb : (x == ("__debug__" : Str)) = false := by decide) (hc : X.calm = true := by rfl) :
    kS X (.Raise (some (.Call (.Name x p) [.Constant (.str m) j p2] [] pos)) none p3) σ B L D := ⟨_, ps_raise hc tk (pmk_own PySem.F.excBase_ValueError T.x T.g T.k (raises_own T.b T.t) hg hdb), fun H s => h H s⟩
def tSui (X : Cx) (suite : List Stmt) (a : Addr) (cls : Value) (d : Option Addr) : TS := fun E σ H => ∀ oe pn, Zc cls d oe → (∃ vs, oe.data = .fields vs) → cSs (X.suite a ((a, oe) :: pn)) suite E σ H
/-- try: body / except x: suite -/
theorem k_try_only {x : Str} {cv : Value} {b₀ : Stmt} {suite : List Stmt} {np : Pos} {Wout : WX} (tk : Takes X Wout) (hc : Names X x cv)
    (h : ∀ pn xe, Takes (X.tr pn xe) (wOnly X.K cv (tSui X (b₀ :: suite)) Wout D.dn) → PassesOwn (model X.prog X.w) X.A X.env xe → kSs (X.tr pn xe) body σ B L D)
    (hs : X.stack = X.env :: X.outer := by rfl) (hf : X.env.frame = some X.env.locals := by rfl) : kS X (.Try body [.ExceptHandler (some (.Name x np)) none (b₀ :: suite) pos'] [] [] pos) σ B L D :=
  ⟨_, ps_try_only (tb := fun W E σ H => ∀ pn xe, Takes (X.tr pn xe) W → PassesOwn (model X.prog X.w) X.A X.env xe → cSs (X.tr pn xe) body E σ H) (ts := tSui X (b₀ :: suite)) hs hf hc tk
    (fun W pn xe t po => ⟨fun pins s σ H E I q => pss_c.run pins s σ H E I (q pn xe t po)⟩)
    (fun a oe cls d pn z f => ⟨fun pins s σ H E I q => pss_c.run pins s σ H E I (q oe pn z f)⟩), fun H s => fun pn xe t po => toSs0 s (h pn xe t po)⟩
/-- the wish at a raise of the clause's class -/
theorem w_only {cv : Value} {suite : List Stmt} {Wout : WX} {C : Addr} {H : Hp} (hx : PySem.W.exmOne X.K (.ref C) cv = some true) (s : Sat B L H) (h : ∀ a oe pn, kSs (X.suite a ((a, oe) :: pn)) suite σ B L D) : wOnly X.K cv (tSui X suite) Wout D.dn (.ref C) none σ H :=
  ⟨true, hx, fun _ a _ oe pn _ _ => toSs0 s (h a oe pn), fun z => (Bool.noConfusion z)⟩
end
end Kv

namespace Kv
open PySem PySem.Spec PyProof.Rows L2
section
variable {X : Cx} {σ : L2.St} {B : Hp} {L : HL} {Q : KQ}
/-! ### == and != of lists, tuples -/
/-- x reads as the data d, whatever else the heap holds -/
def Dd (X : Cx) (B : Hp) (L : HL) (x : V) (d : PyData) : Prop := ∀ H, Sat B L H → Dp X.K H x d
def DdA (X : Cx) (B : Hp) (L : HL) (xs : List V) (ds : List PyData) : Prop := ∀ H, Sat B L H → DpAll X.K H xs ds
theorem dd_i {i : Int} : Dd X B L (.int i) (.int i) := fun _ _ => .int i
theorem dd_s {l : Str} : Dd X B L (.str l) (.str l) := fun _ _ => .str l
theorem dd_b {b : Bool} : Dd X B L (.bl b) (.bool b) := fun _ _ => .bl b
theorem dd_n : Dd X B L .non .none := fun _ _ => .non
theorem dd_l {p : Addr} {xs : List V} {ds : List PyData} (h : Ls X.K B L p xs) (ha : DdA X B L xs ds) : Dd X B L (.ref p) (.list ds) := fun H s => .lst (h.at s) (ha H s)
theorem dd_t {p : Addr} {xs : List V} {ds : List PyData} (h : Tp X.K B L p xs) (ha : DdA X B L xs ds) : Dd X B L (.ref p) (.tuple ds) := fun H s => .tup (h.at s) (ha H s)
theorem da_nil : DdA X B L [] [] := fun _ _ => .nil
theorem da_cons {x : V} {xs : List V} {d : PyData} {ds : List PyData} (h : Dd X B L x d) (ha : DdA X B L xs ds) : DdA X B L (x :: xs) (d :: ds) := fun H s => .cons (h H s) (ha H s)
theorem da_map {α : Type} {f : α → V} {g : α → PyData} (h : ∀ a, Dd X B L (f a) (g a)) : ∀ l : List α, DdA X B L (l.map f) (l.map g)
  | [] => da_nil
  | a :: l => da_cons (h a) (da_map h l)
theorem o_eqD {x y : V} {d e : PyData} (hu : X.A.units + 64 < cLine) (hd : Dd X B L x d) (he : Dd X B L y e) (q : Q (.bl (PyData.eqv d e)) B L) (sd : SeqAt.shaped d = true) (se : SeqAt.shaped e = true) : kO X (compareOp .Eq) x y B L Q :=
  ⟨_, op_eqD hu, fun H s => ⟨d, e, hd H s, he H s, sd, se, _, _, s, q⟩⟩
theorem o_neD {x y : V} {d e : PyData} (hu : X.A.units + 64 < cLine) (hd : Dd X B L x d) (he : Dd X B L y e) (q : Q (.bl (!PyData.eqv d e)) B L) (sd : SeqAt.shaped d = true) (se : SeqAt.shaped e = true) : kO X (compareOp .NotEq) x y B L Q :=
  ⟨_, op_neD hu, fun H s => ⟨d, e, hd H s, he H s, sd, se, _, _, s, q⟩⟩
/-- a list of texts, of ints -/
def dSs (ls : List (List Nat)) : List PyData := ls.map fun l => .str (sOf l)
theorem eqv_ss : ∀ a b : List (List Nat), PyData.eqvAll (dSs a) (dSs b) = decide (a = b)
  | [], [] => rfl
  | [], _ :: _ => by simp [dSs, PyData.eqvAll]
  | _ :: _, [] => by simp [dSs, PyData.eqvAll]
  | x :: a, y :: b => by
    have ih := eqv_ss a b
    show PyData.eqvAll (.str (sOf x) :: dSs a) (.str (sOf y) :: dSs b) = _
    unfold PyData.eqvAll
    rw [ih]
    show ((sOf x == sOf y) && decide (a = b)) = _
    have e : (sOf x == sOf y) = decide (x = y) := by
      rw [Bool.eq_iff_iff]; simp [sOf]
    rw [e]
    by_cases h1 : x = y <;> by_cases h2 : a = b <;> simp [h1, h2]
theorem lay_ss {a : List (List Nat)} (h : ∀ l ∈ a, ∀ c ∈ l, c < 1114112) : PyData.canLayAll0 (dSs a) = true := by
  induction a with
  | nil => rfl
  | cons x a ih =>
    show PyData.canLayAll0 (.str (sOf x) :: dSs a) = true
    unfold PyData.canLayAll0
    rw [ih fun l hl => h l (List.mem_cons_of_mem _ hl), Bool.and_true]
    have := h x List.mem_cons_self
    unfold PyData.canLay0
    unfold PyData.strOk
    simpa [sOf] using this
theorem depth_ss (a : List (List Nat)) : PyData.depthAll (dSs a) = 0 := by
  induction a with
  | nil => rfl
  | cons x a ih =>
    show PyData.depthAll (.str (sOf x) :: dSs a) = 0
    unfold PyData.depthAll
    rw [ih]; rfl
theorem shaped_ss {a : List (List Nat)} (h : ∀ l ∈ a, ∀ c ∈ l, c < 1114112) : SeqAt.shaped (.list (dSs a)) = true := by
  unfold SeqAt.shaped
  have e1 : PyData.canLay0 (.list (dSs a)) = true := by unfold PyData.canLay0; exact lay_ss h
  have e2 : PyData.depth (.list (dSs a)) = 1 := by unfold PyData.depth; rw [depth_ss]
  rw [e1, e2]; rfl
theorem dd_ss {p : Addr} {a : List (List Nat)} (h : Ls X.K B L p (a.map fun l => V.str (sOf l))) : Dd X B L (.ref p) (.list (dSs a)) := dd_l h (da_map (fun _ => dd_s) a)
/-- lists of texts compared -/
theorem o_ness {p q : Addr} {a b : List (List Nat)} (hu : X.A.units + 64 < cLine) (h1 : Ls X.K B L p (a.map fun l => V.str (sOf l))) (h2 : Ls X.K B L q (b.map fun l => V.str (sOf l))) (hq : Q (.bl (!decide (a = b))) B L) (ha : ∀ l ∈ a, ∀ c ∈ l, c < 1114112) (hb : ∀ l ∈ b, ∀ c ∈ l, c < 1114112) :
    kO X (compareOp .NotEq) (.ref p) (.ref q) B L Q := o_neD hu (dd_ss h1) (dd_ss h2) (by show Q (.bl (!PyData.eqvAll (dSs a) (dSs b))) B L; rw [eqv_ss]; exact hq) (shaped_ss ha) (shaped_ss hb)
theorem o_eqss {p q : Addr} {a b : List (List Nat)} (hu : X.A.units + 64 < cLine) (h1 : Ls X.K B L p (a.map fun l => V.str (sOf l))) (h2 : Ls X.K B L q (b.map fun l => V.str (sOf l))) (hq : Q (.bl (decide (a = b))) B L) (ha : ∀ l ∈ a, ∀ c ∈ l, c < 1114112) (hb : ∀ l ∈ b, ∀ c ∈ l, c < 1114112) :
    kO X (compareOp .Eq) (.ref p) (.ref q) B L Q := o_eqD hu (dd_ss h1) (dd_ss h2) (by show Q (.bl (PyData.eqvAll (dSs a) (dSs b))) B L; rw [eqv_ss]; exact hq) (shaped_ss ha) (shaped_ss hb)
end
end Kv

/-! Words over letters with backs: leaving out, by a stack. -/
namespace Fg
/-- the back of a letter, by codes -/
def bk (c : Nat) : Nat := if 65 ≤ c ∧ c ≤ 90 then c + 32 else if 97 ≤ c ∧ c ≤ 122 then c - 32 else c
theorem bk_bk (c : Nat) : bk (bk c) = c := by
  unfold bk
  repeat' split
  all_goals omega
def push (st : List Nat) (c : Nat) : List Nat := match st with
  | [] => [c]
  | x :: r => if x = bk c then r else c :: x :: r
theorem push_cons (x : Nat) (r : List Nat) (c : Nat) : push (x :: r) c = if x = bk c then r else c :: x :: r := rfl
/-- the word acts on stacks -/
def act (l st : List Nat) : List Nat := l.foldl push st
theorem act_nil (st : List Nat) : act [] st = st := rfl
theorem act_cons (c : Nat) (l st : List Nat) : act (c :: l) st = act l (push st c) := rfl
theorem act_app (a b st : List Nat) : act (a ++ b) st = act b (act a st) := by unfold act; rw [List.foldl_append]
/-- no letter beside its back (read either way the same) -/
def Wd : List Nat → Prop
  | [] => True
  | [_] => True
  | x :: y :: r => y ≠ bk x ∧ Wd (y :: r)
theorem Wd.tail {x : Nat} {r : List Nat} (h : Wd (x :: r)) : Wd r := by
  cases r with
  | nil => trivial
  | cons y r => exact h.2
theorem Wd.cons {x : Nat} {r : List Nat} (h : Wd r) (hn : ∀ y s, r = y :: s → y ≠ bk x) : Wd (x :: r) := by
  cases r with
  | nil => trivial
  | cons y r => exact ⟨hn y r rfl, h⟩
theorem rd_push {st : List Nat} (h : Wd st) (c : Nat) : Wd (push st c) := by
  cases st with
  | nil => trivial
  | cons x r =>
    rw [push_cons]
    split
    · exact h.tail
    · rename_i hx
      exact ⟨hx, h⟩
theorem rd_act {st : List Nat} (h : Wd st) (l : List Nat) : Wd (act l st) := by
  induction l generalizing st with
  | nil => exact h
  | cons c l ih => exact ih (rd_push h c)
theorem push_push {st : List Nat} (h : Wd st) (c : Nat) : push (push st c) (bk c) = st := by
  cases st with
  | nil => show (if c = bk (bk c) then [] else _) = []; rw [bk_bk, if_pos rfl]
  | cons x r =>
    rw [push_cons]
    split
    · rename_i hx
      cases r with
      | nil => rw [hx]; rfl
      | cons y s =>
        rw [push_cons, bk_bk]
        have h1 := h.1
        rw [hx, bk_bk] at h1
        rw [if_neg h1, hx]
    · rw [push_cons, bk_bk, if_pos rfl]
/-- the word that a text comes to -/
def red (l : List Nat) : List Nat := (act l []).reverse
def inv (l : List Nat) : List Nat := (l.map bk).reverse
theorem inv_inv (l : List Nat) : inv (inv l) = l := by
  unfold inv
  rw [List.map_reverse, List.reverse_reverse, List.map_map]
  have : (bk ∘ bk) = id := by funext c; exact bk_bk c
  rw [this, List.map_id]
theorem inv_app (a b : List Nat) : inv (a ++ b) = inv b ++ inv a := by unfold inv; rw [List.map_append, List.reverse_append]
theorem inv_len (l : List Nat) : (inv l).length = l.length := by simp [inv]
theorem inv_cons (c : Nat) (l : List Nat) : inv (c :: l) = inv l ++ [bk c] := by simp [inv]
theorem act_inv {st : List Nat} (h : Wd st) (l : List Nat) : act (inv l) (act l st) = st := by
  induction l generalizing st with
  | nil => rfl
  | cons c l ih =>
    rw [inv_cons, act_cons, act_app, ih (rd_push h c)]
    exact push_push h c
theorem act_inv' {st : List Nat} (h : Wd st) (l : List Nat) : act l (act (inv l) st) = st := by
  have := act_inv h (inv l)
  rwa [inv_inv] at this
/-- what a text comes to acts as the text -/
theorem act_red {st : List Nat} (h : Wd st) (l : List Nat) : act (red l) st = act l st := by
  have key : ∀ r : List Nat, act (act r.reverse []).reverse st = act r.reverse st := by
    intro r
    induction r with
    | nil => rfl
    | cons c r ih =>
      rw [List.reverse_cons, act_app, act_app]
      show act (push (act r.reverse []) c).reverse st = push (act r.reverse st) c
      cases hs : act r.reverse [] with
      | nil =>
        rw [hs] at ih
        show act [c] st = _
        rw [← ih]; rfl
      | cons x s =>
        rw [hs, List.reverse_cons, act_app] at ih
        rw [push_cons]
        split
        · rename_i hx
          rw [← ih]
          show _ = push (push (act s.reverse st) x) c
          have := push_push (rd_act h s.reverse) x
          rw [hx, bk_bk] at this
          rw [hx]
          exact this.symm
        · rw [List.reverse_cons, List.reverse_cons, act_app, act_app, ih]; rfl
  have := key l.reverse
  rw [List.reverse_reverse] at this
  exact this
theorem rd_rev : ∀ {l : List Nat}, Wd l → Wd l.reverse := by
  have snoc : ∀ (l : List Nat) (x : Nat), Wd l → (∀ y s, l.reverse = y :: s → y ≠ bk x) → Wd (l ++ [x]) := by
    intro l
    induction l with
    | nil => intro x _ _; trivial
    | cons a l ih =>
      intro x h hn
      cases l with
      | nil =>
        refine ⟨fun e => ?_, trivial⟩
        exact hn a [] rfl (by rw [e, bk_bk])
      | cons b l =>
        refine ⟨h.1, ih x h.2 fun y s e => ?_⟩
        refine hn y (s ++ [a]) ?_
        rw [List.reverse_cons, e]; rfl
  intro l
  induction l with
  | nil => intro _; trivial
  | cons a l ih =>
    intro h
    rw [List.reverse_cons]
    refine snoc _ a (ih h.tail) fun y s e => ?_
    rw [List.reverse_reverse] at e
    subst e
    exact h.1
theorem rd_red (l : List Nat) : Wd (red l) := rd_rev (rd_act (by trivial) l)
theorem red_len (l : List Nat) : (red l).length ≤ l.length := by
  have : ∀ (l st : List Nat), (act l st).length ≤ st.length + l.length := by
    intro l
    induction l with
    | nil => intro st; simp [act_nil]
    | cons c l ih =>
      intro st
      rw [act_cons]
      have h1 := ih (push st c)
      have h2 : (push st c).length ≤ st.length + 1 := by
        cases st with
        | nil => simp [push]
        | cons x r => rw [push_cons]; split <;> simp <;> omega
      simp only [List.length_cons]
      omega
  have h := this l []
  simpa [red] using h
theorem red_mem {l : List Nat} {c : Nat} (h : c ∈ red l) : c ∈ l := by
  have : ∀ (l st : List Nat) c, c ∈ act l st → c ∈ st ∨ c ∈ l := by
    intro l
    induction l with
    | nil => intro st c h; exact .inl h
    | cons a l ih =>
      intro st c h
      rw [act_cons] at h
      rcases ih _ _ h with h | h
      · cases st with
        | nil =>
          have : c = a := by simpa [push] using h
          exact .inr (by rw [this]; simp)
        | cons x r =>
          rw [push_cons] at h
          split at h
          · exact .inl (List.mem_cons_of_mem _ h)
          · rcases List.mem_cons.mp h with h | h
            · exact .inr (by rw [h]; simp)
            · exact .inl h
      · exact .inr (List.mem_cons_of_mem _ h)
  have h' : c ∈ act l [] := by simpa [red] using h
  rcases this l [] c h' with h | h
  · cases h
  · exact h
/-- a word comes to itself -/
theorem red_of_rd {l : List Nat} (h : Wd l) : red l = l := by
  have : ∀ (l st : List Nat), Wd (l.reverse ++ st) → act l st = l.reverse ++ st := by
    intro l
    induction l with
    | nil => intro st _; rfl
    | cons c l ih =>
      intro st h
      rw [List.reverse_cons, List.append_assoc] at h
      have hp : push st c = c :: st := by
        have h2 : Wd (c :: st) := by
          have : ∀ (a b : List Nat), Wd (a ++ b) → Wd b := by
            intro a
            induction a with
            | nil => intro b h; exact h
            | cons x a ih => intro b h; exact ih b (Wd.tail h)
          exact this _ _ h
        cases st with
        | nil => rfl
        | cons x r => rw [push_cons, if_neg h2.1]
      have h3 : Wd (l.reverse ++ (c :: st)) := h
      rw [act_cons, hp, ih _ h3, List.reverse_cons, List.append_assoc]; rfl
  unfold red
  rw [this l [] (by rw [List.append_nil]; exact rd_rev h), List.append_nil, List.reverse_reverse]
theorem red_red (l : List Nat) : red (red l) = red l := red_of_rd (rd_red l)
theorem red_app (a b : List Nat) : red (a ++ b) = red (red a ++ red b) := by
  unfold red
  rw [act_app, act_app]
  have h1 : act (act a []).reverse [] = act a [] := act_red (st := []) trivial a
  have h2 : act (act b []).reverse (act a []) = act b (act a []) := act_red (rd_act (by trivial) a) b
  rw [h1, h2]
theorem rd_map_inv {l : List Nat} (h : Wd l) : Wd (inv l) := by
  have : ∀ l : List Nat, Wd l → Wd (l.map bk) := by
    intro l
    induction l with
    | nil => intro _; trivial
    | cons a l ih =>
      intro h
      cases l with
      | nil => trivial
      | cons b l =>
        refine ⟨fun e => h.1 ?_, ih h.2⟩
        rw [bk_bk] at e
        rw [← e, bk_bk]
  exact rd_rev (this l h)
theorem act_inv_red {st : List Nat} (h : Wd st) (l : List Nat) : act (inv (red l)) st = act (inv l) st := by
  have h1 : act l (act (inv l) st) = st := act_inv' h l
  have h2 := rd_act h (inv l)
  have h3 := act_inv h2 (red l)
  rw [act_red h2, h1] at h3
  exact h3
theorem red_inv (l : List Nat) : red (inv l) = inv (red l) := by
  have h : red (inv (red l)) = red (inv l) := by
    show (act (inv (red l)) []).reverse = (act (inv l) []).reverse
    rw [act_inv_red (st := []) trivial]
  rw [← h]
  exact red_of_rd (rd_map_inv (rd_red l))
theorem red_flat_inv (ls : List (List Nat)) : red ((ls.map inv).reverse.flatten) = inv (red ls.flatten) := by
  have : (ls.map inv).reverse.flatten = inv ls.flatten := by
    induction ls with
    | nil => rfl
    | cons a r ih => rw [List.map_cons, List.reverse_cons, List.flatten_append, ih, List.flatten_cons, List.flatten_cons, inv_app]; simp
  rw [this, red_inv]
end Fg

namespace Kv
open PySem PySem.Spec PyProof.Rows L2
section
variable {X : Cx} {σ : L2.St} {B : Hp} {L : HL} {Q : KQ} {D : KD} {pos p2 : Pos} {e a b c tg iter elt : Expr} {es : List Expr} {body : List Stmt}
theorem k_gsE {x y : Str} (hm : ∃ t, X.mg x = some (.str y t)) (q : Q (.str y) B L) (hg : Gl X x := by rfl) (hd : (x == ("__debug__" : Str)) = false := by decide) : kE X (.Name x pos) σ B L Q := by
  obtain ⟨t, hm⟩ := hm
  exact k_gs hm q hg hd
theorem k_giE {x : Str} {y : Int} (hm : ∃ t, X.mg x = some (.int y t)) (q : Q (.int y) B L) (hg : Gl X x := by rfl) (hd : (x == ("__debug__" : Str)) = false := by decide) : kE X (.Name x pos) σ B L Q := by
  obtain ⟨t, hm⟩ := hm
  exact k_gi hm q hg hd
theorem i_sv {l : List Nat} {i : Int} (c : Nat) (q : Q (.str (sOf [c])) B L) (hv : atI l i = some c) (hl : l.length ≤ 16777216) : kI X (.str (sOf l)) (.int i) B L Q := i_str hv q hl
theorem i_lv {p : Addr} {xs : List V} {i : Int} (v : V) (h : Ls X.K B L p xs) (q : Q v B L) (hv : atI xs i = some v) : kI X (.ref p) (.int i) B L Q := i_list h hv q
theorem i_tv {p : Addr} {xs : List V} {i : Int} (v : V) (h : Tp X.K B L p xs) (q : Q v B L) (hv : atI xs i = some v) : kI X (.ref p) (.int i) B L Q := i_tup h hv q
theorem k_chainP {op op' : CmpOp} (h : kE X a σ B L fun x B1 L1 => kE X b σ B1 L1 fun y B2 L2 => kO X (compareOp op) x y B2 L2 fun z B3 L3 => ∃ k, z = .bl k ∧ ∃ k2 : Bool, (k = true → kE X c σ B3 L3 fun w B4 L4 => kO X (compareOp op') y w B4 L4 fun u B5 L5 => u = .bl k2 ∧ B5 = B3 ∧ L3 <:+ L5) ∧ Q (.bl (k && k2)) B3 L3)
    (hm : lastMarks [op, op'] [b, c] = false := by with_unfolding_all rfl) : kE X (.Compare a [op, op'] [b, c] pos) σ B L Q :=
  ⟨_, pe_chain or_c or_c pe_c pe_c pe_c hm, fun H s => toE s h fun _ _ _ _ s q => toE s q fun _ _ _ _ s q => toO s q fun z H3 B3 L3 s ⟨k, e, k2, h3, q⟩ => ⟨k, e, by
    cases k with
    | true =>
      refine iteT (toE s (h3 rfl) fun _ _ _ _ s q4 => toO s q4 fun u H5 B5 L5 s5 ⟨e1, e2, e3⟩ => ?_)
      subst e1 e2
      exact ⟨B5, L3, s5.suf e3, by rw [Bool.true_and] at q; exact q⟩
    | false => exact iteF ⟨_, _, s, by rw [Bool.false_and] at q; exact q⟩⟩⟩
theorem t_chainP {op op' : CmpOp} {Q : KB} (h : kE X a σ B L fun x B1 L1 => kE X b σ B1 L1 fun y B2 L2 => kO X (compareOp op) x y B2 L2 fun z B3 L3 => ∃ k, z = .bl k ∧ ∃ k2 : Bool, (k = true → kE X c σ B3 L3 fun w B4 L4 => kO X (compareOp op') y w B4 L4 fun u B5 L5 => u = .bl k2 ∧ B5 = B3 ∧ L3 <:+ L5) ∧ Q (k && k2) B3 L3)
    (hm : lastMarks [op, op'] [b, c] = false := by with_unfolding_all rfl) : kT X (.Compare a [op, op'] [b, c] pos) σ B L Q :=
  ⟨_, pt_chain or_c or_c pe_c pe_c pe_c hm, fun H s => toE s h fun _ _ _ _ s q => toE s q fun _ _ _ _ s q => toO s q fun z H3 B3 L3 s ⟨k, e, k2, h3, q⟩ => ⟨k, e, by
    cases k with
    | true =>
      refine iteT (toE s (h3 rfl) fun _ _ _ _ s q4 => toO s q4 fun u H5 B5 L5 s5 ⟨e1, e2, e3⟩ => ?_)
      subst e1 e2
      exact ⟨k2, rfl, B5, L3, s5.suf e3, by rw [Bool.true_and] at q; exact q⟩
    | false => exact iteF ⟨false, rfl, _, _, s, by rw [Bool.false_and] at q; exact q⟩⟩⟩
theorem tyx_l {K : PySem.W.Frag} {H : Hp} {p : Addr} {xs : List V} (h : SqL K H p xs) : TyX K H (.ref p) (.type "list") := by
  rcases h with (h | ⟨o, h⟩) | ⟨o, _, _, h, hc, _⟩
  · exact .base (.lst h)
  · exact .base (.frz h)
  · exact .kList h hc
theorem tyx_t {K : PySem.W.Frag} {H : Hp} {p : Addr} {xs : List V} (h : SqT K H p xs) : TyX K H (.ref p) (.type "tuple") := by
  rcases h with (h | ⟨o, h⟩) | ⟨o, _, _, h, hc, _⟩
  · exact .base (.tup h)
  · exact .fTuple h
  · exact .kTuple h hc
theorem c_isS {l : Str} {T : String} {k : Bool} (q : Q (.bl k) B L) (hk : kitB "str" T = some k := by decide +kernel) : kC X (.builtin "isinstance") [.str l, .ty T] B L Q := c_isi (.ty T) (fun _ _ => .base (.str l)) (kit_ty hk) q
theorem c_isI {i : Int} {T : String} {k : Bool} (q : Q (.bl k) B L) (hk : kitB "int" T = some k := by decide +kernel) : kC X (.builtin "isinstance") [.int i, .ty T] B L Q := c_isi (.ty T) (fun _ _ => .base (.int i)) (kit_ty hk) q
theorem c_isB {b : Bool} {T : String} {k : Bool} (q : Q (.bl k) B L) (hk : kitB "bool" T = some k := by decide +kernel) : kC X (.builtin "isinstance") [.bl b, .ty T] B L Q := c_isi (.ty T) (fun _ _ => .base (.bl b)) (kit_ty hk) q
theorem c_isN {T : String} {k : Bool} (q : Q (.bl k) B L) (hk : kitB "NoneType" T = some k := by decide +kernel) : kC X (.builtin "isinstance") [.non, .ty T] B L Q := c_isi (.ty T) (fun _ _ => .base .non) (kit_ty hk) q
theorem c_isL {p : Addr} {xs : List V} {T : String} {k : Bool} (h : Ls X.K B L p xs) (q : Q (.bl k) B L) (hk : kitB "list" T = some k := by decide +kernel) : kC X (.builtin "isinstance") [.ref p, .ty T] B L Q := c_isi (.ty T) (fun _ s => tyx_l (h.at s)) (kit_ty hk) q
theorem c_isT {p : Addr} {xs : List V} {T : String} {k : Bool} (h : Tp X.K B L p xs) (q : Q (.bl k) B L) (hk : kitB "tuple" T = some k := by decide +kernel) : kC X (.builtin "isinstance") [.ref p, .ty T] B L Q := c_isi (.ty T) (fun _ s => tyx_t (h.at s)) (kit_ty hk) q
/-- a def as it stands behind the top -/
def DefAt (K : PySem.W.Frag) (x qual : Str) (st : Stmt) (f : Addr) : Prop := ∃ (oc : Value) (od : Option Addr) (kV doc pm : Value) (an : Option Addr) (cdv ct : Value) (osl : Array (Option Value)),
  K.lookup f = some ⟨oc, od, .func (PySem.W.fnOf x qual (defArgs st) (defBody st) (defScope st) .none kV doc pm an cdv ct), osl⟩ ∧ PySem.W.codeIn K cdv qual = true ∧ PySem.W.keepIn K (.ref f) = true
theorem DefAt.fn {K : PySem.W.Frag} {x qual : Str} {st : Stmt} {f : Addr} (h : DefAt K x qual st f) : ∃ fd, Fun K x qual st f fd := by
  obtain ⟨oc, od, kV, doc, pm, an, cdv, ct, osl, h1, h2, h3⟩ := h
  exact ⟨_, fun_mk h1 h2 h3⟩
end
end Kv

namespace Kv
open PySem PySem.Spec PyProof.Rows L2
section
variable {X : Cx} {σ : L2.St} {B : Hp} {L : HL} {Q : KQ} {D : KD} {pos p2 : Pos} {e a b c tg iter elt : Expr} {es : List Expr} {body : List Stmt}
variable {P : Program} {w : World} {K : PySem.W.Frag} {mg : Str → Option Value} {base : Heap}
theorem mt_okM {x qual : Str} {st : Stmt} {C f : Addr} {fd : FuncData} {N ps : List Str} {k : Nat} {sp : Sp} (F : Fun K x qual st f fd) (S : FnScope N ps (defScope st)) (hm : Meth K C x f) (hc : Cls K C)
    (hb : ∀ (kV doc pm : Value) (an : Option Addr) (cdv ct : Value) (us : List Value), us.length = ps.length → bindArgs (PySem.W.fnOf x qual (defArgs st) (defBody st) (defScope st) .none kV doc pm an cdv ct) ⟨us, []⟩ = pure (ps.zip us))
    (len : ∀ vs H Q E, sp vs H Q E → vs.length = ps.length)
    (hbody : ∀ (cdv : Value) (A : Around) (outer : List Env) (s : Shared) (H : Hp) (vs : List V) (Q : VK) (E : XK), Room k (A.deeper (envOfC qual (defScope st) s.heap.objs.size f cdv)) → sp vs H Q E →
      Takes (cxOf (L2.CX P w) P w K mg base N qual (defScope st) f cdv A outer s H E) (fun cls d _ H => E cls d H) →
      PassesOwn (model P w) (A.deeper (envOfC qual (defScope st) s.heap.objs.size f cdv)) (envOfC qual (defScope st) s.heap.objs.size f cdv) (cxOf (L2.CX P w) P w K mg base N qual (defScope st) f cdv A outer s H E).xe →
      ∃ B L, Sat B L H ∧ kSs (cxOf (L2.CX P w) P w K mg base N qual (defScope st) f cdv A outer s H E) (defBody st) (start N vs) B L (fD Q)) : Mt P w K mg base (k + 1) C x sp := ⟨⟨f, fd, ps, fn_okF F S len hbody, hm, F.binds hb⟩, hc⟩
theorem mk_okM {x y qual : Str} {st : Stmt} {C f : Addr} {fd : FuncData} {ps : List Str} {k : Nat} {sp : Sp} (F : Fun K y qual st f fd) (h : FnOk P w K mg base (L2.CX P w) k f fd ps sp) (hk : Mk K C f) (hg : mg x = some (.ref C))
    (hb : ∀ (kV doc pm : Value) (an : Option Addr) (cdv ct : Value) (us : List Value), us.length = ps.length → bindArgs (PySem.W.fnOf y qual (defArgs st) (defBody st) (defScope st) .none kV doc pm an cdv ct) ⟨us, []⟩ = pure (ps.zip us)) : Mkr P w K mg base k x C sp := ⟨⟨f, fd, ps, h, hk, F.binds hb⟩, hg⟩
/-- what B holds, B' holds -/
abbrev Le (B B' : Hp) : Prop := ∀ b o, B b = some o → B' b = some o
theorem Ls.le {K : PySem.W.Frag} {B B' : Hp} {L : HL} {a : Addr} {xs : List V} (h : Ls K B L a xs) (e : Le B B') : Ls K B' L a xs := by
  rcases h with ((h | ⟨o, h⟩) | h) | h
  · exact .inl (.inl (.inl (e _ _ h)))
  · exact .inl (.inl (.inr ⟨o, e _ _ h⟩))
  · exact .inl (.inr h)
  · exact .inr h
theorem Tp.le {K : PySem.W.Frag} {B B' : Hp} {L : HL} {a : Addr} {xs : List V} (h : Tp K B L a xs) (e : Le B B') : Tp K B' L a xs := by
  rcases h with ((h | ⟨o, h⟩) | h) | h
  · exact .inl (.inl (.inl (e _ _ h)))
  · exact .inl (.inl (.inr ⟨o, e _ _ h⟩))
  · exact .inl (.inr h)
  · exact .inr h
/-- an object of ours goes to the base -/
theorem Sat.give {H : Hp} {p : Addr} {o : HO} (s : Sat B ((p, o) :: L) H) : Sat (upd B p o) L H ∧ Le B (upd B p o) := by
  have hb : B p = none := s.nb _ List.mem_cons_self
  have hnd := s.nd
  rw [List.map_cons, List.nodup_cons] at hnd
  refine ⟨⟨fun a u e => ?_, fun q hq => s.own q (List.mem_cons_of_mem _ hq), fun q hq => ?_, hnd.2⟩, fun b u e => ?_⟩
  · by_cases ha : a = p
    · subst ha
      rw [upd_same] at e
      cases e
      exact s.own _ List.mem_cons_self
    · rw [upd_ne ha] at e; exact s.ext a u e
  · have hq2 : q.1 ≠ p := fun e => hnd.1 (List.mem_map.mpr ⟨q, hq, e⟩)
    rw [upd_ne hq2]; exact s.nb q (List.mem_cons_of_mem _ hq)
  · rw [upd_ne (ne_of_none e hb)]; exact e
theorem Sat.new'' {H H' : Hp} {p : Addr} {o : HO} (s : Sat B L H) (h : H p = none) (e : ∀ b o, H b = some o → H' b = some o) (h' : H' p = some o) : Sat (upd B p o) L H' ∧ Le B (upd B p o) := (s.new' h e h').give
theorem Sat.give1 {H : Hp} {p : Addr} {o : HO} (s : Sat B ((p, o) :: L) H) : ∃ B', Sat B' L H ∧ Le B B' ∧ B' p = some o := ⟨_, s.give.1, s.give.2, upd_same⟩
end
end Kv
namespace Kv
open PySem PySem.Spec PyProof.Rows L2
section
variable {X : Cx} {σ : L2.St} {B : Hp} {L : HL} {Q : KQ} {D : KD} {pos p2 : Pos}
/-- isinstance of an own object by its own class -/
structure IsO (K : PySem.W.Frag) (C : Addr) : Prop where
  cl : Cls K C
  ha : PySem.W.findIn K (.ref C) "__class__" = some (some (.builtin "object.__class__"))
  hn : PySem.W.specialIn K (.builtin "object.__class__") "__get__" = some (some (.builtin "getset_descriptor.__get__"))
  ht : PySem.W.takesIn K (.builtin "object.__class__") = some true
  hm : PySem.W.mroIn K C (.type "object") = some true
  kit : PySem.W.kitOne K (.ref C) (.ref C) = some true
theorem c_isO {p C dx : Addr} {fs : List (Str × V)} (O : IsO X.K C) (h : At B L p (.ins C dx fs)) (q : Q (.bl true) B L) : kC X (.builtin "isinstance") [.ref p, .ref C] B L Q :=
  c_isi (.own C) (fun H s => .base (.ins (h.at s) O.cl O.ha O.hn O.ht O.hm)) O.kit q
theorem k_cls {x : Str} {C : Addr} (hm : X.mg x = some (.ref C)) (q : Q (.ref C) B L) (hg : Gl X x := by rfl) (hd : (x == ("__debug__" : Str)) = false := by decide) : kE X (.Name x pos) σ B L Q := k_g (v := .ref C) hm rfl q hg hd
end
end Kv
namespace Kv
open PySem PySem.Spec PyProof.Rows L2
section
variable {X : Cx} {σ : L2.St} {B : Hp} {L : HL} {Q : KQ} {D : KD} {pos p2 pos' : Pos} {e a b c tg iter elt : Expr} {es : List Expr} {body : List Stmt} {scope : Scope}
/-- .. over a tuple -/
theorem k_lcm_t {x : Str} {j : Nat} {px : Pos} (g : V → V) (hN : X.N.Nodup) (ok : BlkOk X.N X.env.scope scope [(x, j)])
    (h : kE X iter σ B L fun v B1 L1 => ∃ a xs, v = .ref a ∧ Tp X.K B1 L1 a xs ∧ xs.length ≤ 16777216 ∧ (∀ z ∈ xs, ∀ D acc s H0 C cl fp, kE (Bk X scope s H0 C cl fp) elt (σ.set j (some z)) B1 ((D, .lst acc) :: L1) fun y B3 L3 => y = g z ∧ B3 = B1 ∧ L3 = (D, .lst acc) :: L1) ∧
      ∀ D, Q (.ref D) B1 ((D, .lst (xs.map g)) :: L1))
    (hp : ∀ s H0 C cl fp, Loc (Bk X scope s H0 C cl fp).env.scope x := by intro _ _ _ _ _; first | exact Or.inl rfl | exact Or.inr rfl) (hf : ∀ s H0 C cl fp, (Bk X scope s H0 C cl fp).fn x = true ∨ (Bk X scope s H0 C cl fp).env.scope.names.lookup x = some .local := by intro _ _ _ _ _; first | exact .inr rfl | exact .inl rfl)
    (hj : X.N[j]? = some x := by rfl) (hc : X.calm = true := by rfl) (hs : ∀ x, foldedSetIterable iter X.env x = pure x := by intro _; rfl) : kL X elt (.Name x px) iter [] scope [(x, j)] σ B L Q :=
  k_lc hN ok (r_tup (by
    obtain ⟨t, h1, h2⟩ := h
    refine ⟨_, pe_c, fun H s => toE s ⟨t, h1, h2⟩ fun v H' B1 L1 s' ⟨a, xs, e, hls, hl, ht, hd⟩ => ⟨B1, L1, s', a, xs, e, hls, xs.length, _, _, fun i acc B L => B = B1 ∧ L = L1 ∧ acc = (xs.take i).map g, walk_tup, ⟨rfl, rfl, by simp⟩, ?_, ?_, ?_⟩⟩
    · rintro i acc B L H hi ⟨rfl, rfl, _⟩ s
      exact hls.at s
    · rintro D i acc x B L H H' hi ⟨rfl, rfl, rfl⟩ s ⟨rfl, hx⟩
      refine ⟨_, _, s, fun sa Ha Ca cla fpa => g_name j ?_ hN hj (hp sa Ha Ca cla fpa) (hf sa Ha Ca cla fpa)⟩
      refine ⟨wipe1 σ j _, fun sb Hb Cb clb fpb => ?_⟩
      show kE _ _ ((wipe σ [j]).set j _) _ _ _
      rw [wipe1']
      obtain ⟨t2, k1, k2⟩ := ht x (List.mem_of_getElem? hx) D ((xs.take i).map g) sb Hb Cb clb fpb
      refine ⟨_, pe_c, fun H s => toE s ⟨t2, k1, k2⟩ fun y H2 B2 L2 s2 ⟨e1, e2, e3⟩ => ⟨B2, L2, s2, ?_, L, e3, e2, rfl, ?_⟩⟩
      · simp; omega
      · rw [e1, List.take_add_one, hx]; simp
    · rintro acc B L D ⟨rfl, rfl, rfl⟩
      rw [List.take_length]
      exact hd D)) hc hs

/-- [elt for i in range(e)], the element's work may change the heap -/
theorem k_lcv_r1 {x : Str} {j : Nat} {px : Pos} (Pv : Nat → List V → Hp → HL → Prop) (hN : X.N.Nodup) (ok : BlkOk X.N X.env.scope scope [(x, j)]) (hm : X.mg "range" = none)
    (h : kE X e σ B L fun v B1 L1 => ∃ n : Nat, v = .int n ∧ n < 2 ^ 24 ∧ Pv 0 [] B1 L1 ∧ (∀ i acc B L, i < n → Pv i acc B L → acc.length = i ∧ ∀ D s H0 C cl fp, kE (Bk X scope s H0 C cl fp) elt (σ.set j (some (.int i))) B ((D, .lst acc) :: L) fun y B3 L3 => ∃ L4, L3 = (D, .lst acc) :: L4 ∧ Pv (i + 1) (acc ++ [y]) B3 L4) ∧
      ∀ acc B L D, Pv n acc B L → Q (.ref D) B ((D, .lst acc) :: L))
    (hp : ∀ s H0 C cl fp, Loc (Bk X scope s H0 C cl fp).env.scope x := by intro _ _ _ _ _; first | exact Or.inl rfl | exact Or.inr rfl) (hf : ∀ s H0 C cl fp, (Bk X scope s H0 C cl fp).fn x = true ∨ (Bk X scope s H0 C cl fp).env.scope.names.lookup x = some .local := by intro _ _ _ _ _; first | exact .inr rfl | exact .inl rfl)
    (hg : Gl X "range" := by rfl) (hst : starEach [e] X.env = (false, eval e X.env) :: starEach [] X.env := by rfl) (hst' : starEach [e] X.env = [(false, eval e X.env)] := by rfl)
    (hj : X.N[j]? = some x := by rfl) (hc : X.calm = true := by rfl) (hs : ∀ x, foldedSetIterable (.Call (.Name "range" p2) [e] [] pos') X.env x = pure x := by intro _; rfl) : kL X elt (.Name x px) (.Call (.Name "range" p2) [e] [] pos') [] scope [(x, j)] σ B L Q :=
  k_lc hN ok (r_rng1 hm (by
    obtain ⟨t, h1, h2⟩ := h
    refine ⟨_, pe_c, fun H s => toE s ⟨t, h1, h2⟩ fun v H' B1 L1 s' ⟨n, e, hl, p0, ht, hd⟩ => ⟨B1, L1, s', (n : Int), e, by omega, by omega, (n : Int).toNat, _, _, Pv, walk_range, p0, fun i acc B L H hi p s => trivial, ?_, ?_⟩⟩
    · rintro D i acc x B L H H' hi p s ⟨rfl, rfl⟩
      have hi' : i < n := by omega
      obtain ⟨hac, ht⟩ := ht i acc B L hi' p
      have e0 : ((0 : Int) + (i : Int)) = (i : Int) := Int.zero_add _
      refine ⟨_, _, s, fun sa Ha Ca cla fpa => g_name j ?_ hN hj (hp sa Ha Ca cla fpa) (hf sa Ha Ca cla fpa)⟩
      refine ⟨wipe1 σ j _, fun sb Hb Cb clb fpb => ?_⟩
      show kE _ _ ((wipe σ [j]).set j (some (.int ((0 : Int) + (i : Int))))) _ _ _
      rw [wipe1', e0]
      obtain ⟨t2, k1, k2⟩ := ht D sb Hb Cb clb fpb
      refine ⟨_, pe_c, fun H s => toE s ⟨t2, k1, k2⟩ fun y H2 B2 L2 s2 ⟨L4, e1, q⟩ => ⟨B2, L2, s2, by omega, L4, e1, q⟩⟩
    · intro acc B L D p
      exact hd acc B L D (by simpa using p)) hg hst hst') hc hs
end
end Kv
namespace Kv
open PySem PySem.Spec PyProof.Rows L2
section
variable {X : Cx} {σ : L2.St} {B : Hp} {L : HL} {Q : KQ} {D : KD} {pos p2 : Pos} {e a b c tg iter elt : Expr}
theorem k_slower {apos : Pos} (h : kE X a σ B L fun x B1 L1 => ∃ l, x = .str (sOf l) ∧ kMt X "str.lower" x [] B1 L1 Q)
    (hbase : attributeBase a "lower" X.env (eval a X.env) = eval a X.env := by rfl) (hline : (apos.endLine == pos.line) = true := by rfl) : kE X (.Call (.Attribute a "lower" apos) [] [] pos) σ B L Q := by
  refine k_m0 PySem.F.plainAttrs_str PySem.F.slot_str_lower PySem.F.type_str_lower ?_ hbase hline
  obtain ⟨t, h1, h2⟩ := h
  refine ⟨_, pe_c, fun H s => toE s ⟨t, h1, h2⟩ fun x H' B' L' s' ⟨z, e, q⟩ => ⟨B', L', s', ?_, q⟩⟩
  subst e
  exact ty_s
theorem k_sisupper {apos : Pos} (h : kE X a σ B L fun x B1 L1 => ∃ l, x = .str (sOf l) ∧ kMt X "str.isupper" x [] B1 L1 Q)
    (hbase : attributeBase a "isupper" X.env (eval a X.env) = eval a X.env := by rfl) (hline : (apos.endLine == pos.line) = true := by rfl) : kE X (.Call (.Attribute a "isupper" apos) [] [] pos) σ B L Q := by
  refine k_m0 PySem.F.plainAttrs_str PySem.F.slot_str_isupper PySem.F.type_str_isupper ?_ hbase hline
  obtain ⟨t, h1, h2⟩ := h
  refine ⟨_, pe_c, fun H s => toE s ⟨t, h1, h2⟩ fun x H' B' L' s' ⟨z, e, q⟩ => ⟨B', L', s', ?_, q⟩⟩
  subst e
  exact ty_s
theorem m_isupper {x : Str} {k : Bool} (hy : Txt.isupper x = k) (q : Q (.bl k) B L) : kMt X "str.isupper" (.str x) [] B L Q := ⟨_, mt_isupper, fun H s => ⟨x, rfl, rfl, trivial, by rw [hy]; exact ⟨_, _, s, q⟩⟩⟩
theorem c_maxl {p : Addr} {ns : List Int} (h : Ls X.K B L p (ns.map V.int)) (hn : 0 < ns.length) (q : ∀ m, m ∈ ns → (∀ y, y ∈ ns → y ≤ m) → Q (.int m) B L) (hc : X.calm = true := by rfl) : kC X (.builtin "max") [.ref p] B L Q :=
  ⟨_, cr_max hc, fun H s => ⟨p, ns, rfl, h.at s, hn, fun m h1 h2 => ⟨_, _, s, q m h1 h2⟩⟩⟩
theorem Sat.take {H : Hp} {p : Addr} {o : HO} (s : Sat B L H) (h : H p = some o) (hn : p ∉ L.map (·.1)) : Sat (upd B p o) L H := by
  refine ⟨fun a u e => ?_, s.own, fun q hq => ?_, s.nd⟩
  · by_cases ha : a = p
    · subst ha
      rw [upd_same] at e
      cases e
      exact h
    · rw [upd_ne ha] at e; exact s.ext a u e
  · have hq2 : q.1 ≠ p := fun e => hn (List.mem_map.mpr ⟨q, hq, e⟩)
    rw [upd_ne hq2]; exact s.nb q hq
theorem le_upd {p : Addr} {o : HO} (h : B p = none) : Le B (upd B p o) := fun b u e => by
  rw [upd_ne (ne_of_none e h)]; exact e
/-- the heap without x -/
def rmH (H : Hp) (x : Addr) : Hp := fun b => if b = x then none else H b
theorem rm_ne {H : Hp} {x b : Addr} (h : b ≠ x) : rmH H x b = H b := if_neg h
theorem rm_eq {H : Hp} {x : Addr} : rmH H x x = none := if_pos rfl
theorem sat_rm {H : Hp} {x : Addr} {o : HO} (h : H x = some o) : Sat (rmH H x) [(x, o)] H :=
  ⟨fun a u e => by
    by_cases ha : a = x
    · rw [ha] at e; unfold rmH at e; rw [if_pos rfl] at e; cases e
    · rw [rm_ne ha] at e; exact e, fun p hp => by rw [List.mem_singleton.mp hp]; exact h, fun p hp => by rw [List.mem_singleton.mp hp]; unfold rmH; rw [if_pos rfl], by simp⟩
end
end Kv
namespace Kv
open PySem PySem.Spec PyProof.Rows L2
section
variable {X : Cx} {σ : L2.St} {B : Hp} {L L' : HL} {Q : KQ} {D : KD} {ss : List Stmt}
theorem Sat.sub {H : Hp} (h : List.Sublist L' L) (s : Sat B L H) : Sat B L' H := ⟨s.ext, fun p hp => s.own p (h.subset hp), fun p hp => s.nb p (h.subset hp), (h.map _).nodup s.nd⟩
/-- some of ours are forgotten -/
theorem k_sub (h : List.Sublist L' L) (k : kSs X ss σ B L' D) : kSs X ss σ B L D := by
  obtain ⟨t, h1, h2⟩ := k
  exact ⟨t, h1, fun H s => h2 H (s.sub h)⟩
end
end Kv
namespace Kv
open PySem PySem.Spec PyProof.Rows L2
section
variable {X : Cx} {σ σ' : L2.St} {B : Hp} {L : HL} {D : KD} {ss : List Stmt}
/-- the slots written out -/
theorem k_norm (h : σ = σ') (k : kSs X ss σ' B L D) : kSs X ss σ B L D := by rw [h]; exact k
end
end Kv

/-! An error caught by a name: tracked from the suite on. -/
namespace Kv
open PySem PySem.Spec PyProof.Rows L2
/-- an error of the class, lying at a -/
def ErO (cls : Value) (d : Option Addr) (a : Addr) : HO := .ext fun h => ∃ (u : Obj) (vs : Array Value), h.get? a = some u ∧ Zc cls d u ∧ u.data = .fields vs
section
variable {X : Cx} {pins : List (Addr × Obj)} {σ : L2.St} {H : Hp} {s : Shared}
theorem track {a : Addr} {o : HO} (I : Inv X pins σ H s) (na : H a = none) (n0 : X.s_0.heap.get? a = none) (nl : a ≠ X.env.locals) (nc : ∀ x c, X.env.cells.lookup x = some c → c ≠ a)
    (np : ∀ p ∈ X.pn ++ pins, p.1 ≠ a) (new : ObjOk X.prog X.w (upd H a o) s.heap a o) : Inv X pins σ (upd H a o) s := by
  have Bs := I.base
  refine ⟨I.ok, I.os, I.bare, ⟨Bs.keep, Bs.slot, ?_, Bs.there, ?_, ?_, ?_⟩, I.loc, I.cell, ?_, ?_, ?_, ?_, I.len⟩
  · intro b u e n hx
    have hb : b ≠ a := fun z => by rw [z, n0] at e; cases e
    rw [upd_ne hb]; exact Bs.free b u e n hx
  · intro b xs e
    have e2 := Bs.tups b xs e
    rw [upd_ne (ne_of_none e2 na)]; exact e2
  · intro b u v e
    have e2 := Bs.frzs b u v e
    rw [upd_ne (ne_of_none e2 na)]; exact e2
  · intro b ps e
    obtain ⟨m, e2⟩ := Bs.tbls b ps e
    exact ⟨m, by rw [upd_ne (ne_of_none e2 na)]; exact e2⟩
  · rw [upd_ne (Ne.symm nl)]; exact I.free
  · intro x c e
    rw [upd_ne (nc x c e)]; exact I.freeC x c e
  · intro p hp
    obtain ⟨e1, e2, e3⟩ := I.pin p hp
    exact ⟨e1, by rw [upd_ne (np p hp)]; exact e2, e3⟩
  · intro b u e
    by_cases hb : b = a
    · subst hb
      rw [upd_same] at e
      cases e
      exact new
    · rw [upd_ne hb] at e
      exact (I.hok b u e).stay (fun _ _ _ q => q) (fun c q => by rw [upd_ne (ne_of_none q na)]; exact q) fun c xs q => by rw [upd_ne (ne_of_none q na)]; exact q
/-- .. into the suite, out of it -/
theorem into_suite {a : Addr} (I : Inv X pins σ H s) : Inv (X.suite a (X.pn ++ pins)) [] σ H s :=
  ⟨I.ok.suite _ _, I.os, I.bare, I.base, I.loc, I.cell, I.free, I.freeC, fun p hp => I.pin p (by rw [List.append_nil] at hp; exact hp), I.hok, I.len⟩
theorem from_suite {a : Addr} {qs : List (Addr × Obj)} (I : Inv (X.suite a (X.pn ++ pins)) qs σ H s) (ok : X.Ok) : Inv X pins σ H s :=
  ⟨ok, I.os, I.bare, I.base, I.loc, I.cell, I.free, I.freeC, fun p hp => I.pin p (List.mem_append_left _ hp), I.hok, I.len⟩
end
/-- the wish of 'except x as n', the error tracked -/
def wTrk (K : PySem.W.Frag) (c : Value) (i : Nat) (ts : Addr → TS) (Wout : WX) (D : Ends) : WX := fun cls d σ H => ∃ b, PySem.W.exmOne K cls c = some b ∧ (b = true → ∀ a, H a = none →
    ts a { nx := fun σ' H' => D.nx (σ'.set i none) H', rt := D.rt, bk := fun σ' H' => D.bk (σ'.set i none) H', ct := fun σ' H' => D.ct (σ'.set i none) H' } (σ.set i (some (.ref a))) (upd H a (ErO cls d a))) ∧ (b = false → Wout cls d σ H)
section
variable {X : Cx} {x n : Str} {c : Value} {i : Nat} {body suite : List Stmt} {b₀ : Stmt} {np pos pos' : Pos} {tb : WX → TS} {ts : Addr → TS} {Wout : WX}
theorem ps_try_trk (hs : X.stack = X.env :: X.outer) (hf : X.env.frame = some X.env.locals) (hex : X.ex = []) (hN : X.N.Nodup) (hi : X.N[i]? = some n) (hln : X.env.kindOf n = some .local) (hc : Names X x c) (tk : Takes X Wout)
    (hb : ∀ (W : WX) (qs : List (Addr × Obj)) (xe : Value → Shared → Prop), Takes (X.tr qs xe) W → PassesOwn (model X.prog X.w) X.A X.env xe → PSs (X.tr qs xe) body (tb W)) (hsu : ∀ (a : Addr) (qs : List (Addr × Obj)), PSs (X.suite a qs) (b₀ :: suite) (ts a)) :
    PS X (.Try body [.ExceptHandler (some (.Name x np)) (some n) (b₀ :: suite) pos'] [] [] pos) (fun D σ H => tb (wTrk X.K c i ts Wout D) D σ H) := by
  refine ⟨fun ps st τ G D I0 w0 => ?_⟩
  have ok := I0.ok
  have frE : X.A.frames = some (X.env :: X.outer) := by rw [ok.frames, hs]
  refine wpAny_Try_except ?_
  refine wpAny_mono ((hb (wTrk X.K c i ts Wout D) (X.pn ++ ps) (fun er z1 => wpAny (model X.prog X.w) X.A (noteFrame er X.env) (fun _ z2 => wpAny (model X.prog X.w) X.A (setFlight er none) (fun _ z3 =>
    wpAny (model X.prog X.w) X.A (handleBy er X.env [.ExceptHandler (some (.Name x np)) (some n) (b₀ :: suite) pos']) (SP X ps D) X.xe z3) X.xe z2) X.xe z1) (fun er z1 xx => ?_) PassesOwn.looking).run [] st τ G D (I0.toTry _) w0) (fun fl z1 hsp => ?_) (fun _ _ he => he)
  · obtain ⟨a, B, sI, ps2, τ2, G2, cls, d, rfl, IT, nb, up, sky, na, os, ag, b, hb1, hyes, hno⟩ := xx
    have J : Inv X ps τ2 G2 sI := IT.ofTry ok
    rw [hs] at sky
    show wpAny (model X.prog X.w) X.A (noteFrame (.ref a) X.env) _ _ _
    refine Sky.land Zc.steady frE hf sky fun h3 fl3 up3 => ?_
    have J3 : Inv X ps τ2 G2 { z1 with heap := h3 } := J.landed nb fl3.1 (up.trans up3) os ag
    have nB : B.get? a = none := fl3.2.1
    obtain ⟨oe3, vs3, he3, hz3, hd3⟩ := fl3.there
    have nfr : a ∉ frs (X.env :: X.outer) := fun hm => by
      obtain ⟨_, u, eu, hnf⟩ := fl3.2.2.1.mem hm
      rw [he3] at eu; cases eu
      exact hnf _ hd3
    have nfS : a ∉ frs X.stack := by rw [hs]; exact nfr
    have nL : a ≠ X.env.locals := fun z => nfr (List.mem_filterMap.mpr ⟨X.env, List.mem_cons_self, by rw [hf, z]⟩)
    have nF : a ∉ X.fs := fun hm => by
      obtain ⟨e1, m1, q1⟩ := List.mem_filterMap.mp hm
      exact nfr (List.mem_filterMap.mpr ⟨e1, List.mem_cons_of_mem _ m1, q1⟩)
    have nI : sI.heap.get? a = none := by
      cases q : sI.heap.get? a with
      | none => rfl
      | some u => have := nb a u q nfS; rw [nB] at this; cases this
    have n0 : X.s_0.heap.get? a = none := by
      cases q : X.s_0.heap.get? a with
      | none => rfl
      | some u =>
        obtain ⟨u', q'⟩ := J.base.there a u q (by rw [hex]; exact fun z => nomatch z)
        rw [nI] at q'; cases q'
    have npn : ∀ p ∈ X.pn ++ ps, p.1 ≠ a := fun p hp z => by
      have e1 := (J.pin p hp).1
      rw [z, nI] at e1; cases e1
    have S3 := J3.suite he3 hd3 na nL nF
    refine wpAny_handleBy_cons (codeAny_handlers_test ?_) (by intro q; cases q)
    have LT : PySem.W.Looks (model X.prog X.w) h3 (typeOf (.ref a)) cls := fun _ _ _ _ k q => wpAny_typeOf_ref (k _ _ he3) (by rw [hz3.1]; exact q)
    have LM := PySem.W.exm_one (M := model X.prog X.w) (J3.kIn) LT hb1
    have tst : ∀ {Q : Value → Shared → Prop} {E : Value → Shared → Prop}, Q c { z1 with heap := h3 } → wpAny (model X.prog X.w) (X.A.mark (some (.ref a))) (eval (.Name x np) X.env) Q E { z1 with heap := h3 } := fun {Q E} q => by
      obtain ⟨hg, hdb, hm | ⟨hm, hv, hnn⟩⟩ := hc
      · exact ld_glob (X := X.suite a ((a, oe3) :: (X.pn ++ ps))) S3 hg hm q hdb
      · exact ld_blt (X := X.suite a ((a, oe3) :: (X.pn ++ ps))) S3 hg hm hv q hnn hdb
    refine tst (LM.here ?_)
    cases b with
    | true =>
      refine codeAny_handlers_suite_as ?_
      refine HandSPX.lands_againZ fl3 fun h4 fl4 up4 => ?_
      have J4 : Inv X ps τ2 G2 { z1 with heap := h4 } := J.landed nb fl4.1 ((up.trans up3).trans up4) os ag
      obtain ⟨oe4, vs4, he4, hz4, hd4⟩ := fl4.there
      have nce : ∀ y cc, X.env.cells.lookup y = some cc → cc ≠ a := fun y cc e z => by
        obtain ⟨v, u, hu, hd⟩ := J4.cell y cc e
        have hu' : h4.get? cc = some u := hu
        rw [z, he4] at hu'; cases hu'
        rw [hd4] at hd; cases hd
      have T4 : Inv X ps τ2 (upd G2 a (ErO cls d a)) { z1 with heap := h4 } := track J4 na n0 nL nce npn
        ⟨⟨oe4, vs4, he4, hz4, hd4⟩, ⟨oe4, he4⟩, fun _ _ ⟨u, v, e1, r⟩ k => ⟨u, v, k _ e1, r⟩⟩
      refine store_ok (X := X.suite a (X.pn ++ ps)) (v := .ref a) (into_suite T4) hN hi (.inl hln) rfl (fun s5 S5 => ?_) (.inr hln)
      refine wpAny_mono ((hsu a (X.pn ++ ps)).run [] s5 _ _ _ S5 (hyes rfl a na)) (fun fl s6 hsp => ?_) (fun _ _ z => False.elim z)
      have fin : ∀ {σ6 : L2.St} {H6 : Hp} {Q : Shared → Prop}, Inv (X.suite a (X.pn ++ ps)) [] σ6 H6 s6 → (∀ s7, Inv X ps (σ6.set i none) H6 s7 → Q s7) →
        wpAny (model X.prog X.w) X.A (do bindName X.env n .none; unbindBehindTheSuite X.env n pos') (fun _ s7 => Q s7) X.xe s6 := fun {_ _ _} S6 hq => gone_ok (from_suite S6 ok) hN hi hln hq
      cases fl with
      | next => obtain ⟨_, _, S6, q6⟩ := hsp; exact fin S6 fun _ J7 => ⟨_, _, J7, q6⟩
      | brk => obtain ⟨_, _, S6, q6⟩ := hsp; exact fin S6 fun _ J7 => ⟨_, _, J7, q6⟩
      | cont => obtain ⟨_, _, S6, q6⟩ := hsp; exact fin S6 fun _ J7 => ⟨_, _, J7, q6⟩
      | ret u => obtain ⟨_, _, _, S6, r6, q6⟩ := hsp; exact fin S6 fun _ J7 => ⟨_, _, _, J7, r6, q6⟩
    | false =>
      show wpAny _ X.A (handleBy (.ref a) X.env []) _ _ _
      refine wpAny_handleBy_nil ?_
      obtain ⟨k1, k2, k3, oe, vs, T, oT, ts', he, hz, hd, h1, hr⟩ := id fl3
      unfold PySem.passOn
      refine wpAny_bind (wpAny_field he hd h1 ?_)
      rw [if_neg (show ¬ ((Value.ref T == Value.none) = true) from by simp)]
      have out : wpAny (model X.prog X.w) X.A (setFlight (.ref a) X.env.frame) (fun _ s4 => wpAny (model X.prog X.w) X.A (throw (.ref a) : Sem Flow) (SP X ps D) X.xe s4) X.xe { z1 with heap := h3 } := by
        rw [hf]
        refine HandSPX.setFlight_upZ fl3 fun h4 hh4 up4 => wpAny_throw (tk _ _ ?_)
        exact ⟨a, B, sI, ps, τ2, G2, cls, d, rfl, J, nb, (up.trans up3).trans up4, .inr (.inr (by rw [hs]; exact hh4)), na, os, ag, hno rfl⟩
      first | exact wpAny_bind (wpAny_pure (wpAny_bind out)) | exact wpAny_bind out
  · cases fl with
    | next => obtain ⟨_, _, J1, q⟩ := hsp; exact wpAny_execs_nil ⟨_, _, J1.ofTry ok, q⟩
    | brk => obtain ⟨_, _, J1, q⟩ := hsp; exact ⟨_, _, J1.ofTry ok, q⟩
    | cont => obtain ⟨_, _, J1, q⟩ := hsp; exact ⟨_, _, J1.ofTry ok, q⟩
    | ret u => obtain ⟨_, _, _, J1, r, q⟩ := hsp; exact ⟨_, _, _, J1.ofTry ok, r, q⟩
end
end Kv
namespace Kv
open PySem PySem.Spec PyProof.Rows L2
section
variable {X : Cx} {σ : L2.St} {B : Hp} {L : HL} {Q : KQ} {D : KD} {pos pos' np : Pos} {body : List Stmt}
def tSuT (X : Cx) (suite : List Stmt) (a : Addr) : TS := fun E σ H => ∀ qs, cSs (X.suite a qs) suite E σ H
/-- behind the suite: the name is gone -/
abbrev KD.gone (D : KD) (i : Nat) : KD := { nx := fun σ' B' L' => D.nx (σ'.set i none) B' L', rt := D.rt, bk := fun σ' B' L' => D.bk (σ'.set i none) B' L', ct := fun σ' B' L' => D.ct (σ'.set i none) B' L' }
/-- try: body / except x as n: suite -/
theorem k_try_trk (i : Nat) {x n : Str} {cv : Value} {b₀ : Stmt} {suite : List Stmt} {Wout : WX} (tk : Takes X Wout) (hc : Names X x cv) (hN : X.N.Nodup)
    (h : ∀ qs xe, Takes (X.tr qs xe) (wTrk X.K cv i (tSuT X (b₀ :: suite)) Wout D.dn) → PassesOwn (model X.prog X.w) X.A X.env xe → kSs (X.tr qs xe) body σ B L D)
    (hi : X.N[i]? = some n := by rfl) (hln : X.env.kindOf n = some .local := by rfl) (hs : X.stack = X.env :: X.outer := by rfl) (hf : X.env.frame = some X.env.locals := by rfl) (hex : X.ex = [] := by rfl) :
    kS X (.Try body [.ExceptHandler (some (.Name x np)) (some n) (b₀ :: suite) pos'] [] [] pos) σ B L D :=
  ⟨_, ps_try_trk (tb := fun W E σ H => ∀ qs xe, Takes (X.tr qs xe) W → PassesOwn (model X.prog X.w) X.A X.env xe → cSs (X.tr qs xe) body E σ H) (ts := tSuT X (b₀ :: suite)) hs hf hex hN hi hln hc tk
    (fun W qs xe t po => ⟨fun ps s σ H E I q => pss_c.run ps s σ H E I (q qs xe t po)⟩)
    (fun a qs => ⟨fun ps s σ H E I q => pss_c.run ps s σ H E I (q qs)⟩), fun H s => fun qs xe t po => toSs0 s (h qs xe t po)⟩
/-- the wish at a raise that the clause takes -/
theorem w_trk {i : Nat} {cv : Value} {suite : List Stmt} {Wout : WX} {C : Addr} {H : Hp} (hx : PySem.W.exmOne X.K (.ref C) cv = some true) (s : Sat B L H)
    (h : ∀ a qs, kSs (X.suite a qs) suite (σ.set i (some (.ref a))) B ((a, ErO (.ref C) none a) :: L) (D.gone i)) : wTrk X.K cv i (tSuT X suite) Wout D.dn (.ref C) none σ H :=
  ⟨true, hx, fun _ a na qs => toSs0 (s.new na) (h a qs), fun z => (Bool.noConfusion z)⟩
/-- isinstance of a tracked error -/
def rIsT (K : PySem.W.Frag) : List V → Hp → VK → Prop := fun xs H Q => ∃ (a D : Addr) (c : V) (cv : Value) (b : Bool), xs = [.ref a, c] ∧ ClsV c cv ∧ H a = some (ErO (.ref D) none a) ∧ ExcC K D ∧ PySem.W.kitOne K (.ref D) cv = some b ∧ Q (.bl b) H
theorem call_isT : CallR X (.builtin "isinstance") (rIsT X.K) := by
  intro ps s σ H xs us Q I r h
  obtain ⟨a, D, c, cv, b, rfl, hcv, hH, C, e, q⟩ := h
  cases r with
  | cons rx rr =>
    cases rr with
    | cons rt rr =>
      cases rr
      cases rx
      have ec := hcv.eq rt
      subst ec
      obtain ⟨⟨u, vs, hu, hz, hv⟩, _⟩ := I.hok a _ hH
      have J : PySem.W.InstAt s.heap a u D none := by
        obtain ⟨o1, o2, o3, o4⟩ := u
        obtain ⟨h1, h2⟩ := hz
        dsimp only at h1 h2 hv
        subst h1 h2 hv
        exact ⟨hu, rfl, rfl, trivial⟩
      exact PySem.W.kia_one (PySem.W.handS_kitx_exc C.hg C.hk C.hs C.hd C.ha C.hn C.ht C.hm) I.kIn J e (fun z => nomatch z) fun tk => ⟨.bl b, H, I.kept (t' := tk) fun _ _ z => z, rfl, q⟩
theorem c_isErr {a D : Addr} {c : V} {cv : Value} {k : Bool} (E : ExcC X.K D) (hc : ClsV c cv) (h : At B L a (ErO (.ref D) none a)) (hk : PySem.W.kitOne X.K (.ref D) cv = some k) (q : Q (.bl k) B L) : kC X (.builtin "isinstance") [.ref a, c] B L Q :=
  ⟨_, call_isT, fun H s => ⟨a, D, c, cv, k, rfl, hc, h.at s, E, hk, _, _, s, q⟩⟩
end
end Kv
namespace Kv
open PySem PySem.Spec PyProof.Rows L2
/-- what an own error class says to isinstance -/
structure ErrK (K : PySem.W.Frag) (D : Addr) : Prop where
  c : ExcC K D
end Kv

/-! dict(zip(text, text)) -/
namespace KvZ
open PySem PySem.Spec PyProof.Rows
section
variable {prog : Program} {w : World} {A : Around} {E : Value → Shared → Prop} {s : Shared} {z TI TO T i1 i2 : Addr} {f1 f2 : List Addr} {n1 n2 i : Nat} {P1 P2 : Nat → Value → Prop} {U1 U2 : Nat → Heap → Prop} {f : Bool} {oT : Obj}
/-- next(zip), its last tuple still held -/
theorem next_held {Q : Value → Shared → Prop} (S : ZipSep2 z TI TO i1 i2 f1 f2) (D1 : Draws prog w A i1 f1 n1 P1 U1) (D2 : Draws prog w A i2 f2 n2 P2 U2) (hz : IsZipHeld s.heap z TI TO T f) (hT : s.heap.get? T = some oT)
    (hI : IsTupOf2 s.heap TI (.ref i1) (.ref i2)) (u1 : U1 i s.heap) (u2 : U2 i s.heap) (l1 : i < n1) (l2 : i < n2)
    (hQ : ∀ x1 x2 h' tk, P1 i x1 → P2 i x2 → IsZipHeld h' z TI TO T true → U1 (i + 1) h' → U2 (i + 1) h' → IsTupOf2 h' s.heap.objs.size x1 x2 → h'.objs.size = s.heap.objs.size + 1 →
      (∀ c o, c ≠ z → c ≠ i1 → c ≠ i2 → s.heap.get? c = some o → h'.get? c = some o) → Q (.ref s.heap.objs.size) { s with heap := h', toks := tk }) :
    wpAny (model prog w) A (Builtin.«zip.__next__» ⟨[.ref z], []⟩) (fun fin s' => ∃ v, fin = .done (.ret v) ∧ Q v s') E s := by
  obtain ⟨hp, gn, dr, t0, os⟩ := s
  show wpAny _ _ (field (.ref z) 2 >>= _) _ _ _
  refine wpAny_bind (wpAny_field hz rfl (x := .bool false) rfl ?_)
  show wpAny _ _ (field (.ref z) 3 >>= _) _ _ _
  refine wpAny_bind (wpAny_field hz rfl (x := .ref TI) rfl ?_)
  refine wpAny_bind (wpAny_seqItems hI rfl ?_)
  show wpAny _ _ (Builtin.SmallTypes.ownedTupleIsFree (.ref z) >>= _) _ _ _
  refine wpAny_bind (wpAny_tupleHeld_zip hz hT fun g1 z1 b1 => ?_)
  simp only [Bool.false_eq_true, if_false]
  refine wpAny_bind ?_
  rw [← Array.forIn_toList]
  simp only [List.forIn_cons, List.forIn_nil]
  refine wpAny_bind (wpAny_bind (wpAny_holding ?_))
  show wpAny _ _ (Builtin.SmallTypes.nextOf (.ref i1) >>= _) _ _ _
  refine wpAny_bind (D1.item i ⟨g1, gn, dr, t0, os⟩ _ _ l1 (D1.over u1 b1 S.zf1) fun x1 g2 t1 p1 w1 b2 => wpAny_pure ?_)
  refine wpAny_pure ?_
  refine wpAny_bind (wpAny_bind (wpAny_holding ?_))
  show wpAny _ _ (Builtin.SmallTypes.nextOf (.ref i2) >>= _) _ _ _
  refine wpAny_bind (D2.item i ⟨g2, gn, dr, t1, os⟩ _ _ l2 (D2.over (D2.over u2 b1 S.zf2) b2 S.sep1_2) fun x2 g3 t2 p2 w2 b3 => wpAny_pure ?_)
  refine wpAny_pure (wpAny_pure ?_)
  show wpAny _ _ (newTuple [x1, x2] >>= _) _ _ _
  refine wpAny_bind (wpAny_newTuple ?_)
  have sz : g3.objs.size = hp.objs.size := by rw [b3.1, b2.1, b1.1]
  have z3 : IsZipHeld g3 z TI TO T true := b3.extBut _ _ S.zi2 (b2.extBut _ _ S.zi1 z1)
  have kp : ∀ c o, c ≠ z → c ≠ i1 → c ≠ i2 → hp.get? c = some o → g3.get? c = some o := fun c o a1 a2 a3 e => b3.extBut _ _ a3 (b2.extBut _ _ a2 (b1.extBut _ _ a1 e))
  have w13 : U1 (i + 1) g3 := D1.over w1 b3 S.sep2_1
  refine wpAny_pure ⟨_, rfl, ?_⟩
  show Q (.ref g3.objs.size) _
  have pt : IsTupOf2 (g3.push { cls := .type "tuple", data := .seq #[x1, x2] }) g3.objs.size x1 x2 := Heap.get?_push_size _ rfl
  have sp : (g3.push { cls := .type "tuple", data := .seq #[x1, x2] }).objs.size = g3.objs.size + 1 := Heap.size_push ..
  rw [sz] at pt sp ⊢
  exact hQ x1 x2 _ _ p1 p2 (Heap.get?_push_of_some _ z3) (D1.frame _ _ _ w13 fun _ _ o e => Heap.get?_push_of_some _ e) (D2.frame _ _ _ w2 fun _ _ o e => Heap.get?_push_of_some _ e) pt sp fun c o a1 a2 a3 e => Heap.get?_push_of_some _ (kp c o a1 a2 a3 e)
/-- .. at the end -/
theorem end_held {Q : Fin → Shared → Prop} (S : ZipSep2 z TI TO i1 i2 f1 f2) (D1 : Draws prog w A i1 f1 n1 P1 U1) (hz : IsZipHeld s.heap z TI TO T f) (hT : s.heap.get? T = some oT) (hI : IsTupOf2 s.heap TI (.ref i1) (.ref i2)) (u1 : U1 n1 s.heap)
    (hE : ∀ h' e, (∀ c o, c ≠ z → c ≠ i1 → s.heap.get? c = some o → h'.get? c = some o) → (∃ o, h'.get? e = some o ∧ o.cls = .type "StopIteration") → E (.ref e) { s with heap := h' }) : wpAny (model prog w) A (Builtin.«zip.__next__» ⟨[.ref z], []⟩) Q E s := by
  obtain ⟨hp, gn, dr, t0, os⟩ := s
  show wpAny _ _ (field (.ref z) 2 >>= _) _ _ _
  refine wpAny_bind (wpAny_field hz rfl (x := .bool false) rfl ?_)
  show wpAny _ _ (field (.ref z) 3 >>= _) _ _ _
  refine wpAny_bind (wpAny_field hz rfl (x := .ref TI) rfl ?_)
  refine wpAny_bind (wpAny_seqItems hI rfl ?_)
  show wpAny _ _ (Builtin.SmallTypes.ownedTupleIsFree (.ref z) >>= _) _ _ _
  refine wpAny_bind (wpAny_tupleHeld_zip hz hT fun g1 z1 b1 => ?_)
  simp only [Bool.false_eq_true, if_false]
  refine wpAny_bind ?_
  rw [← Array.forIn_toList]
  simp only [List.forIn_cons, List.forIn_nil]
  refine wpAny_bind (wpAny_bind (wpAny_holding ?_))
  show wpAny _ _ (Builtin.SmallTypes.nextOf (.ref i1) >>= _) _ _ _
  refine wpAny_bind (D1.done ⟨g1, gn, dr, t0, os⟩ _ _ (D1.over u1 b1 S.zf1) fun g2 e b2 he => ?_)
  exact hE g2 e (fun c o a1 a2 x => b2 _ _ a2 (b1.extBut _ _ a1 x)) he
theorem pyNext_held {Q : Option Value → Shared → Prop} (S : ZipSep2 z TI TO i1 i2 f1 f2) (D1 : Draws prog w A.in1 i1 f1 n1 P1 U1) (D2 : Draws prog w A.in1 i2 f2 n2 P2 U2) (hz : IsZipHeld s.heap z TI TO T f) (hT : s.heap.get? T = some oT)
    (hI : IsTupOf2 s.heap TI (.ref i1) (.ref i2)) (u1 : U1 i s.heap) (u2 : U2 i s.heap) (l1 : i < n1) (l2 : i < n2)
    (hQ : ∀ x1 x2 h' tk, P1 i x1 → P2 i x2 → IsZipHeld h' z TI TO T true → U1 (i + 1) h' → U2 (i + 1) h' → IsTupOf2 h' s.heap.objs.size x1 x2 → h'.objs.size = s.heap.objs.size + 1 →
      (∀ c o, c ≠ z → c ≠ i1 → c ≠ i2 → s.heap.get? c = some o → h'.get? c = some o) → Q (some (.ref s.heap.objs.size)) { s with heap := h', toks := tk }) : wpAny (model prog w) A (pyNext (.ref z)) Q E s := by
  have ty : s.TypeIs (.ref z) "zip" := ⟨_, hz, rfl⟩
  unfold pyNext
  exact wpAny_bind (wpAny_attempt (wpAny_callSpecial?_slot (name := Str.ofString "__next__") ty F.slot_zip_next (wpAny_call_entry F.slot_zip_next ty F.entry_zip_next
    (next_held S D1 D2 hz hT hI u1 u2 l1 l2 fun x1 x2 h' tk y1 y2 c1 c2 c3 c4 c5 c6 => wpAny_pure (hQ x1 x2 h' tk y1 y2 c1 c2 c3 c4 c5 c6)) (F.args_zip_next_1 _))))
theorem pyEnd_held {Q : Option Value → Shared → Prop} (S : ZipSep2 z TI TO i1 i2 f1 f2) (D1 : Draws prog w A.in1 i1 f1 n1 P1 U1) (hz : IsZipHeld s.heap z TI TO T f) (hT : s.heap.get? T = some oT) (hI : IsTupOf2 s.heap TI (.ref i1) (.ref i2)) (u1 : U1 n1 s.heap)
    (hQ : ∀ h' tk, (∀ c o, c ≠ z → c ≠ i1 → s.heap.get? c = some o → h'.get? c = some o) → Q none { s with heap := h', toks := tk }) : wpAny (model prog w) A (pyNext (.ref z)) Q E s := by
  have ty : s.TypeIs (.ref z) "zip" := ⟨_, hz, rfl⟩
  unfold pyNext
  refine wpAny_bind (wpAny_attempt (wpAny_callSpecial?_slot (name := Str.ofString "__next__") ty F.slot_zip_next (wpAny_call_entry F.slot_zip_next ty F.entry_zip_next (end_held S D1 hz hT hI u1 fun h' e hk he => ?_) (F.args_zip_next_1 _))))
  obtain ⟨o, ho, hc⟩ := he
  exact wpAny_bind (wpAny_isInstance (T := "StopIteration") (b := true) ⟨o, ho, hc⟩ isSubtype_stop (wpAny_pure (hQ _ s.toks hk)))
end
/-- the pairs of two texts as long as one another -/
def TxRel (x y : Str) (i : Nat) (k v : Value) : Prop := (∃ c t, x.cps[i]? = some c ∧ k = .str ⟨#[c]⟩ t) ∧ ∃ c t, y.cps[i]? = some c ∧ v = .str ⟨#[c]⟩ t
theorem arg_texts {prog : Program} {w : World} (z TI TO i1 i2 : Addr) (x y : Str) (t1 t2 : Tok) (n : Nat) (hx : x.cps.size = n) (hy : y.cps.size = n) (S : ZipSep2 z TI TO i1 i2 [i1] [i2]) :
    PairArg prog w "zip" z [z, TI, TO, i1, i2] [z, TO, i1, i2] n (TxRel x y) (fun h => IsZip h z TI TO .none ∧ IsTupOf2 h TI (.ref i1) (.ref i2) ∧ (∃ a b, IsTupOf2 h TO a b) ∧ h.IsStrIter i1 (strIterType x) x t1 0 ∧ h.IsStrIter i2 (strIterType y) y t2 0) where
  type := fun s ok => ⟨_, ok.1, rfl⟩
  notDict := by decide
  keep := fun h h' ok hk => by
    obtain ⟨a1, a2, ⟨p, q, a3⟩, ⟨o1, e1, r1⟩, ⟨o2, e2, r2⟩⟩ := ok
    exact ⟨hk _ _ a1, hk _ _ a2, ⟨p, q, hk _ _ a3⟩, ⟨o1, hk _ _ e1, r1⟩, ⟨o2, hk _ _ e2, r2⟩⟩
  there := fun h ok b hb => by
    obtain ⟨a1, a2, ⟨p, q, a3⟩, ⟨o1, e1, _⟩, ⟨o2, e2, _⟩⟩ := ok
    simp only [List.mem_cons, List.not_mem_nil, or_false] at hb
    rcases hb with e | e | e | e | e
    all_goals first | exact ⟨_, e ▸ a1⟩ | exact ⟨_, e ▸ a2⟩ | exact ⟨_, e ▸ a3⟩ | exact ⟨_, e ▸ e1⟩ | exact ⟨_, e ▸ e2⟩
  sub := fun b hb => by simp only [List.mem_cons, List.not_mem_nil, or_false] at hb ⊢; rcases hb with e | e | e | e <;> simp [e]
  noKeys := fun A s Q E hA ok h => getAttrOr_miss_zip ok.1 rfl rfl rfl zip_no_keys (by decide +kernel) hA h
  iter := fun A s d Q E hA ok hd hdf h => by
    obtain ⟨a1, a2, ⟨p, q, a3⟩, v1, v2⟩ := ok
    simp only [List.mem_cons, List.not_mem_nil, or_false, not_or] at hdf
    obtain ⟨dz, dI, dO, d1, d2⟩ := hdf
    refine wpAny_pyIter_zip a1 (h z [z, TO, i1, i2] (fun i g => IsTupOf2 g TI (.ref i1) (.ref i2) ∧ g.IsStrIter i1 (strIterType x) x t1 i ∧ g.IsStrIter i2 (strIterType y) y t2 i ∧
      ((IsZip g z TI TO .none ∧ ∃ a b, IsTupOf2 g TO a b) ∨ ∃ T f oT, IsZipHeld g z TI TO T f ∧ g.get? T = some oT ∧ T ≠ z ∧ T ≠ i1 ∧ T ≠ i2 ∧ T ≠ d)) s.heap s.toks ?_ ⟨a2, v1, v2, .inl ⟨a1, p, q, a3⟩⟩ (fun _ _ e => e) fun b hb => .inl hb)
    have R1 : Draws prog w A.in1 i1 [i1] x.cps.size (fun i v => ∃ c u, x.cps[i]? = some c ∧ v = .str ⟨#[c]⟩ u) (fun i g => g.IsStrIter i1 (strIterType x) x t1 i) := Draws.text (A := A.in1) (show A.in1.handled = none from hA) i1 x t1
    have R2 : Draws prog w A.in1 i2 [i2] y.cps.size (fun i v => ∃ c u, y.cps[i]? = some c ∧ v = .str ⟨#[c]⟩ u) (fun i g => g.IsStrIter i2 (strIterType y) y t2 i) := Draws.text (A := A.in1) (show A.in1.handled = none from hA) i2 y t2
    exact {
      off := fun hm => by
        simp only [List.mem_cons, List.not_mem_nil, or_false] at hm
        rcases hm with e | e | e | e
        · exact dz e
        · exact dO e
        · exact d1 e
        · exact d2 e
      frame := fun i g g' st hk => by
        obtain ⟨b2, ⟨o1, e1, r1⟩, ⟨o2, e2, r2⟩, hz⟩ := st
        refine ⟨hk _ _ (Ne.symm dI) b2, ⟨o1, hk _ _ (Ne.symm d1) e1, r1⟩, ⟨o2, hk _ _ (Ne.symm d2) e2, r2⟩, ?_⟩
        rcases hz with ⟨b1, a, b, b3⟩ | ⟨T, f, oT, b1, bT, n1, n2, n3, n4⟩
        · exact .inl ⟨hk _ _ (Ne.symm dz) b1, a, b, hk _ _ (Ne.symm dO) b3⟩
        · exact .inr ⟨T, f, oT, hk _ _ (Ne.symm dz) b1, hk _ _ n4 bT, n1, n2, n3, n4⟩
      item := fun i s1 Q1 E1 hi st hds hQ => by
        obtain ⟨b2, c1, c2, hz⟩ := st
        have lt : ∀ {c o}, s1.heap.get? c = some o → s1.heap.objs.size ≠ c := fun e => Nat.ne_of_gt (Heap.lt_size e)
        have n1 : s1.heap.objs.size ≠ i1 := let ⟨_, e, _⟩ := c1; lt e
        have n2 : s1.heap.objs.size ≠ i2 := let ⟨_, e, _⟩ := c2; lt e
        rcases hz with ⟨b1, a, b, b3⟩ | ⟨T, f, oT, b1, bT, m1, m2, m3, m4⟩
        · refine wpAny_pyNext_zipD2_item S R1 R2 b1 b2 b3 c1 c2 (by rw [hx]; exact hi) (by rw [hy]; exact hi) fun x1 x2 h' tk p1 p2 k1 k2 k3 k4 k5 k6 hk => ?_
          exact hQ s1.heap.objs.size _ _ h' tk ⟨p1, p2⟩ (.inl ⟨_, k5, rfl, _, rfl⟩) ⟨hk _ _ S.TIz S.TITO S.TIi1 S.TIi2 b2, k3, k4, .inr ⟨s1.heap.objs.size, false, _, k1, k5, lt b1, n1, n2, Nat.ne_of_gt hds⟩⟩
            fun c o hc e => hk c o (fun q => hc (by simp [q])) (fun q => hc (by simp [q])) (fun q => hc (by simp [q])) (fun q => hc (by simp [q])) e
        · refine pyNext_held S R1 R2 b1 bT b2 c1 c2 (by rw [hx]; exact hi) (by rw [hy]; exact hi) fun x1 x2 h' tk p1 p2 k1 k3 k4 k5 k6 hk => ?_
          exact hQ s1.heap.objs.size _ _ h' tk ⟨p1, p2⟩ (.inl ⟨_, k5, rfl, _, rfl⟩) ⟨hk _ _ S.TIz S.TIi1 S.TIi2 b2, k3, k4, .inr ⟨T, true, oT, k1, hk _ _ m1 m2 m3 bT, m1, m2, m3, m4⟩⟩
            fun c o hc e => hk c o (fun q => hc (by simp [q])) (fun q => hc (by simp [q])) (fun q => hc (by simp [q])) e
      done := fun s1 Q1 E1 st hQ => by
        obtain ⟨b2, c1, c2, hz⟩ := st
        rcases hz with ⟨b1, a, b, b3⟩ | ⟨T, f, oT, b1, bT, m1, m2, m3, m4⟩
        · exact wpAny_pyNext_zipD2_end S R1 R2 b1 b2 b3 c1 c2 (by rw [hx]; exact Nat.le_refl _) (by rw [hy]; exact Nat.le_refl _) (.inl hx.symm) fun h' tk hk => hQ h' tk fun c o hc e => hk c o (fun q => hc (by simp [q])) (fun q => hc (by simp [q])) (fun q => hc (by simp [q])) (fun q => hc (by simp [q])) e
        · exact pyEnd_held S R1 b1 bT b2 (by rw [hx]; exact c1) fun h' tk hk => hQ h' tk fun c o hc e => hk c o (fun q => hc (by simp [q])) (fun q => hc (by simp [q])) e }
end KvZ
namespace KvZ
open PySem PySem.Spec PyProof.Rows L2
/-- the pairs of two texts, as a dict holds them -/
def zipK (x y : Str) : List (Key × V) := (x.cps.toList.zip y.cps.toList).map fun q => (.inr ⟨#[q.1]⟩, V.str ⟨#[q.2]⟩)
section
variable {prog : Program} {w : World} {A : Around} {E : Value → Shared → Prop} {s : Shared}
/-- prs: the first i pairs -/
def Prs (x y : Str) (i : Nat) (prs : List (Key × Value)) : Prop := prs.length = i ∧ KV ((zipK x y).take i) prs
theorem prs_snoc {x y : Str} {i : Nat} {prs : List (Key × Value)} {k v : Value} (h : Prs x y i prs) (r : TxRel x y i k v) : ∃ q : Key × Value, q.2 = v ∧ keyIs q.1 k = true ∧ Prs x y (i + 1) (prs ++ [q]) := by
  obtain ⟨⟨c, t, e1, rfl⟩, ⟨d, u, e2, rfl⟩⟩ := r
  obtain ⟨h1, h2⟩ := h
  have ez : (zipK x y)[i]? = some ((.inr ⟨#[c]⟩ : Key), V.str ⟨#[d]⟩) := by
    unfold zipK
    rw [List.getElem?_map, (List.getElem?_zip_eq_some (z := (c, d))).mpr ⟨by rw [Array.getElem?_toList]; exact e1, by rw [Array.getElem?_toList]; exact e2⟩]
    rfl
  refine ⟨((.inr ⟨#[c]⟩ : Key), .str ⟨#[d]⟩ u), rfl, keyIs_str _ _, by rw [List.length_append, h1]; rfl, ?_⟩
  rw [List.take_add_one, ez]
  have app : ∀ {a b : List (Key × V)} {a' b' : List (Key × Value)}, KV a a' → KV b b' → KV (a ++ b) (a' ++ b') := by
    intro a b a' b' ha hb
    unfold KV at ha hb ⊢
    induction ha with
    | nil => exact hb
    | cons p _ ih => exact .cons p ih
  exact app h2 (.cons ⟨rfl, u, rfl⟩ .nil)
theorem call_dict_texts {z TI TO i1 i2 : Addr} {x y : Str} {t1 t2 : Tok} {Q : Value → Shared → Prop} (hxy : x.cps.size = y.cps.size) (hn : x.cps.size ≤ sizeLine) (S : ZipSep2 z TI TO i1 i2 [i1] [i2]) (hh : A.handled = none)
    (ok : IsZip s.heap z TI TO .none ∧ IsTupOf2 s.heap TI (.ref i1) (.ref i2) ∧ (∃ a b, IsTupOf2 s.heap TO a b) ∧ s.heap.IsStrIter i1 (strIterType x) x t1 0 ∧ s.heap.IsStrIter i2 (strIterType y) y t2 0)
    (h : ∀ h' tk prs, Prs x y x.cps.size prs → h'.DictOf (mixKind prog w) s.heap.objs.size (merged [] prs) → (∀ b o, b ∉ [z, TO, i1, i2] → s.heap.get? b = some o → h'.get? b = some o) → Q (.ref s.heap.objs.size) { s with heap := h', toks := tk }) :
    wpAny (model prog w) A (call (.type "dict") [.ref z]) Q E s := by
  have P := arg_texts (prog := prog) (w := w) z TI TO i1 i2 x y t1 t2 x.cps.size rfl hxy.symm S
  refine call_dict_arg P ok fun s1 e1 hdf ok1 => ?_
  subst e1
  refine updateFrom_arg (A := A.in1) (Tab := fun i g => ∃ prs, Prs x y i prs ∧ g.DictOf (mixKind prog w) s.heap.objs.size (merged [] prs)) P .none hh ok1 hdf ⟨[], ⟨rfl, .nil⟩, Heap.DictOf.new s.heap⟩ (fun _ _ ⟨_, _, tb⟩ => tb.lt_size)
    (fun i g g' wr' hd _ ⟨prs, hp, tb⟩ hk => ⟨prs, hp, tb.at' fun o e => hk _ o hd e⟩) ?_ ?_
  · rintro i key v s' Q' E' hi hrel ⟨prs, hp, tb⟩ _ hQ
    obtain ⟨q, rfl, hk, hp'⟩ := prs_snoc hp hrel
    refine wpAny_dictSet_pairs (knd := mixKind prog w) hk tb (fun g' hm' hs => hQ g' _ ⟨_, hp', ?_⟩ hs) (by
      have h1 := merged_length [] prs
      have h2 := hp.1
      rw [List.length_nil] at h1
      omega)
    have e : merged [] (prs ++ [q]) = stored (merged [] prs) q.1 q.2 := by unfold merged; rw [List.foldl_append]; rfl
    rw [e]; exact hm'
  · rintro g' tk ⟨prs, hp, tb⟩ hk
    exact ⟨rfl, h g' tk prs hp tb fun b o hb e => hk b o (Nat.ne_of_lt (Heap.lt_size e)) hb (Heap.get?_push_of_some _ e)⟩
end
section
variable {X : Cx} {e1 e2 : Expr} {ta : TA} {p p2 pos pos2 : Pos}
/-- dict(zip(x, y)) of two texts -/
theorem pe_dzip (hc : X.calm = true) (hg : Gl X "dict") (hm : X.mg "dict" = none) (gz : Gl X "zip") (mz : X.mg "zip" = none) (ha : PA X [e1, e2] ta)
    (hs : starEach [e1, e2] X.env = (false, eval e1 X.env) :: starEach [e2] X.env := by rfl) (hpl : (backTo pos2 (starEach [e2] X.env)).any (·.1) = false := by rfl)
    (hs1 : starEach [.Call (.Name "zip" p2) [e1, e2] [] pos2] X.env = (false, eval (.Call (.Name "zip" p2) [e1, e2] [] pos2) X.env) :: starEach [] X.env := by rfl) (hpl1 : (backTo pos (starEach [] X.env)).any (·.1) = false := by rfl) :
    PE X (.Call (.Name "dict" p) [.Call (.Name "zip" p2) [e1, e2] [] pos2] [] pos)
      (fun σ H Q => ta σ H fun vs H1 => ∃ x y : Str, vs = [.str x, .str y] ∧ x.cps.size = y.cps.size ∧ x.cps.size ≤ sizeLine ∧ ∀ d, H1 d = none → Q (.ref d) (upd H1 d (.dK (mergeK [] (zipK x y))))) := by
  refine ⟨fun ps s σ H Q I h => ?_⟩
  refine wpAny_Call_Name_kw (ld_blt I hg hm PyProof.Rows.boot_dict ?_)
  refine PyProof.Rows.callWith_type1 ?_ hs1 hpl1
  rw [hs1]
  show wpAny _ _ (spliced ((false, eval (.Call (.Name "zip" p2) [e1, e2] [] pos2) X.env) :: backTo pos (starEach [] X.env))) _ _ s
  refine Calls.spliced_cons ?_
  refine wpAny_Call_Name_kw (ld_blt I gz mz PyProof.Rows.boot_zip ?_)
  refine PyProof.Rows.callWith_type1 (thn (ha.run pos2 ps s σ H _ I h) fun us s1 ⟨vs, H1, I1, r1, q1⟩ => ?_) hs hpl
  obtain ⟨x, y, rfl, hxy, hn, q⟩ := q1
  cases r1 with
  | cons ra rr =>
    cases rr with
    | cons rb rr =>
      cases rr
      obtain ⟨t1, rfl⟩ := ra
      obtain ⟨t2, rfl⟩ := rb
      refine zip_begins2 (begins_text x t1) (begins_text y t2) trivial trivial fun h' k1 k2 k3 k4 k5 sz hk => ?_
      refine Calls.spliced_nil ?_
      have n0 : ∀ b o, s1.heap.get? b = some o → b < s1.heap.objs.size := fun b o e => Heap.lt_size e
      have S : ZipSep2 (s1.heap.objs.size + 4) (s1.heap.objs.size + 2) (s1.heap.objs.size + 3) s1.heap.objs.size (s1.heap.objs.size + 1) [s1.heap.objs.size] [s1.heap.objs.size + 1] := by
        refine ⟨?_, ?_, ?_, ?_, ?_, ?_, ?_, ?_, ?_, ?_, ?_, ?_, ?_⟩
        all_goals first | (simp; done) | (simp; omega)
      refine call_dict_texts (s := { s1 with heap := h' }) hxy hn S (I1.ok.hd hc) ⟨k1, k2, ⟨_, _, k3⟩, ⟨_, k4, rfl, rfl⟩, ⟨_, k5, rfl, rfl⟩⟩ fun g tk prs hp hd hkk => ?_
      have hkeep : ∀ b o, s1.heap.get? b = some o → g.get? b = some o := fun b o e => by
        have hlt : Nat.lt b s1.heap.objs.size := n0 b o e
        refine hkk b o ?_ (hk b o e)
        simp only [List.mem_cons, List.not_mem_nil, or_false, not_or]
        have ne : ∀ k, b ≠ s1.heap.objs.size + k := fun k z => by
          have h2 : Nat.lt (s1.heap.objs.size + k) s1.heap.objs.size := z ▸ hlt
          exact absurd h2 (Nat.not_lt.mpr (Nat.le_add_right _ _))
        exact ⟨ne 4, ne 3, ne 0, ne 1⟩
      have hbig := I1.big
      have hm' : (h'.objs.size == sysModules) = false := beq_eq_false_iff_ne.mpr (Nat.ne_of_gt (Nat.lt_of_lt_of_le hbig (by rw [sz]; exact Nat.le_add_right _ _)))
      have hkv : KV (zipK x y) prs := by
        have := hp.2
        rw [List.take_of_length_le (by unfold zipK; rw [List.length_map, List.length_zip, Array.length_toList, Array.length_toList]; omega)] at this
        exact this
      have hlen : (mergeK [] (zipK x y)).length ≤ sizeLine := by
        refine Nat.le_trans (length_mergeK _ []) ?_
        rw [List.length_nil, Nat.zero_add]
        unfold zipK
        rw [List.length_map, List.length_zip, Array.length_toList, Array.length_toList]
        omega
      refine ⟨.ref h'.objs.size, upd H1 h'.objs.size (.dK (mergeK [] (zipK x y))), I1.laid (t' := tk) hkeep (by rw [sz]; exact Nat.le_add_right _ _) (show ObjOk X.prog X.w _ _ _ (.dK (mergeK [] (zipK x y))) from ⟨hlen, hm', merged [] prs, KV.merge hkv .nil, hd⟩), rfl, q _ (I1.hok.fresh (by rw [sz]; exact Nat.le_add_right _ _))⟩
end
end KvZ

namespace Kv
open PySem PySem.Spec PyProof.Rows L2
section
variable {X : Cx} {σ : L2.St} {B : Hp} {L : HL} {Q : KQ} {D : KD} {pos p2 pos2 p : Pos} {e1 e2 a b : Expr}
/-- d[y], d a dict with int and text keys -/
theorem k_dget (hu : X.A.units + 1 < cLine) (h : kE X a σ B L fun x B1 L1 => kE X b σ B1 L1 fun y B2 L2 => ∃ q kvs k v, x = .ref q ∧ At B2 L2 q (.dK kvs) ∧ y = kV k ∧ valV kvs k = some v ∧ Q v B2 L2)
    (hs : NoSl b := by exact fun _ _ => rfl) : kE X (.Subscript a b pos) σ B L Q :=
  ⟨_, pe_dget hu pe_c pe_c hs, fun H s => toE s h fun _ _ _ _ s q => toE s q fun _ _ _ _ s ⟨q, kvs, k, v, e1, hat, e2, hv, hq⟩ => ⟨q, v, e1, .inl ⟨kvs, k, .inl (hat.at s), e2, hv.symm⟩, _, _, s, hq⟩⟩
/-- dict(zip(x, y)), texts -/
theorem k_dzip (hm : X.mg "dict" = none) (mz : X.mg "zip" = none) (h : kA X [e1, e2] σ B L fun vs B1 L1 => ∃ x y : Str, vs = [.str x, .str y] ∧ x.cps.size = y.cps.size ∧ x.cps.size ≤ 1000 ∧ ∀ d, Q (.ref d) B1 ((d, .dK (mergeK [] (KvZ.zipK x y))) :: L1))
    (hc : X.calm = true := by rfl) (hg : Gl X "dict" := by rfl) (gz : Gl X "zip" := by rfl)
    (hs : starEach [e1, e2] X.env = (false, eval e1 X.env) :: starEach [e2] X.env := by rfl) (hpl : (backTo pos2 (starEach [e2] X.env)).any (·.1) = false := by rfl)
    (hs1 : starEach [.Call (.Name "zip" p2) [e1, e2] [] pos2] X.env = (false, eval (.Call (.Name "zip" p2) [e1, e2] [] pos2) X.env) :: starEach [] X.env := by rfl) (hpl1 : (backTo pos (starEach [] X.env)).any (·.1) = false := by rfl) :
    kE X (.Call (.Name "dict" p) [.Call (.Name "zip" p2) [e1, e2] [] pos2] [] pos) σ B L Q :=
  ⟨_, KvZ.pe_dzip hc hg hm gz mz pa_c hs hpl hs1 hpl1, fun H s => toA s h fun _ _ _ _ s ⟨x, y, e, h1, h2, q⟩ => ⟨x, y, e, h1, small (Nat.le_trans h2 (by decide)), fun d hd => ⟨_, _, s.new hd, q d⟩⟩⟩
end
end Kv
namespace Kv
open PySem PySem.Spec PyProof.Rows L2
section
variable {X : Cx} {σ : L2.St} {B : Hp} {L : HL} {Q : KQ} {D : KD} {pos p2 pos' : Pos} {e1 e2 a b c elt : Expr} {scope : Scope}
/-- [x for x in range(1, n) if c], the test pure -/
theorem k_lcf_r1n {x : Str} {j : Nat} {px pe : Pos} (f : Nat → Bool) (hN : X.N.Nodup) (ok : BlkOk X.N X.env.scope scope [(x, j)]) (hm : X.mg "range" = none)
    (h : kA X [a, b] σ B L fun vs B1 L1 => ∃ n : Nat, vs = [.int 1, .int (n + 1 : Nat)] ∧ n < 2 ^ 24 ∧ (∀ i, i < n → ∀ D acc s H0 C cl fp, kT (Bk X scope s H0 C cl fp) c (σ.set j (some (.int (i + 1 : Nat)))) B1 ((D, .lst acc) :: L1) fun k B3 L3 => k = f (i + 1) ∧ B3 = B1 ∧ L3 = (D, .lst acc) :: L1) ∧
      ∀ D, Q (.ref D) B1 ((D, .lst ((((List.range n).map (· + 1)).filter f).map fun i : Nat => V.int i)) :: L1))
    (hp : ∀ s H0 C cl fp, Loc (Bk X scope s H0 C cl fp).env.scope x := by intro _ _ _ _ _; first | exact Or.inl rfl | exact Or.inr rfl) (hf : ∀ s H0 C cl fp, (Bk X scope s H0 C cl fp).fn x = true ∨ (Bk X scope s H0 C cl fp).env.scope.names.lookup x = some .local := by intro _ _ _ _ _; first | exact .inr rfl | exact .inl rfl)
    (he : ∀ s H0 C cl fp (v : V) σ B L Q, Q v B L → σ[j]? = some (some v) → kE (Bk X scope s H0 C cl fp) (.Name x pe) σ B L Q)
    (hjl : j < σ.length)
    (hg : Gl X "range" := by rfl) (hs1 : starEach [a, b] X.env = [(false, eval a X.env), (false, eval b X.env)] := by rfl) (hs2 : starEach [b] X.env = [(false, eval b X.env)] := by rfl)
    (hj : X.N[j]? = some x := by rfl) (hc : X.calm = true := by rfl) (hs : ∀ x, foldedSetIterable (.Call (.Name "range" p2) [a, b] [] pos') X.env x = pure x := by intro _; rfl) :
    kL X (.Name x pe) (.Name x px) (.Call (.Name "range" p2) [a, b] [] pos') [c] scope [(x, j)] σ B L Q :=
  k_lcf hN ok (r_rng2 hm (by
    obtain ⟨t, h1, h2⟩ := h
    refine ⟨_, pa_c, fun H s => toA s ⟨t, h1, h2⟩ fun v H' B1 L1 s' ⟨n, e, hl, ht, hd⟩ => ⟨B1, L1, s', 1, ((n + 1 : Nat) : Int), e, by omega, (((n + 1 : Nat) : Int) - 1).toNat, _, _, fun i acc B L => B = B1 ∧ L = L1 ∧ acc = (((List.range i).map (· + 1)).filter f).map (fun i : Nat => V.int i), walk_range, ⟨rfl, rfl, rfl⟩, fun i acc B L H hi p s => trivial, ?_, ?_⟩⟩
    · rintro D i acc x B L H H' hi ⟨rfl, rfl, rfl⟩ s ⟨rfl, rfl⟩
      have hi' : i < n := by omega
      refine ⟨_, _, s, fun sa Ha Ca cla fpa => g_name j ?_ hN hj (hp sa Ha Ca cla fpa) (hf sa Ha Ca cla fpa)⟩
      have e0 : ((1 : Int) + (i : Int)) = ((i + 1 : Nat) : Int) := by omega
      refine ⟨wipe1 σ j _, fun sb Hb Cb clb fpb => ?_⟩
      show kT _ _ ((wipe σ [j]).set j (some (.int ((1 : Int) + (i : Int))))) _ _ _
      rw [wipe1', e0]
      obtain ⟨t2, k1, k2⟩ := ht i hi' D ((((List.range i).map (· + 1)).filter f).map (fun i : Nat => V.int i)) sb Hb Cb clb fpb
      have hlen : ((((List.range i).map (· + 1)).filter f).map (fun i : Nat => V.int i)).length ≤ i := by
        rw [List.length_map]
        exact Nat.le_trans (List.length_filter_le _ _) (by simp)
      have hsucc : ((List.range (i + 1)).map (· + 1)).filter f = ((List.range i).map (· + 1)).filter f ++ (if f (i + 1) = true then [i + 1] else []) := by
        rw [List.range_succ, List.map_append, List.filter_append]
        congr 1
        by_cases hfi : f (i + 1) = true <;> simp [hfi]
      refine ⟨_, pt_c, fun H s => toT s ⟨t2, k1, k2⟩ fun k H2 B2 L2 s2 ⟨e1, e2, e3⟩ => ⟨B2, L2, s2, fun hk => fun sc Hc Cc clc fpc => ?_, fun hk => ?_⟩⟩
      · subst e2 e3
        refine he sc Hc Cc clc fpc (.int ((i + 1 : Nat) : Int)) _ _ _ _ ⟨by omega, L, rfl, rfl, rfl, ?_⟩ ?_
        · rw [hsucc, if_pos (by rw [← e1]; exact hk), List.map_append]; rfl
        · rw [List.getElem?_set_self (by simpa [wipe] using hjl)]
          show some (some (V.int ((1 : Int) + (i : Int)))) = some (some (V.int ((i + 1 : Nat) : Int)))
          rw [e0]
      · subst e2 e3
        refine ⟨L, rfl, rfl, rfl, ?_⟩
        rw [hsucc, if_neg (by rw [← e1, hk]; decide), List.append_nil]
    · rintro acc B L D ⟨rfl, rfl, rfl⟩
      have e : (((n + 1 : Nat) : Int) - 1).toNat = n := by omega
      rw [e]
      exact hd D) hg hs1 hs2) hc hs
end
end Kv

/-! Values that are no texts. -/
namespace Kv
open PySem PySem.Spec PyProof.Rows L2
section
variable {X : Cx} {B : Hp} {L : HL} {Q : KQ} {K : PySem.W.Frag}
theorem tyx_le {H H' : Hp} {x : V} {t : Value} (e : Le H H') (h : TyX K H x t) : TyX K H' x t := by
  cases h with
  | base b =>
    refine .base ?_
    cases b with
    | non => exact .non
    | bl y => exact .bl y
    | int i => exact .int i
    | str y => exact .str y
    | flt y => exact .flt y
    | lst q => exact .lst (e _ _ q)
    | frz q => exact .frz (e _ _ q)
    | tup q => exact .tup (e _ _ q)
    | dK q => exact .dK (e _ _ q)
    | dT q => exact .dT (e _ _ q)
    | ins q c1 c2 c3 c4 c5 => exact .ins (e _ _ q) c1 c2 c3 c4 c5
  | byt b => exact .byt b
  | set q => exact .set (e _ _ q)
  | kList q c => exact .kList q c
  | kTuple q c => exact .kTuple q c
  | kDict q c => exact .kDict q c
  | fTuple q => exact .fTuple (e _ _ q)
  | fDict q => exact .fDict (e _ _ q)
/-- x is no text -/
def NoTx (K : PySem.W.Frag) (H : Hp) (x : V) : Prop := ∃ t, TyX K H x t ∧ PySem.W.kitOne K t (.type "str") = some false
theorem NoTx.le {H H' : Hp} {x : V} (h : NoTx K H x) (e : Le H H') : NoTx K H' x := by
  obtain ⟨t, h1, h2⟩ := h
  exact ⟨t, tyx_le e h1, h2⟩
theorem c_isNT {x : V} (h : ∀ H, Sat B L H → NoTx X.K H x) (q : Q (.bl false) B L) : kC X (.builtin "isinstance") [x, .ty "str"] B L Q :=
  ⟨_, call_isi, fun H s => by
    obtain ⟨t, h1, h2⟩ := h H s
    exact ⟨x, .ty "str", t, .type "str", false, rfl, .ty "str", h1, h2, _, _, s, q⟩⟩
theorem ntx_non {H : Hp} : NoTx K H .non := ⟨_, .base .non, kit_ty (by decide +kernel)⟩
theorem ntx_int {H : Hp} {i : Int} : NoTx K H (.int i) := ⟨_, .base (.int i), kit_ty (by decide +kernel)⟩
theorem ntx_bl {H : Hp} {b : Bool} : NoTx K H (.bl b) := ⟨_, .base (.bl b), kit_ty (by decide +kernel)⟩
theorem ntx_l {H : Hp} {p : Addr} {xs : List V} (h : SqL K H p xs) : NoTx K H (.ref p) := ⟨_, tyx_l h, kit_ty (by decide +kernel)⟩
theorem ntx_t {H : Hp} {p : Addr} {xs : List V} (h : SqT K H p xs) : NoTx K H (.ref p) := ⟨_, tyx_t h, kit_ty (by decide +kernel)⟩
end
end Kv

/-! isinstance of a tracked error, several classes. -/
namespace Kv
open PySem PySem.Spec PyProof.Rows L2
section
variable {X : Cx} {B : Hp} {L : HL} {Q : KQ}
def rIsTT (K : PySem.W.Frag) : List V → Hp → VK → Prop := fun xs H Q => ∃ (a D tp : Addr) (cs : List V) (us : List Value) (b : Bool), xs = [.ref a, .ref tp] ∧ H tp = some (.tup cs) ∧ Paired ClsV cs us ∧ H a = some (ErO (.ref D) none a) ∧ ExcC K D ∧ PySem.W.kitAny K (.ref D) us = some b ∧ Q (.bl b) H
theorem call_isTT : CallR X (.builtin "isinstance") (rIsTT X.K) := by
  intro ps s σ H xs us Q I r h
  obtain ⟨a, D, tp, cs, ws, b, rfl, hT, hcv, hH, C, e, q⟩ := h
  obtain ⟨u1, u2, rfl, r1, r2⟩ := vals2 r
  cases (show u2 = Value.ref tp from r2)
  cases (show u1 = Value.ref a from r1)
  obtain ⟨⟨u, vs, hu, hz, hv⟩, _⟩ := I.hok a _ hH
  have J : PySem.W.InstAt s.heap a u D none := by
    obtain ⟨o1, o2, o3, o4⟩ := u
    obtain ⟨h1, h2⟩ := hz
    dsimp only at h1 h2 hv
    subst h1 h2 hv
    exact ⟨hu, rfl, rfl, trivial⟩
  obtain ⟨_, its, rv, o, g1, g2, n, g3⟩ := (show ObjOk X.prog X.w H s.heap tp (.tup cs) from I.hok tp _ hT)
  have e3 := ClsV.all hcv rv
  subst e3
  obtain ⟨oc, od, dt, sl⟩ := o
  simp only at g2 g3
  subst g2 g3
  exact PySem.W.kia_tup (PySem.W.handS_kitx_exc C.hg C.hk C.hs C.hd C.ha C.hn C.ht C.hm) I.kIn J g1 e (fun z => nomatch z) fun tk => ⟨.bl b, H, I.tok tk, rfl, q⟩
theorem c_isErrT {a D tp : Addr} {cs : List V} {us : List Value} {k : Bool} (E : ExcC X.K D) (hc : Paired ClsV cs us) (ht : At B L tp (.tup cs)) (h : At B L a (ErO (.ref D) none a)) (hk : PySem.W.kitAny X.K (.ref D) us = some k) (q : Q (.bl k) B L) : kC X (.builtin "isinstance") [.ref a, .ref tp] B L Q :=
  ⟨_, call_isTT, fun H s => ⟨a, D, tp, cs, us, k, rfl, ht.at s, hc, h.at s, E, hk, _, _, s, q⟩⟩
end
end Kv

/-! is, is not of truth values; facts of isinstance. -/
namespace Kv
open PySem PySem.Spec PyProof.Rows L2
section
variable {X : Cx} {B : Hp} {L : HL} {Q : KQ}
/-- a statement with its own end, then the rest: the ways through an if come together -/
theorem k_cut {σ : L2.St} {D : KD} {st : Stmt} {rest : List Stmt} (M : KN) (h : kS X st σ B L { D with nx := M }) (q : ∀ σ' B' L', M σ' B' L' → kSs X rest σ' B' L' D) : kSs X (st :: rest) σ B L D :=
  k_cons ⟨_, ps_c, fun H sat => toS sat h (fun σ' H' B' L' s m => ⟨B', L', s, q _ _ _ m⟩) (fun _ _ q => q) (fun _ _ q => q) (fun _ _ q => q)⟩
theorem o_isbl {a b : Bool} (q : Q (.bl (decide (a = b))) B L) : kO X (compareOp .Is) (.bl a) (.bl b) B L Q := ⟨_, op_is_bl, fun H s => ⟨a, b, rfl, rfl, _, _, s, q⟩⟩
theorem o_isnbl {a b : Bool} (q : Q (.bl (!decide (a = b))) B L) : kO X (compareOp .IsNot) (.bl a) (.bl b) B L Q := ⟨_, op_isnot_bl, fun H s => ⟨a, b, rfl, rfl, _, _, s, q⟩⟩
theorem kit_any0 {K : PySem.W.Frag} {t : Value} : ∀ {cs : List Value}, (∀ c ∈ cs, PySem.W.kitOne K t c = some false) → PySem.W.kitAny K t cs = some false
  | [], _ => rfl
  | c :: r, h => by
    show (match PySem.W.kitOne K t c with | some true => some true | some false => PySem.W.kitAny K t r | none => none) = _
    rw [h c (List.mem_cons_self)]
    exact kit_any0 fun d hd => h d (List.mem_cons_of_mem _ hd)
end
end Kv

/-! < of nested data, list + list, lists unpacked, comprehensions over lists with a test. -/
namespace Kv
open PySem PySem.Spec PyProof.Rows L2
section
variable {X : Cx} {σ : L2.St} {B : Hp} {L : HL} {Q : KQ} {D : KD} {pos p2 pos' : Pos} {e iter a b c elt : Expr} {scope : Scope}
def rLtD (K : PySem.W.Frag) : R2 := fun x y H Q => ∃ d e, Dp K H x d ∧ Dp K H y e ∧ PySem.W.alike d e = true ∧ d ≠ .none ∧ min d.depth e.depth ≤ 60 ∧ Q (.bl (PySem.W.dataLt d e)) H
theorem op_ltD (hu : X.A.units + 64 < cLine) : OpR X (compareOp .Lt) (rLtD X.K) := by
  intro pins s σ H x y v u Q I rx ry h
  obtain ⟨d, e, hd, he, ha, hn, hm, q⟩ := h
  obtain ⟨as, r1⟩ := Dp.reads I d x v hd rx
  obtain ⟨bs, r2⟩ := Dp.reads I e y u he ry
  exact PySem.W.lt_data r1 r2 ha hn (by omega) ⟨.bl _, H, I, rfl, q⟩
theorem o_ltD {x y : V} {d e : PyData} (hu : X.A.units + 64 < cLine) (hd : Dd X B L x d) (he : Dd X B L y e) (ha : PySem.W.alike d e = true) (hn : d ≠ .none) (hm : min d.depth e.depth ≤ 60) (q : Q (.bl (PySem.W.dataLt d e)) B L) : kO X (compareOp .Lt) x y B L Q :=
  ⟨_, op_ltD hu, fun H s => ⟨d, e, hd H s, he H s, ha, hn, hm, _, _, s, q⟩⟩
theorem lt_asym {d e : PyData} (h : PySem.W.dataLt d e = true) : PySem.W.dataLt e d = false := by
  rcases hb : PySem.W.dataLt e d with _ | _
  · rfl
  · have h1 := lex_trans _ _ _ h hb
    rw [lex_irrefl] at h1; cases h1
/-- list + list -/
theorem o_catl {p q : Addr} {xs ys : List V} (h1 : At B L p (.lst xs)) (h2 : At B L q (.lst ys)) (hl : xs.length + ys.length ≤ 16777216) (h : ∀ r, Q (.ref r) B ((r, .lst (xs ++ ys)) :: L)) : kO X (binaryOp .Add) (.ref p) (.ref q) B L Q :=
  ⟨_, op_cat, fun H s => ⟨p, q, xs, ys, rfl, rfl, h1.at s, h2.at s, small hl, fun r hr => ⟨_, _, s.new hr, h r⟩⟩⟩
/-- a list goes to targets -/
theorem g_lst {ts : List Expr} {kk n : Nat} {T : Addr} {xs : List V} {Q : KN} (h1 : Ls X.K B L T xs) (hl : xs.length = n) (h : kGs X ts xs σ B L Q) (hc : X.calm = true := by rfl) (hn : (assignEach ts X.env).length = n := by rfl) (hst : (assignEach ts X.env).findIdx? (·.1) = none := by rfl) :
    kG X (.Tuple ts kk pos) (.ref T) σ B L Q :=
  ⟨_, pg_unl hc pgs_c hn hst, fun H s => ⟨T, _, rfl, h1.at s, hl, toGs s h fun _ _ _ _ s q => ⟨_, _, s, q⟩⟩⟩
/-- [elt for x in a list if c], each item by itself -/
theorem k_lcf_l {x : Str} {j : Nat} {px : Pos} (f : V → Bool) (g : V → V) (hN : X.N.Nodup) (ok : BlkOk X.N X.env.scope scope [(x, j)])
    (h : kE X iter σ B L fun v B1 L1 => ∃ a xs, v = .ref a ∧ Ls X.K B1 L1 a xs ∧ xs.length ≤ 16777216 ∧ (∀ z ∈ xs, ∀ D acc s H0 C cl fp, kT (Bk X scope s H0 C cl fp) c (σ.set j (some z)) B1 ((D, .lst acc) :: L1) fun k B3 L3 => k = f z ∧ B3 = B1 ∧ L3 = (D, .lst acc) :: L1) ∧
      (∀ z ∈ xs, f z = true → ∀ D acc s H0 C cl fp, kE (Bk X scope s H0 C cl fp) elt (σ.set j (some z)) B1 ((D, .lst acc) :: L1) fun y B3 L3 => y = g z ∧ B3 = B1 ∧ L3 = (D, .lst acc) :: L1) ∧
      ∀ D, Q (.ref D) B1 ((D, .lst ((xs.filter f).map g)) :: L1))
    (hp : ∀ s H0 C cl fp, Loc (Bk X scope s H0 C cl fp).env.scope x := by intro _ _ _ _ _; first | exact Or.inl rfl | exact Or.inr rfl) (hf : ∀ s H0 C cl fp, (Bk X scope s H0 C cl fp).fn x = true ∨ (Bk X scope s H0 C cl fp).env.scope.names.lookup x = some .local := by intro _ _ _ _ _; first | exact .inr rfl | exact .inl rfl)
    (hj : X.N[j]? = some x := by rfl) (hc : X.calm = true := by rfl) (hs : ∀ x, foldedSetIterable iter X.env x = pure x := by intro _; rfl) :
    kL X elt (.Name x px) iter [c] scope [(x, j)] σ B L Q :=
  k_lcf hN ok (r_list (by
    obtain ⟨t, h1, h2⟩ := h
    refine ⟨_, pe_c, fun H s => toE s ⟨t, h1, h2⟩ fun v H' B1 L1 s' ⟨a, xs, e, hls, hl, ht, hg, hd⟩ => ⟨B1, L1, s', a, xs, e, hls, xs.length, _, _, fun i acc B L => B = B1 ∧ L = L1 ∧ acc = ((xs.take i).filter f).map g, walk_list, ⟨rfl, rfl, by simp⟩, ?_, ?_, ?_⟩⟩
    · rintro i acc B L H hi ⟨rfl, rfl, _⟩ s
      exact hls.at s
    · rintro D i acc x B L H H' hi ⟨rfl, rfl, rfl⟩ s ⟨rfl, hx⟩
      have hxm := List.mem_of_getElem? hx
      refine ⟨_, _, s, fun sa Ha Ca cla fpa => g_name j ?_ hN hj (hp sa Ha Ca cla fpa) (hf sa Ha Ca cla fpa)⟩
      refine ⟨wipe1 σ j _, fun sb Hb Cb clb fpb => ?_⟩
      show kT _ _ ((wipe σ [j]).set j _) _ _ _
      rw [wipe1']
      have hsucc : (xs.take (i + 1)).filter f = (xs.take i).filter f ++ (if f x = true then [x] else []) := by
        rw [List.take_add_one, hx, List.filter_append]
        congr 1
        by_cases hfi : f x = true <;> simp [hfi]
      have hlen : (((xs.take i).filter f).map g).length ≤ i := by
        rw [List.length_map]
        exact Nat.le_trans (List.length_filter_le _ _) (by rw [List.length_take]; omega)
      obtain ⟨t2, k1, k2⟩ := ht x hxm D (((xs.take i).filter f).map g) sb Hb Cb clb fpb
      refine ⟨_, pt_c, fun H s => toT s ⟨t2, k1, k2⟩ fun k H2 B2 L2 s2 ⟨e1, e2, e3⟩ => ⟨B2, L2, s2, fun hk => fun sc Hc Cc clc fpc => ?_, fun hk => ?_⟩⟩
      · subst e2 e3
        have hfx : f x = true := by rw [← e1]; exact hk
        obtain ⟨t3, k3, k4⟩ := hg x hxm hfx D (((xs.take i).filter f).map g) sc Hc Cc clc fpc
        show kE _ _ ((wipe σ [j]).set j _) _ _ _
        rw [wipe1']
        refine ⟨_, pe_c, fun H s => toE s ⟨t3, k3, k4⟩ fun y H3 B3 L3 s3 ⟨e4, e5, e6⟩ => ⟨B3, L3, s3, by omega, L, e6, e5, rfl, ?_⟩⟩
        rw [hsucc, if_pos hfx, List.map_append, e4]; rfl
      · refine ⟨L, e3, e2, rfl, ?_⟩
        rw [hsucc, if_neg (by rw [← e1, hk]; decide), List.append_nil]
    · rintro acc B L D ⟨rfl, rfl, rfl⟩
      rw [List.take_length]
      exact hd D)) hc hs
/-- for over a list that the head makes: the wish may name the list -/
theorem k_for_l2 {tg : Expr} {body : List Stmt} (hp : PassesOwn (model X.prog X.w) X.A X.env X.xe)
    (h : kE X iter σ B L fun v B1 L1 => ∃ (a : Addr) (xs : List V) (Pv : Nat → KN), v = .ref a ∧ Ls X.K B1 L1 a xs ∧ Pv 0 σ B1 L1 ∧ (∀ i σ B L, i ≤ xs.length → Pv i σ B L → Ls X.K B L a xs) ∧
      (∀ i x σ B L, xs[i]? = some x → Pv i σ B L → kG X tg x σ B L fun σ2 B2 L2 => kSs X body σ2 B2 L2 { D with nx := Pv (i + 1), ct := Pv (i + 1), bk := D.nx }) ∧ ∀ σ B L, Pv xs.length σ B L → D.nx σ B L)
    (hc : X.calm = true := by rfl) (hs : ∀ x, foldedSetIterable iter X.env x = pure x := by intro _; rfl) : kS X (.For tg iter body [] pos) σ B L D :=
  k_for hp (r_list (by
    obtain ⟨t, h1, h2⟩ := h
    refine ⟨_, pe_c, fun H s => toE s ⟨t, h1, h2⟩ fun v H' B' L' s' ⟨a, xs, Pv, e, hl, p0, hL, ht, hd⟩ => ⟨B', L', s', a, xs, e, hl, xs.length, _, _, Pv, walk_list, p0, fun i σ B L H hi p s => (hL i σ B L hi p).at s, fun i x σ B L H H' hi p s y => ?_, hd⟩⟩
    obtain ⟨rfl, hx⟩ := y
    exact ⟨B, L, s, ht i x σ B L hx p⟩)) hc hs
/-- two new objects at once -/
theorem Sat.new2 {H H' : Hp} {p q : Addr} {o u : HO} (s : Sat B L H) (h1 : H p = none) (h2 : H q = none) (hpq : p ≠ q) (e : ∀ b o, H b = some o → H' b = some o) (hp : H' p = some o) (hq : H' q = some u) : Sat B ((p, o) :: (q, u) :: L) H' := by
  have s1 := s.new' h2 e hq
  refine ⟨s1.ext, fun r hr => ?_, fun r hr => ?_, ?_⟩
  · rcases List.mem_cons.mp hr with rfl | hr
    · exact hp
    · exact s1.own r hr
  · rcases List.mem_cons.mp hr with rfl | hr
    · exact s.free h1
    · exact s1.nb r hr
  · rw [List.map_cons, List.nodup_cons]
    refine ⟨fun hm => ?_, s1.nd⟩
    rcases List.mem_cons.mp hm with h | h
    · exact hpq h
    · exact s.notin h1 h
end
end Kv

/-! sorted(list), sorted(list, key=f): data that are alike, keys that are alike data. -/
namespace Kv
open PySem PySem.Spec PyProof.Rows L2
open PySem.W (EachIs AllAlike Sortable dataLe sortVals dataKind KeyedOut)
section
variable {K : PySem.W.Frag} {H H' : Hp}
mutual
theorem dp_le (e : Le H H') : ∀ (d : PyData) (v : V), Dp K H v d → Dp K H' v d
  | .none, _, h => by cases h; exact .non
  | .bool b, _, h => by cases h; exact .bl b
  | .int i, _, h => by cases h; exact .int i
  | .str x, _, h => by cases h; exact .str x
  | .list ds, _, h => by
    cases h with
    | lst hs ha => exact .lst (ext_l e hs) (dp_leA e ds _ ha)
  | .tuple ds, _, h => by
    cases h with
    | tup hs ha => exact .tup (ext_t e hs) (dp_leA e ds _ ha)
  | .dict _, _, h => by cases h
theorem dp_leA (e : Le H H') : ∀ (ds : List PyData) (vs : List V), DpAll K H vs ds → DpAll K H' vs ds
  | [], _, h => by cases h; exact .nil
  | d :: ds, _, h => by
    cases h with
    | cons h1 h2 => exact .cons (dp_le e d _ h1) (dp_leA e ds _ h2)
end
theorem dpa_snoc {v : V} {d : PyData} (h : Dp K H v d) : ∀ {vs : List V} {ds : List PyData}, DpAll K H vs ds → DpAll K H (vs ++ [v]) (ds ++ [d])
  | _, _, .nil => .cons h .nil
  | _, _, .cons h1 h2 => .cons h1 (dpa_snoc h h2)
theorem each_rel : ∀ {ys : List V} {its : List Value}, Vals ys its → EachIs (fun u b => RelV b u) its ys
  | _, _, .nil => .nil
  | _, _, .cons h t => .cons h (each_rel t)
theorem vals_each : ∀ {ys : List V} {its : List Value}, EachIs (fun u b => RelV b u) its ys → Vals ys its
  | _, _, .nil => .nil
  | _, _, .cons h t => .cons h (vals_each t)
end
section
variable {X : Cx} {pins : List (Addr × Obj)} {σ : L2.St} {H : Hp} {s : Shared}
theorem each_reads (I : Inv X pins σ H s) (kf : V → PyData) : ∀ {ys : List V} {its : List Value}, Vals ys its → (∀ y ∈ ys, Dp X.K H y (kf y)) → EachIs (fun u b => ∃ as, Reads s.heap u (kf b) as) its ys
  | _, _, .nil, _ => .nil
  | _, _, .cons h t, hd => .cons (Dp.reads I _ _ _ (hd _ List.mem_cons_self) h) (each_reads I kf t fun y hy => hd y (List.mem_cons_of_mem _ hy))
theorem each_readsA (I : Inv X pins σ H s) : ∀ {ks : List V} {its : List Value} {ds : List PyData}, Vals ks its → DpAll X.K H ks ds → EachIs (fun u d => ∃ as, Reads s.heap u d as) its ds
  | _, _, _, .nil, h => by cases h; exact .nil
  | _, _, _, .cons h t, hd => by
    cases hd with
    | cons h1 h2 => exact .cons (Dp.reads I _ _ _ h1 h) (each_readsA I t h2)
def rSortedD (K : PySem.W.Frag) : List V → Hp → VK → Prop := fun vs H Q => ∃ (a : Addr) (ys : List V) (kf : V → PyData), vs = [.ref a] ∧ SqL K H a ys ∧ (∀ y ∈ ys, Dp K H y (kf y) ∧ (kf y).depth ≤ 60) ∧ AllAlike (ys.map kf) ∧ Sortable (ys.map kf) ∧ ∀ p, H p = none → Q (.ref p) (upd H p (.lst (ys.mergeSort (dataLe false kf))))
theorem cr_sortedD (hu : X.A.units + 100 < cLine) : CallR X (.builtin "sorted") (rSortedD X.K) := by
  intro ps s σ H xs us Q I r h
  obtain ⟨a, ys, kf, rfl, hs, hd, hal, hso, q⟩ := h
  obtain ⟨its, rv, hl, hz⟩ := I.list hs
  rw [Vals.ref1 r]
  have hz' : its.length ≤ sizeLine := by rw [← rv.length]; exact hz
  have k0 : ∀ b o, s.heap.get? b = some o → (PySem.W.sortingHeap (PySem.W.copyHeap s.heap its) (s.heap.objs.size + 1) its).get? b = some o := fun b o e => PySem.W.sorting_copy_old e
  have I2 := I.kept (t' := s.toks) k0
  have er := each_reads I2 kf rv fun y hy => (hd y hy).1
  have eo := PySem.W.sortVals_data (enc := kf) false (each_rel rv) er hal
  refine PySem.W.sorted_vals hl.isList (PySem.W.SortsAt.data (PySem.W.each_map kf er) hal hso fun d hdm => ?_) hz' ?_
  · obtain ⟨y, hy, rfl⟩ := List.mem_map.mp hdm
    have := (hd y hy).2
    show X.A.units + 1 + 1 + (kf y).depth < cLine
    omega
  · obtain ⟨e1, he1⟩ := sortedAll_at s.heap its (sortVals (dataKind (PySem.W.sortingHeap (PySem.W.copyHeap s.heap its) (s.heap.objs.size + 1) its) (ys.map kf)) false its its).toArray
    have hv := vals_each eo
    refine ⟨.ref _, upd H (s.heap.objs.size + 1) (.lst (ys.mergeSort (dataLe false kf))), I.laid (t' := s.toks) (fun b u e => sortedAll_old e) (by omega) ⟨by rw [List.length_mergeSort]; exact hz, _, e1, hv, he1⟩, rfl, q _ (I.hok.fresh (by omega))⟩
/-! keys by a def -/
/-- what a call of the key gives, by new things alone -/
def KeyGiven (K : PySem.W.Frag) (sp : Sp) (y : V) (d : PyData) (H : Hp) : Prop :=
  ∀ H', Le H H' → sp [y] H' (fun v H'' => Le H' H'' ∧ Dp K (fun b => if (H' b).isSome then none else H'' b) v d) fun _ _ _ => False
def rSortedF (X : Cx) : List V → List V → Hp → VK → Prop := fun vs zs H Q => ∃ (a f : Addr) (ys : List V) (kf : V → PyData) (k : Nat) (fd : FuncData) (ps : List Str) (sp : Sp), vs = [.ref a] ∧ zs = [.ref f] ∧ SqL X.K H a ys ∧
  FnOk X.prog X.w X.K X.mg X.base (L2.CX X.prog X.w) k f fd ps sp ∧ Binds X.K fd ps [] ∧ Room k X.A.in1.in1 ∧ (∀ y ∈ ys, (kf y).depth ≤ 60 ∧ KeyGiven X.K sp y (kf y) H) ∧ AllAlike (ys.map kf) ∧ Sortable (ys.map kf) ∧
  ∀ H' p, Le H H' → H' p = none → Q (.ref p) (upd H' p (.lst (ys.mergeSort (dataLe false kf))))
theorem upd_rm {H : Hp} {a : Addr} {o : HO} : upd H a o = upd (rmH H a) a o := by
  funext b
  by_cases h : b = a
  · rw [h, upd_same, upd_same]
  · rw [upd_ne h, upd_ne h, rm_ne h]
/-- what the runs leave: the values in the order of their keys -/
def Done (κ : PyProof.Rows.KeyKind) (ps : Array Keyed) (st : SortSt) : Prop := (arrOf st).Perm ps ∧ SortedToK κ (arrOf st) ps.size ∧ Stable κ (arrOf st) ps ∧ failedOf st = none
/-- behind the keys: the runs, then the keys' list is emptied and the list gets its items -/
theorem end_sort {A : Around} {E : Value → Shared → Prop} {P : PySem.Fin → Shared → Prop} {prog : Program} {w : World} {s : Shared} {a kS : Addr} {keys : Array Value} {e e1 : Nat} {vs : List Value} {κ : PyProof.Rows.KeyKind}
    (nk : s.heap.get? kS = some (seqObj "list" keys e)) (na : s.heap.get? a = some (seqObj "list" #[] e1)) (hka : kS ≠ a) (S : PySem.W.SortsAt prog w A s κ keys.toList) (hsz : keys.size = vs.length) (hZ : vs.length ≤ sizeLine)
    (h : ∀ tk, P (.done (.ret .none)) { s with heap := (s.heap.update kS (Obj.mapSeq fun _ => (#[] : Array Value))).update a (Obj.mapSeq fun _ => (sortVals κ false keys.toList vs).toArray), toks := tk }) :
    wpAny (model prog w) A (PyProof.Rows.ksk_end a false vs.toArray e1 (.ref kS) keys) P E s := by
  have hzip : (keys.zip vs.toArray).size = vs.length := by simp [Array.size_zip, hsz]
  have hkeys := PySem.W.keysOf_zip (vs := vs) S.keys
  have hout : (sortVals κ false keys.toList vs).length = vs.length := PySem.W.sortVals_length false (by rw [Array.length_toList]; exact hsz)
  have na' : (s.heap.update kS (Obj.mapSeq fun _ => (#[] : Array Value))).get? a = some (seqObj "list" #[] e1) := by
    rw [Heap.get?_update_other s.heap _ hka.symm.symm]; exact na
  -- what is done behind the runs
  have close : ∀ st, Done κ (keys.zip vs.toArray) st → wpAny (model prog w) A (PyProof.Rows.ksk_tail a false e1 (.ref kS) st) P E s := by
    rintro st ⟨p1, p2, p3, p4⟩
    have hv : (arrOf st).map (·.2) = (sortVals κ false keys.toList vs).toArray := by
      rw [← PySem.W.sort_out (rev := false) (keys := keys) (items := vs.toArray) (xs := arrOf st) (κ := κ) hkeys p1 p2 p3, if_neg Bool.false_ne_true, Array.toArray_toList]
    unfold PyProof.Rows.ksk_tail
    dsimp only
    rw [hv, p4]
    refine wpAny_bind (listUpdate_at nk rfl (wpAny_bind (wpAny_letGo ?_)) (by omega) (Nat.zero_le _))
    refine wpAny_bind (seqEpoch_at na' rfl (wpAny_bind (listUpdate_at na' rfl ?_ (Nat.zero_le _) (by simp only [Bool.false_eq_true, if_false, List.size_toArray, hout]; omega))))
    simp only [bne_self_eq_false, Bool.false_eq_true, if_false]
    exact wpAny_pure (h _)
  unfold PyProof.Rows.ksk_end
  dsimp only
  rw [if_neg Bool.false_ne_true]
  by_cases few : vs.length < 2
  · have few' : vs.toArray.size < 2 := by rw [List.size_toArray]; exact few
    rw [if_pos few', if_pos few']
    refine wpAny_bind (wpAny_pure ?_)
    rw [StateT.run_pure]
    refine wpAny_bind (wpAny_pure (close _ ⟨.refl _, fun i k hik hk => ?_, .refl _, rfl⟩))
    have same : i = k := by omega
    rw [same]
    exact KeyOrd.kle_refl _
  · have few' : ¬ vs.toArray.size < 2 := by rw [List.size_toArray]; exact few
    rw [if_neg few', if_neg few']
    obtain ⟨kd, lt, kind⟩ := S.kind
    refine wpAny_bind (kind (by rw [Array.length_toList]; omega) _ (wpAny_bind ?_))
    have runs := H.wpS_sortRunsSt (κ := κ) (kd := kd) (a₀ := keys.zip vs.toArray) (st := SortSt.mk' kd (keys.zip vs.toArray) #[] 7 none) (Q := fun _ st => Done κ (keys.zip vs.toArray) st) (s := s) (E := E)
      lt hkeys ⟨.refl _, rfl, rfl⟩ rfl (.refl _) (by omega) fun st a1 a2 a3 a4 => ⟨a1, a3, a4, a2⟩
    refine wpAny_mono runs ?_ fun _ _ z => z
    rintro ⟨⟨⟩, st⟩ _ ⟨rfl, d⟩
    exact close st d
theorem vals_at : ∀ {ys : List V} {its : List Value}, Vals ys its → ∀ {j : Nat} {x : Value}, its[j]? = some x → ∃ y, ys[j]? = some y ∧ RelV y x
  | _, _, .nil, j, x, e => by cases e
  | _, _, .cons h t, 0, x, e => by cases e; exact ⟨_, rfl, h⟩
  | _, _, .cons h t, j + 1, x, e => vals_at t (j := j) (by simpa using e)
theorem cr_sortedF : CallRK X (.builtin "sorted") [Str.ofString "key"] (rSortedF X) := by
  intro ps s σ H xs zs us ws Q I r rz h
  obtain ⟨a, f, ys, kf, k, fd, pn, sp, rfl, rfl, hs, F, hb, hroom, hk, hal, hso, q⟩ := h
  obtain ⟨its, rv, hl, hz⟩ := I.list hs
  rw [Vals.ref1 r, Vals.ref1 rz]
  have hz' : its.length ≤ sizeLine := by rw [← rv.length]; exact hz
  show wpAny _ _ (call (.builtin "sorted") [.ref a] [(Str.ofString "key", .ref f)]) _ _ _
  refine PySem.W.sorted_of_sort hl.isList hz' (ksk_s1 _ _) (fun x => ksk_l1 _ _) fun E' => ?_
  rw [ksk_t1]
  have hc0 := PySem.W.copyHeap_at s.heap its
  have hc1 : ∀ b o, s.heap.get? b = some o → (PySem.W.copyHeap s.heap its).get? b = some o := fun b o e => PySem.W.copyHeap_old e
  have ha0 : s.heap.objs.size ≤ s.heap.objs.size + 1 := Nat.le_succ _
  have ha1 : ∀ b o, s.heap.get? b = some o → b ≠ s.heap.objs.size + 1 := fun b o e => Nat.ne_of_lt (Nat.lt_succ_of_lt (Heap.lt_size e))
  generalize s.heap.objs.size + 1 = a0 at hc0 ha0 ha1 ⊢
  generalize PySem.W.copyHeap s.heap its = h1 at hc0 hc1 ⊢
  have hn0 : H a0 = none := I.hok.fresh ha0
  unfold ksk_tree
  refine wpAny_bind (listItems_at hc0 rfl ?_)
  refine wpAny_bind (listUpdate_at hc0 rfl ?_ (by rw [List.size_toArray]; exact hz') (Nat.zero_le _))
  obtain ⟨e1, ho1⟩ : ∃ e1, (h1.update a0 (Obj.mapSeq fun _ => (#[] : Array Value))).get? a0 = some (seqObj "list" #[] e1) := ⟨_, get?_update_seq hc0 fun _ => #[]⟩
  have hs1 := Heap.SameBut.update h1 a0 (Obj.mapSeq fun _ => (#[] : Array Value))
  have hc2 : ∀ b o, s.heap.get? b = some o → (h1.update a0 (Obj.mapSeq fun _ => (#[] : Array Value))).get? b = some o := fun b o e => (hs1.2 b (ha1 b o e)).trans (hc1 b o e)
  have hsz2 : (h1.update a0 (Obj.mapSeq fun _ => (#[] : Array Value))).objs.size = h1.objs.size := Heap.size_update ..
  generalize h1.update a0 (Obj.mapSeq fun _ => (#[] : Array Value)) = h2 at ho1 hc2 hsz2 ⊢
  refine wpAny_bind (seqEpoch_at ho1 rfl ?_)
  refine wpAny_bind (wpAny_newTuple ?_ (by show its.length ≤ _; exact hz'))
  have ho2 : (h2.push (seqObj "tuple" its.toArray 0)).get? a0 = some (seqObj "list" #[] e1) := Heap.get?_push_of_some _ ho1
  have hc3 : ∀ b o, s.heap.get? b = some o → (h2.push (seqObj "tuple" its.toArray 0)).get? b = some o := fun b o e => Heap.get?_push_of_some _ (hc2 b o e)
  refine wpAny_bind (wpAny_newList ?_ (Nat.zero_le _))
  refine wpAny_holding ?_
  have I3 : Inv X ps σ (upd H a0 (.lst [])) { s with heap := h2.push (seqObj "tuple" its.toArray 0) } := I.laid (t' := s.toks) hc3 ha0 ⟨Nat.zero_le _, [], e1, .nil, ho2⟩
  have I4 := I3.lnew (its := []) (ys := []) (t' := s.toks) .nil (Nat.zero_le _)
  have hka : (h2.push (seqObj "tuple" its.toArray 0)).objs.size ≠ a0 := fun z => absurd z (Nat.ne_of_gt (Heap.lt_size ho2))
  have hnk : H (h2.push (seqObj "tuple" its.toArray 0)).objs.size = none := by
    cases hx : H (h2.push (seqObj "tuple" its.toArray 0)).objs.size with
    | none => rfl
    | some o =>
      have h5 := (I.hok _ _ hx).lt
      have h6 : s.heap.objs.size ≤ (h2.push (seqObj "tuple" its.toArray 0)).objs.size := Nat.le_trans ha0 (Nat.le_of_lt (Heap.lt_size ho2))
      exact absurd (Nat.lt_of_lt_of_le h5 h6) (Nat.lt_irrefl _)
  have hnf := I4.nofrz (d := a0) (u := .lst []) (by rw [upd_ne hka.symm, upd_same]) trivial
  obtain ⟨od, I5⟩ := I4.lock (d := a0) (u := .lst []) (by rw [upd_ne hka.symm, upd_same]) trivial
  have hod : od = seqObj "list" #[] e1 := by
    have h5 := (I5.hok a0 _ upd_same).1
    have h6 : (h2.push (seqObj "tuple" its.toArray 0)).push (seqObj "list" #[] 0) = (h2.push (seqObj "tuple" its.toArray 0)).push { cls := .type "list", data := .seq ([] : List Value).toArray } := rfl
    have h7 : ((h2.push (seqObj "tuple" its.toArray 0)).push { cls := .type "list", data := .seq ([] : List Value).toArray }).get? a0 = some (seqObj "list" #[] e1) := Heap.get?_push_of_some _ ho2
    exact Option.some.inj (h5.symm.trans h7)
  subst hod
  generalize hkS : (h2.push (seqObj "tuple" its.toArray 0)).objs.size = kS at hka hnk I5 ⊢
  have eH : upd (upd (upd H a0 (.lst [])) kS (.lst [])) a0 (.frz (seqObj "list" #[] e1) (.lst [])) = upd (upd H a0 (.frz (seqObj "list" #[] e1) (.lst []))) kS (.lst []) := by
    funext b
    by_cases hb1 : b = a0
    · subst hb1; rw [upd_same, upd_ne hka.symm, upd_same]
    · by_cases hb2 : b = kS
      · subst hb2; rw [upd_ne hb1, upd_same, upd_same]
      · rw [upd_ne hb1, upd_ne hb2, upd_ne hb1, upd_ne hb2, upd_ne hb1]
  have I6 : Inv X ps σ (upd (upd H a0 (.frz (seqObj "list" #[] e1) (.lst []))) kS (.lst [])) { s with heap := (h2.push (seqObj "tuple" its.toArray 0)).push (seqObj "list" #[] 0) } := by rw [← eH]; exact I5
  have hle0 : Le H (upd H a0 (.frz (seqObj "list" #[] e1) (.lst []))) := fun b o e => by rw [upd_ne (fun z => by rw [z, hn0] at e; cases e)]; exact e
  unfold ksk_rest
  refine wpAny_bind (wpAny_rule ?_)
  first
    | rw [List.forIn_toArray]
    | (rw [← Array.forIn_toList]; simp only [List.toList_toArray])
    | rw [← Array.forIn_toList]
  refine wpAny_bind (ksk_fold (fun i s' => ∃ (Hb : Hp) (ks : List V), Inv X ps σ (upd Hb kS (.lst ks)) s' ∧ Hb kS = none ∧ Le (upd H a0 (.frz (seqObj "list" #[] e1) (.lst []))) Hb ∧ DpAll X.K Hb ks ((ys.map kf).take i)) its 0 _
    ⟨_, [], I6.tok _, by rw [upd_ne hka]; exact hnk, fun _ _ e => e, by rw [List.take_zero]; exact .nil⟩ ?step ?done)
  case step =>
    rintro j x s' hx ⟨Hb, ks, I', hn, hle, hd⟩
    simp only [Nat.zero_add] at hd ⊢
    obtain ⟨y, hy, rxy⟩ := vals_at rv hx
    have hym := List.mem_of_getElem? hy
    have hleH : Le H (upd Hb kS (.lst ks)) := fun b o e => by
      rw [upd_ne (fun z => by rw [z, hnk] at e; cases e)]
      exact hle b o (hle0 b o e)
    have hgiven := (hk y hym).2 _ hleH
    have run : wpAny (model X.prog X.w) X.A.in1.in1 (call (.ref f) [x]) (EP X ps σ fun v H'' => Le (upd Hb kS (.lst ks)) H'' ∧ Dp X.K (fun b => if ((upd Hb kS (.lst ks)) b).isSome then none else H'' b) v (kf y)) (fun _ _ => False) s' := by
      have r2 : Vals ([y] : List V) ([x] ++ []) := .cons rxy .nil
      have hl2 : ([x] ++ ([] : List Value)).length = pn.length := by rw [← r2.length]; exact F.len _ _ _ _ hgiven
      refine wpAny_call (codeAny_mono (F.run X.A.in1.in1 X.stack s' _ ⟨[x], []⟩ ([x] ++ []) [y] _ _ hroom I'.env0.in1.in1 (hb s' [x] I'.kIn hl2) r2 hgiven) fun r s'' hq => ?_)
      cases r with
      | error e =>
        obtain ⟨_, _, _, _, _, _, _, _, _, _, _, _, z⟩ := hq
        exact z.elim
      | ok fl =>
        cases fl with
        | ret u => exact I'.after hq
        | next => exact False.elim hq
        | brk => exact False.elim hq
        | cont => exact False.elim hq
    refine wpAny_bind (wpAny_attempt (wpAny_mono run (fun v s'' he => ?_) fun _ _ hF => hF.elim))
    obtain ⟨kv, H'', I'', rk, hle2, hdk⟩ := he
    try dsimp only
    have hkl : H'' kS = some (.lst ks) := hle2 kS _ upd_same
    obtain ⟨hzk, itk, nk, rvk, hlk, ek⟩ := I''.lstM hkl
    have hkn : ks.length ≤ its.length := by
      have h7 : ks.length = ((ys.map kf).take j).length := by
        have : ∀ {vs : List V} {ds : List PyData}, DpAll X.K Hb vs ds → vs.length = ds.length := by
          intro vs ds hh
          induction vs generalizing ds with
          | nil => cases hh; rfl
          | cons v vs ih => cases hh with
            | cons _ h2 => rw [List.length_cons, List.length_cons, ih h2]
        exact this hd
      rw [h7, List.length_take, List.length_map, rv.length]; omega
    have hjl := (List.getElem?_eq_some_iff.mp hx).1
    refine wpAny_bind (listUpdate_at ek rfl ?_ (by rw [List.size_toArray, ← hlk]; exact Nat.le_trans hkn hz') (Nat.le_trans (Nat.le_of_eq (Array.size_push ..)) (Nat.succ_le_succ (by rw [List.size_toArray, ← hlk]; exact Nat.le_trans hkn hz'))))
    have hkz : ks.length + 1 ≤ sizeLine := by
      have h7 : ks.length = j := by
        have : ∀ {vs : List V} {ds : List PyData}, DpAll X.K Hb vs ds → vs.length = ds.length := by
          intro vs ds hh
          induction vs generalizing ds with
          | nil => cases hh; rfl
          | cons v vs ih => cases hh with
            | cons _ h2 => rw [List.length_cons, List.length_cons, ih h2]
        rw [this hd, List.length_take, List.length_map, rv.length]; omega
      omega
    have I7 := I''.lset (ys := ks ++ [kv]) (its' := itk ++ [v]) (t' := s''.toks) (f := (·.push v)) hkl ek (by simp) (rvk.append (.cons rk .nil)) (by rw [List.length_append]; exact hkz)
    rw [upd_rm] at I7
    refine wpAny_pure ⟨rfl, rmH H'' kS, ks ++ [kv], I7, rm_eq, fun b o e => ?_, ?_⟩
    · have hbk : b ≠ kS := fun z => by
        subst z
        have := hle b o e
        rw [hn] at this; cases this
      rw [rm_ne hbk]
      exact hle2 b o (by rw [upd_ne hbk]; exact hle b o e)
    · have e5 : (ys.map kf).take (j + 1) = (ys.map kf).take j ++ [kf y] := by rw [List.take_add_one, List.getElem?_map, hy]; rfl
      rw [e5]
      refine dpa_snoc (dp_le (fun b o e => ?_) _ _ hdk) (dp_leA (fun b o e => ?_) _ _ hd)
      · by_cases hbk : b = kS
        · subst hbk
          rw [upd_same] at e; cases e
        · rw [rm_ne hbk]
          split at e
          · cases e
          · exact e
      · have hbk : b ≠ kS := fun z => by subst z; rw [hn] at e; cases e
        rw [rm_ne hbk]
        exact hle2 b o (by rw [upd_ne hbk]; exact e)
  case done =>
    rintro s' ⟨Hb, ks, I', hn, hle, hd⟩
    have e5 : (ys.map kf).take (0 + its.length) = ys.map kf := List.take_of_length_le (by rw [List.length_map, rv.length]; omega)
    rw [e5] at hd
    obtain ⟨hzk, itk, nk, rvk, hlk, ek⟩ := I'.lstM (l := kS) (xs := ks) upd_same
    have hfz : (upd Hb kS (.lst ks)) a0 = some (.frz (seqObj "list" #[] e1) (.lst [])) := by
      rw [upd_ne hka.symm]
      exact hle a0 _ upd_same
    have na := (I'.hok a0 _ hfz).1
    have er := each_readsA I' rvk (dp_leA (H' := upd Hb kS (.lst ks)) (fun b o e => by rw [upd_ne (fun z => by subst z; rw [hn] at e; cases e)]; exact e) _ _ hd)
    have hks : itk.length = its.length := by
      have h7 := er.length
      rw [List.length_map] at h7
      rw [h7, rv.length]
    try dsimp only
    refine wpAny_bind (listItems_at ek rfl ?_)
    refine end_sort (κ := dataKind s'.heap (ys.map kf)) (vs := its) ek na hka (PySem.W.SortsAt.data (by simpa using er) hal hso fun d hdm => ?_) (by rw [List.size_toArray]; exact hks) hz' fun tk => ?_
    · obtain ⟨y, hy, rfl⟩ := List.mem_map.mp hdm
      have h7 := (hk y hy).1
      have h8 := hroom.un
      omega
    have eo := PySem.W.sortVals_each (κ := dataKind s'.heap (ys.map kf)) (rev := false) (fun b => PySem.W.keyToks (kf b)) (each_rel rv) (PySem.W.each_of_map kf (PySem.W.each_keys hal er))
    have hv := vals_each eo
    have I8 := I'.lset (ys := []) (its' := []) (t' := tk) (f := fun _ => #[]) (l := kS) upd_same ek rfl .nil (Nat.zero_le _)
    have hfz2 : upd (upd Hb kS (.lst ks)) kS (.lst []) a0 = some (.frz (seqObj "list" #[] e1) (.lst [])) := by rw [upd_ne hka.symm]; exact hfz
    have I9 := I8.unlock hfz2 hnf
    have na1 := (I8.hok a0 _ hfz2).1
    have I10 := I9.lset (ys := ys.mergeSort (dataLe false kf)) (its' := sortVals (dataKind s'.heap (ys.map kf)) false itk its) (t' := tk) (f := fun _ => (sortVals (dataKind s'.heap (ys.map kf)) false itk its).toArray) (l := a0) (its := []) upd_same na1 rfl hv (by rw [List.length_mergeSort]; exact hz)
    rw [upd_upd, upd_rm] at I10
    refine ⟨rfl, .ref a0, _, I10, rfl, q _ a0 (fun b o e => ?_) rm_eq⟩
    have hb1 : b ≠ a0 := fun z => by subst z; rw [hn0] at e; cases e
    have hb2 : b ≠ kS := fun z => by subst z; rw [hnk] at e; cases e
    rw [rm_ne hb1, upd_ne hb2, upd_ne hb2]
    exact hle b o (hle0 b o e)
end
end Kv

/-! list(zip(list, list)) -/
namespace KvY
open PySem PySem.Spec PyProof.Rows KvZ
theorem zip_no_len : typeLookup (.type "zip") "__len__" = pure none := by rw [typeLookup_type, builtinLookup_eq_fast]; kernel_rfl
theorem zip_no_hint : typeLookup (.type "zip") "__length_hint__" = pure none := by rw [typeLookup_type, builtinLookup_eq_fast]; kernel_rfl
/-- how things stand behind i pairs; all is laid from n on -/
structure At (h0 : Heap) (n : Nat) (l1 l2 : Addr) (xs ys : Array Value) (h : Heap) (i : Nat) : Prop where
  sz : h.objs.size = n + 6 + i
  lst : ∃ c, h.get? (n + 5) = some { cls := .type "list", dict := none, data := .seq ((List.range i).map fun j => Value.ref (n + 6 + j)).toArray c, slots := #[] }
  zp : (IsZip h (n + 4) (n + 2) (n + 3) .none ∧ i = 0) ∨ ∃ (k : Nat) (f : Bool) (oT : Obj), IsZipHeld h (n + 4) (n + 2) (n + 3) (n + 6 + k) f ∧ h.get? (n + 6 + k) = some oT
  ti : IsTupOf2 h (n + 2) (.ref n) (.ref (n + 1))
  to : ∃ a b, IsTupOf2 h (n + 3) a b
  u1 : h.IsListIter n l1 i ∧ h.IsList l1 xs
  u2 : h.IsListIter (n + 1) l2 i ∧ h.IsList l2 ys
  tup : ∀ j, j < i → ∃ x y, xs[j]? = some x ∧ ys[j]? = some y ∧ IsTupOf2 h (n + 6 + j) x y
  kp : ∀ (c : Addr) o, Nat.lt c n → h0.get? c = some o → h.get? c = some o
section
variable {prog : Program} {w : World} {A : Around} {h0 : Heap} {n : Nat} {l1 l2 : Addr} {xs ys : Array Value}
theorem ne_add {n a b : Nat} (h : a ≠ b) : ((n + a : Nat) : Addr) ≠ (n + b : Nat) := fun z => h (Nat.add_left_cancel z)
theorem sep (n : Nat) (h1 : Nat.lt l1 n) (h2 : Nat.lt l2 n) : ZipSep2 (n + 4) (n + 2) (n + 3) n (n + 1) [n, l1] [n + 1, l2] := by
  have e : ∀ k, ((n + k : Nat) : Addr) ≠ l1 := fun k z => by have h3 : Nat.lt (n + k) n := z ▸ h1; exact absurd h3 (Nat.not_lt.mpr (Nat.le_add_right _ _))
  have e' : ∀ k, ((n + k : Nat) : Addr) ≠ l2 := fun k z => by have h3 : Nat.lt (n + k) n := z ▸ h2; exact absurd h3 (Nat.not_lt.mpr (Nat.le_add_right _ _))
  have f0 : ∀ k, k ≠ 0 → ((n + k : Nat) : Addr) ≠ n := fun k hk z => hk (Nat.add_left_cancel (z : n + k = n + 0))
  refine ⟨ne_add (by decide), ne_add (by decide), ne_add (by decide), f0 2 (by decide), by simp, ?_, ?_, ne_add (by decide), by simp, ?_, ?_, ?_, ?_⟩
  · simp only [List.mem_cons, List.not_mem_nil, or_false, not_or]; exact ⟨f0 4 (by decide), e 4⟩
  · simp only [List.mem_cons, List.not_mem_nil, or_false, not_or]; exact ⟨f0 3 (by decide), e 3⟩
  · simp only [List.mem_cons, List.not_mem_nil, or_false, not_or]; exact ⟨ne_add (by decide), e' 4⟩
  · simp only [List.mem_cons, List.not_mem_nil, or_false, not_or]; exact ⟨ne_add (by decide), e' 3⟩
  · simp only [List.mem_cons, List.not_mem_nil, or_false, not_or]; exact ⟨(f0 1 (by decide)).symm, e' 0⟩
  · simp only [List.mem_cons, List.not_mem_nil, or_false, not_or]; exact ⟨f0 1 (by decide), e 1⟩
theorem big_ne {n a : Nat} {b : Addr} (h : Nat.lt b n) : b ≠ ((n + a : Nat) : Addr) := fun z => by
  have h3 : Nat.lt (n + a) n := z ▸ h
  exact absurd h3 (Nat.not_lt.mpr (Nat.le_add_right _ _))
theorem base_ne {n a : Nat} (h : a ≠ 0) : ((n + a : Nat) : Addr) ≠ n := fun z => h (Nat.add_left_cancel (z : n + a = n + 0))
theorem ne6 {n j b : Nat} (h : b < 6) : ((n + 6 + j : Nat) : Addr) ≠ ((n + b : Nat) : Addr) := fun z => by
  have q : n + 6 + j = n + b := z
  omega
/-- the next pair -/
theorem next {s : Shared} {i : Nat} {E : Value → Shared → Prop} {Q : Option Value → Shared → Prop} (hh : A.handled = none) (h1 : Nat.lt l1 n) (h2 : Nat.lt l2 n) (a : At h0 n l1 l2 xs ys s.heap i) (lx : i < xs.size) (ly : i < ys.size)
    (hQ : ∀ h' tk c, (h'.objs.size = n + 6 + (i + 1) ∧ h'.get? (n + 5) = some { cls := .type "list", dict := none, data := .seq ((List.range i).map fun j => Value.ref (n + 6 + j)).toArray c, slots := #[] } ∧
      (∀ h'', h''.objs.size = h'.objs.size → (∀ (b : Addr) o, b ≠ ((n + 5 : Nat) : Addr) → h'.get? b = some o → h''.get? b = some o) → (∃ c', h''.get? (n + 5) = some { cls := .type "list", dict := none, data := .seq ((List.range (i + 1)).map fun j => Value.ref (n + 6 + j)).toArray c', slots := #[] }) → At h0 n l1 l2 xs ys h'' (i + 1))) →
      Q (some (.ref (n + 6 + i))) { s with heap := h', toks := tk }) : wpAny (model prog w) A (pyNext (.ref (n + 4))) Q E s := by
  have S := sep n h1 h2
  have D1 := Draws.list (prog := prog) (w := w) (A := A.in1) hh n l1 (big_ne (a := 0) h1) xs
  have D2 := Draws.list (prog := prog) (w := w) (A := A.in1) hh (n + 1) l2 (big_ne h2) ys
  obtain ⟨c, hc⟩ := a.lst
  obtain ⟨a1, a2, hto⟩ := a.to
  have fin : ∀ (x y : Value) (h' : Heap) (tk : Nat), xs[i]? = some x → ys[i]? = some y → (∃ (k : Nat) (f : Bool) (oT : Obj), IsZipHeld h' (n + 4) (n + 2) (n + 3) (n + 6 + k) f ∧ h'.get? (n + 6 + k) = some oT) → (h'.IsListIter n l1 (i + 1) ∧ h'.IsList l1 xs) → (h'.IsListIter (n + 1) l2 (i + 1) ∧ h'.IsList l2 ys) →
      IsTupOf2 h' s.heap.objs.size x y → (∃ a b, IsTupOf2 h' (n + 3) a b) → h'.objs.size = s.heap.objs.size + 1 → (∀ (c : Addr) o, c ≠ ((n + 4 : Nat) : Addr) → c ≠ ((n + 3 : Nat) : Addr) → c ≠ n → c ≠ ((n + 1 : Nat) : Addr) → s.heap.get? c = some o → h'.get? c = some o) →
      Q (some (.ref (n + 6 + i))) { s with heap := h', toks := tk } := by
    intro x y h' tk hx hy hz hu1 hu2 hT hTO hsz hk
    have k5 : h'.get? (n + 5) = some { cls := .type "list", dict := none, data := .seq ((List.range i).map fun j => Value.ref (n + 6 + j)).toArray c, slots := #[] } := hk _ _ (ne_add (by decide)) (ne_add (by decide)) (base_ne (by decide)) (ne_add (by decide)) hc
    refine hQ h' tk c ⟨by rw [hsz, a.sz]; omega, k5, fun h'' e1 e2 e3 => ?_⟩
    have e2' : ∀ (b : Nat) o, b ≠ 5 → h'.get? ((n + b : Nat) : Addr) = some o → h''.get? ((n + b : Nat) : Addr) = some o := fun b o hb => e2 _ o (ne_add hb)
    have el : ∀ (b : Addr) o, Nat.lt b n → h'.get? b = some o → h''.get? b = some o := fun b o hb => e2 b o (big_ne hb)
    refine ⟨by rw [e1, hsz, a.sz]; omega, e3, ?_, ?_, ?_, ?_, ?_, ?_, ?_⟩
    · obtain ⟨k, f, oT, z1, z2⟩ := hz
      exact .inr ⟨k, f, oT, e2' 4 _ (by decide) z1, e2 _ _ (ne6 (by decide)) z2⟩
    · exact e2' 2 _ (by decide) (hk _ _ (ne_add (by decide)) (ne_add (by decide)) (base_ne (by decide)) (ne_add (by decide)) a.ti)
    · obtain ⟨p, q, hpq⟩ := hTO
      exact ⟨p, q, e2' 3 _ (by decide) hpq⟩
    · exact ⟨hu1.1.at fun o e => e2' 0 o (by decide) e, hu1.2.at fun o e => el l1 o h1 e⟩
    · exact ⟨hu2.1.at fun o e => e2' 1 o (by decide) e, hu2.2.at fun o e => el l2 o h2 e⟩
    · intro j hj
      rcases Nat.lt_succ_iff_lt_or_eq.mp hj with hj | rfl
      · obtain ⟨x', y', p1, p2, p3⟩ := a.tup j hj
        refine ⟨x', y', p1, p2, ?_⟩
        exact e2 _ _ (ne6 (by decide)) (hk _ _ (ne6 (by decide)) (ne6 (by decide)) (ne6 (b := 0) (by decide)) (ne6 (by decide)) p3)
      · rw [a.sz] at hT
        exact ⟨x, y, hx, hy, e2 _ _ (ne6 (by decide)) hT⟩
    · intro b o hb e
      exact el b o hb (hk b o (big_ne hb) (big_ne hb) (big_ne (a := 0) hb) (big_ne hb) (a.kp b o hb e))
  have hszc : (Value.ref s.heap.objs.size) = Value.ref (n + 6 + i) := by rw [a.sz]
  rcases a.zp with ⟨hz, hi0⟩ | ⟨k, f, oT, hz, hT⟩
  · refine wpAny_pyNext_zipD2_item S D1 D2 hz a.ti hto a.u1 a.u2 lx ly fun x1 x2 h' tk p1 p2 z' to' v1 v2 t' sz' hk => ?_
    rw [hszc]
    refine fin x1 x2 h' tk p1 p2 ⟨i, false, _, by rw [← a.sz]; exact z', by rw [← a.sz]; exact t'⟩ v1 v2 t' ⟨_, _, to'⟩ sz' fun c o e1 e2 e3 e4 e5 => hk c o e1 e2 e3 e4 e5
  · refine pyNext_held S D1 D2 hz hT a.ti a.u1 a.u2 lx ly fun x1 x2 h' tk p1 p2 z' v1 v2 t' sz' hk => ?_
    rw [hszc]
    exact fin x1 x2 h' tk p1 p2 ⟨k, true, oT, z', hk _ _ (ne6 (by decide)) (ne6 (b := 0) (by decide)) (ne6 (by decide)) hT⟩ v1 v2 t' ⟨_, _, hk _ _ (ne_add (by decide)) (base_ne (by decide)) (ne_add (by decide)) hto⟩ sz' fun c o e1 e2 e3 e4 e5 => hk c o e1 e3 e4 e5
/-- the end -/
theorem last {s : Shared} {i : Nat} {E : Value → Shared → Prop} {Q : Option Value → Shared → Prop} (hh : A.handled = none) (h1 : Nat.lt l1 n) (h2 : Nat.lt l2 n) (a : At h0 n l1 l2 xs ys s.heap i) (lx : i = xs.size) (ly : i = ys.size)
    (hQ : ∀ h' tk, (∀ (c : Addr) o, c ≠ ((n + 4 : Nat) : Addr) → c ≠ ((n + 3 : Nat) : Addr) → c ≠ n → c ≠ ((n + 1 : Nat) : Addr) → s.heap.get? c = some o → h'.get? c = some o) → Q none { s with heap := h', toks := tk }) : wpAny (model prog w) A (pyNext (.ref (n + 4))) Q E s := by
  have S := sep n h1 h2
  have D1 := Draws.list (prog := prog) (w := w) (A := A.in1) hh n l1 (big_ne (a := 0) h1) xs
  have D2 := Draws.list (prog := prog) (w := w) (A := A.in1) hh (n + 1) l2 (big_ne h2) ys
  obtain ⟨a1, a2, hto⟩ := a.to
  rcases a.zp with ⟨hz, hi0⟩ | ⟨k, f, oT, hz, hT⟩
  · exact wpAny_pyNext_zipD2_end S D1 D2 hz a.ti hto a.u1 a.u2 (by omega) (by omega) (.inl lx) hQ
  · exact pyEnd_held S D1 hz hT a.ti (by rw [← lx]; exact a.u1) fun h' tk hk => hQ h' tk fun c o e1 _ e3 _ e5 => hk c o e1 e3 e5
/-- the list takes the pairs -/
theorem fill {R : Result → Shared → Prop} (hh : A.in1.handled = none) (h1 : Nat.lt l1 n) (h2 : Nat.lt l2 n) (hsz : xs.size = ys.size) (hbig : xs.size ≤ sizeLine) : ∀ (k i : Nat) (s : Shared), xs.size - i = k → i ≤ xs.size → At h0 n l1 l2 xs ys s.heap i →
    (∀ s' : Shared, s'.gens = s.gens → s'.drawn = s.drawn → s'.os = s.os → At h0 n l1 l2 xs ys s.heap i → (∃ c, s'.heap.get? (n + 5) = some { cls := .type "list", dict := none, data := .seq ((List.range xs.size).map fun j => Value.ref (n + 6 + j)).toArray c, slots := #[] }) →
      (∀ j, j < xs.size → ∃ x y, xs[j]? = some x ∧ ys[j]? = some y ∧ IsTupOf2 s'.heap (n + 6 + j) x y) → (∀ (c : Addr) o, Nat.lt c n → h0.get? c = some o → s'.heap.get? c = some o) → R (.ok (.ret .none)) s') →
    codeAny (model prog w) A (.builtin "list.extend.loop" ⟨[.ref (n + 5), .ref (n + 4), .none], []⟩) R s := by
  intro k
  induction k with
  | zero =>
    intro i s hk hi a hR
    have hix : i = xs.size := by omega
    refine codeAny_builtin F.entry_extend_loop ?_
    rw [Around.under_plainId F.plain_extend_loop _]
    show wpAny _ A.in1 (pyNext (.ref (n + 4)) >>= _) _ _ s
    refine wpAny_bind (last hh h1 h2 a hix (by omega) fun h' tk kp => ?_)
    obtain ⟨c, hc⟩ := a.lst
    refine wpAny_pure (hR { s with heap := h', toks := tk } rfl rfl rfl a ⟨c, ?_⟩ (fun j hj => ?_) fun b o hb e => ?_)
    · rw [hix] at hc
      exact kp _ _ (ne_add (by decide)) (ne_add (by decide)) (base_ne (by decide)) (ne_add (by decide)) hc
    · obtain ⟨x, y, p1, p2, p3⟩ := a.tup j (by omega)
      exact ⟨x, y, p1, p2, kp _ _ (ne6 (by decide)) (ne6 (by decide)) (ne6 (b := 0) (by decide)) (ne6 (by decide)) p3⟩
    · exact kp b o (big_ne hb) (big_ne hb) (big_ne (a := 0) hb) (big_ne hb) (a.kp b o hb e)
  | succ k ih =>
    intro i s hk hi a hR
    refine codeAny_builtin F.entry_extend_loop ?_
    rw [Around.under_plainId F.plain_extend_loop _]
    show wpAny _ A.in1 (pyNext (.ref (n + 4)) >>= _) _ _ s
    refine wpAny_bind (next hh h1 h2 a (by omega) (by omega) fun h' tk c q => ?_)
    obtain ⟨q1, q2, q3⟩ := q
    · show wpAny _ A.in1 (updateSeq (n + 5) (·.push (.ref (n + 6 + i))) >>= _) _ _ _
      refine wpAny_bind (wpAny_updateSeq q2 rfl ?_ (by simp; omega) (by simp; omega))
      have u5 := Heap.get?_update_self (Obj.mapSeq (·.push (Value.ref (n + 6 + i)))) q2 rfl
      have aa := q3 (h'.update (n + 5) (Obj.mapSeq (·.push (Value.ref (n + 6 + i))))) (Heap.size_update ..) (fun b o hb e => (Heap.get?_update_other _ _ (Ne.symm hb)).trans e) ⟨_, by rw [u5]; simp [Obj.mapSeq, List.range_succ]; rfl⟩
      exact wpAny_pure ⟨plainId_quiet F.plain_extend_loop _, ih (i + 1) { s with heap := h'.update (n + 5) (Obj.mapSeq (·.push (Value.ref (n + 6 + i)))), toks := tk } (by omega) (by omega) aa fun s' g1 g2 g3 _ r1 r2 r3 => hR s' g1 g2 g3 a r1 r2 r3⟩
end
section
variable {prog : Program} {w : World} {A : Around} {E : Value → Shared → Prop} {s : Shared} {n : Nat} {l1 l2 : Addr} {xs ys : Array Value}
/-- list(z), z a new zip of two lists -/
theorem call_list_zip {Q : Value → Shared → Prop} (hh : A.handled = none) (hn : s.heap.objs.size = n + 5) (h1 : Nat.lt l1 n) (h2 : Nat.lt l2 n) (hxy : xs.size = ys.size) (hbig : xs.size ≤ sizeLine)
    (z : IsZip s.heap (n + 4) (n + 2) (n + 3) .none) (ti : IsTupOf2 s.heap (n + 2) (.ref n) (.ref (n + 1))) (to : ∃ a b, IsTupOf2 s.heap (n + 3) a b) (u1 : s.heap.IsListIter n l1 0 ∧ s.heap.IsList l1 xs) (u2 : s.heap.IsListIter (n + 1) l2 0 ∧ s.heap.IsList l2 ys)
    (hQ : ∀ s' : Shared, s'.gens = s.gens → s'.drawn = s.drawn → s'.os = s.os → (∃ c, s'.heap.get? (n + 5) = some { cls := .type "list", dict := none, data := .seq ((List.range xs.size).map fun j => Value.ref (n + 6 + j)).toArray c, slots := #[] }) →
      (∀ j, j < xs.size → ∃ x y, xs[j]? = some x ∧ ys[j]? = some y ∧ IsTupOf2 s'.heap (n + 6 + j) x y) → (∀ (c : Addr) o, Nat.lt c n → s.heap.get? c = some o → s'.heap.get? c = some o) → Q (.ref (n + 5)) s') :
    wpAny (model prog w) A (call (.type "list") [.ref (n + 4)]) Q E s := by
  refine callType_codes (Q₁ := fun obj s₁ => obj = .ref (n + 5) ∧ s₁ = { s with heap := s.heap.push { cls := .type "list", data := .seq #[] } }) F.called_list (F.typeCall_list_1 _) F.entry_list_init
    (code_list_new _ ⟨by rw [hn], rfl⟩) fun obj s₁ e₁ => ?_
  obtain ⟨rfl, rfl⟩ := e₁
  have hS : (s.heap.push { cls := .type "list", data := .seq #[] }).get? (n + 5) = some { cls := .type "list", data := .seq #[] } := by rw [← hn]; exact Heap.get?_push_size _ rfl
  have pk : ∀ b o, s.heap.get? b = some o → (s.heap.push { cls := .type "list", data := .seq #[] }).get? b = some o := fun b o e => Heap.get?_push_of_some _ e
  have tz : Shared.TypeIs { s with heap := s.heap.push { cls := .type "list", data := .seq #[] } } (.ref (n + 4)) "zip" := ⟨_, pk _ _ z, rfl⟩
  refine ⟨⟨_, hS, rfl⟩, F.args_list_init_2 _ _, ?_⟩
  show wpAny _ A.in1.in1 (do let old ← Builtin.List.listItems (.ref (n + 5)); Builtin.List.listUpdate (.ref (n + 5)) (fun _ => #[]); letGo old.toList.reverse; Builtin.List.listExtendWith (.ref (n + 5)) (.ref (n + 4)) .none) _ _ _
  refine wpAny_bind ?_
  unfold Builtin.List.listItems
  refine wpAny_bind (wpAny_seqItems hS rfl (wpAny_pure ?_))
  show wpAny _ A.in1.in1 (updateSeq (n + 5) (fun _ => #[]) >>= fun _ => letGo (#[] : Array Value).toList.reverse >>= fun _ => Builtin.List.listExtendWith (.ref (n + 5)) (.ref (n + 4)) .none) _ _ _
  have b1 := Heap.SameBut.update (s.heap.push { cls := .type "list", data := .seq #[] }) (n + 5) (Obj.mapSeq (fun _ => (#[] : Array Value)))
  have hS1 := Heap.get?_update_self (Obj.mapSeq (fun _ => (#[] : Array Value))) hS rfl
  refine wpAny_bind (wpAny_updateSeq hS rfl ?_)
  have sz1 : ((s.heap.push { cls := .type "list", data := .seq #[] }).update (n + 5) (Obj.mapSeq (fun _ => (#[] : Array Value)))).objs.size = n + 6 := by rw [Heap.size_update, Heap.size_push, hn]
  have k1 : ∀ (b : Addr) o, b ≠ ((n + 5 : Nat) : Addr) → s.heap.get? b = some o → ((s.heap.push { cls := .type "list", data := .seq #[] }).update (n + 5) (Obj.mapSeq (fun _ => (#[] : Array Value)))).get? b = some o := fun b o hb e => (b1.2 b hb).trans (pk b o e)
  generalize (s.heap.push { cls := .type "list", data := .seq #[] }).update (n + 5) (Obj.mapSeq (fun _ => (#[] : Array Value))) = g1 at hS1 sz1 k1 ⊢
  refine wpAny_bind (wpAny_letGo ?_)
  have tz1 : Shared.TypeIs { s with heap := g1 } (.ref (n + 4)) "zip" := ⟨_, k1 _ _ (ne_add (by decide)) z, rfl⟩
  unfold Builtin.List.listExtendWith
  refine wpAny_bind (wpAny_typeOf tz1 ?_)
  have e1 : Builtin.List.listSameRef (.ref (n + 5)) (.ref (n + 4)) = false := by simp [Builtin.List.listSameRef]
  have e2 : (Value.type "zip" == Value.type "list") = false := by decide
  have e3 : (Value.type "zip" == Value.type "tuple") = false := by decide
  simp only [e1, e2, e3, Bool.or_false, Bool.false_eq_true, if_false]
  refine wpAny_bind (wpAny_pyIter_zip (k1 _ _ (ne_add (by decide)) z) ?_)
  refine wpAny_bind (wpAny_holding ?_)
  unfold Builtin.List.listLengthHint
  refine wpAny_bind (wpAny_specialOf tz1 zip_no_len ?_)
  show wpAny _ A.in1.in1 (specialOf (Value.ref (n + 4)) (Str.ofString "__length_hint__") >>= _) _ _ _
  refine wpAny_bind (wpAny_specialOf tz1 zip_no_hint ?_)
  refine wpAny_pure ?_
  show wpAny _ A.in1.in1 (rule "list.extend.makes-room" >>= fun _ => Builtin.List.listTouch (.ref (n + 5)) >>= fun _ => again (.builtin "list.extend.loop" ⟨[.ref (n + 5), .ref (n + 4), .none], []⟩)) _ _ _
  refine wpAny_bind (wpAny_rule (wpAny_bind ?_))
  show wpAny _ A.in1.in1 (updateSeq (n + 5) (·.push .none) >>= fun _ => updateSeq (n + 5) (·.pop)) _ _ _
  refine wpAny_bind (wpAny_updateSeq hS1 rfl ?_)
  have hS2 := Heap.get?_update_self (Obj.mapSeq (·.push Value.none)) hS1 rfl
  refine wpAny_updateSeq (hz := by seq_fits) hS2 rfl ?_
  have hS3 := Heap.get?_update_self (Obj.mapSeq (·.pop)) hS2 rfl
  have k3 : ∀ (b : Addr) o, b ≠ ((n + 5 : Nat) : Addr) → s.heap.get? b = some o → ((g1.update (n + 5) (Obj.mapSeq (·.push Value.none))).update (n + 5) (Obj.mapSeq (·.pop))).get? b = some o :=
    fun b o hb e => (Heap.get?_update_other _ _ (Ne.symm hb)).trans ((Heap.get?_update_other _ _ (Ne.symm hb)).trans (k1 b o hb e))
  have sz3 : ((g1.update (n + 5) (Obj.mapSeq (·.push Value.none))).update (n + 5) (Obj.mapSeq (·.pop))).objs.size = n + 6 := by rw [Heap.size_update, Heap.size_update, sz1]
  generalize (g1.update (n + 5) (Obj.mapSeq (·.push Value.none))).update (n + 5) (Obj.mapSeq (·.pop)) = g3 at hS3 k3 sz3 ⊢
  obtain ⟨p, q, hto⟩ := to
  have a0 : At s.heap n l1 l2 xs ys g3 0 := by
    refine ⟨sz3, ⟨_, hS3⟩, .inl ⟨k3 _ _ (ne_add (by decide)) z, rfl⟩, k3 _ _ (ne_add (by decide)) ti, ⟨p, q, k3 _ _ (ne_add (by decide)) hto⟩, ?_, ?_, fun j hj => absurd hj (Nat.not_lt_zero _), fun b o hb e => k3 b o (big_ne hb) e⟩
    · exact ⟨u1.1.at fun o e => k3 _ o (fun z => (base_ne (a := 5) (by decide)) z.symm) e, u1.2.at fun o e => k3 _ o (big_ne h1) e⟩
    · exact ⟨u2.1.at fun o e => k3 _ o (ne_add (by decide)) e, u2.2.at fun o e => k3 _ o (big_ne h2) e⟩
  refine wpAny_pure ⟨plainId_quiet F.plain_extend_loop _, fill (A := A.in1) (h0 := s.heap) hh h1 h2 hxy hbig _ 0 { s with heap := g3 } rfl (Nat.zero_le _) a0 fun s' e1 e2 e3 _ r1 r2 r3 => ?_⟩
  exact ⟨rfl, hQ s' e1 e2 e3 r1 r2 r3⟩
end
section
open L2 Kv
variable {X : Cx} {pins : List (Addr × Obj)} {σ : L2.St} {H : Hp} {s : Shared}
/-- pairs at b0, b0 + 1, .. -/
def tupH (H : Hp) (b0 : Nat) (xs ys : List V) : Nat → Hp
  | 0 => H
  | k + 1 => upd (tupH H b0 xs ys k) (b0 + k) (.tup [xs.getD k .non, ys.getD k .non])
theorem tupH_lt {b0 : Nat} {xs ys : List V} : ∀ (k : Nat) (b : Addr), Nat.lt b b0 → tupH H b0 xs ys k b = H b
  | 0, _, _ => rfl
  | k + 1, b, h => by
    show upd _ _ _ b = _
    rw [upd_ne (big_ne h)]; exact tupH_lt k b h
theorem tupH_ge {b0 : Nat} {xs ys : List V} : ∀ (k j : Nat), k ≤ j → tupH H b0 xs ys k ((b0 + j : Nat) : Addr) = H ((b0 + j : Nat) : Addr)
  | 0, _, _ => rfl
  | k + 1, j, h => by
    show upd _ _ _ _ = _
    rw [upd_ne (ne_add (by omega))]; exact tupH_ge k j (by omega)
theorem tupH_at {b0 : Nat} {xs ys : List V} : ∀ (k j : Nat), j < k → tupH H b0 xs ys k ((b0 + j : Nat) : Addr) = some (.tup [xs.getD j .non, ys.getD j .non])
  | 0, _, h => absurd h (Nat.not_lt_zero _)
  | k + 1, j, h => by
    show upd _ _ _ _ = _
    rcases Nat.lt_succ_iff_lt_or_eq.mp h with h | rfl
    · rw [upd_ne (ne_add (by omega))]; exact tupH_at k j h
    · exact upd_same
theorem vals_get : ∀ {xs : List V} {us : List Value}, Vals xs us → ∀ {j : Nat} {u : Value}, us[j]? = some u → RelV (xs.getD j .non) u
  | _, _, .nil, _, _, e => by cases e
  | _, _, .cons h t, 0, _, e => by cases e; exact h
  | _, _, .cons h t, j + 1, _, e => vals_get t (j := j) (by simpa using e)
theorem inv_pairs {s0 : Shared} {b0 : Nat} {xs ys : List V} {us ws : List Value} (I0 : Inv X pins σ H s0) (I : Inv X pins σ H s) (hb : s0.heap.objs.size ≤ b0) (rx : Vals xs us) (ry : Vals ys ws) :
    ∀ k, (∀ j, j < k → ∃ x y, us[j]? = some x ∧ ws[j]? = some y ∧ IsTupOf2 s.heap ((b0 + j : Nat) : Addr) x y) → Inv X pins σ (tupH H b0 xs ys k) s
  | 0, _ => I
  | k + 1, h => by
    have ih := inv_pairs I0 I hb rx ry k fun j hj => h j (by omega)
    obtain ⟨x, y, e1, e2, e3⟩ := h k (by omega)
    have hn : tupH H b0 xs ys k ((b0 + k : Nat) : Addr) = none := by
      rw [tupH_ge k k (Nat.le_refl _)]
      exact I0.hok.fresh (Nat.le_trans hb (Nat.le_add_right _ _))
    have fp := I0.fpOk (H' := tupH H b0 xs ys k) (b := ((b0 + k : Nat) : Addr)) (Nat.le_trans hb (Nat.le_add_right _ _)) hn
    exact ih.take (t' := s.toks) (h' := s.heap) (fun _ _ _ e => e) fp ⟨by show 2 ≤ sizeLine; decide, [x, y], .cons (vals_get rx e1) (.cons (vals_get ry e2) .nil), ⟨_, e3, rfl, _, rfl⟩⟩
theorem vals_range (b0 : Nat) : ∀ m : Nat, Vals ((List.range m).map fun j => V.ref (b0 + j)) ((List.range m).map fun j => Value.ref (b0 + j)) := by
  intro m
  have go : ∀ l : List Nat, Vals (l.map fun j => V.ref (b0 + j)) (l.map fun j => Value.ref (b0 + j)) := by
    intro l
    induction l with
    | nil => exact .nil
    | cons a l ih => exact .cons rfl ih
  exact go _
variable {e1 e2 : Expr} {ta : TA} {p p2 pos2 pos : Pos}
/-- list(zip(xs, ys)), lists of one length -/
theorem pe_lzip (hc : X.calm = true) (hg : Gl X "list") (hm : X.mg "list" = none) (gz : Gl X "zip") (mz : X.mg "zip" = none) (ha : PA X [e1, e2] ta)
    (hs : starEach [e1, e2] X.env = (false, eval e1 X.env) :: starEach [e2] X.env := by rfl) (hpl : (backTo pos2 (starEach [e2] X.env)).any (·.1) = false := by rfl)
    (hs1 : starEach [.Call (.Name "zip" p2) [e1, e2] [] pos2] X.env = (false, eval (.Call (.Name "zip" p2) [e1, e2] [] pos2) X.env) :: starEach [] X.env := by rfl) (hpl1 : (backTo pos (starEach [] X.env)).any (·.1) = false := by rfl) :
    PE X (.Call (.Name "list" p) [.Call (.Name "zip" p2) [e1, e2] [] pos2] [] pos)
      (fun σ H Q => ta σ H fun vs H1 => ∃ (a b : Addr) (xs ys : List V), vs = [.ref a, .ref b] ∧ SqL X.K H1 a xs ∧ SqL X.K H1 b ys ∧ xs.length = ys.length ∧ ∀ H2 (r : Addr) (ts : List Addr), Le H1 H2 → ts.length = xs.length →
        (∀ t ∈ ts, H1 t = none) → (∀ j t, ts[j]? = some t → H2 t = some (.tup [xs.getD j .non, ys.getD j .non])) → r ∉ ts → H1 r = none → H2 r = some (.lst (ts.map V.ref)) → Q (.ref r) H2) := by
  refine ⟨fun ps s σ H Q I h => ?_⟩
  refine wpAny_Call_Name_kw (ld_blt I hg hm PyProof.Rows.boot_list ?_)
  refine PyProof.Rows.callWith_type1 ?_ hs1 hpl1
  rw [hs1]
  show wpAny _ _ (spliced ((false, eval (.Call (.Name "zip" p2) [e1, e2] [] pos2) X.env) :: backTo pos (starEach [] X.env))) _ _ s
  refine Calls.spliced_cons ?_
  refine wpAny_Call_Name_kw (ld_blt I gz mz PyProof.Rows.boot_zip ?_)
  refine PyProof.Rows.callWith_type1 (thn (ha.run pos2 ps s σ H _ I h) fun us s1 ⟨vs, H1, I1, r1, q1⟩ => ?_) hs hpl
  obtain ⟨a, b, xs, ys, rfl, hx, hy, hl, q⟩ := q1
  obtain ⟨ua, ub, rfl, ra, rb⟩ := vals2 r1
  cases ra
  cases rb
  obtain ⟨its, rx, plx, hzx⟩ := I1.list hx
  obtain ⟨itt, ry, ply, hzy⟩ := I1.list hy
  refine call_zip_2 plx.isList ply.isList fun h' k1 k2 k3 k4 k5 sz hk => ?_
  refine Calls.spliced_nil ?_
  have la : Nat.lt a s1.heap.objs.size := by obtain ⟨o, e, _⟩ := plx.isList; exact Heap.lt_size e
  have lb : Nat.lt b s1.heap.objs.size := by obtain ⟨o, e, _⟩ := ply.isList; exact Heap.lt_size e
  have keepL : ∀ {l : Addr} {xs : Array Value}, s1.heap.IsList l xs → h'.IsList l xs := fun ⟨o, e, r⟩ => ⟨o, hk _ _ e, r⟩
  have hlen : its.toArray.size = itt.toArray.size := by rw [List.size_toArray, List.size_toArray, ← rx.length, ← ry.length, hl]
  refine call_list_zip (s := { s1 with heap := h' }) (n := s1.heap.objs.size) (I1.ok.hd hc) sz la lb hlen (by rw [List.size_toArray, ← rx.length]; exact hzx) k1 k2 ⟨_, _, k3⟩ ⟨k4, keepL plx.isList⟩ ⟨k5, keepL ply.isList⟩ fun s' g1 g2 g3 ⟨c, hlst⟩ htup hkp => ?_
  have hm : its.toArray.size = xs.length := by rw [List.size_toArray, ← rx.length]
  rw [hm] at hlst htup
  have kall : ∀ c o, s1.heap.get? c = some o → s'.heap.get? c = some o := fun c o e => hkp c o (Heap.lt_size e) (hk c o e)
  have es : s' = { s1 with heap := s'.heap, toks := s'.toks } := by
    cases s'
    cases s1
    cases g1
    cases g2
    cases g3
    rfl
  have I2 : Inv X ps σ H1 s' := by rw [es]; exact I1.kept kall
  have I3 := inv_pairs (b0 := s1.heap.objs.size + 6) I1 I2 (Nat.le_add_right _ _) rx ry xs.length (fun j hj => by
    obtain ⟨x, y, q1, q2, q3⟩ := htup j hj
    exact ⟨x, y, by simpa using q1, by simpa using q2, q3⟩)
  have hr0 : tupH H1 (s1.heap.objs.size + 6) xs ys xs.length (s1.heap.objs.size + 5) = none := by
    rw [tupH_lt _ _ (show Nat.lt (s1.heap.objs.size + 5) (s1.heap.objs.size + 6) from Nat.lt_succ_self _)]
    exact I1.hok.fresh (Nat.le_add_right _ _)
  have I4 := I3.take (t' := s'.toks) (h' := s'.heap) (o := .lst ((List.range xs.length).map fun j => V.ref (s1.heap.objs.size + 6 + j))) (fun _ _ _ e => e) (I1.fpOk (b := s1.heap.objs.size + 5) (Nat.le_add_right _ _) hr0)
    ⟨by rw [List.length_map, List.length_range]; exact hzx, _, c, vals_range _ _, hlst⟩
  refine ⟨.ref (s1.heap.objs.size + 5), _, I4, rfl, q _ _ ((List.range xs.length).map fun j => s1.heap.objs.size + 6 + j) (fun b o e => ?_) (by simp) (fun t ht => ?_) (fun j t ht => ?_) ?_ (I1.hok.fresh (Nat.le_add_right _ _)) ?_⟩
  · have hlt : Nat.lt b s1.heap.objs.size := (I1.hok b o e).lt
    rw [upd_ne (big_ne hlt), tupH_lt _ _ (Nat.lt_of_lt_of_le hlt (Nat.le_add_right _ _))]
    exact e
  · obtain ⟨j, _, rfl⟩ := List.mem_map.mp ht
    exact I1.hok.fresh (Nat.le_trans (Nat.le_add_right _ _) (Nat.le_add_right _ _))
  · rw [List.getElem?_map] at ht
    obtain ⟨j', hj', rfl⟩ := Option.map_eq_some_iff.mp ht
    have hjj : j' = j ∧ j < xs.length := by
      obtain ⟨h1, h2⟩ := List.getElem?_eq_some_iff.mp hj'
      rw [List.getElem_range] at h2
      rw [List.length_range] at h1
      exact ⟨h2.symm, h1⟩
    rw [hjj.1, upd_ne (ne6 (by decide)), tupH_at _ _ hjj.2]
  · intro hm
    obtain ⟨j, _, hj⟩ := List.mem_map.mp hm
    exact ne6 (n := s1.heap.objs.size) (j := j) (b := 5) (by decide) hj
  · rw [upd_same, List.map_map]; rfl
end
end KvY
namespace Kv
open PySem PySem.Spec PyProof.Rows L2
section
variable {X : Cx} {σ : L2.St} {B : Hp} {L : HL} {Q : KQ} {D : KD} {e1 e2 : Expr} {p p2 pos2 pos : Pos}
/-- list(zip(xs, ys)): the pairs go to the base -/
theorem k_lzip (hm : X.mg "list" = none) (mz : X.mg "zip" = none) (h : kA X [e1, e2] σ B L fun vs B1 L1 => ∃ (a b : Addr) (xs ys : List V), vs = [.ref a, .ref b] ∧ Ls X.K B1 L1 a xs ∧ Ls X.K B1 L1 b ys ∧ xs.length = ys.length ∧
      ∀ B2 (r : Addr) (ts : List Addr), Le B1 B2 → ts.length = xs.length → (∀ j t, ts[j]? = some t → B2 t = some (.tup [xs.getD j .non, ys.getD j .non])) → Q (.ref r) B2 ((r, .lst (ts.map V.ref)) :: L1))
    (hc : X.calm = true := by rfl) (hg : Gl X "list" := by rfl) (gz : Gl X "zip" := by rfl)
    (hs : starEach [e1, e2] X.env = (false, eval e1 X.env) :: starEach [e2] X.env := by rfl) (hpl : (backTo pos2 (starEach [e2] X.env)).any (·.1) = false := by rfl)
    (hs1 : starEach [.Call (.Name "zip" p2) [e1, e2] [] pos2] X.env = (false, eval (.Call (.Name "zip" p2) [e1, e2] [] pos2) X.env) :: starEach [] X.env := by rfl) (hpl1 : (backTo pos (starEach [] X.env)).any (·.1) = false := by rfl) :
    kE X (.Call (.Name "list" p) [.Call (.Name "zip" p2) [e1, e2] [] pos2] [] pos) σ B L Q :=
  ⟨_, KvY.pe_lzip hc hg hm gz mz pa_c hs hpl hs1 hpl1, fun H s => toA s h fun vs H1 B1 L1 s1 ⟨a, b, xs, ys, e, h1, h2, hl, q⟩ => ⟨a, b, xs, ys, e, h1.at s1, h2.at s1, hl, fun H2 r ts le hts hn htp hrn hr1 hr2 => by
    have nb : ∀ t ∈ ts, B1 t = none := fun t ht => s1.free (hn t ht)
    refine ⟨fun b => if b ∈ ts then H2 b else B1 b, (r, .lst (ts.map V.ref)) :: L1, ⟨fun b o e => ?_, fun p hp => ?_, fun p hp => ?_, ?_⟩, q _ r ts (fun b o e => ?_) hts fun j t ht => ?_⟩
    · split at e
      · exact e
      · exact le _ _ (s1.ext _ _ e)
    · rcases List.mem_cons.mp hp with rfl | hp
      · exact hr2
      · exact le _ _ (s1.own p hp)
    · rcases List.mem_cons.mp hp with rfl | hp
      · show (if r ∈ ts then H2 r else B1 r) = none
        rw [if_neg hrn]; exact s1.free hr1
      · have hpt : p.1 ∉ ts := fun hm => by
          have := hn _ hm
          rw [s1.own p hp] at this; cases this
        show (if p.1 ∈ ts then H2 p.1 else B1 p.1) = none
        rw [if_neg hpt]; exact s1.nb p hp
    · rw [List.map_cons, List.nodup_cons]
      exact ⟨s1.notin hr1, s1.nd⟩
    · have hbt : b ∉ ts := fun hm => by
        have := nb b hm
        rw [e] at this; cases this
      show (if b ∈ ts then H2 b else B1 b) = _
      rw [if_neg hbt]; exact e
    · show (if t ∈ ts then H2 t else B1 t) = _
      rw [if_pos (List.mem_of_getElem? ht)]
      exact htp j t ht⟩⟩
end
end Kv

/-! for over a tuple that the head makes; comprehensions over lists of pairs. -/
namespace Kv
open PySem PySem.Spec PyProof.Rows L2
section
variable {X : Cx} {σ : L2.St} {B : Hp} {L : HL} {Q : KQ} {D : KD} {pos p2 pos' : Pos} {e iter a b c elt : Expr} {scope : Scope}
theorem k_for_t2 {tg : Expr} {body : List Stmt} (hp : PassesOwn (model X.prog X.w) X.A X.env X.xe)
    (h : kE X iter σ B L fun v B1 L1 => ∃ (a : Addr) (xs : List V) (Pv : Nat → KN), v = .ref a ∧ Tp X.K B1 L1 a xs ∧ Pv 0 σ B1 L1 ∧ (∀ i σ B L, i ≤ xs.length → Pv i σ B L → Tp X.K B L a xs) ∧
      (∀ i x σ B L, xs[i]? = some x → Pv i σ B L → kG X tg x σ B L fun σ2 B2 L2 => kSs X body σ2 B2 L2 { D with nx := Pv (i + 1), ct := Pv (i + 1), bk := D.nx }) ∧ ∀ σ B L, Pv xs.length σ B L → D.nx σ B L)
    (hc : X.calm = true := by rfl) (hs : ∀ x, foldedSetIterable iter X.env x = pure x := by intro _; rfl) : kS X (.For tg iter body [] pos) σ B L D :=
  k_for hp (r_tup (by
    obtain ⟨t, h1, h2⟩ := h
    refine ⟨_, pe_c, fun H s => toE s ⟨t, h1, h2⟩ fun v H' B' L' s' ⟨a, xs, Pv, e, hl, p0, hL, ht, hd⟩ => ⟨B', L', s', a, xs, e, hl, xs.length, _, _, Pv, walk_tup, p0, fun i σ B L H hi p s => (hL i σ B L hi p).at s, fun i x σ B L H H' hi p s y => ?_, hd⟩⟩
    obtain ⟨rfl, hx⟩ := y
    exact ⟨B, L, s, ht i x σ B L hx p⟩)) hc hs
/-- a list of pairs of texts -/
abbrev pV (q : List Nat × List Nat) : List V := [.str (sOf q.1), .str (sOf q.2)]
def Prs (K : PySem.W.Frag) (B : Hp) (L : HL) (p : Addr) (ts : List Addr) (ps : List (List Nat × List Nat)) : Prop := Ls K B L p (ts.map V.ref) ∧ ts.length = ps.length ∧ ∀ (j : Nat) t q, ts[j]? = some t → ps[j]? = some q → B t = some (.tup (pV q))
/-- [elt for x, y in a list of pairs] -/
theorem k_lcm_p {x y : Str} {i j kk : Nat} {px py tpos : Pos} (g : List Nat × List Nat → V) (hN : X.N.Nodup) (ok : BlkOk X.N X.env.scope scope [(x, i), (y, j)])
    (h : kE X iter σ B L fun v B1 L1 => ∃ (a : Addr) (ts : List Addr) (ps : List (List Nat × List Nat)), v = .ref a ∧ Prs X.K B1 L1 a ts ps ∧ ps.length ≤ 16777216 ∧ (∀ q ∈ ps, ∀ D acc s H0 C cl fp, kE (Bk X scope s H0 C cl fp) elt ((σ.set i (some (.str (sOf q.1)))).set j (some (.str (sOf q.2)))) B1 ((D, .lst acc) :: L1) fun y B3 L3 => y = g q ∧ B3 = B1 ∧ L3 = (D, .lst acc) :: L1) ∧
      ∀ D, Q (.ref D) B1 ((D, .lst (ps.map g)) :: L1))
    (hp : ∀ s H0 C cl fp, Loc (Bk X scope s H0 C cl fp).env.scope x ∧ Loc (Bk X scope s H0 C cl fp).env.scope y := by intro _ _ _ _ _; exact ⟨Or.inl rfl, Or.inl rfl⟩) (hf : ∀ s H0 C cl fp, (Bk X scope s H0 C cl fp).env.scope.names.lookup x = some .local ∧ (Bk X scope s H0 C cl fp).env.scope.names.lookup y = some .local := by intro _ _ _ _ _; exact ⟨rfl, rfl⟩)
    (hn : ∀ s H0 C cl fp, (assignEach [.Name x px, .Name y py] (Bk X scope s H0 C cl fp).env).length = 2 := by intro _ _ _ _ _; rfl) (hfi : ∀ s H0 C cl fp, (assignEach [.Name x px, .Name y py] (Bk X scope s H0 C cl fp).env).findIdx? (·.1) = none := by intro _ _ _ _ _; rfl)
    (h1 : ∀ s H0 C cl fp, (assignEach [.Name x px, .Name y py] (Bk X scope s H0 C cl fp).env).map (·.2) = assign (.Name x px) (Bk X scope s H0 C cl fp).env :: (assignEach [.Name y py] (Bk X scope s H0 C cl fp).env).map (·.2) := by intro _ _ _ _ _; rfl)
    (h2 : ∀ s H0 C cl fp, (assignEach [.Name y py] (Bk X scope s H0 C cl fp).env).map (·.2) = assign (.Name y py) (Bk X scope s H0 C cl fp).env :: (assignEach [] (Bk X scope s H0 C cl fp).env).map (·.2) := by intro _ _ _ _ _; rfl)
    (hi : X.N[i]? = some x := by rfl) (hj : X.N[j]? = some y := by rfl) (hc : X.calm = true := by rfl) (hs : ∀ x, foldedSetIterable iter X.env x = pure x := by intro _; rfl) :
    kL X elt (.Tuple [.Name x px, .Name y py] kk tpos) iter [] scope [(x, i), (y, j)] σ B L Q :=
  k_lc hN ok (r_list (by
    obtain ⟨t, k1, k2⟩ := h
    refine ⟨_, pe_c, fun H s => toE s ⟨t, k1, k2⟩ fun v H' B1 L1 s' ⟨a, ts, ps, e, hpr, hl, ht, hd⟩ => ⟨B1, L1, s', a, ts.map V.ref, e, hpr.1, (ts.map V.ref).length, _, _, fun i acc B L => B = B1 ∧ L = L1 ∧ acc = (ps.map g).take i, walk_list, ⟨rfl, rfl, by simp⟩, ?_, ?_, ?_⟩⟩
    · rintro i acc B L H hi ⟨rfl, rfl, _⟩ s
      exact hpr.1.at s
    · rintro D n acc z B L H H' hn' ⟨rfl, rfl, rfl⟩ s ⟨rfl, hx⟩
      rw [List.getElem?_map] at hx
      obtain ⟨tn, htn, rfl⟩ := Option.map_eq_some_iff.mp hx
      have hnl := (List.getElem?_eq_some_iff.mp htn).1
      have hlen := hpr.2.1
      obtain ⟨q, hq⟩ : ∃ q, ps[n]? = some q := ⟨_, List.getElem?_eq_getElem (by omega)⟩
      have hqm := List.mem_of_getElem? hq
      have htup := hpr.2.2 n tn q htn hq
      refine ⟨_, _, s, fun sa Ha Ca cla fpa => ?_⟩
      have hT : Tp (Bk X scope sa Ha Ca cla fpa).K B ((D, .lst ((ps.map g).take n)) :: L) tn (pV q) := .inl (.inl (.inl htup))
      refine g_tup (n := 2) hT rfl ?_ hc (hn sa Ha Ca cla fpa) (hfi sa Ha Ca cla fpa)
      refine gs_cons (g_name i ?_ hN hi (hp sa Ha Ca cla fpa).1 (.inr (hf sa Ha Ca cla fpa).1)) (h1 sa Ha Ca cla fpa)
      refine gs_cons (g_name j ?_ hN hj (hp sa Ha Ca cla fpa).2 (.inr (hf sa Ha Ca cla fpa).2)) (h2 sa Ha Ca cla fpa)
      refine gs_nil ⟨wipe2 σ i j _ _, fun sb Hb Cb clb fpb => ?_⟩
      show kE _ _ (((wipe σ [i, j]).set i _).set j _) _ _ _
      rw [wipe2']
      obtain ⟨t2, m1, m2⟩ := ht q hqm D ((ps.map g).take n) sb Hb Cb clb fpb
      refine ⟨_, pe_c, fun H s => toE s ⟨t2, m1, m2⟩ fun y H2 B2 L2 s2 ⟨e1, e2, e3⟩ => ⟨B2, L2, s2, ?_, L, e3, e2, rfl, ?_⟩⟩
      · simp; omega
      · rw [e1, List.take_add_one, List.getElem?_map, hq]; simp
    · rintro acc B L D ⟨rfl, rfl, rfl⟩
      have hlen := hpr.2.1
      have e2 : (ts.map V.ref).length = (ps.map g).length := by rw [List.length_map, List.length_map, hlen]
      rw [e2, List.take_length]
      exact hd D)) hc hs
end
end Kv

/-! Defs as values; more of lists. -/
namespace Kv
open PySem PySem.Spec PyProof.Rows L2
/-- a def as a value -/
structure FnV (P : Program) (w : World) (K : PySem.W.Frag) (mg : Str → Option Value) (base : Heap) (k : Nat) (f : Addr) (sp : Sp) : Prop where
  ex : ∃ fd ps, FnOk P w K mg base (L2.CX P w) k f fd ps sp ∧ PySem.W.keepIn K (.ref f) = true ∧ Binds K fd ps []
theorem Fn.val {P : Program} {w : World} {K : PySem.W.Frag} {mg : Str → Option Value} {base : Heap} {k : Nat} {x : Str} {sp : Sp} (F : Fn P w K mg base k x sp) : ∃ f, mg x = some (.ref f) ∧ FnV P w K mg base k f sp := by
  obtain ⟨f, fd, ps, h1, h2, h3, h4⟩ := F.ex
  exact ⟨f, h2, ⟨fd, ps, h1, h3, h4⟩⟩
section
variable {X : Cx} {σ : L2.St} {B : Hp} {L : HL} {Q : KQ} {pos p2 : Pos} {a b e : Expr} {es rest : List Expr}
theorem pe_callLS {i k : Nat} {f : Addr} {fd : FuncData} {ps : List Str} {sp : Sp} {E : L2.St → XK} {x : Str} {t : TA} (F : FnOk X.prog X.w X.K X.mg X.base (L2.CX X.prog X.w) k f fd ps sp) (hr : Room k X.A) (hN : X.N[i]? = some x) (hv : Vis X.env.scope x) (hk : PySem.W.keepIn X.K (.ref f) = true) (hb : Binds X.K fd ps []) (hx : ∀ σ, PassesAt (L2.CX X.prog X.w) X σ (E σ)) (ha : PA X (e :: es) t)
    (hdb : (x == ("__debug__" : Str)) = false := by decide) (hcd : (x == ("__classdict__" : Str)) = false := by decide)
    (he : starEach (e :: es) X.env = (false, eval e X.env) :: starEach es X.env := by rfl) (hpl : (backTo pos (starEach es X.env)).any (·.1) = false := by rfl) :
    PE X (.Call (.Name x p2) (e :: es) [] pos) (fun σ H Q => σ[i]? = some (some (.ref f)) ∧ t σ H fun vs H1 => sp vs H1 Q (E σ)) := by
  refine ⟨fun pins s σ H Q I h => ?_⟩
  obtain ⟨hs, ht⟩ := h
  refine wpAny_Call_Name_kw (thn ((pe_var (pos := p2) hN hv hdb hcd).run pins s σ H (fun v H1 => v = .ref f ∧ H1 = H) I ⟨.ref f, hs, rfl, rfl⟩) fun u s1 ⟨v, H1, I1, r1, q1⟩ => ?_)
  obtain ⟨rfl, rfl⟩ := q1
  cases r1
  refine PySem.W.callWith_K (h₀ := X.base) I.ok.mod.kin hk (thn (ha.run pos pins s1 σ _ _ I1 ht) fun us s2 ⟨vs, H2, I2, r, q⟩ => ⟨I2.kIn, ?_⟩) he hpl
  exact run_fnS F hr hb (hx σ) I2 r q
/-- a call of a local name that holds a def -/
theorem k_callL (i : Nat) {x : Str} {k : Nat} {f : Addr} {sp : Sp} {W : WX} (F : FnV X.prog X.w X.K X.mg X.base k f sp) (hr : Room k X.A) (tk : Takes X W) (h : kA X (e :: es) σ B L fun vs B1 L1 => ∀ H, Sat B1 L1 H → sp vs H (up Q) (WE W σ)) (hi : X.N[i]? = some x := by rfl) (hs : σ[i]? = some (some (.ref f)) := by rfl)
    (hv : Vis X.env.scope x := by first | exact Or.inl rfl | exact Or.inr (Or.inl rfl) | exact Or.inr (Or.inr rfl)) (hdb : (x == ("__debug__" : Str)) = false := by decide) (hcd : (x == ("__classdict__" : Str)) = false := by decide)
    (he : starEach (e :: es) X.env = (false, eval e X.env) :: starEach es X.env := by rfl) (hpl : (backTo pos (starEach es X.env)).any (·.1) = false := by rfl) : kE X (.Call (.Name x p2) (e :: es) [] pos) σ B L Q := by
  obtain ⟨fd, ps, hF, hk, hb⟩ := F.ex
  exact ⟨_, pe_callLS hF hr hi hv hk hb (fun σ => passAt tk σ) pa_c hdb hcd he hpl, fun H s => ⟨hs, toA s h fun _ _ _ _ s q => q _ s⟩⟩
/-- a list or another thing -/
theorem k_orL (h : kE X a σ B L fun x B1 L1 => ∃ p xs, x = .ref p ∧ Ls X.K B1 L1 p xs ∧ (xs ≠ [] → Q x B1 L1) ∧ (xs = [] → kE X (.BoolOp .Or (b :: rest) pos) σ B1 L1 Q)) : kE X (.BoolOp .Or (a :: b :: rest) pos) σ B L Q :=
  ⟨_, pe_orT pe_c pe_c, fun H s => toE s h fun v H1 B1 L1 s1 ⟨p, xs, e, hl, h1, h2⟩ => by
    subst e
    cases xs with
    | nil => exact ⟨false, .inl ⟨[], hl.at s1, rfl⟩, toE s1 (h2 rfl) fun _ _ _ _ s q => ⟨_, _, s, q⟩⟩
    | cons z zs => exact ⟨true, .inl ⟨z :: zs, hl.at s1, rfl⟩, ⟨_, _, s1, h1 (by simp)⟩⟩⟩
/-- list * int -/
theorem o_repl {p : Addr} {xs : List V} {n : Nat} (h1 : At B L p (.lst xs)) (hn : (n : Int) < 2 ^ 62) (hl : xs.length * n ≤ 16777216) (h : ∀ r, Q (.ref r) B ((r, .lst (List.replicate n xs).flatten) :: L)) : kO X (binaryOp .Mult) (.ref p) (.int (n : Int)) B L Q :=
  ⟨_, op_rep, fun H s => ⟨p, _, xs, rfl, rfl, h1.at s, by omega, by omega, by rw [Int.toNat_natCast]; exact small hl, fun r hr => ⟨_, _, s.new hr, by rw [Int.toNat_natCast]; exact h r⟩⟩⟩
end
section
variable {X : Cx} {σ : L2.St} {B : Hp} {L : HL} {Q : KQ}
theorem count_of {y : V} : ∀ {ys : List V} {its : List Value}, Vals ys its → ys.all flatV = true → its.countP (eqU y) = ys.countP fun z => eqV z y
  | _, _, .nil, _ => rfl
  | z :: ys, u :: its, .cons r t, f => by
    rw [List.all_cons, Bool.and_eq_true] at f
    rw [List.countP_cons, List.countP_cons, count_of t f.2, eqU_of r f.1]
def rCountF (K : PySem.W.Frag) : V → List V → Hp → VK → Prop := fun x xs H Q => ∃ (a : Addr) (ys : List V) (y : V), x = V.ref a ∧ xs = [y] ∧ SqL K H a ys ∧ flatV y = true ∧ ys.all flatV = true ∧ Q (.int ((ys.countP fun z => eqV z y : Nat) : Int)) H
theorem mt_countF : MtR X "list.count" (rCountF X.K) := by
  intro pins s σ H x xs v us Q I rx rxs h
  obtain ⟨a, ys, y, rfl, rfl, hs, fy, fys, q⟩ := h
  cases rx
  cases rxs with
  | cons ry rt =>
    rename_i uy ut
    cases rt
    obtain ⟨its, rv, ⟨⟨cls, dd, data, sl⟩, n, ho, hc, hdn, hd⟩, hlen⟩ := I.list hs
    simp only at hc hd
    subst hc hd
    refine call_meets PySem.F.slot_list_count ⟨_, ho, rfl⟩ PySem.F.entry_list_count (PySem.F.args_list_count_2 _ _)
      (SeqAt.list_countAt a its.toArray n dd sl uy (eqU y)) ⟨ho, fun u' hu' => mem_eqAt ry fy rv fys u' (by simpa using hu'), ?_⟩
    have ec : its.toArray.toList.countP (eqU y) = ys.countP fun z => eqV z y := count_of rv fys
    refine ⟨.int ((ys.countP fun z => eqV z y : Nat) : Int), H, I.tok _, ⟨s.toks, ?_⟩, q⟩
    show Value.int ((its.toArray.toList.countP (eqU y) : Nat) : Int) s.toks = _
    rw [ec]
theorem m_lcount {p : Addr} {ys : List V} {y : V} (h : Ls X.K B L p ys) (fy : flatV y = true) (fys : ys.all flatV = true) (q : Q (.int ((ys.countP fun z => eqV z y : Nat) : Int)) B L) : kMt X "list.count" (.ref p) [y] B L Q :=
  ⟨_, mt_countF, fun H s => ⟨p, ys, y, rfl, rfl, h.at s, fy, fys, _, _, s, q⟩⟩
theorem m_lindex {p : Addr} {ys : List V} {y z : V} (j : Nat) (h : Ls X.K B L p ys) (fy : flatV y = true) (fys : ys.all flatV = true) (hz : ys[j]? = some z) (e : eqV z y = true) (hno : ∀ (m : Nat) (z' : V), m < j → ys[m]? = some z' → eqV z' y = false) (q : Q (.int (j : Nat)) B L) : kMt X "list.index" (.ref p) [y] B L Q :=
  ⟨_, mt_index, fun H s => ⟨p, ys, y, j, z, rfl, rfl, h.at s, fy, fys, hz, e, hno, _, _, s, q⟩⟩
/-- {'a': 1} -/
theorem k_dict1 {k v : Expr} {pos : Pos} (h : ∀ D, kE X k σ B ((D, .dK []) :: L) fun x B1 L1 => ∃ (z : Str), x = .str z ∧ kE X v σ B1 L1 fun y B2 L2 => ∃ L', L2 = (D, .dK []) :: L' ∧ Q (.ref D) B2 ((D, .dK [(.inr z, y)]) :: L')) : kE X (.Dict [some k] [v] pos) σ B L Q :=
  ⟨_, pe_disp (pps_cons pe_c pe_c pps_nil) rfl rfl (by simp) (by simp), fun H s D hD => toE (s.new hD) (h D) fun x H1 B1 L1 s1 ⟨z, e1, h1⟩ => toE s1 h1 fun y H2 B2 L2 s2 ⟨L', e2, q⟩ => by
    subst e1 e2
    exact ⟨s2.own _ List.mem_cons_self, [(.inr z, y)], rfl, by simp, ⟨_, _, s2.rep Rep.here, q⟩⟩⟩
end
/-- all that stands goes to the base, but what is held by name -/
theorem Sat.grow {B : Hp} {L : HL} {H H' : Hp} (s : Sat B L H) (e : Le H H') : ∃ B', Le B B' ∧ Sat B' L H' ∧ ∀ H2, Sat B' L H2 → Le H' H2 := by
  classical
  refine ⟨fun b => if b ∈ L.map (·.1) then none else H' b, fun b o h => ?_, ⟨fun b o h => ?_, fun p hp => e _ _ (s.own p hp), fun p hp => ?_, s.nd⟩, fun H2 s2 b o h => ?_⟩
  · show (if b ∈ L.map (·.1) then none else H' b) = some o
    rw [if_neg fun hm => by
      obtain ⟨p, hp, rfl⟩ := List.mem_map.mp hm
      rw [s.nb p hp] at h; cases h]
    exact e _ _ (s.ext _ _ h)
  · have h' : (if b ∈ L.map (·.1) then none else H' b) = some o := h
    split at h'
    · cases h'
    · exact h'
  · show (if p.1 ∈ L.map (·.1) then none else H' p.1) = none
    rw [if_pos (List.mem_map.mpr ⟨p, hp, rfl⟩)]
  · by_cases hm : b ∈ L.map (·.1)
    · obtain ⟨p, hp, rfl⟩ := List.mem_map.mp hm
      have h1 := e _ _ (s.own p hp)
      rw [h] at h1
      rw [s2.own p hp, h1]
    · refine s2.ext b o ?_
      show (if b ∈ L.map (·.1) then none else H' b) = some o
      rw [if_neg hm]; exact h
section
variable {X : Cx} {σ : L2.St} {B : Hp} {L : HL} {Q : KQ} {p2 : Pos} {iter elt : Expr} {scope : Scope}
/-- [elt for x, y in a list of pairs that are held by name] -/
theorem k_lcm_v2 {x y : Str} {i j kk : Nat} {px py tpos : Pos} (g : V × V → V) (hN : X.N.Nodup) (ok : BlkOk X.N X.env.scope scope [(x, i), (y, j)])
    (h : kE X iter σ B L fun v B1 L1 => ∃ (a : Addr) (ts : List Addr) (ps : List (V × V)), v = .ref a ∧ Ls X.K B1 L1 a (ts.map V.ref) ∧ ts.length = ps.length ∧ ps.length ≤ 16777216 ∧ (∀ (k : Nat) t q, ts[k]? = some t → ps[k]? = some q → At B1 L1 t (.tup [q.1, q.2])) ∧ (∀ q ∈ ps, ∀ D acc s H0 C cl fp, kE (Bk X scope s H0 C cl fp) elt ((σ.set i (some q.1)).set j (some q.2)) B1 ((D, .lst acc) :: L1) fun y B3 L3 => y = g q ∧ B3 = B1 ∧ L3 = (D, .lst acc) :: L1) ∧
      ∀ D, Q (.ref D) B1 ((D, .lst (ps.map g)) :: L1))
    (hp : ∀ s H0 C cl fp, Loc (Bk X scope s H0 C cl fp).env.scope x ∧ Loc (Bk X scope s H0 C cl fp).env.scope y := by intro _ _ _ _ _; exact ⟨Or.inl rfl, Or.inl rfl⟩) (hf : ∀ s H0 C cl fp, (Bk X scope s H0 C cl fp).env.scope.names.lookup x = some .local ∧ (Bk X scope s H0 C cl fp).env.scope.names.lookup y = some .local := by intro _ _ _ _ _; exact ⟨rfl, rfl⟩)
    (hn : ∀ s H0 C cl fp, (assignEach [.Name x px, .Name y py] (Bk X scope s H0 C cl fp).env).length = 2 := by intro _ _ _ _ _; rfl) (hfi : ∀ s H0 C cl fp, (assignEach [.Name x px, .Name y py] (Bk X scope s H0 C cl fp).env).findIdx? (·.1) = none := by intro _ _ _ _ _; rfl)
    (h1 : ∀ s H0 C cl fp, (assignEach [.Name x px, .Name y py] (Bk X scope s H0 C cl fp).env).map (·.2) = assign (.Name x px) (Bk X scope s H0 C cl fp).env :: (assignEach [.Name y py] (Bk X scope s H0 C cl fp).env).map (·.2) := by intro _ _ _ _ _; rfl)
    (h2 : ∀ s H0 C cl fp, (assignEach [.Name y py] (Bk X scope s H0 C cl fp).env).map (·.2) = assign (.Name y py) (Bk X scope s H0 C cl fp).env :: (assignEach [] (Bk X scope s H0 C cl fp).env).map (·.2) := by intro _ _ _ _ _; rfl)
    (hi : X.N[i]? = some x := by rfl) (hj : X.N[j]? = some y := by rfl) (hc : X.calm = true := by rfl) (hs : ∀ x, foldedSetIterable iter X.env x = pure x := by intro _; rfl) :
    kL X elt (.Tuple [.Name x px, .Name y py] kk tpos) iter [] scope [(x, i), (y, j)] σ B L Q :=
  k_lc hN ok (r_list (by
    obtain ⟨t, k1, k2⟩ := h
    refine ⟨_, pe_c, fun H s => toE s ⟨t, k1, k2⟩ fun v H' B1 L1 s' ⟨a, ts, ps, e, hls, hlen, hl, hat, ht, hd⟩ => ⟨B1, L1, s', a, ts.map V.ref, e, hls, (ts.map V.ref).length, _, _, fun i acc B L => B = B1 ∧ L = L1 ∧ acc = (ps.map g).take i, walk_list, ⟨rfl, rfl, by simp⟩, ?_, ?_, ?_⟩⟩
    · rintro i acc B L H hi ⟨rfl, rfl, _⟩ s
      exact hls.at s
    · rintro D n acc z B L H H' hn' ⟨rfl, rfl, rfl⟩ s ⟨rfl, hx⟩
      rw [List.getElem?_map] at hx
      obtain ⟨tn, htn, rfl⟩ := Option.map_eq_some_iff.mp hx
      have hnl := (List.getElem?_eq_some_iff.mp htn).1
      obtain ⟨q, hq⟩ : ∃ q, ps[n]? = some q := ⟨_, List.getElem?_eq_getElem (by omega)⟩
      have hqm := List.mem_of_getElem? hq
      have htup := hat n tn q htn hq
      refine ⟨_, _, s, fun sa Ha Ca cla fpa => ?_⟩
      have hT : Tp (Bk X scope sa Ha Ca cla fpa).K B ((D, .lst ((ps.map g).take n)) :: L) tn [q.1, q.2] := htup.elim (fun h => .inl (.inl (.inl h))) fun h => .inr (.tail _ h)
      refine g_tup (n := 2) hT rfl ?_ hc (hn sa Ha Ca cla fpa) (hfi sa Ha Ca cla fpa)
      refine gs_cons (g_name i ?_ hN hi (hp sa Ha Ca cla fpa).1 (.inr (hf sa Ha Ca cla fpa).1)) (h1 sa Ha Ca cla fpa)
      refine gs_cons (g_name j ?_ hN hj (hp sa Ha Ca cla fpa).2 (.inr (hf sa Ha Ca cla fpa).2)) (h2 sa Ha Ca cla fpa)
      refine gs_nil ⟨wipe2 σ i j _ _, fun sb Hb Cb clb fpb => ?_⟩
      show kE _ _ (((wipe σ [i, j]).set i _).set j _) _ _ _
      rw [wipe2']
      obtain ⟨t2, m1, m2⟩ := ht q hqm D ((ps.map g).take n) sb Hb Cb clb fpb
      refine ⟨_, pe_c, fun H s => toE s ⟨t2, m1, m2⟩ fun y H2 B2 L2 s2 ⟨e1, e2, e3⟩ => ⟨B2, L2, s2, ?_, L, e3, e2, rfl, ?_⟩⟩
      · simp; omega
      · rw [e1, List.take_add_one, List.getElem?_map, hq]; simp
    · rintro acc B L D ⟨rfl, rfl, rfl⟩
      have e2 : (ts.map V.ref).length = (ps.map g).length := by rw [List.length_map, List.length_map, hlen]
      rw [e2, List.take_length]
      exact hd D)) hc hs
end
section
variable {X : Cx} {σ : L2.St} {B : Hp} {L : HL} {Q : KQ} {e : Expr}
/-- all objects go to the base -/
theorem k_frz (h : kE X e σ B L fun v B1 L1 => ∀ B2, Le B1 B2 → (∀ p ∈ L1, B2 p.1 = some p.2) → Q v B2 []) : kE X e σ B L Q :=
  ⟨_, pe_c, fun H s => toE s h fun v H1 B1 L1 s1 q => ⟨H1, [], Sat.whole, q H1 s1.ext s1.own⟩⟩
end
/-- .. at a call -/
theorem frz_up {B : Hp} {L : HL} {H H' : Hp} {Q : KQ} {v : V} (s : Sat B L H) (e : Le H H') (q : ∀ B2, Le B B2 → (∀ p ∈ L, B2 p.1 = some p.2) → B2 = H' → Q v B2 []) : up Q v H' :=
  ⟨H', [], Sat.whole, q H' (fun b o h => e _ _ (s.ext _ _ h)) (fun p hp => e _ _ (s.own p hp)) rfl⟩
end Kv

/-! list(text) -/
namespace Kv
open PySem PySem.Spec PyProof.Rows L2
section
variable {X : Cx} {σ : L2.St} {B : Hp} {L : HL} {Q : KQ}
theorem call_listS (hcalm : X.calm = true) : CallR X (.type "list") (fun xs H Q => ∃ l : List Nat, xs = [.str (sOf l)] ∧ l.length ≤ sizeLine ∧ ∀ p, H p = none → Q (.ref p) (upd H p (.lst (l.map fun c => .str (sOf [c]))))) := by
  intro pins s σ H xs us Q I r q
  obtain ⟨l, ex, hl, q⟩ := q
  subst ex
  obtain ⟨u, eu, rx⟩ := vals1 r
  subst eu
  obtain ⟨t, rfl⟩ := rx
  refine call_list_str (I.ok.hd hcalm) (sOf l) t (fun h' tk acc c' hk hD hacc => ?_) hl
  have hv : Vals (l.map fun c => V.str (sOf [c])) acc.toList := vals_of_idx _ _ (by rw [Array.length_toList, List.length_map]; exact hacc.1) fun j u e => by
    obtain ⟨c, t', hc, rfl⟩ := hacc.2 j u (by rw [← Array.getElem?_toList]; exact e)
    refine ⟨.str (sOf [c]), ?_, t', rfl⟩
    rw [List.getElem?_map]
    have h1 : l[j]? = some c := by
      have h2 : (sOf l).cps.toList[j]? = some c := by rw [Array.getElem?_toList]; exact hc
      exact h2
    rw [h1]; rfl
  exact ⟨.ref s.heap.objs.size, upd H s.heap.objs.size (.lst (l.map fun c => .str (sOf [c]))), I.laid (t' := tk) hk (Nat.le_refl _)
    (show ObjOk X.prog X.w _ _ _ (.lst (l.map fun c => .str (sOf [c]))) from ⟨by rw [List.length_map]; exact hl, acc.toList, c', hv, by rw [Array.toArray_toList]; exact hD⟩), rfl, q _ (I.hok.fresh (Nat.le_refl _))⟩
theorem c_lists {l : List Nat} (q : ∀ p, Q (.ref p) B ((p, .lst (l.map fun c => .str (sOf [c]))) :: L)) (hl : l.length ≤ 16777216) (hc : X.calm = true := by rfl) : kC X (.type "list") [.str (sOf l)] B L Q :=
  ⟨_, call_listS hc, fun H s => ⟨l, rfl, small hl, fun p hp => ⟨_, _, s.new hp, q p⟩⟩⟩
end
end Kv

/-! divmod; d[k] = v; l.pop(i). -/
namespace Kv
open PySem PySem.Spec PyProof.Rows L2
section
variable {X : Cx} {σ : L2.St} {B : Hp} {L : HL} {Q : KQ} {a b : Expr} {pos : Pos}
theorem c_divmod {i j : Int} (q : ∀ p, Q (.ref p) B ((p, .tup [.int (i / j), .int (i % j)]) :: L)) (h : 0 < j ∧ j < 1073741824) : kC X (.builtin "divmod") [.int i, .int j] B L Q :=
  ⟨_, call_divmod, fun H s => ⟨i, j, rfl, h, fun p hp => ⟨_, _, s.new hp, q p⟩⟩⟩
/-- l.pop(i), l ours -/
theorem m_popAt {p : Addr} {xs : List V} {i : Int} {k : Nat} {y : V} {L' : HL} (hi : -(2 ^ 63) ≤ i ∧ i < 2 ^ 63) (hk : seqIndex? i xs.length = some k) (hy : xs[k]? = some y) (r : Rep L p (.lst xs) (.lst (xs.eraseIdx k)) L') (q : Q y B L') : kMt X "list.pop" (.ref p) [.int i] B L Q :=
  ⟨_, mt_popAt, fun H s => ⟨p, xs, i, k, y, rfl, rfl, s.own _ r.mem, hi.1, hi.2, hk, hy, _, _, s.rep r, q⟩⟩
/-- d[k] = v, d ours -/
theorem g_setd {v : V} {Q : KN} (hu : X.A.units + 1 < cLine) (h : kE X a σ B L fun x B1 L1 => kE X b σ B1 L1 fun y B2 L2 => ∃ p kvs k L3, x = .ref p ∧ y = kV k ∧ Rep L2 p (.dK kvs) (.dK (putK kvs k v)) L3 ∧ kvs.length < 16777216 ∧ Q σ B2 L3)
    (ha : ∀ v, assign (.Subscript a b pos) X.env v = (do
      let ov ← holding [v] (eval a X.env)
      let iv ← holding [v, ov] (eval b X.env)
      standAt pos
      holding [v, ov, iv] (setItem ov iv v)
      release [v, ov, iv] []) := by intro _; rfl) : kG X (.Subscript a b pos) v σ B L Q :=
  ⟨_, pg_sub pe_c pe_c (set_dict hu) ha, fun H s => toE s h fun _ _ _ _ s q => toE s q fun _ _ _ _ s ⟨p, kvs, k, L3, e1, e2, r, hl, q⟩ => ⟨p, _, e1, by rw [e2]; exact DPut.k (s.own _ r.mem) (small' hl), _, _, s.rep r, q⟩⟩
end
section
variable {X : Cx} {σ : L2.St} {pos : Pos}
/-- the pairs of a dict display -/
def kPs (X : Cx) : List (Expr × Expr) → L2.St → Hp → HL → (List (V × V) → Hp → HL → Prop) → Prop
  | [], _, B, L, Q => Q [] B L
  | (k, v) :: r, σ, B, L, Q => kE X k σ B L fun x B1 L1 => kE X v σ B1 L1 fun y B2 L2 => kPs X r σ B2 L2 fun ps B3 L3 => Q ((x, y) :: ps) B3 L3
theorem pps_c : ∀ l : List (Expr × Expr), PPs X pos (l.map fun p => some p.1) (l.map (·.2)) (l.map fun p => (cE X p.1, cE X p.2))
  | [] => pps_nil
  | (k, v) :: r => pps_cons pe_c pe_c (pps_c r)
theorem toPs : ∀ {l : List (Expr × Expr)} {B : Hp} {L : HL} {H : Hp} {Q : List (V × V) → Hp → HL → Prop} {T : List (V × V) → Hp → Prop}, Sat B L H → kPs X l σ B L Q → (∀ ps H' B' L', Sat B' L' H' → Q ps B' L' → T ps H') → tPairs (l.map fun p => (cE X p.1, cE X p.2)) σ H T
  | [], _, _, _, _, _, s, h, k => k _ _ _ _ s h
  | (a, b) :: r, _, _, _, _, _, s, h, k => toE s h fun _ _ _ _ s1 h1 => toE s1 h1 fun _ _ _ _ s2 h2 => toPs s2 h2 fun _ _ _ _ s3 q => k _ _ _ _ s3 q
/-- {k: v, ..}: at most 15 pairs -/
theorem k_dict {B : Hp} {L : HL} {Q : KQ} (l : List (Expr × Expr)) (hn : l ≠ []) (h15 : l.length ≤ 15) (h : ∀ D, kPs X l σ B ((D, .dK []) :: L) fun ps B2 L2 => ∃ (kvs : List (Key × V)) (L3 : HL), ps = kvs.map (fun kv => (kV kv.1, kv.2)) ∧ kvs.length ≤ 15 ∧ Rep L2 D (.dK []) (.dK (mergeK [] kvs)) L3 ∧ Q (.ref D) B2 L3) :
    kE X (.Dict (l.map fun p => some p.1) (l.map (·.2)) pos) σ B L Q :=
  ⟨_, pe_disp (pps_c l) (by rw [List.all_map]; simp) (by rw [List.length_map, List.length_map]) (by simpa using hn) (by rw [List.length_map]; exact h15), fun H s D hD => toPs (s.new hD) (h D) fun ps H2 B2 L2 s2 ⟨kvs, L3, e, hl, r, q⟩ =>
    ⟨s2.own _ r.mem, kvs, e, hl, ⟨_, _, s2.rep r, q⟩⟩⟩
end
section
variable {X : Cx} {B : Hp} {L : HL} {Q : KQ}
/-- x in a tuple, in a list, of flat items -/
theorem o_intup {x : V} {p : Addr} {xs : List V} (h : Tp X.K B L p xs) (fx : flatV x = true) (fs : xs.all flatV = true) (q : Q (.bl (inV x xs)) B L) : kO X (compareOp .In) x (.ref p) B L Q :=
  ⟨_, op_in_seq, fun H s => ⟨p, xs, rfl, .inr (h.at s), fx, fs, _, _, s, q⟩⟩
theorem o_inlst {x : V} {p : Addr} {xs : List V} (h : Ls X.K B L p xs) (fx : flatV x = true) (fs : xs.all flatV = true) (q : Q (.bl (inV x xs)) B L) : kO X (compareOp .In) x (.ref p) B L Q :=
  ⟨_, op_in_seq, fun H s => ⟨p, xs, rfl, .inl (h.at s), fx, fs, _, _, s, q⟩⟩
end
end Kv

/-! Objects that go to the base by name; what is new in a heap; a drawing that is held in a dict. -/
namespace Kv
open PySem PySem.Spec PyProof.Rows L2
section
variable {X : Cx} {σ : L2.St} {B : Hp} {L : HL} {Q : KQ} {D : KD} {ss : List Stmt} {e : Expr}
/-- the first named object goes to the base -/
theorem Sat.fz {p : Addr} {o : HO} {H : Hp} (s : Sat B ((p, o) :: L) H) : Le B (upd B p o) ∧ upd B p o p = some o ∧ Sat (upd B p o) L H := by
  have hb : B p = none := s.nb _ List.mem_cons_self
  have hnd := s.nd
  rw [List.map_cons, List.nodup_cons] at hnd
  refine ⟨fun b u h => ?_, upd_same, ?_, fun q hq => s.own q (List.mem_cons_of_mem _ hq), fun q hq => ?_, hnd.2⟩
  · rw [upd_ne (fun z => by rw [z, hb] at h; cases h)]; exact h
  · intro b u h
    by_cases hz : b = p
    · subst hz
      rw [upd_same] at h
      cases h
      exact s.own _ List.mem_cons_self
    · rw [upd_ne hz] at h; exact s.ext _ _ h
  · rw [upd_ne (fun z : q.1 = p => hnd.1 (by rw [show (p, o).1 = q.1 from z.symm]; exact List.mem_map.mpr ⟨q, hq, rfl⟩))]
    exact s.nb q (List.mem_cons_of_mem _ hq)
theorem k_fz {p : Addr} {o : HO} (h : ∀ B', Le B B' → B p = none → B' p = some o → kSs X ss σ B' L D) : kSs X ss σ B ((p, o) :: L) D :=
  ⟨_, pss_c, fun H s => ⟨_, L, D, s.fz.2.2, h _ s.fz.1 (s.nb _ List.mem_cons_self) s.fz.2.1, fun _ _ q => q, fun _ _ q => q, fun _ _ q => q, fun _ _ q => q⟩⟩
/-- .. in an expression -/
theorem e_fz {p : Addr} {o : HO} (h : ∀ B', Le B B' → B p = none → B' p = some o → kE X e σ B' L Q) : kE X e σ B ((p, o) :: L) Q :=
  ⟨_, pe_c, fun H s => ⟨_, L, Q, s.fz.2.2, h _ s.fz.1 (s.nb _ List.mem_cons_self) s.fz.2.1, fun _ _ q => q⟩⟩
/-- .. the first of what an expression leaves -/
theorem e_fz1 (h : kE X e σ B L fun v B1 L1 => ∃ p o L2, L1 = (p, o) :: L2 ∧ ∀ B', Le B1 B' → B1 p = none → B' p = some o → Q v B' L2) : kE X e σ B L Q :=
  ⟨_, pe_c, fun H s => toE s h fun v H1 B1 L1 s1 ⟨p, o, L2, e, q⟩ => by
    subst e
    exact ⟨_, L2, s1.fz.2.2, q _ s1.fz.1 (s1.nb _ List.mem_cons_self) s1.fz.2.1⟩⟩
end
section
variable {X : Cx} {σ : L2.St} {B : Hp} {L : HL} {D : KD} {a b c : Expr} {pos : Pos}
/-- a, b = x, y; a, b, c = x, y, z: plain local names -/
theorem k_par (i j : Nat) {x y : Str} {px py pt : Pos} {kt k2 pt2} (h : kA X [a, b] σ B L fun vs B1 L1 => ∃ v w, vs = [v, w] ∧ D.nx ((σ.set i (some v)).set j (some w)) B1 L1) (hN : X.N.Nodup) (hi : X.N[i]? = some x := by rfl) (hj : X.N[j]? = some y := by rfl) (hij : i ≠ j := by decide)
    (hx : X.env.scope.names.lookup x = some .local := by rfl) (hy : X.env.scope.names.lookup y = some .local := by rfl)
    (hw : swappedStores [.Tuple [.Name x px, .Name y py] kt pt] (.Tuple [a, b] k2 pt2) X.env = pure (some [x, y]) := by rfl)
    (hs : swapsWithSole [.Tuple [.Name x px, .Name y py] kt pt] (.Tuple [a, b] k2 pt2) pos.line X.env = pure false := by rfl) (hc : X.calm = true := by rfl) :
    kS X (.Assign [.Tuple [.Name x px, .Name y py] kt pt] (.Tuple [a, b] k2 pt2) pos) σ B L D :=
  ⟨_, ps_par hc hN hi hj hij hx hy pa_c hw hs, fun H s => toA s h fun _ _ _ _ s ⟨v, w, e, q⟩ => ⟨v, w, e, _, _, s, q⟩⟩
theorem k_par3 (i j l : Nat) {x y z : Str} {px py pz pt : Pos} {kt k2 pt2} (h : kA X [a, b, c] σ B L fun vs B1 L1 => ∃ u v w, vs = [u, v, w] ∧ D.nx (((σ.set i (some u)).set j (some v)).set l (some w)) B1 L1) (hN : X.N.Nodup) (hi : X.N[i]? = some x := by rfl) (hj : X.N[j]? = some y := by rfl) (hl : X.N[l]? = some z := by rfl) (hij : i ≠ j := by decide) (hil : i ≠ l := by decide) (hjl : j ≠ l := by decide)
    (hx : X.env.scope.names.lookup x = some .local := by rfl) (hy : X.env.scope.names.lookup y = some .local := by rfl) (hz : X.env.scope.names.lookup z = some .local := by rfl)
    (hw : swappedStores [.Tuple [.Name x px, .Name y py, .Name z pz] kt pt] (.Tuple [a, b, c] k2 pt2) X.env = pure (some [x, y, z]) := by rfl)
    (hs : swapsWithSole [.Tuple [.Name x px, .Name y py, .Name z pz] kt pt] (.Tuple [a, b, c] k2 pt2) pos.line X.env = pure false := by rfl) (hc : X.calm = true := by rfl) :
    kS X (.Assign [.Tuple [.Name x px, .Name y py, .Name z pz] kt pt] (.Tuple [a, b, c] k2 pt2) pos) σ B L D :=
  ⟨_, ps_par3 hc hN hi hj hl hij hil hjl hx hy hz pa_c hw hs, fun H s => toA s h fun _ _ _ _ s ⟨u, v, w, e, q⟩ => ⟨u, v, w, e, _, _, s, q⟩⟩
end
/-- what stands in the second heap alone -/
def nwH (H H' : Hp) : Hp := fun b => if (H b).isSome then none else H' b
theorem nw_some {H H' : Hp} {b : Addr} {o : HO} (h : nwH H H' b = some o) : H b = none ∧ H' b = some o := by
  unfold nwH at h
  cases e : H b with
  | some u => rw [e] at h; simp at h
  | none => rw [e] at h; exact ⟨rfl, by simpa using h⟩
theorem nw_of {H H' : Hp} {b : Addr} {o : HO} (h1 : H b = none) (h2 : H' b = some o) : nwH H H' b = some o := by
  unfold nwH; rw [h1]; simpa using h2
theorem nw_le {H H' : Hp} : Le (nwH H H') H' := fun _ _ h => (nw_some h).2
theorem nw_mono {H H' H2 : Hp} (e : Le H' H2) : Le (nwH H H') (nwH H H2) := fun _ _ h => nw_of (nw_some h).1 (e _ _ (nw_some h).2)
section
variable {X : Cx} {B : Hp} {L : HL} {Q : KQ}
theorem c_inti {i : Int} (q : Q (.int i) B L) : kC X (.type "int") [.int i] B L Q := ⟨_, call_int1, fun H s => .inl ⟨i, rfl, _, _, s, q⟩⟩
end
/-! a drawing: a dict of five keys, its list of great numbers, the script's cells -/
def kLg : List Nat := [108, 97, 114, 103, 101]
def kCl : List Nat := [99, 101, 108, 108, 115]
def kRs : List Nat := [114, 101, 115, 116]
def kTn : List Nat := [116, 117, 114, 110]
def kMx : List Nat := [109, 105, 120]
structure Ds where
  r : Int
  t : Int
  m : Int
  ls : List Int
abbrev dK5 (p1 p2 : Addr) (s : Ds) : List (Key × V) := [(.inr (sOf kLg), .ref p1), (.inr (sOf kCl), .ref p2), (.inr (sOf kRs), .int s.r), (.inr (sOf kTn), .int s.t), (.inr (sOf kMx), .int s.m)]
def dO (p1 p2 : Addr) (s : Ds) : HO := .dK (dK5 p1 p2 s)
def lO (s : Ds) : HO := .lst (s.ls.map V.int)
structure DSt (s : Ds) : Prop where
  r0 : 0 ≤ s.r
  m0 : 0 ≤ s.m
  m1 : s.m < 2147483629
  l0 : ∀ x ∈ s.ls, 0 ≤ x
  ln : s.ls.length ≤ 63
section
variable {p1 p2 : Addr} {s : Ds}
theorem kne {a b : List Nat} (h : a ≠ b) : ¬ ((.inr (sOf a) : Key) = .inr (sOf b)) := fun e => h (sOf_inj.mp (congrArg V.str (Sum.inr.inj e)))
theorem dv_lg : valV (dK5 p1 p2 s) (.inr (sOf kLg) : Key) = some (.ref p1) := by
  unfold dK5
  rw [valV_pos rfl]
theorem dv_cl : valV (dK5 p1 p2 s) (.inr (sOf kCl) : Key) = some (.ref p2) := by
  unfold dK5
  rw [valV_neg (kne (by decide)), valV_pos rfl]
theorem dv_rs : valV (dK5 p1 p2 s) (.inr (sOf kRs) : Key) = some (.int s.r) := by
  unfold dK5
  rw [valV_neg (kne (by decide)), valV_neg (kne (by decide)), valV_pos rfl]
theorem dv_tn : valV (dK5 p1 p2 s) (.inr (sOf kTn) : Key) = some (.int s.t) := by
  unfold dK5
  rw [valV_neg (kne (by decide)), valV_neg (kne (by decide)), valV_neg (kne (by decide)), valV_pos rfl]
theorem dv_mx : valV (dK5 p1 p2 s) (.inr (sOf kMx) : Key) = some (.int s.m) := by
  unfold dK5
  rw [valV_neg (kne (by decide)), valV_neg (kne (by decide)), valV_neg (kne (by decide)), valV_neg (kne (by decide)), valV_pos rfl]
theorem dp_rs {x : Int} : putK (dK5 p1 p2 s) (.inr (sOf kRs) : Key) (.int x) = dK5 p1 p2 { s with r := x } := by
  unfold putK
  rw [if_pos (List.any_eq_true.mpr ⟨(.inr (sOf kRs), .int s.r), by simp, by simp⟩)]
  unfold dK5
  rw [List.map_cons, List.map_cons, List.map_cons, List.map_cons, List.map_cons, List.map_nil]
  rw [if_neg (kne (by decide)), if_neg (kne (by decide)), if_pos rfl, if_neg (kne (by decide)), if_neg (kne (by decide))]
theorem dp_tn {x : Int} : putK (dK5 p1 p2 s) (.inr (sOf kTn) : Key) (.int x) = dK5 p1 p2 { s with t := x } := by
  unfold putK
  rw [if_pos (List.any_eq_true.mpr ⟨(.inr (sOf kTn), .int s.t), by simp, by simp⟩)]
  unfold dK5
  rw [List.map_cons, List.map_cons, List.map_cons, List.map_cons, List.map_cons, List.map_nil]
  rw [if_neg (kne (by decide)), if_neg (kne (by decide)), if_neg (kne (by decide)), if_pos rfl, if_neg (kne (by decide))]
theorem dp_mx {x : Int} : putK (dK5 p1 p2 s) (.inr (sOf kMx) : Key) (.int x) = dK5 p1 p2 { s with m := x } := by
  unfold putK
  rw [if_pos (List.any_eq_true.mpr ⟨(.inr (sOf kMx), .int s.m), by simp, by simp⟩)]
  unfold dK5
  rw [List.map_cons, List.map_cons, List.map_cons, List.map_cons, List.map_cons, List.map_nil]
  rw [if_neg (kne (by decide)), if_neg (kne (by decide)), if_neg (kne (by decide)), if_neg (kne (by decide)), if_pos rfl]
end
/-- the drawing in a heap -/
structure DrH (H : Hp) (D p1 p2 : Addr) (s : Ds) (ns : List Int) : Prop where
  hD : H D = some (dO p1 p2 s)
  h1 : H p1 = some (lO s)
  h2 : H p2 = some (.lst (ns.map V.int))
  n1 : D ≠ p1
  n2 : p2 ≠ D
  n3 : p2 ≠ p1
  st : DSt s
  nl : ns.length ≤ 63
/-- all but the drawing's two objects is kept -/
def Kp (H H' : Hp) (D p1 : Addr) : Prop := ∀ b o, b ≠ D → b ≠ p1 → H b = some o → H' b = some o
def rm2 (H : Hp) (D p1 : Addr) : Hp := fun b => if b = D then none else if b = p1 then none else H b
theorem rm2_ne {H : Hp} {D p1 b : Addr} (h1 : b ≠ D) (h2 : b ≠ p1) : rm2 H D p1 b = H b := by unfold rm2; rw [if_neg h1, if_neg h2]
theorem rm2_some {H : Hp} {D p1 b : Addr} {o : HO} (h : rm2 H D p1 b = some o) : b ≠ D ∧ b ≠ p1 ∧ H b = some o := by
  unfold rm2 at h
  by_cases h1 : b = D
  · rw [if_pos h1] at h; cases h
  · rw [if_neg h1] at h
    by_cases h2 : b = p1
    · rw [if_pos h2] at h; cases h
    · rw [if_neg h2] at h; exact ⟨h1, h2, h⟩
section
variable {H H' B : Hp} {L : HL} {D p1 p2 : Addr} {s s' : Ds} {ns : List Int}
theorem DrH.sat (h : DrH H D p1 p2 s ns) : Sat (rm2 H D p1) [(D, dO p1 p2 s), (p1, lO s)] H := by
  refine ⟨fun b o e => (rm2_some e).2.2, fun p hp => ?_, fun p hp => ?_, ?_⟩
  · simp only [List.mem_cons, List.not_mem_nil, or_false] at hp
    rcases hp with rfl | rfl
    · exact h.hD
    · exact h.h1
  · simp only [List.mem_cons, List.not_mem_nil, or_false] at hp
    unfold rm2
    rcases hp with rfl | rfl
    · exact if_pos rfl
    · rw [if_neg h.n1.symm]; exact if_pos rfl
  · simp only [List.map_cons, List.map_nil, List.nodup_cons, List.mem_cons, List.not_mem_nil, or_false, not_false_eq_true, and_true, List.nodup_nil]
    exact h.n1
theorem DrH.b2 (h : DrH H D p1 p2 s ns) : rm2 H D p1 p2 = some (.lst (ns.map V.int)) := by rw [rm2_ne h.n2 h.n3]; exact h.h2
theorem sat_kp (h : Sat (rm2 H D p1) L H') : Kp H H' D p1 := fun b o h1 h2 e => h.ext _ _ (by rw [rm2_ne h1 h2]; exact e)
theorem Kp.refl : Kp H H D p1 := fun _ _ _ _ e => e
/-- the drawing among the named objects -/
theorem DrH.of (sat : Sat B L H) (hD : (D, dO p1 p2 s) ∈ L) (h1 : (p1, lO s) ∈ L) (h2 : At B L p2 (.lst (ns.map V.int))) (n2 : p2 ≠ D) (n3 : p2 ≠ p1) (n1 : D ≠ p1) (st : DSt s) (nl : ns.length ≤ 63) : DrH H D p1 p2 s ns :=
  ⟨sat.own _ hD, sat.own _ h1, h2.at sat, n1, n2, n3, st, nl⟩
/-- at a def's end -/
theorem DrH.nx {H0 : Hp} (h : DrH H0 D p1 p2 s ns) (sat : Sat B L H) (e : Le (rm2 H0 D p1) B) (hD : (D, dO p1 p2 s') ∈ L) (h1 : (p1, lO s') ∈ L) (st : DSt s') : DrH H D p1 p2 s' ns :=
  ⟨sat.own _ hD, sat.own _ h1, sat.ext _ _ (e _ _ h.b2), h.n1, h.n2, h.n3, st, h.nl⟩
theorem kp_of {H0 : Hp} (sat : Sat B L H) (e : Le (rm2 H0 D p1) B) : Kp H0 H D p1 := fun b o h1 h2 q => sat.ext _ _ (e _ _ (by rw [rm2_ne h1 h2]; exact q))
/-- behind a call that draws -/
theorem Sat.dr {L1 L' : HL} {o o' u u' : HO} (sat : Sat B L H) (r1 : Rep L D o o' L1) (r2 : Rep L1 p1 u u' L') (k : Kp H H' D p1) (e1 : H' D = some o') (e2 : H' p1 = some u') : Sat B L' H' := by
  refine ((sat.rep r1).rep r2).keep fun b x q => ?_
  by_cases h2 : b = p1
  · subst h2; rw [upd_same] at q; rw [e2]; exact q
  · rw [upd_ne h2] at q
    by_cases h1 : b = D
    · subst h1; rw [upd_same] at q; rw [e1]; exact q
    · rw [upd_ne h1] at q; exact k b x h1 h2 q
/-- .. and leaves new objects: they go to the base -/
theorem Sat.drG {L1 L' : HL} {o o' u u' : HO} (sat : Sat B L H) (r1 : Rep L D o o' L1) (r2 : Rep L1 p1 u u' L') (k : Kp H H' D p1) (e1 : H' D = some o') (e2 : H' p1 = some u') : ∃ B', Le B B' ∧ Le (nwH H H') B' ∧ Sat B' L' H' := by
  have s2 := sat.dr r1 r2 k e1 e2
  have hm : L'.map (·.1) = L.map (·.1) := by
    obtain ⟨a1, b1, e1, e2⟩ := r1.split
    obtain ⟨a2, b2, e3, e4⟩ := r2.split
    rw [e4, List.map_append, List.map_cons]
    have : L1.map (·.1) = L.map (·.1) := by rw [e1, e2]; simp
    rw [← this, e3]; simp
  refine ⟨fun b => if b ∈ L'.map (·.1) then none else H' b, fun b x h => ?_, fun b x h => ?_, fun b x h => ?_, s2.own, fun p hp => if_pos (List.mem_map.mpr ⟨p, hp, rfl⟩), s2.nd⟩
  · have h3 : b ∉ L'.map (·.1) := fun z => by
      obtain ⟨p, hp, rfl⟩ := List.mem_map.mp z
      rw [s2.nb p hp] at h; cases h
    show (if b ∈ L'.map (·.1) then none else H' b) = some x
    rw [if_neg h3]
    exact s2.ext _ _ h
  · obtain ⟨g1, g2⟩ := nw_some h
    have h3 : b ∉ L'.map (·.1) := fun z => by
      rw [hm] at z
      obtain ⟨p, hp, rfl⟩ := List.mem_map.mp z
      rw [sat.own p hp] at g1; cases g1
    show (if b ∈ L'.map (·.1) then none else H' b) = some x
    rw [if_neg h3]; exact g2
  · change (if b ∈ L'.map (·.1) then none else H' b) = some x at h
    by_cases h3 : b ∈ L'.map (·.1)
    · rw [if_pos h3] at h; cases h
    · rw [if_neg h3] at h; exact h
theorem rep_dom {L L' : HL} {p : Addr} {o o' : HO} (r : Rep L p o o' L') : L'.map (·.1) = L.map (·.1) := by
  obtain ⟨a1, b1, e1, e2⟩ := r.split
  rw [e1, e2]; simp
/-- .. and leaves one new object -/
theorem Sat.drN {L1 L' : HL} {o o' u u' x : HO} {q : Addr} (sat : Sat B L H) (r1 : Rep L D o o' L1) (r2 : Rep L1 p1 u u' L') (k : Kp H H' D p1) (e1 : H' D = some o') (e2 : H' p1 = some u') (g1 : H q = none) (g2 : H' q = some x) : Sat B ((q, x) :: L') H' := by
  have s2 := sat.dr r1 r2 k e1 e2
  refine ⟨s2.ext, fun p hp => ?_, fun p hp => ?_, ?_⟩
  · rcases List.mem_cons.mp hp with rfl | hp
    · exact g2
    · exact s2.own p hp
  · rcases List.mem_cons.mp hp with rfl | hp
    · exact sat.free g1
    · exact s2.nb p hp
  · rw [List.map_cons, List.nodup_cons]
    refine ⟨fun z => ?_, s2.nd⟩
    rw [rep_dom r2, rep_dom r1] at z
    obtain ⟨y, hy, hy2⟩ := List.mem_map.mp z
    have := sat.own y hy
    rw [hy2, g1] at this; cases this
/-- an object named first is new to the heap of the def's start -/
theorem new_of {o : HO} {p : Addr} {H0 : Hp} (sat : Sat B ((p, o) :: L) H) (e : Le (rm2 H0 D p1) B) (hD : D ∈ L.map (·.1)) (h1 : p1 ∈ L.map (·.1)) : H0 p = none := by
  have hnd := sat.nd
  rw [List.map_cons, List.nodup_cons] at hnd
  have n1 : p ≠ D := fun z => hnd.1 (by rw [show (p, o).1 = D from z]; exact hD)
  have n2 : p ≠ p1 := fun z => hnd.1 (by rw [show (p, o).1 = p1 from z]; exact h1)
  cases h : H0 p with
  | none => rfl
  | some u =>
    have := sat.nb _ List.mem_cons_self
    rw [e p u (by rw [rm2_ne n1 n2]; exact h)] at this; cases this
/-- at the end of a def that leaves new objects in its base -/
theorem nw_end {H0 B1 : Hp} (sat : Sat B1 L H) (e : Le (rm2 H0 D p1) B1) (hD : D ∈ L.map (·.1)) (h1 : p1 ∈ L.map (·.1)) : Le (nwH (rm2 H0 D p1) B1) (nwH H0 H) := fun b o h => by
  obtain ⟨g1, g2⟩ := nw_some h
  have nb : ∀ q ∈ L.map (·.1), b ≠ q := fun q hq z => by
    obtain ⟨p, hp, rfl⟩ := List.mem_map.mp hq
    rw [z, sat.nb p hp] at g2; cases g2
  rw [rm2_ne (nb D hD) (nb p1 h1)] at g1
  exact nw_of g1 (sat.ext _ _ g2)
end
/-! xs != [], xs == [], whatever the items are -/
section
variable {X : Cx}
def rNeE (K : PySem.W.Frag) : R2 := fun x y H Q => ∃ a b xs, x = V.ref a ∧ y = V.ref b ∧ SqL K H a xs ∧ SqL K H b [] ∧ Q (.bl (!decide (xs = []))) H
theorem op_neE (hu : X.A.units < cLine) : OpR X (compareOp .NotEq) (rNeE X.K) := by
  intro pins s σ H x y v u Q I rx ry h
  obtain ⟨a, b, xs, rfl, rfl, h1, h2, q⟩ := h
  cases rx
  cases ry
  obtain ⟨its, rv, hl, _⟩ := I.list h1
  obtain ⟨its2, rv2, hl2, _⟩ := I.list h2
  have e2 : its2 = [] := by cases rv2; rfl
  subst e2
  by_cases hx : xs = []
  · subst hx
    have e1 : its = [] := by cases rv; rfl
    subst e1
    exact SeqAt.RcNeAt.lists (e := fun _ => true) hl.isList hl2.isList rfl hu (fun j h1 _ => absurd h1 (by simp)) _ _ _ _ ⟨.bl _, H, I, rfl, q⟩
  · have e1 : its ≠ [] := fun z => by subst z; cases rv; exact hx rfl
    have e3 : (its.toArray.size != (#[] : Array Value).size) = true := by
      cases its with
      | nil => exact absurd rfl e1
      | cons a l => simp
    refine SeqAt.RcNeAt.lists_lengths hl.isList hl2.isList e3 hu _ _ _ _ ⟨.bl _, H, I, rfl, ?_⟩
    have e4 : (!decide (xs = [])) = true := by simpa using hx
    rw [e4] at q; exact q
theorem o_neE {B : Hp} {L : HL} {Q : KQ} {p q : Addr} {xs : List V} (hu : X.A.units < cLine) (h1 : Ls X.K B L p xs) (h2 : Ls X.K B L q []) (hq : Q (.bl (!decide (xs = []))) B L) : kO X (compareOp .NotEq) (.ref p) (.ref q) B L Q :=
  ⟨_, op_neE hu, fun H s => ⟨p, q, xs, rfl, rfl, h1.at s, h2.at s, _, _, s, hq⟩⟩
theorem o_neS {B : Hp} {L : HL} {Q : KQ} {x y : V} (h : scal x y = true) (hq : Q (.bl (!decide (x = y))) B L) : kO X (compareOp .NotEq) x y B L Q :=
  ⟨_, op_ne, fun H s => ⟨h, _, _, s, hq⟩⟩
theorem o_eqS {B : Hp} {L : HL} {Q : KQ} {x y : V} (h : scal x y = true) (hq : Q (.bl (decide (x = y))) B L) : kO X (compareOp .Eq) x y B L Q :=
  ⟨_, op_eq, fun H s => ⟨h, _, _, s, hq⟩⟩
end
section
variable {X : Cx} {σ : L2.St} {B : Hp} {L : HL} {Q : KQ} {a b : Expr} {pos : Pos}
theorem k_get_lg (hu : X.A.units + 64 < cLine) (h : kE X a σ B L fun x B1 L1 => kE X b σ B1 L1 fun y B2 L2 => ∃ q p1 p2 s, x = .ref q ∧ y = .str (sOf kLg) ∧ At B2 L2 q (dO p1 p2 s) ∧ Q (.ref p1) B2 L2)
    (hs : NoSl b := by exact fun _ _ => rfl) : kE X (.Subscript a b pos) σ B L Q :=
  ⟨_, pe_dget (by omega) pe_c pe_c hs, fun H s => toE s h fun _ _ _ _ s q => toE s q fun _ _ _ _ s ⟨q, p1, p2, st, e1, e2, hat, hq⟩ => ⟨q, _, e1, .inl ⟨dK5 p1 p2 st, .inr (sOf kLg), .inl (hat.at s), e2, (dv_lg).symm⟩, _, _, s, hq⟩⟩
theorem k_get_cl (hu : X.A.units + 64 < cLine) (h : kE X a σ B L fun x B1 L1 => kE X b σ B1 L1 fun y B2 L2 => ∃ q p1 p2 s, x = .ref q ∧ y = .str (sOf kCl) ∧ At B2 L2 q (dO p1 p2 s) ∧ Q (.ref p2) B2 L2)
    (hs : NoSl b := by exact fun _ _ => rfl) : kE X (.Subscript a b pos) σ B L Q :=
  ⟨_, pe_dget (by omega) pe_c pe_c hs, fun H s => toE s h fun _ _ _ _ s q => toE s q fun _ _ _ _ s ⟨q, p1, p2, st, e1, e2, hat, hq⟩ => ⟨q, _, e1, .inl ⟨dK5 p1 p2 st, .inr (sOf kCl), .inl (hat.at s), e2, (dv_cl).symm⟩, _, _, s, hq⟩⟩
theorem k_get_rs (hu : X.A.units + 64 < cLine) (h : kE X a σ B L fun x B1 L1 => kE X b σ B1 L1 fun y B2 L2 => ∃ q p1 p2 s, x = .ref q ∧ y = .str (sOf kRs) ∧ At B2 L2 q (dO p1 p2 s) ∧ Q (.int s.r) B2 L2)
    (hs : NoSl b := by exact fun _ _ => rfl) : kE X (.Subscript a b pos) σ B L Q :=
  ⟨_, pe_dget (by omega) pe_c pe_c hs, fun H s => toE s h fun _ _ _ _ s q => toE s q fun _ _ _ _ s ⟨q, p1, p2, st, e1, e2, hat, hq⟩ => ⟨q, _, e1, .inl ⟨dK5 p1 p2 st, .inr (sOf kRs), .inl (hat.at s), e2, (dv_rs).symm⟩, _, _, s, hq⟩⟩
theorem k_get_tn (hu : X.A.units + 64 < cLine) (h : kE X a σ B L fun x B1 L1 => kE X b σ B1 L1 fun y B2 L2 => ∃ q p1 p2 s, x = .ref q ∧ y = .str (sOf kTn) ∧ At B2 L2 q (dO p1 p2 s) ∧ Q (.int s.t) B2 L2)
    (hs : NoSl b := by exact fun _ _ => rfl) : kE X (.Subscript a b pos) σ B L Q :=
  ⟨_, pe_dget (by omega) pe_c pe_c hs, fun H s => toE s h fun _ _ _ _ s q => toE s q fun _ _ _ _ s ⟨q, p1, p2, st, e1, e2, hat, hq⟩ => ⟨q, _, e1, .inl ⟨dK5 p1 p2 st, .inr (sOf kTn), .inl (hat.at s), e2, (dv_tn).symm⟩, _, _, s, hq⟩⟩
theorem k_get_mx (hu : X.A.units + 64 < cLine) (h : kE X a σ B L fun x B1 L1 => kE X b σ B1 L1 fun y B2 L2 => ∃ q p1 p2 s, x = .ref q ∧ y = .str (sOf kMx) ∧ At B2 L2 q (dO p1 p2 s) ∧ Q (.int s.m) B2 L2)
    (hs : NoSl b := by exact fun _ _ => rfl) : kE X (.Subscript a b pos) σ B L Q :=
  ⟨_, pe_dget (by omega) pe_c pe_c hs, fun H s => toE s h fun _ _ _ _ s q => toE s q fun _ _ _ _ s ⟨q, p1, p2, st, e1, e2, hat, hq⟩ => ⟨q, _, e1, .inl ⟨dK5 p1 p2 st, .inr (sOf kMx), .inl (hat.at s), e2, (dv_mx).symm⟩, _, _, s, hq⟩⟩
theorem g_set_rs {i : Int} {Q : KN} (hu : X.A.units + 64 < cLine) (h : kE X a σ B L fun x B1 L1 => kE X b σ B1 L1 fun y B2 L2 => ∃ p p1 p2 s L3, x = .ref p ∧ y = .str (sOf kRs) ∧ Rep L2 p (dO p1 p2 s) (dO p1 p2 { s with r := i }) L3 ∧ Q σ B2 L3)
    (ha : ∀ v, assign (.Subscript a b pos) X.env v = (do
      let ov ← holding [v] (eval a X.env)
      let iv ← holding [v, ov] (eval b X.env)
      standAt pos
      holding [v, ov, iv] (setItem ov iv v)
      release [v, ov, iv] []) := by intro _; rfl) : kG X (.Subscript a b pos) (.int i) σ B L Q :=
  g_setd (by omega) (by
    obtain ⟨t, h1, h2⟩ := h
    refine ⟨_, pe_c, fun H s => toE s ⟨t, h1, h2⟩ fun v H' B' L' s' q => ⟨B', L', s', ?_⟩⟩
    obtain ⟨t2, h3, h4⟩ := q
    refine ⟨_, pe_c, fun H s => toE s ⟨t2, h3, h4⟩ fun v H' B' L' s' q => ⟨B', L', s', ?_⟩⟩
    obtain ⟨p, p1, p2, st, L3, e1, e2, r, q⟩ := q
    refine ⟨p, dK5 p1 p2 st, .inr (sOf kRs), L3, e1, e2, ?_, by simp, q⟩
    rw [dp_rs]; exact r) ha
theorem g_set_tn {i : Int} {Q : KN} (hu : X.A.units + 64 < cLine) (h : kE X a σ B L fun x B1 L1 => kE X b σ B1 L1 fun y B2 L2 => ∃ p p1 p2 s L3, x = .ref p ∧ y = .str (sOf kTn) ∧ Rep L2 p (dO p1 p2 s) (dO p1 p2 { s with t := i }) L3 ∧ Q σ B2 L3)
    (ha : ∀ v, assign (.Subscript a b pos) X.env v = (do
      let ov ← holding [v] (eval a X.env)
      let iv ← holding [v, ov] (eval b X.env)
      standAt pos
      holding [v, ov, iv] (setItem ov iv v)
      release [v, ov, iv] []) := by intro _; rfl) : kG X (.Subscript a b pos) (.int i) σ B L Q :=
  g_setd (by omega) (by
    obtain ⟨t, h1, h2⟩ := h
    refine ⟨_, pe_c, fun H s => toE s ⟨t, h1, h2⟩ fun v H' B' L' s' q => ⟨B', L', s', ?_⟩⟩
    obtain ⟨t2, h3, h4⟩ := q
    refine ⟨_, pe_c, fun H s => toE s ⟨t2, h3, h4⟩ fun v H' B' L' s' q => ⟨B', L', s', ?_⟩⟩
    obtain ⟨p, p1, p2, st, L3, e1, e2, r, q⟩ := q
    refine ⟨p, dK5 p1 p2 st, .inr (sOf kTn), L3, e1, e2, ?_, by simp, q⟩
    rw [dp_tn]; exact r) ha
theorem g_set_mx {i : Int} {Q : KN} (hu : X.A.units + 64 < cLine) (h : kE X a σ B L fun x B1 L1 => kE X b σ B1 L1 fun y B2 L2 => ∃ p p1 p2 s L3, x = .ref p ∧ y = .str (sOf kMx) ∧ Rep L2 p (dO p1 p2 s) (dO p1 p2 { s with m := i }) L3 ∧ Q σ B2 L3)
    (ha : ∀ v, assign (.Subscript a b pos) X.env v = (do
      let ov ← holding [v] (eval a X.env)
      let iv ← holding [v, ov] (eval b X.env)
      standAt pos
      holding [v, ov, iv] (setItem ov iv v)
      release [v, ov, iv] []) := by intro _; rfl) : kG X (.Subscript a b pos) (.int i) σ B L Q :=
  g_setd (by omega) (by
    obtain ⟨t, h1, h2⟩ := h
    refine ⟨_, pe_c, fun H s => toE s ⟨t, h1, h2⟩ fun v H' B' L' s' q => ⟨B', L', s', ?_⟩⟩
    obtain ⟨t2, h3, h4⟩ := q
    refine ⟨_, pe_c, fun H s => toE s ⟨t2, h3, h4⟩ fun v H' B' L' s' q => ⟨B', L', s', ?_⟩⟩
    obtain ⟨p, p1, p2, st, L3, e1, e2, r, q⟩ := q
    refine ⟨p, dK5 p1 p2 st, .inr (sOf kMx), L3, e1, e2, ?_, by simp, q⟩
    rw [dp_mx]; exact r) ha
end
/-- what stays of a drawing -/
structure DrC (D p1 p2 : Addr) (ns : List Int) : Prop where
  n1 : D ≠ p1
  n2 : p2 ≠ D
  n3 : p2 ≠ p1
  nl : ns.length ≤ 63
theorem DrH.c {H : Hp} {D p1 p2 : Addr} {s : Ds} {ns : List Int} (h : DrH H D p1 p2 s ns) : DrC D p1 p2 ns := ⟨h.n1, h.n2, h.n3, h.nl⟩
theorem DrC.h {B H : Hp} {L : HL} {D p1 p2 : Addr} {s : Ds} {ns : List Int} (c : DrC D p1 p2 ns) (sat : Sat B L H) (hD : (D, dO p1 p2 s) ∈ L) (h1 : (p1, lO s) ∈ L) (h2 : At B L p2 (.lst (ns.map V.int))) (st : DSt s) : DrH H D p1 p2 s ns :=
  .of sat hD h1 h2 c.n2 c.n3 c.n1 st c.nl
/-- the same items in another order, by their origins -/
theorem perm_map {α β : Type} {f : α → β} : ∀ {ys xs : List β}, ys.Perm xs → ∀ zs : List α, xs = zs.map f → ∃ zs' : List α, zs'.Perm zs ∧ ys = zs'.map f := by
  intro ys xs h
  induction h with
  | nil => intro zs e; exact ⟨zs, .refl _, e⟩
  | cons a _ ih =>
    intro zs e
    cases zs with
    | nil => cases e
    | cons z zs =>
      rw [List.map_cons] at e
      obtain ⟨e1, e2⟩ := List.cons.inj e
      obtain ⟨zs', p, e3⟩ := ih zs e2
      exact ⟨z :: zs', p.cons z, by rw [List.map_cons, e3, e1]⟩
  | swap a b l =>
    intro zs e
    match zs, e with
    | [], e => cases e
    | [_], e => cases e
    | x :: y :: zs, e =>
      simp only [List.map_cons, List.cons.injEq] at e
      obtain ⟨e1, e2, e3⟩ := e
      exact ⟨y :: x :: zs, .swap _ _ _, by rw [List.map_cons, List.map_cons, e1, e2, e3]⟩
  | trans _ _ ih1 ih2 =>
    intro zs e
    obtain ⟨z1, p1, e1⟩ := ih2 zs e
    obtain ⟨z2, p2, e2⟩ := ih1 z1 e1
    exact ⟨z2, p2.trans p1, e2⟩
theorem erase_perm {α : Type} : ∀ {l : List α} {k : Nat} {y : α}, l[k]? = some y → (y :: l.eraseIdx k).Perm l
  | [], _, _, h => by simp at h
  | a :: l, 0, y, h => by
    have : a = y := by simpa using h
    subst this; exact .refl _
  | a :: l, k + 1, y, h => by
    have ih := erase_perm (l := l) (k := k) (y := y) (by simpa using h)
    show (y :: a :: l.eraseIdx k).Perm (a :: l)
    exact (List.Perm.swap _ _ _).trans (ih.cons a)
section
variable {X : Cx} {B : Hp} {L : HL} {Q : KQ}
theorem shaped_st {a : List (List Nat)} (h : ∀ l ∈ a, ∀ c ∈ l, c < 1114112) : SeqAt.shaped (.tuple (dSs a)) = true := by
  unfold SeqAt.shaped
  have e1 : PyData.canLay0 (.tuple (dSs a)) = true := by unfold PyData.canLay0; exact lay_ss h
  have e2 : PyData.depth (.tuple (dSs a)) = 1 := by unfold PyData.depth; rw [depth_ss]
  rw [e1, e2]; rfl
/-- tuples of texts compared -/
theorem o_nets {p q : Addr} {a b : List (List Nat)} (hu : X.A.units + 64 < cLine) (h1 : Tp X.K B L p (a.map fun l => V.str (sOf l))) (h2 : Tp X.K B L q (b.map fun l => V.str (sOf l))) (hq : Q (.bl (!decide (a = b))) B L) (ha : ∀ l ∈ a, ∀ c ∈ l, c < 1114112) (hb : ∀ l ∈ b, ∀ c ∈ l, c < 1114112) :
    kO X (compareOp .NotEq) (.ref p) (.ref q) B L Q := o_neD hu (dd_t h1 (da_map (fun _ => dd_s) a)) (dd_t h2 (da_map (fun _ => dd_s) b)) (by show Q (.bl (!PyData.eqvAll (dSs a) (dSs b))) B L; rw [eqv_ss]; exact hq) (shaped_st ha) (shaped_st hb)
theorem o_eqts {p q : Addr} {a b : List (List Nat)} (hu : X.A.units + 64 < cLine) (h1 : Tp X.K B L p (a.map fun l => V.str (sOf l))) (h2 : Tp X.K B L q (b.map fun l => V.str (sOf l))) (hq : Q (.bl (decide (a = b))) B L) (ha : ∀ l ∈ a, ∀ c ∈ l, c < 1114112) (hb : ∀ l ∈ b, ∀ c ∈ l, c < 1114112) :
    kO X (compareOp .Eq) (.ref p) (.ref q) B L Q := o_eqD hu (dd_t h1 (da_map (fun _ => dd_s) a)) (dd_t h2 (da_map (fun _ => dd_s) b)) (by show Q (.bl (PyData.eqvAll (dSs a) (dSs b))) B L; rw [eqv_ss]; exact hq) (shaped_st ha) (shaped_st hb)
end
theorem at_in {α : Type} {l : List α} {r : Int} (h0 : 0 ≤ r) (h1 : r < l.length) : ∃ c, c ∈ l ∧ atI l r = some c := by
  obtain ⟨n, rfl⟩ : ∃ n : Nat, r = n := ⟨r.toNat, by omega⟩
  have hn : n < l.length := by omega
  exact ⟨l[n], List.getElem_mem hn, by rw [atI_n]; exact List.getElem?_eq_getElem hn⟩
theorem le64 {n : Nat} (h : n + 64 < cLine) : n < cLine := Nat.lt_of_le_of_lt (Nat.le_add_right _ _) h
end Kv

/-! Sets of tuples whose items are keys of any kind (numbers, texts): filled one by one, walked, sorted. -/
namespace KvT
open PySem PySem.Spec PyProof.Rows L2
section
variable {K : Type} [DecidableEq K] {P : Program} {w : World} (kd : PySem.KeyKind P w K)
/-- what a tuple hashes to -/
abbrev hk (u : List K) : Int := tupleKeyHash kd u
/-- b holds the tuple u -/
abbrev Is (h : Heap) (u : List K) (b : Addr) : Prop := IsTupleKey kd h u b
/-- the rows that a table keeps -/
def rows (L : List (Addr × List K)) : List (Int × Value) := L.map fun z => (hk kd z.2, Value.ref z.1)
/-- a set's object whose members are told by L -/
structure Held (h : Heap) (a : Addr) (L : List (Addr × List K)) (es : Array (Int × Value)) (ep : Nat) (t : SetTable) : Prop where
  obj : ∃ o, h.get? a = some o ∧ o.ExactSet ∧ o.data = .set es ep t
  ent : es.toList = rows kd L
  tab : TabOk t (L.map fun z => hk kd z.2)
  one : (L.map (·.2)).Nodup
  mem : ∀ z ∈ L, Is kd h z.2 z.1
  led : w.params.followText "set-order" = true ∨ t.led = true
  gap : L.length * 5 < t.mask * 3
  few : L.length < 64
variable {kd}
variable {A : Around} {E : Value → Shared → Prop} {s : Shared}
theorem item_cls {v : Value} (c : carriedByValue v = true) (n : Nat) : ofAClassStatement n v = pure false := by
  cases v <;> first | (cases n <;> rfl) | cases c
theorem item_hash {v : Value} (c : carriedByValue v = true) (n : Nat) : ∃ b, hashByValue n v = pure b := by
  cases v <;> first | (cases n <;> exact ⟨_, rfl⟩) | cases c
theorem tup_cls {u : List K} {b : Addr} {Q : Bool → Shared → Prop} (x : Is kd s.heap u b) (q : Q false s) : wpAny (model P w) A (ofAClassStatement 8 (.ref b)) Q E s := by
  have ty := x.typeIs
  obtain ⟨o, its, n, e1, _, e2, all⟩ := x
  unfold ofAClassStatement
  refine wpAny_bind (wpAny_typeOf ty ?_)
  dsimp only
  simp only [show (("tuple" : String) == "tuple") = true from by decide, if_true, Bool.not_true, Bool.false_eq_true, if_false]
  try refine wpAny_bind (wpAny_pure ?_)
  try simp only [Bool.not_true, Bool.false_eq_true, if_false]
  show wpAny _ _ (seqItems? (.ref b) >>= _) _ _ s
  refine wpAny_bind (wpAny_seqItems e1 e2 ?_)
  dsimp only
  refine wpAny_bind ?_
  show wpAny _ _ (forIn its _ _) _ _ s
  rw [← Array.forIn_toList]
  refine wpAny_forIn_list _ (fun left r s1 => r.1 = none ∧ s1 = s ∧ ∀ v ∈ left, carriedByValue v = true) _ ?_ ?_ _ _ ⟨rfl, rfl, all.byValue⟩
  · rintro v left r s1 ⟨_, rfl, hv⟩
    rw [item_cls (hv v List.mem_cons_self)]
    refine wpAny_bind (wpAny_pure ?_)
    simp only [Bool.false_eq_true, if_false]
    exact wpAny_pure ⟨rfl, rfl, fun y hy => hv y (.tail _ hy)⟩
  · rintro ⟨r1, r2⟩ s1 ⟨er, rfl, _⟩
    cases er
    exact wpAny_pure q
theorem tup_hash {u : List K} {b : Addr} {Q : Bool → Shared → Prop} (x : Is kd s.heap u b) (q : ∀ c, Q c s) : wpAny (model P w) A (hashByValue 8 (.ref b)) Q E s := by
  have ty := x.typeIs
  obtain ⟨o, its, n, e1, _, e2, all⟩ := x
  unfold hashByValue
  refine wpAny_bind (wpAny_specialOf ty F.slot_tuple_hash.lookup ?_)
  show wpAny _ _ (seqItems? (.ref b) >>= _) _ _ s
  refine wpAny_bind (wpAny_seqItems e1 e2 ?_)
  refine wpAny_bind ?_
  show wpAny _ _ (forIn its _ _) _ _ s
  rw [← Array.forIn_toList]
  refine wpAny_forIn_list _ (fun left r s1 => r.1 = none ∧ s1 = s ∧ ∀ v ∈ left, carriedByValue v = true) _ ?_ ?_ _ _ ⟨rfl, rfl, all.byValue⟩
  · rintro v left r s1 ⟨_, rfl, hv⟩
    obtain ⟨c, ec⟩ := item_hash (hv v List.mem_cons_self) 7
    rw [ec]
    refine wpAny_bind (wpAny_pure ?_)
    cases c
    · simp only [Bool.not_false, if_true]
      exact wpAny_pure (wpAny_pure (q _))
    · simp only [Bool.not_true, Bool.false_eq_true, if_false]
      exact wpAny_pure ⟨rfl, rfl, fun y hy => hv y (.tail _ hy)⟩
  · rintro ⟨r1, r2⟩ s1 ⟨er, rfl, _⟩
    cases er
    exact wpAny_pure (q _)
/-- a search among tuples is seen by nobody -/
theorem tup_unseen {u : List K} {b : Addr} {Q : Bool → Shared → Prop} (x : Is kd s.heap u b) {ys : List Value} (hy : ∀ y ∈ ys, ∃ v c, y = Value.ref c ∧ Is kd s.heap v c) (q : Q false s) :
    wpAny (model P w) A (searchCouldBeSeen (.ref b) ys) Q E s := by
  unfold searchCouldBeSeen
  refine wpAny_bind ?_
  refine wpAny_forIn_list _ (fun left r s1 => r.1 = none ∧ s1 = s ∧ ∀ y ∈ left, ∃ v c, y = Value.ref c ∧ Is kd s.heap v c) _ ?_ ?_ _ _ ⟨rfl, rfl, hy⟩
  · rintro y left r s1 ⟨_, rfl, hl⟩
    obtain ⟨v, c, rfl, xc⟩ := hl y List.mem_cons_self
    have more : r.1 = none → ∀ z ∈ left, ∃ v c, z = Value.ref c ∧ Is kd s1.heap v c := fun _ z hz => hl z (.tail _ hz)
    dsimp only
    by_cases same : (b == c || (carriedByValue (.ref b) && carriedByValue (.ref c))) = true
    · exact wp_if_pos same (wpAny_pure ⟨rfl, rfl, fun z hz => hl z (.tail _ hz)⟩)
    · refine wp_if_neg same (wpAny_bind (wpAny_eqIsQuiet_tuple x ?_))
      simp only [Bool.not_true, Bool.false_eq_true, if_false]
      refine wpAny_bind (wpAny_eqIsQuiet_tuple xc ?_)
      simp only [Bool.not_true, Bool.false_eq_true, if_false]
      refine wpAny_bind (tup_cls x ?_)
      simp only [Bool.false_eq_true, if_false]
      refine wpAny_bind (tup_cls xc ?_)
      simp only [Bool.false_eq_true, if_false]
      exact wpAny_pure ⟨rfl, rfl, fun z hz => hl z (.tail _ hz)⟩
  · rintro ⟨r1, r2⟩ s1 ⟨er, rfl, _⟩
    cases er
    exact wpAny_pure q
variable {a : Addr} {L : List (Addr × List K)} {es : Array (Int × Value)} {ep : Nat} {t : SetTable}
theorem rows_len : (rows kd L).length = L.length := List.length_map _
theorem ent_size (e : es.toList = rows kd L) : es.size = L.length := by rw [← Array.length_toList, e, rows_len]
theorem fits_of (hd : t.dummies = #[]) (h1 : t.place.size = es.size) (h2 : es.size ≤ t.mask) : t.fits es.size = true := by
  unfold SetTable.fits SetTable.fill
  rw [hd, Bool.and_eq_true, beq_iff_eq, decide_eq_true_eq]
  refine ⟨h1, ?_⟩
  show t.place.size + 0 ≤ t.mask
  omega
theorem Held.places (R : Held kd s.heap a L es ep t) : t.place.size = es.size := by
  rw [ent_size R.ent, R.tab.sz, List.length_map]
theorem Held.fits (R : Held kd s.heap a L es ep t) : t.fits es.size = true := fits_of R.tab.dm R.places (by have := ent_size R.ent; have := R.gap; omega)
theorem Held.at_ (R : Held kd s.heap a L es ep t) {i : Nat} {z : Addr × List K} (h : L[i]? = some z) : es[i]? = some (hk kd z.2, Value.ref z.1) := by
  rw [← Array.getElem?_toList, R.ent, rows, List.getElem?_map, h]; rfl
theorem Held.stays (R : Held kd s.heap a L es ep t) : ¬ t.gaveWay = true := by
  unfold SetTable.gaveWay; rw [mask_odd R.tab.mok]; decide
/-- the probe behind c steps -/
abbrev prb (t : SetTable) (x : Int) (c : Nat) : SetTable.Probe := nth t.mask (runAt t.mask (SetTable.bits x % (t.mask + 1)) (SetTable.bits x)) c
theorem prb_dummy (t : SetTable) (x : Int) (c : Nat) : (prb t x c).dummy = none := by
  have g : ∀ (n : Nat) (p : SetTable.Probe), p.dummy = none → (nth t.mask p n).dummy = none := fun n => by
    induction n with
    | zero => exact fun _ e => e
    | succ n ih => exact fun p e => ih _ (by unfold adv; split <;> exact e)
  exact g c _ rfl
theorem prb_add (t : SetTable) (x : Int) (c d : Nat) : nth t.mask (prb t x c) d = prb t x (c + d) := (nth_add t.mask c _ d).symm
theorem own_mem (t : SetTable) : t.sameMemory t.moves t.mask = some true := by
  unfold SetTable.sameMemory; rw [if_pos (beq_self_eq_true _)]
/-- the slots on the way that hold the word itself are still ahead -/
def Ahead (L : List (Addr × List K)) (t : SetTable) (u : List K) (x : Int) (c N : Nat) : Prop := ∀ (i : Nat) z, L[i]? = some z → z.2 = u → ∃ d, c ≤ d ∧ d < N ∧ t.place.toList[i]? = some (way t.mask x d)
/-- where a search goes from a step of its way -/
theorem seek (R : Held kd s.heap a L es ep t) {b : Addr} {u : List K} (x : Is kd s.heap u b) (hu : A.units < cLine) {N : Nat} (lim : N < 10 * SetTable.turns t.mask)
    (emp : way t.mask (hk kd u) N ∉ t.place.toList) (occ : ∀ c, c < N → way t.mask (hk kd u) c ∈ t.place.toList) {Q : SetFound → Shared → Prop}
    (yes : u ∈ L.map (·.2) → Q (.there none) s) (no : u ∉ L.map (·.2) → Q (.free (way t.mask (hk kd u) N) false) s) :
    ∀ (f c : Nat) (st : Option SetTable.Probe), st.getD (t.probeStart (hk kd u)) = prb t (hk kd u) c → c ≤ N → N - c < f → Ahead L t u (hk kd u) c N →
      wpAny (model P w) A (setSearchFrom a (.ref b) (hk kd u) true f st) Q E s := by
  intro f
  induction f with
  | zero => exact fun c st _ _ z _ => absurd z (Nat.not_lt_zero _)
  | succ f ih =>
    intro c st est hc hf hA
    obtain ⟨o, ho, _, hd⟩ := R.obj
    rw [setSearchFrom_succ]
    refine wpAny_bind (wpAny_setState_of ho hd R.fits ?_)
    dsimp only
    refine wp_if_neg R.stays ?_
    try refine wpAny_bind (wpAny_pure ?_)
    have jj : ∀ d, (nth t.mask (prb t (hk kd u) c) d).j = way t.mask (hk kd u) (c + d) := fun d => congrArg SetTable.Probe.j (prb_add t _ c d)
    have hsh : ∀ (i : Nat) z, L[i]? = some z → (es[i]?.map (·.1)).getD 0 = hk kd z.2 := fun i z hz => by rw [R.at_ hz]; rfl
    have sp := go_spec t R.tab.ris R.tab.dm (fun i => (es[i]?.map (·.1)).getD 0) (hk kd u) (10 * SetTable.turns t.mask) (N - c) (prb t (hk kd u) c) (prb_dummy t _ c) (Nat.lt_of_le_of_lt (Nat.sub_le _ _) lim) (fun d hd' => by rw [jj]; exact occ _ (by omega)) (by rw [jj, Nat.add_sub_cancel' hc]; exact emp)
    rcases sp with ⟨d, i, hdN, hi, _, hnone, hgo⟩ | ⟨hnone, hgo⟩
    · rw [jj] at hi
      have hcand : t.probe (fun i => (es[i]?.map (·.1)).getD 0) (hk kd u) (st.getD (t.probeStart (hk kd u))) = some (.candidate (way t.mask (hk kd u) (c + d)) i (prb t (hk kd u) (c + (d + 1)))) := by
        rw [est, ← jj, ← prb_add]; exact hgo
      rw [hcand]
      dsimp only
      have hlt : i < L.length := by
        have e1 := (List.getElem?_eq_some_iff.mp hi).1
        have e2 := R.places
        have e3 := ent_size R.ent
        rw [Array.length_toList] at e1
        omega
      obtain ⟨z, hz, hzm⟩ : ∃ z, L[i]? = some z ∧ z ∈ L := ⟨_, List.getElem?_eq_getElem hlt, List.getElem_mem hlt⟩
      have xz := R.mem z hzm
      have hlive : t.slot (way t.mask (hk kd u) (c + d)) = .live i := slot_live R.tab.ris hi
      have tail : wpAny (model P w) A (searchRest a (.ref b) (hk kd u) true f es t (way t.mask (hk kd u) (c + d)) i (prb t (hk kd u) (c + (d + 1)))) Q E s := by
        unfold searchRest
        rw [R.at_ hz]
        dsimp only
        refine wpAny_bind (wpAny_holding (wpAny_eqBool_tuple hu xz x ?_))
        refine wpAny_bind (wpAny_setState_of ho hd R.fits ?_)
        dsimp only
        by_cases eq : z.2 = u
        · exact wp_if_pos (by simp [eq]) (wpAny_pure (yes (List.mem_map.mpr ⟨z, hzm, eq⟩)))
        · refine wp_if_neg (by simp [eq]) ?_
          try refine wpAny_bind (wpAny_pure ?_)
          rw [own_mem]
          dsimp only
          simp only [if_true, hlive, R.at_ hz]
          refine wpAny_bind (wpAny_isSame_ref_self (wpAny_bind (wpAny_pure ?_)))
          simp only [if_true]
          refine wp_if_neg (by simp [eq]) ?_
          refine ih (c + (d + 1)) _ rfl (by omega) (by omega) fun i0 z0 h0 e0 => ?_
          obtain ⟨m, m1, m2, m3⟩ := hA i0 z0 h0 e0
          refine ⟨m, ?_, m2, m3⟩
          rcases Nat.lt_trichotomy m (c + d) with lt | rfl | gt
          · refine absurd ((hsh i0 z0 h0).trans (congrArg (hk kd) e0)) (hnone (m - c) i0 (by omega) ?_)
            rw [jj, Nat.add_sub_cancel' m1]; exact m3
          · have l2 := slot_live R.tab.ris m3
            rw [hlive] at l2
            injection l2 with l2
            rw [← l2, hz] at h0
            exact absurd ((congrArg Prod.snd (Option.some.inj h0)).trans e0) eq
          · omega
      by_cases hl : t.led = true
      · refine wp_if_neg (by simp [hl]) ?_
        try refine wpAny_bind (wpAny_pure ?_)
        exact tail
      · refine wp_if_pos (by simp [hl]) (wpAny_bind (tup_unseen x (fun y hy => ?_) ?_))
        · obtain ⟨e, he, rfl⟩ := List.mem_map.mp hy
          have he2 : e ∈ es.toList := by
            have : e ∈ es ∧ e.1 = hk kd u := by simpa using he
            simpa using this.1
          rw [R.ent] at he2
          obtain ⟨z2, hz2, rfl⟩ := List.mem_map.mp he2
          exact ⟨z2.2, z2.1, rfl, R.mem z2 hz2⟩
        · refine wp_if_neg (by decide) ?_
          try refine wpAny_bind (wpAny_pure ?_)
          exact tail
    · have hemp : t.probe (fun i => (es[i]?.map (·.1)).getD 0) (hk kd u) (st.getD (t.probeStart (hk kd u))) = some (.empty (way t.mask (hk kd u) N) none) := by
        have e : way t.mask (hk kd u) N = (nth t.mask (prb t (hk kd u) c) (N - c)).j := by rw [jj, Nat.add_sub_cancel' hc]
        rw [est, e]; exact hgo
      rw [hemp]
      dsimp only
      refine wpAny_pure (no fun hm => ?_)
      obtain ⟨z0, hz0, e0⟩ := List.mem_map.mp hm
      obtain ⟨i0, hi0, rfl⟩ := List.getElem_of_mem hz0
      have h0 : L[i0]? = some L[i0] := List.getElem?_eq_getElem hi0
      obtain ⟨m, m1, m2, m3⟩ := hA i0 _ h0 e0
      refine absurd ((hsh i0 _ h0).trans (congrArg (hk kd) e0)) (hnone (m - c) i0 (by omega) ?_)
      rw [jj, Nat.add_sub_cancel' m1]; exact m3
/-- .. as `add` asks -/
theorem seek_add (R : Held kd s.heap a L es ep t) {b : Addr} {u : List K} (x : Is kd s.heap u b) (hu : A.units < cLine) {Q : SetFound → Shared → Prop} (yes : u ∈ L.map (·.2) → Q (.there none) s)
    (no : ∀ N, u ∉ L.map (·.2) → way t.mask (hk kd u) N ∉ t.place.toList → (∀ c, c < N → way t.mask (hk kd u) c ∈ t.place.toList) → Q (.free (way t.mask (hk kd u) N) false) s) :
    wpAny (model P w) A (setSearch a (.ref b) (hk kd u) true) Q E s := by
  have hg := R.gap
  obtain ⟨N, lim, emp, occ⟩ := R.tab.first (by rw [List.length_map]; omega) (hk kd u)
  have small : 10 * SetTable.turns t.mask ≤ 1420 := by
    unfold SetTable.turns
    rcases R.tab.mok with e | e | e <;> rw [e] <;> decide
  unfold setSearch
  refine seek R x hu lim emp occ yes (fun hn => no N hn emp occ) 100000 0 none rfl (Nat.zero_le _) (by omega) fun i z hz e => ?_
  have e1 : (L.map fun z => hk kd z.2)[i]? = some (hk kd u) := by rw [List.getElem?_map, hz, ← e]; rfl
  have hil : i < t.place.toList.length := by
    have h1 := (List.getElem?_eq_some_iff.mp hz).1
    have h2 := R.places
    have h3 := ent_size R.ent
    rw [Array.length_toList]
    omega
  have e2 := List.getElem?_eq_getElem hil
  obtain ⟨d, hd, e3⟩ := R.tab.before emp e1 e2
  exact ⟨d, Nat.zero_le _, hd, by rw [e2, e3]⟩
theorem TabOk.alike {t1 t2 : SetTable} {hs : List Int} (T : TabOk t1 hs) (e1 : t2.place = t1.place) (e2 : t2.dummies = t1.dummies) (e3 : t2.mask = t1.mask) : TabOk t2 hs := by
  refine ⟨by rw [e1]; exact T.ris, by rw [e2]; exact T.dm, by rw [e1]; exact T.sz, by rw [e3]; exact T.mok, fun y hy => ?_, fun i h j h1 h2 => ?_⟩
  · rw [e1] at hy; rw [e3]; exact T.bd y hy
  · rw [e1] at h2
    obtain ⟨c, c1, c2⟩ := T.reach i h j h1 h2
    exact ⟨c, by rw [e3]; exact c1, fun d hd => by rw [e1, e3]; exact c2 d hd⟩
theorem range_pick {α : Type} (l : List α) : (List.range l.length).filterMap (fun i => l[i]?) = l := by
  have g : ∀ n, n ≤ l.length → (List.range n).filterMap (fun i => l[i]?) = l.take n := fun n => by
    induction n with
    | zero => exact fun _ => by simp
    | succ n ih =>
      intro hn
      rw [List.range_succ, List.filterMap_append, ih (by omega), List.take_add_one]
      have : l[n]? = some l[n] := List.getElem?_eq_getElem hn
      simp [this]
  rw [g _ (Nat.le_refl _), List.take_length]
/-- the rows in another order -/
theorem pick_rows (order : Array Nat) (e : es.toList = rows kd L) (pm : order.toList.Perm (List.range L.length)) :
    ∃ L2, (order.filterMap (es[·]?)).toList = rows kd L2 ∧ L2.Perm L ∧ L2.map (fun z => hk kd z.2) = order.toList.map fun i => (es.map (·.1)).getD i 0 := by
  have ea : ∀ i : Nat, es[i]? = (L[i]?).map fun z => (hk kd z.2, Value.ref z.1) := fun i => by rw [← Array.getElem?_toList, e, rows, List.getElem?_map]
  have eh : ∀ i : Nat, i < L.length → (es.map (·.1)).getD i 0 = (L[i]?.map fun z => hk kd z.2).getD 0 := fun i hi => by
    rw [Array.getD_eq_getD_getElem?, Array.getElem?_map, ea i, List.getElem?_eq_getElem hi]; rfl
  have lt : ∀ i ∈ order.toList, i < L.length := fun i hi => List.mem_range.mp (pm.mem_iff.mp hi)
  refine ⟨order.toList.filterMap fun i => L[i]?, ?_, ?_, ?_⟩
  · rw [Array.toList_filterMap, rows, List.map_filterMap]
    congr 1
    funext i
    exact ea i
  · have h1 := pm.filterMap fun i => L[i]?
    rw [range_pick] at h1
    exact h1
  · generalize order.toList = l at lt
    induction l with
    | nil => rfl
    | cons i l ih =>
      have hi := lt i List.mem_cons_self
      rw [List.map_cons, ← ih fun j hj => lt j (.tail _ hj), eh i hi, List.filterMap_cons_some (List.getElem?_eq_getElem hi), List.getElem?_eq_getElem hi]
      rfl
theorem set_not_tup {h h' : Heap} {u : List K} {b : Addr} {o : Obj} (x : Is kd h u b) (ho : h.get? a = some o) (hd : o.data = .set es ep t) (sb : Heap.SameBut a h h') : Is kd h' u b := by
  obtain ⟨o2, its, n, h1, h2, h3, h4⟩ := x
  refine ⟨o2, its, n, (sb.2 b ?_).trans h1, h2, h3, h4⟩
  rintro rfl
  rw [h1] at ho
  cases ho
  rw [hd] at h3
  cases h3
/-- laid anew -/
theorem relay {o : Obj} (ho : s.heap.get? a = some o) (hx : o.ExactSet) (hd : o.data = .set es ep t) (e : es.toList = rows kd L) (hp : t.place.size = es.size) (hm : t.dummies = #[]) (hf : es.size ≤ t.mask)
    (one : (L.map (·.2)).Nodup) (mem : ∀ z ∈ L, Is kd s.heap z.2 z.1) (led : w.params.followText "set-order" = true ∨ t.led = true) (few : L.length < 64) {want M : Nat}
    (hw : SetTable.sizeAbove want - 1 = M) (hM : MaskOk M) (hs : SetTable.sizeAbove want ≤ 128) (gap : L.length * 5 < M * 3) {Q : Unit → Shared → Prop}
    (q : ∀ h' L2 es2 ep2 t2, Heap.SameBut a s.heap h' → Held kd h' a L2 es2 ep2 t2 → L2.Perm L → Q () { s with heap := h' }) : wpAny (model P w) A (setRelay a want) Q E s := by
  have sz := ent_size e
  obtain ⟨t2, order, e1, pm, T, m2, l2, _, _⟩ := relaid_ok t (hs := es.map (·.1)) hw hM (by rw [Array.size_map, sz]; omega)
  rw [Array.size_map, sz] at pm
  obtain ⟨L2, r1, r2, r3⟩ := pick_rows order e pm
  rw [← r3] at T
  have sz2 : (order.filterMap (es[·]?)).size = es.size := by rw [ent_size r1, r2.length_eq, sz]
  rw [setRelay_eq]
  refine wpAny_bind (wpAny_setState_of ho hd (fits_of hm hp hf) ?_)
  dsimp only
  refine wp_if_neg (by rw [sizeLine_eq]; omega) ?_
  try refine wpAny_bind (wpAny_pure ?_)
  rw [e1]
  dsimp only
  refine wpAny_bind (wp_if_neg (by rw [sz2]; simp) ?_)
  try refine wpAny_bind (wpAny_pure ?_)
  refine wpAny_pure ?_
  dsimp only
  refine wpAny_storeSet_of ho hd ?_ (by rw [sz2, sz, sizeLine_eq]; omega)
  have sb : Heap.SameBut a s.heap (s.heap.update a (Obj.putSet (order.filterMap (es[·]?)) t2)) := Heap.SameBut.update ..
  refine q _ L2 _ (ep + 1) t2 sb ⟨⟨_, store_at ho hd, ⟨hx.1, hx.2.1, hx.2.2⟩, rfl⟩, r1, T, (r2.map (·.2)).nodup_iff.mpr one, fun z hz => set_not_tup (mem z (r2.mem_iff.mp hz)) ho hd sb, by rw [l2]; exact led, by rw [r2.length_eq, m2]; exact gap, by rw [r2.length_eq]; exact few⟩ r2
theorem ins_perm {α : Type} (l : List α) (p : Nat) (x : α) : (l.take p ++ x :: l.drop p).Perm (x :: l) := by
  have g := List.perm_middle (a := x) (l₁ := l.take p) (l₂ := l.drop p)
  rwa [List.take_append_drop] at g
/-- one more -/
theorem add (R : Held kd s.heap a L es ep t) {b : Addr} {u : List K} (x : Is kd s.heap u b) (hu : A.units < cLine) (few : L.length + 1 < 64) {Q : Bool → Shared → Prop}
    (q : ∀ r h' L2 es2 ep2 t2, Heap.SameBut a s.heap h' → Held kd h' a L2 es2 ep2 t2 → (u ∈ L.map (·.2) → L2 = L) → (u ∉ L.map (·.2) → L2.Perm ((b, u) :: L)) → Q r { s with heap := h' }) :
    wpAny (model P w) A (setAddHashed a (.ref b) (hk kd u)) Q E s := by
  obtain ⟨o, ho, hx, hd⟩ := R.obj
  have sz := ent_size R.ent
  have gap := R.gap
  unfold setAddHashed
  refine wpAny_holding ?_
  rw [show (100000 : Nat) = 99999 + 1 from rfl, setAddHashedIn_succ]
  refine wpAny_bind (wpAny_setState_of ho hd R.fits ?_)
  dsimp only
  refine wp_if_neg (by simp [byScan, Value.scannable]) ?_
  try refine wpAny_bind (wpAny_pure ?_)
  refine wpAny_bind (seek_add R x hu (fun hm => ?_) fun N hm emp occ => ?_)
  · exact wpAny_pure (q false s.heap L es ep t (.refl a s.heap) R (fun _ => rfl) fun z => absurd hm z)
  dsimp only
  refine wpAny_bind (wpAny_setState_of ho hd R.fits ?_)
  dsimp only
  obtain ⟨b1, b2, T1, m1, l1, _, _, _, f1⟩ := R.tab.put emp occ
  have ins : (SetTable.insertAt es (SetTable.below t.place (way t.mask (hk kd u) N)) (hk kd u, Value.ref b)).toList = rows kd (L.take (SetTable.below t.place (way t.mask (hk kd u) N)) ++ (b, u) :: L.drop (SetTable.below t.place (way t.mask (hk kd u) N))) := by
    rw [SetTable.toList_insertAt, R.ent]
    simp only [rows, List.map_append, List.map_cons, List.map_take, List.map_drop]
  have hmap : (L.take (SetTable.below t.place (way t.mask (hk kd u) N)) ++ (b, u) :: L.drop (SetTable.below t.place (way t.mask (hk kd u) N))).map (fun z => hk kd z.2) = (L.map fun z => hk kd z.2).take (SetTable.below t.place (way t.mask (hk kd u) N)) ++ hk kd u :: (L.map fun z => hk kd z.2).drop (SetTable.below t.place (way t.mask (hk kd u) N)) := by
    simp only [List.map_append, List.map_cons, List.map_take, List.map_drop]
  rw [← hmap] at T1
  generalize hpt : t.put (way t.mask (hk kd u) N) = pt at b1 T1 m1 l1 f1 ⊢
  obtain ⟨t1, p1⟩ := pt
  dsimp only at b1 T1 m1 l1 f1 ⊢
  subst b1
  generalize hbl : SetTable.below t.place (way t.mask (hk kd u) N) = pos at b2 T1 ins ⊢
  have pm := ins_perm L pos (b, u)
  generalize L.take pos ++ (b, u) :: L.drop pos = L1 at pm T1 ins
  have len1 : L1.length = L.length + 1 := pm.length_eq
  have one1 : (L1.map (·.2)).Nodup := (pm.map (·.2)).nodup_iff.mpr (by rw [List.map_cons]; exact List.nodup_cons.mpr ⟨hm, R.one⟩)
  have sz1 := ent_size ins
  generalize SetTable.insertAt es pos (hk kd u, Value.ref b) = es1 at ins sz1 ⊢
  rw [sz]
  have go : ∀ t2 : SetTable, t2.place = t1.place → t2.dummies = t1.dummies → t2.mask = t1.mask → t2.led = t1.led → wpAny (model P w) A (storeSet a es1 t2 >>= fun _ => if (!false && t2.tooFull) = true then (setRelay a (SetTable.grown (L.length + 1)) >>= fun _ => pure true) else pure true) Q E s := by
    intro t2 g1 g2 g3 g4
    have T2 := TabOk.alike T1 g1 g2 g3
    refine wpAny_bind (wpAny_storeSet_of ho hd ?_ (by rw [sz1, len1, sizeLine_eq]; omega))
    have sb : Heap.SameBut a s.heap (s.heap.update a (Obj.putSet es1 t2)) := Heap.SameBut.update ..
    have ho1 := store_at (es' := es1) (t' := t2) ho hd
    generalize s.heap.update a (Obj.putSet es1 t2) = h1 at sb ho1 ⊢
    have mem1 : ∀ z ∈ L1, Is kd h1 z.2 z.1 := fun z hz => by
      rcases List.mem_cons.mp (pm.mem_iff.mp hz) with e | hz
      · rw [e]; exact set_not_tup x ho hd sb
      · exact set_not_tup (R.mem z hz) ho hd sb
    have led1 : w.params.followText "set-order" = true ∨ t2.led = true := by rw [g4, l1]; exact R.led
    have pl2 : t2.place.size = es1.size := by rw [T2.sz, List.length_map, sz1]
    have fill2 : t2.fill = L.length + 1 := by
      unfold SetTable.fill
      rw [g1, g2]
      rw [List.length_map] at f1
      exact f1
    by_cases full : t2.tooFull = true
    · have big : (L.length + 1) * 5 ≥ t2.mask * 3 := by
        have h := full
        unfold SetTable.tooFull at h
        rw [decide_eq_true_eq, fill2] at h
        exact h
      rw [g3, m1] at big
      have at2 : (t.mask = 7 ∧ L.length = 4) ∨ (t.mask = 31 ∧ L.length = 18) := by
        rcases R.tab.mok with e | e | e
        · rw [e] at big gap; exact .inl ⟨e, by omega⟩
        · rw [e] at big gap; exact .inr ⟨e, by omega⟩
        · rw [e] at big; omega
      have lay : ∀ M, SetTable.sizeAbove (SetTable.grown (L.length + 1)) = M + 1 → MaskOk M → M ≤ 127 → (L.length + 1) * 5 < M * 3 →
          wpAny (model P w) A (setRelay a (SetTable.grown (L.length + 1))) (fun _ s1 => wpAny (model P w) A (pure true) Q E s1) E { s with heap := h1 } := fun M k1 k2 k3 k4 =>
        relay (s := { s with heap := h1 }) ho1 ⟨hx.1, hx.2.1, hx.2.2⟩ rfl ins pl2 T2.dm (by rw [sz1, len1, g3, m1]; rcases at2 with ⟨e, e2⟩ | ⟨e, e2⟩ <;> omega) one1 mem1 led1 (by rw [len1]; exact few) (by rw [k1]; rfl) k2 (by rw [k1]; omega) (by rw [len1]; exact k4)
          fun h2 L2 es2 ep2 t3 sb2 R2 pm2 => wpAny_pure (q true h2 L2 es2 ep2 t3 (sb.trans sb2) R2 (fun z => absurd z hm) fun _ => pm2.trans pm)
      have hc : (!false && t2.tooFull) = true := by rw [full]; rfl
      refine wp_if_pos hc (wpAny_bind ?_)
      rcases at2 with ⟨_, e2⟩ | ⟨_, e2⟩
      · exact lay 31 (by rw [e2]; exact size_20) (.inr (.inl rfl)) (by decide) (by omega)
      · exact lay 127 (by rw [e2]; exact size_76) (.inr (.inr rfl)) (by decide) (by omega)
    · have hc : ¬ (!false && t2.tooFull) = true := by simpa using full
      refine wp_if_neg hc ?_
      refine wpAny_pure (q true h1 L1 es1 (ep + 1) t2 sb ⟨⟨_, ho1, ⟨hx.1, hx.2.1, hx.2.2⟩, rfl⟩, ins, T2, one1, mem1, led1, ?_, by rw [len1]; exact few⟩ (fun z => absurd z hm) fun _ => pm)
      have h := full
      unfold SetTable.tooFull at h
      rw [decide_eq_true_eq, fill2] at h
      rw [len1]; omega
  by_cases hp : t1.plain = true
  · refine wp_if_pos hp (wpAny_bind (tup_hash x fun c => ?_))
    cases c
    · exact go { t1 with plain := false } rfl rfl rfl rfl
    · exact go t1 rfl rfl rfl rfl
  · refine wp_if_neg hp (wpAny_bind (wpAny_pure ?_))
    exact go t1 rfl rfl rfl rfl
theorem Is.more {h h' : Heap} {u : List K} {b : Addr} (x : Is kd h u b) (e : ∀ c o, h.get? c = some o → h'.get? c = some o) : Is kd h' u b := by
  obtain ⟨o, its, n, h1, r⟩ := x
  exact ⟨o, its, n, e _ _ h1, r⟩
theorem Held.more {h h' : Heap} (R : Held kd h a L es ep t) (e : ∀ o, h.get? a = some o → h'.get? a = some o) (m : ∀ z ∈ L, Is kd h' z.2 z.1) : Held kd h' a L es ep t := by
  obtain ⟨⟨o, ho, r⟩, r1, r2, r3, _, r5, r6, r7⟩ := R
  exact ⟨⟨o, e o ho, r⟩, r1, r2, r3, m, r5, r6, r7⟩
/-- what L has of the first i of ks -/
structure Took (ks : List (Addr × List K)) (i : Nat) (L : List (Addr × List K)) : Prop where
  sub : ∀ z ∈ L, z ∈ ks.take i
  all : ∀ z ∈ ks.take i, z.2 ∈ L.map (·.2)
  len : L.length ≤ i
theorem Took.step {ks L L2 : List (Addr × List K)} {i : Nat} {z : Addr × List K} (g : Took ks i L) (h : ks[i]? = some z) (h1 : z.2 ∈ L.map (·.2) → L2 = L) (h2 : z.2 ∉ L.map (·.2) → L2.Perm (z :: L)) : Took ks (i + 1) L2 := by
  have e : ks.take (i + 1) = ks.take i ++ [z] := by rw [List.take_add_one, h]; rfl
  by_cases hm : z.2 ∈ L.map (·.2)
  · rw [h1 hm]
    refine ⟨fun y hy => e ▸ List.mem_append_left _ (g.sub y hy), fun y hy => ?_, Nat.le_succ_of_le g.len⟩
    rw [e] at hy
    rcases List.mem_append.mp hy with hy | hy
    · exact g.all y hy
    · rw [List.mem_singleton.mp hy]; exact hm
  · have pm := h2 hm
    refine ⟨fun y hy => e ▸ ?_, fun y hy => ?_, by rw [pm.length_eq]; exact Nat.succ_le_succ g.len⟩
    · rcases List.mem_cons.mp (pm.mem_iff.mp hy) with rfl | hy
      · exact List.mem_append_right _ List.mem_cons_self
      · exact List.mem_append_left _ (g.sub y hy)
    · rw [(pm.map (·.2)).mem_iff, List.map_cons]
      rw [e] at hy
      rcases List.mem_append.mp hy with hy | hy
      · exact List.mem_cons_of_mem _ (g.all y hy)
      · rw [List.mem_singleton.mp hy]; exact List.mem_cons_self
/-- what adding an item is asked: G tells what the set at S has got from the first items -/
def Adds (P : Program) (w : World) (A : Around) (S : Addr) (h0 : Heap) (n : Nat) (Pv : Nat → Value → Prop) (G : Nat → Heap → Prop) : Prop :=
  (∀ i h h', G i h → (∀ o, h.get? S = some o → h'.get? S = some o) → (∀ b o, h0.get? b = some o → h'.get? b = some o) → G i h') ∧
  ∀ i v (s : Shared) (Q : Bool → Shared → Prop) (E : Value → Shared → Prop), i < n → Pv i v → G i s.heap → (∀ b o, h0.get? b = some o → s.heap.get? b = some o) →
    (∀ r h' tk, s.toks ≤ tk → Heap.SameBut S s.heap h' → G (i + 1) h' → Q r { s with heap := h', toks := tk }) → wpAny (model P w) A (setAdd S v) Q E s
/-- the loop that fills a set -/
theorem fill_loop {I S : Addr} {fp wr : List Addr} {Gn : Array GenState → Array GenState → Prop} {n : Nat} {Pv : Nat → Value → Prop} {St : Nat → Shared → Prop} {R : Result → Shared → Prop} (W : WalksS P w A.in1 I fp wr Gn n Pv St) (out : S ∉ fp) {h0 : Heap} (nw : ∀ b ∈ wr, h0.get? b = none) (nS : h0.get? S = none) {G : Nat → Heap → Prop}
    (ad : Adds P w A.in1 S h0 n Pv G) :
    ∀ (k i : Nat) (s : Shared), n - i = k → i ≤ n → St i s → (∀ b o, h0.get? b = some o → s.heap.get? b = some o) → G i s.heap →
      (∀ s1, Moved (S :: wr) Gn s s1 → G n s1.heap → (∀ b o, h0.get? b = some o → s1.heap.get? b = some o) → R (.ok (.ret .none)) s1) →
      codeAny (model P w) A (.builtin "set.update.loop" ⟨[.ref S, .ref I], []⟩) R s := by
  have wide : ∀ b ∈ wr, b ∈ S :: wr := fun b hb => .tail _ hb
  have notw : S ∉ wr := fun z => out (W.sub _ z)
  have old : ∀ {s1 s2 : Shared}, Moved wr Gn s1 s2 → (∀ b o, h0.get? b = some o → s1.heap.get? b = some o) → ∀ b o, h0.get? b = some o → s2.heap.get? b = some o := fun m e b o q => m.heap b o (fun z => by rw [nw b z] at q; cases q) (e b o q)
  intro k
  induction k with
  | zero =>
    intro i s ek hi st e0 H done
    obtain rfl : i = n := by omega
    refine codeAny_builtin F.entry_set_update_loop ?_
    rw [Around.under_plainId F.plain_set_update_loop _]
    show wpAny _ A.in1 (pyNext (.ref I) >>= _) _ _ s
    refine wpAny_bind (W.done s _ _ st fun s1 m => ?_)
    show wpAny _ A.in1 (ret Value.none) _ _ s1
    have e1 := old m e0
    exact wpAny_pure (done s1 (m.mono wide) (ad.1 _ _ _ H (fun o q => m.heap S o notw q) e1) e1)
  | succ k ih =>
    intro i s ek hi st e0 H done
    have lt : i < n := by omega
    refine codeAny_builtin F.entry_set_update_loop ?_
    rw [Around.under_plainId F.plain_set_update_loop _]
    show wpAny _ A.in1 (pyNext (.ref I) >>= _) _ _ s
    refine wpAny_bind (W.item i s _ _ lt st fun v s1 pv st1 m => ?_)
    have e1 := old m e0
    have H1 := ad.1 _ _ _ H (fun o q => m.heap S o notw q) e1
    show wpAny _ A.in1 (holding [v] (setAdd S v) >>= _) _ _ s1
    refine wpAny_bind (wpAny_holding (ad.2 i v s1 _ _ lt pv H1 e1 fun r h' tk ht sb H2 => ?_))
    have e2 : ∀ b o, h0.get? b = some o → h'.get? b = some o := fun b o q => (sb.2 b fun z => by rw [z, nS] at q; cases q).trans (e1 b o q)
    have fr : ∀ b, b ≠ S → ∀ o, s1.heap.get? b = some o → h'.get? b = some o := fun b hb o q => (sb.2 b hb).trans q
    refine wpAny_pure ⟨plainId_quiet F.plain_set_update_loop _, ih (i + 1) _ (by omega) lt (W.frame _ s1 _ _ st1 ht fun b hb o q => fr b (fun z => out (z ▸ hb)) o q) e2 H2 fun s2 m3 H3 e3 => ?_⟩
    exact done s2 (Moved.trans W.gtrans ((m.mono wide).then_heap ht fun b o hb q => fr b (fun z => hb (z ▸ List.mem_cons_self)) o q) m3) H3 e3
abbrev newO (w : World) : Obj := { cls := .type "set", dict := none, data := .set #[] 0 (.fresh 0 0 (!w.params.followText "set-order")) }
theorem held_new {h : Heap} (ho : h.get? a = some (newO w)) : Held kd h a [] #[] 0 (.fresh 0 0 (!w.params.followText "set-order")) := by
  refine ⟨⟨_, ho, ⟨rfl, rfl, rfl⟩, rfl⟩, rfl, ⟨List.Pairwise.nil, rfl, rfl, .inl rfl, fun y hy => (by cases hy), fun i x j hi => (by simp at hi)⟩, List.nodup_nil, fun z hz => (by cases hz), ?_, (by decide : 0 * 5 < 7 * 3), (by decide : 0 < 64)⟩
  cases h1 : w.params.followText "set-order"
  · right; rfl
  · left; rfl
/-- set(xs), xs a list -/
theorem call_set_by {l : Addr} {its : Array Value} {Q : Value → Shared → Prop} (hh : A.handled = none) (hl : s.heap.IsList l its) {G : Nat → Heap → Prop} (g0 : ∀ h, h.get? s.heap.objs.size = some (newO w) → (∀ b o, s.heap.get? b = some o → h.get? b = some o) → G 0 h)
    (ads : Adds P w A.in1.in1.in1 s.heap.objs.size s.heap its.size (fun i v => its[i]? = some v) G)
    (q : ∀ (h' : Heap) (tk : Nat), G its.size h' → (∀ b o, s.heap.get? b = some o → h'.get? b = some o) → Q (.ref s.heap.objs.size) { s with heap := h', toks := tk }) :
    wpAny (model P w) A (call (.type "set") [.ref l]) Q E s := by
  obtain ⟨mc, mt, hmro⟩ := F.called_set.mro
  have c1 := F.called_set.made
  have c2 := F.called_set.sub
  have c3 := F.called_set.notType
  have c4 := F.called_set.canCreate
  have c5 := F.typeCall_set_1 (.ref l)
  refine wpAny_call (codeAny_of_tree ?_)
  show wpAny _ _ (callAny (.type "set") _) _ _ _
  refine wpAny_pure ⟨Code.quiet_builtin _ (by decide +kernel), codeAny_builtin F.entry_type_call ?_⟩
  rw [Around.under_plain (weight_type_call_type "set" [.ref l] []) rfl]
  repeat (any_goals (first | assumption | wp_step))
  refine codeAny_mono (code_set_led1 (.ref l) (E := E) (Q₁ := fun v s1 => v = .ref s.heap.objs.size ∧ s1 = { s with heap := s.heap.push (newO w) }) ⟨rfl, rfl⟩) fun r s1 hr => ?_
  cases r with
  | error e => exact hr
  | ok fl =>
    cases fl with
    | ret v =>
      obtain ⟨rfl, rfl⟩ := hr
      have hS : (s.heap.push (newO w)).get? s.heap.objs.size = some (newO w) := Heap.get?_push_size _ rfl
      have ty : Shared.TypeIs { s with heap := s.heap.push (newO w) } (.ref s.heap.objs.size) "set" := ⟨_, hS, rfl⟩
      have i1 := F.called_set.init.lookup
      have i2 := F.called_set.init.bind (.ref s.heap.objs.size)
      repeat (any_goals (first | assumption | wp_step))
      refine codeAny_mono (codeAny_call_builtin (R := wants (fun r s2 => r = .none ∧ ∃ h' tk, s2 = { s with heap := h', toks := tk } ∧ G its.size h' ∧ ∀ b o, s.heap.get? b = some o → h'.get? b = some o) E) F.called_set.init.plain F.entry_set_init (check_set_init_1 ty ?_)) fun r2 s2 hr2 => ?_
      · have old : ∀ b o, s.heap.get? b = some o → (s.heap.push (newO w)).get? b = some o := fun b o e => Heap.get?_push_of_some _ e
        have size1 : (s.heap.push (newO w)).objs.size = s.heap.objs.size + 1 := Heap.size_push ..
        have hl1 : (s.heap.push (newO w)).IsList l its := hl.push _
        have lS : l < s.heap.objs.size := by obtain ⟨o, ho, _⟩ := hl; exact Heap.lt_size ho
        obtain ⟨⟨ac, ad, adt, asl⟩, ho, hc, n, hd⟩ := hl
        simp only at hc hd
        subst hc; subst hd
        have ho1 := old l _ ho
        have n1 := F.sub_list_set
        have n2 := F.sub_list_frozenset
        have n3 : (Value.type "list" == Value.type "dict") = false := by decide
        unfold Builtin.«set.__init__» noKeywords Builtin.Frozenset.updateFrom
        generalize hPI : pyIter = PI
        wp_walk
        subst hPI
        refine wpAny_pyIter_list hl1 ?_
        refine wpAny_bind (wpAny_runValue ?_)
        have h3 : A.in1.in1.in1.handled = none := by simp [hh]
        have ln : l ≠ (s.heap.push (newO w)).objs.size := by rw [size1]; exact Nat.ne_of_lt (Nat.lt_succ_of_lt lS)
        have out : s.heap.objs.size ∉ [(s.heap.push (newO w)).objs.size, l] := by
          rw [size1]
          simp only [List.mem_cons, List.not_mem_nil, or_false, not_or]
          exact ⟨Nat.ne_of_lt (Nat.lt_succ_self _), Nat.ne_of_gt lS⟩
        have none_at : ∀ b, s.heap.objs.size ≤ b → s.heap.get? b = none := fun b hb => by
          cases e : s.heap.get? b with
          | none => rfl
          | some o => exact absurd (Heap.lt_size e) (Nat.not_lt.mpr hb)
        refine fill_loop ((Walks.list h3 _ l ln its).toS) out (fun b hb => none_at b (by rw [List.mem_singleton.mp hb, size1]; exact Nat.le_succ _)) (none_at _ (Nat.le_refl _)) ads (its.size - 0) 0 _ (by omega) (Nat.zero_le _)
          ⟨⟨_, Heap.get?_push_size _ rfl, rfl, rfl⟩, hl1.push _⟩ (fun b o e => Heap.get?_push_of_some _ (old b o e)) (g0 _ (Heap.get?_push_of_some _ hS) fun b o e => Heap.get?_push_of_some _ (old b o e)) ?_
        intro s3 m H e3
        obtain ⟨h', g2, d2, tk, os2⟩ := s3
        obtain rfl : g2 = s.gens := m.gens
        obtain rfl : d2 = s.drawn := m.drawn
        obtain rfl : os2 = s.os := m.os
        show wpAny _ _ _ _ _ _
        refine wpAny_pure ?_
        show wpAny _ _ (ret Value.none) _ _ _
        exact wpAny_pure ⟨rfl, h', tk, rfl, H, e3⟩
      · cases r2 with
        | error e => exact hr2
        | ok fl2 =>
          cases fl2 with
          | ret r =>
            obtain ⟨rfl, h', tk, rfl, H, e3⟩ := hr2
            repeat (any_goals (first | assumption | wp_step))
            exact q _ _ H e3
          | _ => exact hr2.elim
    | _ => exact hr.elim
/-- .. a list of tuples of keys -/
theorem call_set {l : Addr} {its : Array Value} {ks : List (Addr × List K)} {Q : Value → Shared → Prop} (hh : A.handled = none) (hl : s.heap.IsList l its) (ei : its.toList = ks.map fun z => Value.ref z.1) (hk0 : ∀ z ∈ ks, Is kd s.heap z.2 z.1) (few : ks.length < 64) (hu : A.units + 3 < cLine)
    (q : ∀ (h' : Heap) (tk : Nat) L es ep t, Held kd h' s.heap.objs.size L es ep t → Took ks ks.length L → (∀ b o, s.heap.get? b = some o → h'.get? b = some o) → Q (.ref s.heap.objs.size) { s with heap := h', toks := tk }) :
    wpAny (model P w) A (call (.type "set") [.ref l]) Q E s := by
  have isz : its.size = ks.length := by rw [← Array.length_toList, ei, List.length_map]
  refine call_set_by hh hl (G := fun i h => ∃ L es ep t, Held kd h s.heap.objs.size L es ep t ∧ Took ks i L) (fun h e _ => ⟨[], #[], 0, _, held_new e, ⟨fun z hz => (nomatch hz), fun z hz => (by simp at hz), Nat.le_refl _⟩⟩) ⟨?_, ?_⟩ fun h' tk ⟨L, es, ep, t, H, g⟩ e => q h' tk L es ep t H (isz ▸ g) e
  · rintro i h h' ⟨L, es, ep, t, H, g⟩ e1 e2
    exact ⟨L, es, ep, t, H.more e1 fun z hz => (hk0 z (List.mem_of_mem_take (g.sub z hz))).more e2, g⟩
  · rintro i v s1 Q E lt hv ⟨L, es, ep, t, H, g⟩ e1 k
    rw [← Array.getElem?_toList, ei, List.getElem?_map] at hv
    obtain ⟨z, hz, rfl⟩ := Option.map_eq_some_iff.mp hv
    have xz : Is kd s1.heap z.2 z.1 := (hk0 z (List.mem_of_getElem? hz)).more e1
    have hu3 : A.in1.in1.in1.units < cLine := by show A.units + 1 + 1 + 1 < cLine; omega
    unfold setAdd
    refine wpAny_holding (wpAny_bind (wpAny_pyHash_tuple hu3 xz ?_))
    refine add (s := { s1 with toks := s1.toks + (z.2.length + 1) }) H xz hu3 (by have := g.len; omega) fun r h' L2 es2 ep2 t2 sb H2 c1 c2 => ?_
    exact k r h' _ (Nat.le_add_right _ _) sb ⟨L2, es2, ep2, t2, H2, g.step hz c1 c2⟩
end
end KvT

/-! sorted(set of tuples), and the rules for callers -/
namespace KvT
open PySem PySem.Spec PyProof.Rows L2
open PySem.W (EachIs AllAlike Sortable dataLe dataLt)
def kD : Key → PyData
  | .inl i => .int i
  | .inr x => .str x
def tD (u : List Key) : PyData := .tuple (u.map kD)
theorem dep_all : ∀ u : List Key, PyData.depthAll (u.map kD) = 0
  | [] => rfl
  | .inl i :: u => by
    show PyData.depthAll (.int i :: u.map kD) = 0
    unfold PyData.depthAll; rw [dep_all u]; rfl
  | .inr x :: u => by
    show PyData.depthAll (.str x :: u.map kD) = 0
    unfold PyData.depthAll; rw [dep_all u]; rfl
theorem dep_tD (u : List Key) : (tD u).depth = 1 := by
  unfold tD PyData.depth; rw [dep_all]
section
variable {P : Program} {w : World}
theorem items_read {h : Heap} {u : List Key} {vs : List Value} (x : ItemsAre (mixKind P w) u vs) : ReadsAll h vs (u.map kD) [] := by
  induction x with
  | nil => exact .nil
  | @cons k v u vs h1 _ ih =>
    rcases keyIs_shape h1 with ⟨i, t, rfl, rfl⟩ | ⟨y, t, rfl, rfl⟩
    · exact .cons (as := []) (.int i t) ih
    · exact .cons (as := []) (.str y t) ih
theorem Is.reads {h : Heap} {u : List Key} {b : Addr} (x : Is (mixKind P w) h u b) : Reads h (.ref b) (tD u) [] := by
  obtain ⟨o, its, n, h1, h2, h3, h4⟩ := x
  exact .tuple h1 h2 h3 (items_read h4)
variable {A : Around} {E : Value → Shared → Prop} {s : Shared} {a : Addr} {L : List (Addr × List Key)} {es : Array (Int × Value)} {ep : Nat} {t : SetTable}
theorem each_ref : ∀ bs : List (Addr × List Key), EachIs (fun (v : Value) (z : Addr × List Key) => v = .ref z.1) (bs.map fun z => Value.ref z.1) bs
  | [] => .nil
  | z :: bs => .cons rfl (each_ref bs)
theorem ref_each : ∀ {vs : List Value} {bs : List (Addr × List Key)}, EachIs (fun (v : Value) (z : Addr × List Key) => v = .ref z.1) vs bs → vs = bs.map fun z => Value.ref z.1
  | _, _, .nil => rfl
  | _, _, .cons h t => by rw [h, ref_each t]; rfl
theorem each_read {h : Heap} : ∀ (bs : List (Addr × List Key)) {p : Addr}, (∀ z ∈ bs, Is (mixKind P w) h z.2 z.1) → EachIs (fun v (z : Addr × List Key) => ∃ as, Reads h v (tD z.2) as ∧ p ∉ as) (bs.map fun z => Value.ref z.1) bs
  | [], _, _ => .nil
  | z :: bs, p, hz => .cons ⟨[], (hz z List.mem_cons_self).reads, List.not_mem_nil⟩ (each_read bs fun y hy => hz y (.tail _ hy))
/-- sorted(a set of such tuples) -/
theorem call_sorted (R : Held (mixKind P w) s.heap a L es ep t) (hh : A.handled = none) (hal : AllAlike (L.map fun z => tD z.2)) (hso : Sortable (L.map fun z => tD z.2)) (hu : A.units + 20 < cLine) {Q : Value → Shared → Prop}
    (q : ∀ s1 p (out : Array Value) (c : Nat) (L2 : List (Addr × List Key)), (∀ b o, s.heap.get? b = some o → s1.heap.get? b = some o) → s1.gens = s.gens → s1.os = s.os → s.heap.objs.size ≤ p → s1.heap.get? p = some (seqObj "list" out c) →
      out.toList = L2.map (fun z => Value.ref z.1) → L2.Perm L → L2.Pairwise (fun y z => dataLt (tD z.2) (tD y.2) = false) → Q (.ref p) s1) : wpAny (model P w) A (call (.builtin "sorted") [.ref a]) Q E s := by
  obtain ⟨o, ho, hx, hd⟩ := R.obj
  have few := R.few
  have sz := ent_size R.ent
  refine Calls.call_function_entry (E := E) kind_sorted plain_sorted entry_sorted (args_sorted1 _) ?_
  unfold Builtin.«sorted»
  refine wpAny_bind (m := checkCount "sorted" 1 1 _) (wpAny_pure ?_)
  refine wpAny_bind (collect_set (A := A.in1) hh ⟨o, ho, hx.1, hd⟩ R.fits (by rw [sz]; unfold scanBound; omega) R.tab.ris R.led fun s1 vs k1 hz g1 o1 pm => ?_)
  have em : es.toList.map (·.2) = L.map fun z => Value.ref z.1 := by
    rw [R.ent, rows, List.map_map]; rfl
  obtain ⟨bs, pb, rfl⟩ := Kv.perm_map pm L em
  have lb : bs.length = L.length := pb.length_eq
  refine wpAny_bind (wpAny_newList ?_ (by rw [List.length_map, lb, sizeLine_eq]; omega))
  have hp : (s1.heap.push (seqObj "list" (bs.map fun z => Value.ref z.1).toArray 0)).get? s1.heap.objs.size = some (seqObj "list" (bs.map fun z => Value.ref z.1).toArray 0) := Heap.get?_push_size _ rfl
  have old : ∀ b u, s.heap.get? b = some u → (s1.heap.push (seqObj "list" (bs.map fun z => Value.ref z.1).toArray 0)).get? b = some u := fun b u e => Heap.get?_push_of_some _ (k1 b u e)
  have er := each_read (P := P) (w := w) bs (p := s1.heap.objs.size) fun z hz => (R.mem z (pb.mem_iff.mp hz)).more old
  have pd : (bs.map fun z => tD z.2).Perm (L.map fun z => tD z.2) := pb.map _
  refine wpAny_bind (wpAny_holding (PySem.W.list_sort_data (s := { s1 with heap := s1.heap.push (seqObj "list" (bs.map fun z => Value.ref z.1).toArray 0) }) (enc := fun z : Addr × List Key => tD z.2) hp (each_ref bs) er
    (fun d hd d' hd' => hal d (pd.mem_iff.mp hd) d' (pd.mem_iff.mp hd')) (hso.imp (fun h d hd => h d (pd.mem_iff.mp hd)) fun h d hd => h d (pd.mem_iff.mp hd)) (by rw [lb, sizeLine_eq]; omega) (fun z _ => by rw [dep_tD]; show A.units + 1 + 1 + 1 < cLine; omega) fun out _ e2 => ?_))
  obtain ⟨c, hc⟩ := sortedHeap_at (out := out.toArray) hp
  refine wpAny_pure ⟨_, rfl, q _ s1.heap.objs.size out.toArray c (bs.mergeSort (dataLe false fun z => tD z.2)) (fun b u e => ?_) g1 o1 hz hc (ref_each e2) ((List.mergeSort_perm _ _).trans pb) ?_⟩
  · have lt := Heap.lt_size (k1 b u e)
    show (sortedHeap (s1.heap.push _) s1.heap.objs.size _ out.toArray).get? b = some u
    rw [sortedHeap_old (Nat.ne_of_lt lt) (by rw [size_push']; exact Nat.lt_succ_of_lt lt)]
    exact old b u e
  · refine (PySem.W.sort_pairwise (PySem.W.sortLe_total _ false _) bs).imp fun {y z} h => ?_
    have h2 : (!dataLt (tD z.2) (tD y.2)) = true := h
    simpa using h2
end
end KvT

/-! Sets of texts: set(list of texts), sorted of it. -/
namespace KvW
open PySem PySem.Spec PyProof.Rows L2
open PySem.W (EachIs AllAlike Sortable dataLe dataLt)
section
variable {P : Program} {w : World} {A : Around} {E : Value → Shared → Prop} {s : Shared} {a : Addr} {es : Array (Int × Value)} {ep : Nat} {t : SetTable}
/-- the text of an entry -/
def txt (e : Int × Value) : Str := match e.2 with | .str x _ => x | _ => ⟨#[]⟩
def Txe (P : Program) (w : World) (e : Int × Value) : Prop := ∃ x k, e = ((strKind P w).hash x, Value.str x k)
/-- a set's object of texts -/
structure Held (P : Program) (w : World) (h : Heap) (a : Addr) (es : Array (Int × Value)) (ep : Nat) (t : SetTable) : Prop where
  obj : ∃ o, h.get? a = some o ∧ o.ExactSet ∧ o.data = .set es ep t
  ent : ∀ e ∈ es.toList, Txe P w e
  one : (es.toList.map txt).Nodup
  fit : t.fits es.size = true
  ris : Ris t.place.toList
  led : w.params.followText "set-order" = true ∨ t.led = true
  few : es.size < scanBound
theorem is_text {e : Int × Value} (g : Txe P w e) (x : Str) : (strKind P w).is x e.2 = true ↔ txt e = x := by
  obtain ⟨y, k, rfl⟩ := g
  show (strKind P w).is x (Value.str y k) = true ↔ y = x
  constructor
  · intro h
    exact (strKind P w).inj _ _ _ (strKind_is P w y k) h
  · rintro rfl; exact strKind_is P w y k
theorem elems {l : List (Int × Value)} (g : ∀ e ∈ l, Txe P w e) : ElemsOf (strKind P w) l := fun e he => by
  obtain ⟨x, k, rfl⟩ := g e he
  exact ⟨⟨x, strKind_is P w x k, rfl⟩, rfl⟩
/-- one text more -/
theorem add {x : Str} {k : Tok} {Q : Bool → Shared → Prop} (R : Held P w s.heap a es ep t) (room : es.size + 1 < scanBound)
    (q : ∀ r h' es2 ep2 t2, Heap.SameBut a s.heap h' → Held P w h' a es2 ep2 t2 → (x ∈ es.toList.map txt → (es2.toList.map txt).Perm (es.toList.map txt)) → (x ∉ es.toList.map txt → (es2.toList.map txt).Perm (x :: es.toList.map txt)) → Q r { s with heap := h' }) :
    wpAny (model P w) A (setAddHashed a (.str x k) ((strKind P w).hash x)) Q E s := by
  obtain ⟨o, ho, hx, hd⟩ := R.obj
  have el := elems R.ent
  unfold setAddHashed setAddHashedIn
  refine wpAny_holding (wpAny_bind (wpAny_setState_of ho hd R.fit ?_))
  dsimp only
  rw [byScan_of (show (Value.str x k).scannable = true from rfl) R.few el]
  simp only [↓reduceIte]
  unfold setAddByScan
  refine wpAny_bind (wpAny_bind (wpAny_rule (wpAny_bind (wpAny_setScan_of (strKind_is P w x k) ho hd R.fit el ?_))))
  cases found : List.findIdx? (fun e => (strKind P w).is x e.2) es.toList with
  | some j =>
    dsimp only
    obtain ⟨hj, pj, _⟩ := List.findIdx?_eq_some_iff_getElem.mp found
    have hm : x ∈ es.toList.map txt := List.mem_map.mpr ⟨_, List.getElem_mem hj, (is_text (R.ent _ (List.getElem_mem hj)) x).mp pj⟩
    exact wpAny_pure (wpAny_pure (q false s.heap es ep t (.refl a s.heap) R (fun _ => .refl _) fun z => absurd hm z))
  | none =>
    dsimp only
    have hm : x ∉ es.toList.map txt := fun z => by
      obtain ⟨e, he, rfl⟩ := List.mem_map.mp z
      have h1 := List.findIdx?_eq_none_iff.mp found e he
      rw [(is_text (R.ent e he) _).mpr rfl] at h1
      cases h1
    have quiet : ∀ (b : Bool) {s1 : Shared} {Q' : Unit → Shared → Prop}, Q' () s1 → wpAny (model P w) A (match b with | true => rule "set.scan.the-table-gave-way" | false => pure ()) Q' E s1 := fun b _ _ q => by
      cases b
      · exact wpAny_pure q
      · exact wpAny_rule q
    have pm := layNew_perm t es ((strKind P w).hash x) (.str x k)
    have f1 := layNew_fits t es ((strKind P w).hash x) (.str x k)
    have r1 := layNew_ris t es ((strKind P w).hash x) (.str x k) R.ris
    have l1 := layNew_led t es ((strKind P w).hash x) (.str x k)
    generalize layNew t es ((strKind P w).hash x) (.str x k) = Z at pm f1 r1 l1 ⊢
    obtain ⟨es1, t1, was, gave⟩ := Z
    dsimp only at pm f1 r1 l1 ⊢
    rw [Array.toList_push] at pm
    have pc := pm.trans (List.perm_append_singleton ((strKind P w).hash x, Value.str x k) es.toList)
    have pt : (es1.toList.map txt).Perm (x :: es.toList.map txt) := pc.map txt
    have sz : es1.size = es.size + 1 := by rw [← Array.length_toList, pc.length_eq, List.length_cons, Array.length_toList]
    have few1 : es1.size < scanBound := by rw [sz]; exact room
    have ent1 : ∀ e ∈ es1.toList, Txe P w e := fun e he => by
      rcases List.mem_cons.mp (pc.mem_iff.mp he) with rfl | he
      · exact ⟨x, k, rfl⟩
      · exact R.ent e he
    have one1 : (es1.toList.map txt).Nodup := pt.nodup_iff.mpr (List.nodup_cons.mpr ⟨hm, R.one⟩)
    have tail : ∀ t2 : SetTable, t2.fits es1.size = true → Ris t2.place.toList → t2.led = t1.led → wpAny (model P w) A (storeSet a es1 t2 >>= fun _ =>
        if (!was && t2.tooFull) = true then ((match (relayAll t2 es1 (SetTable.grown es1.size)).2.2 with | true => rule "set.scan.the-table-gave-way" | false => pure ()) >>= fun _ => storeSet a (relayAll t2 es1 (SetTable.grown es1.size)).1 (relayAll t2 es1 (SetTable.grown es1.size)).2.1 >>= fun _ => pure (some true)) else pure (some true))
        (fun r s1 => wpAny (model P w) A (match r with | some added => pure added | none => setAddHashedIn a (.str x k) ((strKind P w).hash x) 99999) Q E s1) E s := by
      intro t2 g1 g2 g3
      have led2 : w.params.followText "set-order" = true ∨ t2.led = true := R.led.imp id fun z => by rw [g3, l1]; exact z
      refine wpAny_bind (wpAny_storeSet_of ho hd ?_ (fits_of_scanBound few1))
      have ho1 := store_at (es' := es1) (t' := t2) ho hd
      have sb := Heap.SameBut.update s.heap a (Obj.putSet es1 t2)
      generalize s.heap.update a (Obj.putSet es1 t2) = h1 at ho1 sb ⊢
      by_cases full : (!was && t2.tooFull) = true
      · rw [if_pos full]
        have pr := relayAll_perm t2 es1 (SetTable.grown es1.size)
        have fr := relayAll_fits t2 es1 (SetTable.grown es1.size)
        have rr := relayAll_ris t2 es1 (SetTable.grown es1.size)
        have lr := relayAll_led t2 es1 (SetTable.grown es1.size)
        generalize relayAll t2 es1 (SetTable.grown es1.size) = Y at pr fr rr lr ⊢
        obtain ⟨es2, t3, gave2⟩ := Y
        dsimp only at pr fr rr lr ⊢
        have sz2 : es2.size = es1.size := by rw [← Array.length_toList, pr.length_eq, Array.length_toList]
        refine wpAny_bind (quiet gave2 (wpAny_bind (wpAny_storeSet_of ho1 rfl ?_ (fits_of_scanBound (by rw [sz2]; exact few1)))))
        have ho2 := store_at (es' := es2) (t' := t3) ho1 rfl
        refine wpAny_pure (wpAny_pure (q true _ es2 _ t3 (sb.trans (Heap.SameBut.update _ a _)) ⟨⟨_, ho2, ⟨hx.1, hx.2.1, hx.2.2⟩, rfl⟩, fun e he => ent1 e (pr.mem_iff.mp he), (pr.map txt).nodup_iff.mpr one1, fr, rr, led2.imp id fun z => by rw [lr]; exact z, by rw [sz2]; exact few1⟩ (fun z => absurd z hm) fun _ => (pr.map txt).trans pt))
      · rw [if_neg full]
        exact wpAny_pure (wpAny_pure (q true h1 es1 _ t2 sb ⟨⟨_, ho1, ⟨hx.1, hx.2.1, hx.2.2⟩, rfl⟩, ent1, one1, g1, g2, led2, few1⟩ (fun z => absurd z hm) fun _ => pt))
    refine wpAny_bind (quiet gave ?_)
    split
    · refine wpAny_bind ?_
      rw [hashByValue_scannable 8 (show (Value.str x k).scannable = true from rfl)]
      refine wpAny_pure ?_
      exact tail { t1 with plain := false } (SetTable.fits_plain_off f1) r1 rfl
    · refine wpAny_bind (wpAny_pure ?_)
      simp only [↓reduceIte]
      exact tail t1 f1 r1 rfl
theorem Held.more {h h' : Heap} (R : Held P w h a es ep t) (e : ∀ o, h.get? a = some o → h'.get? a = some o) : Held P w h' a es ep t := by
  obtain ⟨⟨o, ho, r⟩, r1, r2, r3, r4, r5, r6⟩ := R
  exact ⟨⟨o, e o ho, r⟩, r1, r2, r3, r4, r5, r6⟩
theorem held_new {h : Heap} (ho : h.get? a = some (KvT.newO w)) : Held P w h a #[] 0 (.fresh 0 0 (!w.params.followText "set-order")) := by
  refine ⟨⟨_, ho, ⟨rfl, rfl, rfl⟩, rfl⟩, fun e he => (by cases he), List.nodup_nil, rfl, List.Pairwise.nil, ?_, (by decide : 0 < 4096)⟩
  cases h1 : w.params.followText "set-order"
  · right; rfl
  · left; rfl
/-- set(xs), xs a list of texts -/
theorem call_set {l : Addr} {its : Array Value} {xs : List Str} {Q : Value → Shared → Prop} (hh : A.handled = none) (hl : s.heap.IsList l its) (ei : EachIs (fun (v : Value) x => ∃ k, v = .str x k) its.toList xs) (few : xs.length + 1 < scanBound) 
    (q : ∀ (h' : Heap) (tk : Nat) es ep t, Held P w h' s.heap.objs.size es ep t → (∀ x, x ∈ es.toList.map txt ↔ x ∈ xs) → (∀ b o, s.heap.get? b = some o → h'.get? b = some o) → Q (.ref s.heap.objs.size) { s with heap := h', toks := tk }) :
    wpAny (model P w) A (call (.type "set") [.ref l]) Q E s := by
  have isz : its.size = xs.length := by rw [← Array.length_toList, ei.length]
  refine KvT.call_set_by hh hl (G := fun i h => ∃ es ep t, Held P w h s.heap.objs.size es ep t ∧ (∀ x, x ∈ es.toList.map txt ↔ x ∈ xs.take i) ∧ es.size ≤ i) (fun h e _ => ⟨#[], 0, _, held_new e, fun x => by simp, Nat.le_refl _⟩) ⟨?_, ?_⟩ fun h' tk ⟨es, ep, t, H, g, _⟩ e => q h' tk es ep t H (by rw [isz, List.take_length] at g; exact g) e
  · rintro i h h' ⟨es, ep, t, H, g⟩ e1 e2
    exact ⟨es, ep, t, H.more e1, g⟩
  · rintro i v s1 Q E lt hv ⟨es, ep, t, H, g, gs⟩ e1 k
    have key : ∀ {vs : List Value} {xs : List Str}, EachIs (fun (v : Value) x => ∃ k, v = .str x k) vs xs → ∀ {i : Nat} {v : Value}, vs[i]? = some v → ∃ x k, xs[i]? = some x ∧ v = .str x k := by
      intro vs xs h
      induction h with
      | nil => intro i v e; simp at e
      | cons h1 _ ih =>
        intro i v e
        cases i with
        | zero => cases e; obtain ⟨k, rfl⟩ := h1; exact ⟨_, k, rfl, rfl⟩
        | succ i => exact ih (by simpa using e)
    obtain ⟨x, tk, hx, rfl⟩ := key ei (show its.toList[i]? = some v by rw [Array.getElem?_toList]; exact hv)
    have et : ∀ y, y ∈ xs.take (i + 1) ↔ y ∈ xs.take i ∨ y = x := fun y => by
      rw [List.take_add_one, hx, List.mem_append]
      simp
    unfold setAdd
    refine wpAny_holding (wpAny_bind ((strKind P w).pyHash (k := x) (strKind_is P w x tk) ?_))
    refine add (s := { s1 with toks := s1.toks + 1 }) H (by rw [isz] at lt; omega) fun r h' es2 ep2 t2 sb H2 c1 c2 => k r h' _ (Nat.le_succ _) sb ⟨es2, ep2, t2, H2, fun y => ?_, ?_⟩
    · rw [et]
      by_cases hm : x ∈ es.toList.map txt
      · rw [(c1 hm).mem_iff, g]
        refine ⟨.inl, fun z => z.elim id ?_⟩
        rintro rfl; exact (g _).mp hm
      · rw [(c2 hm).mem_iff, List.mem_cons, g]
        exact Or.comm
    · have hl : ∀ z : Array (Int × Value), (z.toList.map txt).length = z.size := fun z => by rw [List.length_map, Array.length_toList]
      by_cases hm : x ∈ es.toList.map txt
      · have := (c1 hm).length_eq; rw [hl, hl] at this; omega
      · have := (c2 hm).length_eq; rw [hl, List.length_cons, hl] at this; omega
theorem texts_alike (xs : List Str) : AllAlike (xs.map fun x => PyData.str x) := fun d hd d' hd' => by
  obtain ⟨x, _, rfl⟩ := List.mem_map.mp hd
  obtain ⟨y, _, rfl⟩ := List.mem_map.mp hd'
  rfl
theorem texts_sortable (xs : List Str) : Sortable (xs.map fun x => PyData.str x) := .inr fun d hd => by
  obtain ⟨x, _, rfl⟩ := List.mem_map.mp hd
  exact ⟨fun z => (nomatch z), fun _ z => (nomatch z)⟩
/-- sorted(a set of texts) -/
theorem call_sorted (R : Held P w s.heap a es ep t) (hh : A.handled = none) (hu : A.units + 20 < cLine) {Q : Value → Shared → Prop}
    (q : ∀ s1 p (out : Array Value) (c : Nat) (zs : List Str), (∀ b o, s.heap.get? b = some o → s1.heap.get? b = some o) → s1.gens = s.gens → s1.os = s.os → s.heap.objs.size ≤ p → s1.heap.get? p = some (seqObj "list" out c) →
      EachIs (fun (v : Value) x => ∃ k, v = .str x k) out.toList zs → zs.Perm (es.toList.map txt) → zs.Pairwise (fun x y => x.cps.toList ≤ y.cps.toList) → Q (.ref p) s1) : wpAny (model P w) A (call (.builtin "sorted") [.ref a]) Q E s := by
  obtain ⟨o, ho, hx, hd⟩ := R.obj
  refine Calls.call_function_entry (E := E) kind_sorted plain_sorted entry_sorted (args_sorted1 _) ?_
  unfold Builtin.«sorted»
  refine wpAny_bind (m := checkCount "sorted" 1 1 _) (wpAny_pure ?_)
  refine wpAny_bind (collect_set (A := A.in1) hh ⟨o, ho, hx.1, hd⟩ R.fit R.few R.ris R.led fun s1 vs k1 hz g1 o1 pm => ?_)
  have each : ∀ l : List (Int × Value), (∀ e ∈ l, Txe P w e) → EachIs (fun (v : Value) x => ∃ k, v = .str x k) (l.map (·.2)) (l.map txt) := fun l => by
    induction l with
    | nil => exact fun _ => .nil
    | cons e l ih =>
      intro h
      obtain ⟨x, k, rfl⟩ := h e List.mem_cons_self
      exact .cons ⟨k, rfl⟩ (ih fun e he => h e (.tail _ he))
  obtain ⟨l2, p2, rfl⟩ := Kv.perm_map pm es.toList rfl
  have e0 := each l2 fun e he => R.ent e (p2.mem_iff.mp he)
  have ll : l2.length = es.size := by rw [p2.length_eq, Array.length_toList]
  have few := R.few
  have hsb : scanBound = 4096 := rfl
  generalize hbs : l2.map txt = bs at e0
  have lb : bs.length = es.size := by rw [← hbs, List.length_map, ll]
  refine wpAny_bind (wpAny_newList ?_ (by rw [List.length_map, ll, sizeLine_eq]; omega))
  have hp : (s1.heap.push (seqObj "list" (l2.map (·.2)).toArray 0)).get? s1.heap.objs.size = some (seqObj "list" (l2.map (·.2)).toArray 0) := Heap.get?_push_size _ rfl
  have old : ∀ b u, s.heap.get? b = some u → (s1.heap.push (seqObj "list" (l2.map (·.2)).toArray 0)).get? b = some u := fun b u e => Heap.get?_push_of_some _ (k1 b u e)
  have er : EachIs (fun v (x : Str) => ∃ as, Reads (s1.heap.push (seqObj "list" (l2.map (·.2)).toArray 0)) v (.str x) as ∧ s1.heap.objs.size ∉ as) (l2.map (·.2)) bs := e0.mono fun v x ⟨k, hk⟩ => by
    subst hk; exact ⟨[], .str x k, List.not_mem_nil⟩
  refine wpAny_bind (wpAny_holding (PySem.W.list_sort_data (s := { s1 with heap := s1.heap.push (seqObj "list" (l2.map (·.2)).toArray 0) }) (enc := fun x : Str => .str x) hp e0 er (texts_alike bs) (texts_sortable bs) (by rw [lb, sizeLine_eq]; omega) (fun x _ => by show A.units + 1 + 1 + 0 < cLine; omega) fun out _ e2 => ?_))
  obtain ⟨c, hc⟩ := sortedHeap_at (out := out.toArray) hp
  refine wpAny_pure ⟨_, rfl, q _ s1.heap.objs.size out.toArray c (bs.mergeSort (dataLe false fun x => .str x)) (fun b u e => ?_) g1 o1 hz hc e2 ((List.mergeSort_perm _ _).trans (hbs ▸ p2.map txt)) ?_⟩
  · have lt := Heap.lt_size (k1 b u e)
    show (sortedHeap (s1.heap.push _) s1.heap.objs.size _ out.toArray).get? b = some u
    rw [sortedHeap_old (Nat.ne_of_lt lt) (by rw [size_push']; exact Nat.lt_succ_of_lt lt)]
    exact old b u e
  · refine (PySem.W.sort_pairwise (PySem.W.sortLe_total _ false _) bs).imp fun {x y} h => ?_
    have h2 : dataLe false (fun x : Str => PyData.str x) x y = true := h
    rw [PySem.W.dataLe_str] at h2
    simpa using h2
end
/-- a set's object of the texts ys -/
def SetO (P : Program) (w : World) (a : Addr) (ys : List Str) : HO := .ext fun h => ∃ es ep t, Held P w h a es ep t ∧ (es.toList.map txt).Perm ys
theorem set_new {P : Program} {w : World} {H : Hp} {h : Heap} {a : Addr} {ys : List Str} {es : Array (Int × Value)} {ep : Nat} {t : SetTable} (R : Held P w h a es ep t) (pm : (es.toList.map txt).Perm ys) : ObjOk P w H h a (SetO P w a ys) := by
  obtain ⟨o, ho, _⟩ := R.obj
  refine ⟨⟨es, ep, t, R, pm⟩, ⟨o, ho⟩, fun h1 h2 p k => ?_⟩
  obtain ⟨es, ep, t, R, pm⟩ := (p : ∃ es ep t, Held P w h1 a es ep t ∧ (es.toList.map txt).Perm ys)
  exact ⟨es, ep, t, R.more k, pm⟩
theorem each_vals : ∀ {xs : List Str} {us : List Value}, Vals (xs.map V.str) us → EachIs (fun (v : Value) x => ∃ k, v = .str x k) us xs
  | [], _, .nil => .nil
  | _ :: _, _, .cons r t => .cons r (each_vals t)
theorem vals_of : ∀ {xs : List Str} {us : List Value}, EachIs (fun (v : Value) x => ∃ k, v = .str x k) us xs → Vals (xs.map V.str) us
  | _, _, .nil => .nil
  | _, _, .cons r t => .cons r (vals_of t)
section
variable {X : Cx}
def rSet (K : PySem.W.Frag) (P : Program) (w : World) : List V → Hp → VK → Prop := fun vs H Q => ∃ (l : Addr) (xs : List Str), vs = [V.ref l] ∧ SqL K H l (xs.map V.str) ∧ xs.length + 1 < 4096 ∧ ∀ (a : Addr) (ys : List Str), H a = none → ys.Nodup → (∀ x, x ∈ ys ↔ x ∈ xs) → Q (.ref a) (upd H a (SetO P w a ys))
theorem cr_set (hc : X.calm = true) : CallR X (.type "set") (rSet X.K X.prog X.w) := by
  intro ps s σ H vs us Q I r h
  obtain ⟨l, xs, rfl, hl, few, q⟩ := h
  obtain ⟨its, rv, pl, _⟩ := I.list hl
  rw [Vals.ref1 r]
  refine call_set (P := X.prog) (w := X.w) (I.ok.hd hc) pl.isList (by simpa using each_vals rv) few fun h' tk es ep t R g old => ?_
  exact ⟨.ref s.heap.objs.size, _, I.laid (t' := tk) old (Nat.le_refl _) (set_new R (.refl _)), rfl, q _ _ (I.hok.fresh (Nat.le_refl _)) R.one g⟩
def rSorted (P : Program) (w : World) : List V → Hp → VK → Prop := fun vs H Q => ∃ (a : Addr) (ys : List Str), vs = [V.ref a] ∧ H a = some (SetO P w a ys) ∧ ∀ (p : Addr) (zs : List Str), H p = none → zs.Perm ys → zs.Pairwise (fun x y => x.cps.toList ≤ y.cps.toList) → Q (.ref p) (upd H p (.lst (zs.map V.str)))
theorem cr_sorted (hc : X.calm = true) (hu : X.A.units + 64 < cLine) : CallR X (.builtin "sorted") (rSorted X.prog X.w) := by
  intro ps s σ H vs us Q I r h
  obtain ⟨a, ys, rfl, ha, q⟩ := h
  obtain ⟨es, ep, t, R, pm⟩ := ((I.hok a _ ha).1 : ∃ es ep t, Held X.prog X.w s.heap a es ep t ∧ (es.toList.map txt).Perm ys)
  rw [Vals.ref1 r]
  refine call_sorted R (I.ok.hd hc) (by omega) fun s1 p out c zs old g o hp at_ e pz pw => ?_
  have nn : H p = none := I.hok.fresh hp
  have few := R.few
  have hsb : scanBound = 4096 := rfl
  have len : (zs.map V.str).length ≤ sizeLine := by rw [List.length_map, pz.length_eq, List.length_map, Array.length_toList, sizeLine_eq]; omega
  have ok : ObjOk X.prog X.w (upd H p (.lst (zs.map V.str))) s1.heap p (.lst (zs.map V.str)) := ⟨len, out.toList, c, vals_of e, at_⟩
  exact ⟨.ref p, _, I.call' (ch := []) o (Un.laid old hp nn) (I.hok.laid old hp ok) (by rw [g]; exact I.bare) (fun _ z => nomatch z), rfl, q p zs nn (pz.trans pm) pw⟩
end
end KvW
namespace Kv
open PySem PySem.Spec PyProof.Rows L2
section
variable {X : Cx} {B : Hp} {L : HL} {Q : KQ}
/-- set(list of texts) -/
theorem c_setS {l : Addr} {xs : List Str} (hl : Ls X.K B L l (xs.map V.str)) (few : xs.length + 1 < 4096) (q : ∀ (a : Addr) (ys : List Str), ys.Nodup → (∀ x, x ∈ ys ↔ x ∈ xs) → Q (.ref a) B ((a, KvW.SetO X.prog X.w a ys) :: L)) (hc : X.calm = true := by rfl) : kC X (.type "set") [.ref l] B L Q :=
  ⟨_, KvW.cr_set hc, fun H s => ⟨l, xs, rfl, hl.at s, few, fun a ys n h1 h2 => ⟨_, _, s.new n, q a ys h1 h2⟩⟩⟩
/-- sorted of it -/
theorem c_sortedSS {a : Addr} {ys : List Str} (ha : At B L a (KvW.SetO X.prog X.w a ys)) (hu : X.A.units + 64 < cLine) (q : ∀ (p : Addr) (zs : List Str), zs.Perm ys → zs.Pairwise (fun x y => x.cps.toList ≤ y.cps.toList) → Q (.ref p) B ((p, .lst (zs.map V.str)) :: L)) (hc : X.calm = true := by rfl) : kC X (.builtin "sorted") [.ref a] B L Q :=
  ⟨_, KvW.cr_sorted hc hu, fun H s => ⟨a, ys, rfl, ha.at s, fun p zs n h1 h2 => ⟨_, _, s.new n, q p zs h1 h2⟩⟩⟩
/-- sorted(list of alike data) -/
theorem c_sortedD {a : Addr} {ys : List V} {kf : V → PyData} (hl : Ls X.K B L a ys) (hd : ∀ y ∈ ys, Dd X B L y (kf y) ∧ (kf y).depth ≤ 60) (hal : PySem.W.AllAlike (ys.map kf)) (hso : PySem.W.Sortable (ys.map kf)) (hu : X.A.units + 100 < cLine) (q : ∀ p, Q (.ref p) B ((p, .lst (ys.mergeSort (PySem.W.dataLe false kf))) :: L)) : kC X (.builtin "sorted") [.ref a] B L Q :=
  ⟨_, cr_sortedD hu, fun H s => ⟨a, ys, kf, rfl, hl.at s, fun y hy => ⟨(hd y hy).1 H s, (hd y hy).2⟩, hal, hso, fun p n => ⟨_, _, s.new n, q p⟩⟩⟩
end
end Kv


/-! sorted(xs, key=f), dict(list of pairs), list(dict). -/
namespace Kv
open PySem PySem.Spec PyProof.Rows L2
section
variable {X : Cx} {σ : L2.St} {B : Hp} {L : HL} {Q : KQ} {e : Expr} {pos p1 p2 p3 : Pos}
theorem k_sortedK {x : Str} {k : Nat} {sp : Sp} (F : Fn X.prog X.w X.K X.mg X.base k x sp) (hr : Room k X.A.in1.in1) (hm : X.mg "sorted" = none)
    (h : kE X e σ B L fun v B1 L1 => ∃ (a : Addr) (ys : List V) (kf : V → PyData), v = .ref a ∧ Ls X.K B1 L1 a ys ∧ (∀ y ∈ ys, (kf y).depth ≤ 60 ∧ ∀ H, Sat B1 L1 H → KeyGiven X.K sp y (kf y) H) ∧ PySem.W.AllAlike (ys.map kf) ∧ PySem.W.Sortable (ys.map kf) ∧ ∀ p, Q (.ref p) B1 ((p, .lst (ys.mergeSort (PySem.W.dataLe false kf))) :: L1))
    (hg : Gl X "sorted" := by rfl) (hx : Gl X x := by rfl) (hxd : (x == ("__debug__" : Str)) = false := by decide) (hse : starEach [e] X.env = (false, eval e X.env) :: starEach [] X.env := by rfl) (hst : backTo pos (starEach [e] X.env) = (false, eval e X.env) :: backTo pos (starEach [] X.env) := by rfl) (hpl : (backTo pos (starEach [e] X.env)).any (·.1) = false := by rfl)
    (hall : (backToKw pos (keywordEach [⟨some "key", .Name x p2, p3⟩] X.env)).all (·.1.isSome) = true := by rfl) (hnone : (backToKw pos (keywordEach [⟨some "key", .Name x p2, p3⟩] X.env)).any (·.1.isNone) = false := by rfl) (hks : (backToKw pos (keywordEach [⟨some "key", .Name x p2, p3⟩] X.env)).filterMap (·.1) = [Str.ofString "key"] := by rfl) :
    kE X (.Call (.Name "sorted" p1) [e] [⟨some "key", .Name x p2, p3⟩] pos) σ B L Q := by
  obtain ⟨f, hf, ⟨fd, ps, F1, _, F3⟩⟩ := F.val
  refine ⟨_, pe_callBK cr_sortedF hg hm (by rfl) (pa_cons pe_c pa_nil (hs := hse)) (pk_cons pe_c pk_nil) (by decide) (by decide) hst hpl hall hnone hks, fun H s => ?_⟩
  refine toE s h fun v H1 B1 L1 s1 ⟨a, ys, kf, ev, hl, hk, hal, hso, q⟩ => ?_
  subst ev
  refine toE s1 (k_g (v := .ref f) (Q := fun z B2 L2 => z = .ref f ∧ B2 = B1 ∧ L2 = L1) hf (show Value.ref f = Value.ref f from rfl) ⟨rfl, rfl, rfl⟩ hx (hd := hxd)) fun z H2 B2 L2 s2 ⟨ez, eB, eL⟩ => ?_
  subst ez eB eL
  exact ⟨a, f, ys, kf, k, fd, ps, sp, rfl, rfl, hl.at s2, F1, F3, hr, fun y hy => ⟨(hk y hy).1, (hk y hy).2 _ s2⟩, hal, hso, fun H' p e n => ⟨_, _, (s2.keep e).new n, q p⟩⟩
/-- dict(list of pairs) -/
theorem c_dictP {a : Addr} {ps : List Addr} {kvs : List (Key × V)} (hl : Ls X.K B L a (ps.map V.ref)) (hp : Paired (fun p (kv : Key × V) => Tp X.K B L p [kV kv.1, kv.2]) ps kvs) (q : ∀ d, Q (.ref d) B ((d, .dK (mergeK [] kvs)) :: L)) (hc : X.calm = true := by rfl) : kC X (.type "dict") [.ref a] B L Q :=
  ⟨_, call_dictP hc, fun H s => ⟨a, ps, kvs, rfl, hl.at s, Paired.mapP hp fun _ _ h => h.at s, fun d n => ⟨_, _, s.new n, q d⟩⟩⟩
/-- list(dict) -/
theorem c_listD {a : Addr} {kvs : List (Key × V)} (ha : At B L a (.dK kvs)) (q : ∀ p, Q (.ref p) B ((p, .lst (kvs.map fun kv => kV kv.1)) :: L)) (hc : X.calm = true := by rfl) : kC X (.type "list") [.ref a] B L Q :=
  ⟨_, call_listD hc, fun H s => ⟨a, kvs, rfl, .inl (ha.at s), fun p n => ⟨_, _, s.new n, q p⟩⟩⟩
/-- [elt for z in a list], the element's work may change the heap -/
theorem k_lcv_l {L : HL} {Q : KQ} {B : Hp} {elt iter : Expr} {scope : Scope} {x : Str} {j : Nat} {px : Pos} (Pv : Nat → List V → Hp → HL → Prop) (hN : X.N.Nodup) (ok : BlkOk X.N X.env.scope scope [(x, j)])
    (h : kE X iter σ B L fun v B1 L1 => ∃ a xs, v = .ref a ∧ xs.length ≤ 16777216 ∧ Pv 0 [] B1 L1 ∧ (∀ i acc B L, Pv i acc B L → Ls X.K B L a xs ∧ acc.length = i) ∧ (∀ i acc B L z, xs[i]? = some z → Pv i acc B L → ∀ D s H0 C cl fp, kE (Bk X scope s H0 C cl fp) elt (σ.set j (some z)) B ((D, .lst acc) :: L) fun y B3 L3 => ∃ L4, L3 = (D, .lst acc) :: L4 ∧ Pv (i + 1) (acc ++ [y]) B3 L4) ∧
      ∀ acc B L D, Pv xs.length acc B L → Q (.ref D) B ((D, .lst acc) :: L))
    (hp : ∀ s H0 C cl fp, Loc (Bk X scope s H0 C cl fp).env.scope x := by intro _ _ _ _ _; first | exact Or.inl rfl | exact Or.inr rfl) (hf : ∀ s H0 C cl fp, (Bk X scope s H0 C cl fp).fn x = true ∨ (Bk X scope s H0 C cl fp).env.scope.names.lookup x = some .local := by intro _ _ _ _ _; first | exact .inr rfl | exact .inl rfl)
    (hj : X.N[j]? = some x := by rfl) (hc : X.calm = true := by rfl) (hs : ∀ x, foldedSetIterable iter X.env x = pure x := by intro _; rfl) : kL X elt (.Name x px) iter [] scope [(x, j)] σ B L Q :=
  k_lc hN ok (r_list (by
    obtain ⟨t, h1, h2⟩ := h
    refine ⟨_, pe_c, fun H s => toE s ⟨t, h1, h2⟩ fun v H' B1 L1 s' ⟨a, xs, e, hl, p0, hpv, ht, hd⟩ => ⟨B1, L1, s', a, xs, e, (hpv _ _ _ _ p0).1, xs.length, _, _, fun i acc B L => Pv i acc B L, walk_list, p0, ?_, ?_, ?_⟩⟩
    · intro i acc B L H hi p s
      exact (hpv _ _ _ _ p).1.at s
    · rintro D i acc x B L H H' hi p s ⟨rfl, hx⟩
      refine ⟨_, _, s, fun sa Ha Ca cla fpa => g_name j ?_ hN hj (hp sa Ha Ca cla fpa) (hf sa Ha Ca cla fpa)⟩
      refine ⟨wipe1 σ j _, fun sb Hb Cb clb fpb => ?_⟩
      show kE _ _ ((wipe σ [j]).set j _) _ _ _
      rw [wipe1']
      obtain ⟨t2, k1, k2⟩ := ht i acc B L x hx p D sb Hb Cb clb fpb
      have hac := (hpv _ _ _ _ p).2
      refine ⟨_, pe_c, fun H s => toE s ⟨t2, k1, k2⟩ fun y H2 B2 L2 s2 ⟨L4, e1, q⟩ => ⟨B2, L2, s2, by omega, L4, e1, q⟩⟩
    · intro acc B L D p
      exact hd acc B L D p)) hc hs
end
end Kv

/-! set(list of tuples) and sorted of it, as rules -/
namespace KvT
open PySem PySem.Spec PyProof.Rows L2
open PySem.W (EachIs AllAlike Sortable dataLe dataLt)
/-- a set's own object, its members told, the tuples apart -/
def Bare (P : Program) (w : World) (h : Heap) (a : Addr) (L : List (Addr × List Key)) : Prop := ∃ es ep t, (∃ o, h.get? a = some o ∧ o.ExactSet ∧ o.data = .set es ep t) ∧ es.toList = rows (mixKind P w) L ∧ TabOk t (L.map fun z => hk (mixKind P w) z.2) ∧ (L.map (·.2)).Nodup ∧
  (w.params.followText "set-order" = true ∨ t.led = true) ∧ L.length * 5 < t.mask * 3 ∧ L.length < 64
def SetO (P : Program) (w : World) (a : Addr) (L : List (Addr × List Key)) : HO := .ext fun h => Bare P w h a L
theorem bare_new {P : Program} {w : World} {H : Hp} {h : Heap} {a : Addr} {L : List (Addr × List Key)} (R : Bare P w h a L) : ObjOk P w H h a (SetO P w a L) := by
  have ⟨_, _, _, ⟨o, ho, _⟩, _⟩ := R
  refine ⟨R, ⟨o, ho⟩, fun h1 h2 p k => ?_⟩
  obtain ⟨es, ep, t, ⟨o, ho, r⟩, q⟩ := (p : Bare P w h1 a L)
  exact ⟨es, ep, t, ⟨o, k o ho, r⟩, q⟩
theorem items_are {P : Program} {w : World} : ∀ {u : List Key} {vs : List Value}, Vals (u.map kV) vs → ItemsAre (mixKind P w) u vs
  | [], _, .nil => .nil
  | .inl i :: u, _, .cons r t => by obtain ⟨k, rfl⟩ := r; exact .cons (keyIs_int i k) (items_are t)
  | .inr x :: u, _, .cons r t => by obtain ⟨k, rfl⟩ := r; exact .cons (keyIs_str x k) (items_are t)
theorem vals_refs : ∀ {ks : List (Addr × List Key)} {us : List Value}, Vals (ks.map fun z => V.ref z.1) us → us = ks.map fun z => Value.ref z.1
  | [], _, .nil => rfl
  | z :: ks, _, .cons r t => by cases r; rw [vals_refs t]; rfl
theorem refs_vals : ∀ ks : List (Addr × List Key), Vals (ks.map fun z => V.ref z.1) (ks.map fun z => Value.ref z.1)
  | [] => .nil
  | _ :: ks => .cons rfl (refs_vals ks)
section
variable {X : Cx}
theorem inv_is {pins : List (Addr × Obj)} {σ : L2.St} {H : Hp} {s : Shared} {b : Addr} {u : List Key} (I : Inv X pins σ H s) (h : SqT X.K H b (u.map kV)) : Is (mixKind X.prog X.w) s.heap u b := by
  obtain ⟨its, r, ⟨o, ho, hc, n, hd⟩, _⟩ := I.tuple h
  exact ⟨o, its.toArray, n, ho, hc, hd, by simpa using items_are r⟩
def rSet (K : PySem.W.Frag) (P : Program) (w : World) : List V → Hp → VK → Prop := fun xs H Q => ∃ (l : Addr) (ks : List (Addr × List Key)), xs = [V.ref l] ∧ SqL K H l (ks.map fun z => V.ref z.1) ∧ (∀ z ∈ ks, SqT K H z.1 (z.2.map kV)) ∧ ks.length < 64 ∧
  ∀ a L, H a = none → (∀ z ∈ L, z ∈ ks) → (∀ z ∈ ks, z.2 ∈ L.map (·.2)) → (L.map (·.2)).Nodup → Q (.ref a) (upd H a (SetO P w a L))
theorem cr_set (hc : X.calm = true) (hu : X.A.units + 64 < cLine) : CallR X (.type "set") (rSet X.K X.prog X.w) := by
  intro ps s σ H xs us Q I r h
  obtain ⟨l, ks, rfl, hl, hks, few, q⟩ := h
  obtain ⟨its, rv, pl, _⟩ := I.list hl
  rw [Vals.ref1 r]
  refine call_set (I.ok.hd hc) pl.isList (by simpa using vals_refs rv) (fun z hz => inv_is I (hks z hz)) few (by omega) fun h' tk L es ep t R g old => ?_
  refine ⟨.ref s.heap.objs.size, upd H s.heap.objs.size (SetO X.prog X.w s.heap.objs.size L), I.laid (t' := tk) old (Nat.le_refl _) (bare_new ⟨es, ep, t, R.obj, R.ent, R.tab, R.one, R.led, R.gap, R.few⟩), rfl, ?_⟩
  exact q _ L (I.hok.fresh (Nat.le_refl _)) (fun z hz => List.mem_of_mem_take (g.sub z hz)) (fun z hz => g.all z (by rw [List.take_length]; exact hz)) R.one
def rSorted (K : PySem.W.Frag) (P : Program) (w : World) : List V → Hp → VK → Prop := fun xs H Q => ∃ (a : Addr) (L : List (Addr × List Key)), xs = [V.ref a] ∧ H a = some (SetO P w a L) ∧ (∀ z ∈ L, SqT K H z.1 (z.2.map kV)) ∧ AllAlike (L.map fun z => tD z.2) ∧ Sortable (L.map fun z => tD z.2) ∧
  ∀ (p : Addr) (L2 : List (Addr × List Key)), H p = none → L2.Perm L → L2.Pairwise (fun y z => dataLt (tD z.2) (tD y.2) = false) → Q (.ref p) (upd H p (.lst (L2.map fun z => V.ref z.1)))
theorem cr_sorted (hc : X.calm = true) (hu : X.A.units + 64 < cLine) : CallR X (.builtin "sorted") (rSorted X.K X.prog X.w) := by
  intro ps s σ H xs us Q I r h
  obtain ⟨a, L, rfl, ha, hks, hal, hso, q⟩ := h
  obtain ⟨es, ep, t, r1, r2, r3, r4, r5, r6, r7⟩ := ((I.hok a _ ha).1 : Bare X.prog X.w s.heap a L)
  rw [Vals.ref1 r]
  refine call_sorted ⟨r1, r2, r3, r4, fun z hz => inv_is I (hks z hz), r5, r6, r7⟩ (I.ok.hd hc) hal hso (by omega) fun s1 p out c L2 old g o hp at_ e pm pw => ?_
  have nn : H p = none := I.hok.fresh hp
  have len : (L2.map fun z => V.ref z.1).length ≤ sizeLine := by rw [List.length_map, pm.length_eq, sizeLine_eq]; omega
  have v : Vals (L2.map fun z => V.ref z.1) out.toList := by rw [e]; exact refs_vals L2
  have ok : ObjOk X.prog X.w (upd H p (.lst (L2.map fun z => V.ref z.1))) s1.heap p (.lst (L2.map fun z => V.ref z.1)) := ⟨len, out.toList, c, v, at_⟩
  exact ⟨.ref p, _, I.call' (ch := []) o (Un.laid old hp nn) (I.hok.laid old hp ok) (by rw [g]; exact I.bare) (fun _ z => nomatch z), rfl, q p L2 nn pm pw⟩
end
end KvT
namespace Kv
open PySem PySem.Spec PyProof.Rows L2
section
variable {X : Cx} {B : Hp} {L : HL} {Q : KQ}
/-- set(list of tuples of numbers and texts) -/
theorem c_setT {l : Addr} {ks : List (Addr × List Key)} (hl : Ls X.K B L l (ks.map fun z => V.ref z.1)) (ht : ∀ z ∈ ks, Tp X.K B L z.1 (z.2.map kV)) (few : ks.length < 64) (hu : X.A.units + 64 < cLine)
    (q : ∀ a M, (∀ z ∈ M, z ∈ ks) → (∀ z ∈ ks, z.2 ∈ M.map (·.2)) → (M.map (·.2)).Nodup → Q (.ref a) B ((a, KvT.SetO X.prog X.w a M) :: L)) (hc : X.calm = true := by rfl) : kC X (.type "set") [.ref l] B L Q :=
  ⟨_, KvT.cr_set hc hu, fun H s => ⟨l, ks, rfl, hl.at s, fun z hz => (ht z hz).at s, few, fun a M n h1 h2 h3 => ⟨_, _, s.new n, q a M h1 h2 h3⟩⟩⟩
/-- sorted of it -/
theorem c_sortedT {a : Addr} {M : List (Addr × List Key)} (ha : At B L a (KvT.SetO X.prog X.w a M)) (ht : ∀ z ∈ M, Tp X.K B L z.1 (z.2.map kV)) (hal : PySem.W.AllAlike (M.map fun z => KvT.tD z.2)) (hso : PySem.W.Sortable (M.map fun z => KvT.tD z.2)) (hu : X.A.units + 64 < cLine)
    (q : ∀ (p : Addr) (M2 : List (Addr × List Key)), M2.Perm M → M2.Pairwise (fun y z => PySem.W.dataLt (KvT.tD z.2) (KvT.tD y.2) = false) → Q (.ref p) B ((p, .lst (M2.map fun z => V.ref z.1)) :: L)) (hc : X.calm = true := by rfl) : kC X (.builtin "sorted") [.ref a] B L Q :=
  ⟨_, KvT.cr_sorted hc hu, fun H s => ⟨a, M, rfl, ha.at s, fun z hz => (ht z hz).at s, hal, hso, fun p M2 n h1 h2 => ⟨_, _, s.new n, q p M2 h1 h2⟩⟩⟩
end
end Kv

/-! Dicts whose keys are tuples of numbers and texts: {}, d.setdefault(k, v), d.get(k), k in d, d[k] = v. -/
namespace KvU
open PySem PySem.Spec PyProof.Rows L2
section
variable {X : Cx} {pins : List (Addr × Obj)} {σ : L2.St} {H : Hp} {s : Shared} {a b : Addr} {r : Value} {d : V} {k : List Key} {A : Around} {E : Value → Shared → Prop}
theorem setd_at {kvs : List (List Key × V)} {Q : Value → Shared → Prop} (hu : A.units + 1 < cLine) (I : Inv X pins σ H s) (e : H a = some (.dT kvs)) (eb : H b = some (.tup (k.map kV))) (rd : RelV d r) (hl : kvs.length < sizeLine)
    (there : ∀ v, valV kvs k = some v → ∀ (u : Value) (s1 : Shared), Inv X pins σ H s1 → RelV v u → Q u s1) (new : valV kvs k = none → ∀ (u : Value) (s1 : Shared), Inv X pins σ (upd H a (.dT (putK kvs k d))) s1 → RelV d u → Q u s1) :
    wpAny (model X.prog X.w) A (call (.builtin "dict.setdefault") [.ref a, .ref b, r]) Q E s := by
  obtain ⟨z, na, xs, rel, D⟩ := dt_of I.hok e
  have val := rel.val k
  refine call_setdefault_heap (tupleKind_room_in1 hu) (key_of I.hok eb) na D (fun p hp => ?_) (fun hn h' D2 sb => ?_) (by rw [← Paired.length rel]; exact z)
  · rw [hp] at val
    cases hv : valV kvs k with
    | none => rw [hv] at val; exact (show False from val).elim
    | some v => rw [hv] at val; exact there v hv _ _ (I.tok _) val
  · rw [hn] at val
    cases hv : valV kvs k with
    | some v => rw [hv] at val; exact (show False from val).elim
    | none =>
      have len : (putK kvs k d).length ≤ sizeLine := by have := length_putK kvs k d; omega
      obtain ⟨o, es, ep, h1, h2, h3, h4, _, h5⟩ := D2
      refine new hv _ _ (d_write I (by rw [e]; exact True.intro) sb ⟨o, h1⟩ ⟨len, na, _, (rel.put k eb rd).keeps fun c ys ec => ?_, o, es, ep, h1, h2, h3, h4, h5⟩) rd
      rw [upd_ne (ne_of ec e fun z => nomatch z)]
      exact ec
end
def tSetd (td ty tx : TE) : TE := fun σ H Q => td σ H fun x H1 => ∃ a, x = .ref a ∧ IsD H1 a ∧ ty σ H1 fun y H2 => tx σ H2 fun z H3 => ∃ (kvs : List (List Key × V)) (k : List Key) (b : Addr), H3 a = some (.dT kvs) ∧ y = .ref b ∧ H3 b = some (.tup (k.map kV)) ∧ kvs.length < sizeLine ∧
  (∀ v, valV kvs k = some v → Q v H3) ∧ (valV kvs k = none → Q z (upd H3 a (.dT (putK kvs k z))))
section
variable {X : Cx} {o e f : Expr} {td ty tx : TE} {apos cpos : Pos}
theorem pe_setd (hu : X.A.units + 1 < cLine) (ho : PE X o td) (he : PE X e ty) (hf : PE X f tx) (m : M2 X o "setdefault" apos e f cpos) : PE X (.Call (.Attribute o "setdefault" apos) [e, f] [] cpos) (tSetd td ty tx) := by
  refine ⟨fun pins s σ H Q I h => ?_⟩
  refine wpAny_Call_method m.base m.few m.line PySem.F.plainAttrs_dict PySem.F.slot_dict_setdefault PySem.F.type_dict_setdefault (thn (ho.run pins s σ H _ I h) fun u s1 ⟨x, H1, I1, rx, a, ex, isd, q1⟩ => ?_)
  subst ex
  obtain rfl : u = Value.ref a := rx
  obtain ⟨g1, g2, _⟩ := isD_at I1 isd
  refine ⟨g1, g2, ?_⟩
  rw [m.trees]
  refine Calls.callWith_builtin rfl (Calls.evalArgs_plain (Calls.spliced_cons (thn (he.run pins s1 σ H1 _ I1 q1) fun kv s2 ⟨y, H2, I2, ry, q2⟩ =>
    Calls.spliced_cons (thn (hf.run pins s2 σ H2 _ I2 q2) fun fv s3 ⟨z, H3, I3, rz, kvs, k, b, ea, ey, eb, hl, q3, q4⟩ => Calls.spliced_nil ?_))))
  subst ey
  obtain rfl : kv = Value.ref b := ry
  exact setd_at hu I3 ea eb rz hl (fun v hv u s4 I4 ru => ⟨v, _, I4, ru, q3 v hv⟩) fun hn u s4 I4 ru => ⟨z, _, I4, ru, q4 hn⟩
def rIn (neg : Bool) : R2 := fun y x H Q => ∃ a o, x = .ref a ∧ DGet H a y o ∧ Q (.bl (if neg then !o.isSome else o.isSome)) H
theorem op_in (hu : X.A.units + 1 < cLine) : OpR X (compareOp .In) (rIn false) := by
  intro ps s σ H y x v u Q I ry rx h
  obtain ⟨a, o, rfl, g, q⟩ := h
  obtain rfl : u = Value.ref a := rx
  exact d_in hu I g ry fun s1 I1 => ⟨.bl _, H, I1, rfl, q⟩
theorem op_nin (hu : X.A.units + 1 < cLine) : OpR X (compareOp .NotIn) (rIn true) := by
  intro ps s σ H y x v u Q I ry rx h
  obtain ⟨a, o, rfl, g, q⟩ := h
  obtain rfl : u = Value.ref a := rx
  exact d_notIn hu I g ry fun s1 I1 => ⟨.bl _, H, I1, rfl, q⟩
end
end KvU
namespace Kv
open PySem PySem.Spec PyProof.Rows L2
section
variable {X : Cx} {σ : L2.St} {B : Hp} {L : HL} {Q : KQ} {o e f : Expr} {pos apos : Pos}
/-- {} to be a dict with tuple keys -/
theorem k_dT0 (q : ∀ p, Q (.ref p) B ((p, .dT []) :: L)) : kE X (.Dict [] [] pos) σ B L Q :=
  ⟨_, pe_dnewT, fun H s p hp => ⟨_, _, s.new hp, q p⟩⟩
/-- d.setdefault(k, v), d ours -/
theorem k_setd (hu : X.A.units + 64 < cLine) (h : kE X o σ B L fun x B1 L1 => ∃ p kv0, x = .ref p ∧ At B1 L1 p (.dT kv0) ∧ kE X e σ B1 L1 fun y B2 L2 => kE X f σ B2 L2 fun z B3 L3 => ∃ kvs k b, (p, HO.dT kvs) ∈ L3 ∧ y = .ref b ∧ At B3 L3 b (.tup (k.map kV)) ∧ kvs.length < 16777216 ∧
      (∀ v, valV kvs k = some v → Q v B3 L3) ∧ (valV kvs k = none → ∃ L4, Rep L3 p (.dT kvs) (.dT (putK kvs k z)) L4 ∧ Q z B3 L4))
    (m : M2 X o "setdefault" apos e f pos := by exact ⟨rfl, rfl, rfl, rfl⟩) : kE X (.Call (.Attribute o "setdefault" apos) [e, f] [] pos) σ B L Q :=
  ⟨_, KvU.pe_setd (by omega) pe_c pe_c pe_c m, fun H s => toE s h fun _ _ _ _ s ⟨p, kv0, ex, h0, q⟩ => ⟨p, ex, .inr ⟨kv0, .inl (h0.at s)⟩, toE s q fun _ _ _ _ s q => toE s q fun _ _ _ _ s ⟨kvs, k, b, hp, ey, hb, hl, q1, q2⟩ =>
    ⟨kvs, k, b, s.own _ hp, ey, hb.at s, small' hl, fun v hv => ⟨_, _, s, q1 v hv⟩, fun hn => let ⟨L4, r, q⟩ := q2 hn; ⟨_, L4, s.rep r, q⟩⟩⟩⟩
/-- d.get(k) -/
theorem k_getT (hu : X.A.units + 64 < cLine) (h : kE X o σ B L fun x B1 L1 => ∃ p kv0, x = .ref p ∧ At B1 L1 p (.dT kv0) ∧ kE X e σ B1 L1 fun y B2 L2 => ∃ kvs k b, At B2 L2 p (.dT kvs) ∧ y = .ref b ∧ At B2 L2 b (.tup (k.map kV)) ∧ Q ((valV kvs k).getD .non) B2 L2)
    (m : M1 X o "get" apos e pos := by exact ⟨rfl, rfl, rfl, rfl⟩) : kE X (.Call (.Attribute o "get" apos) [e] [] pos) σ B L Q :=
  ⟨_, pe_dget1 (by omega) pe_c pe_c m, fun H s => toE s h fun _ _ _ _ s ⟨p, kv0, ex, h0, q⟩ => ⟨p, ex, .inr ⟨kv0, .inl (h0.at s)⟩, toE s q fun _ _ _ _ s ⟨kvs, k, b, hp, ey, hb, q⟩ =>
    ⟨_, ey ▸ DGet.t (hp.at s) (hb.at s), _, _, s, q⟩⟩⟩
/-- k in d, k not in d -/
theorem o_inT {b p : Addr} {kvs : List (List Key × V)} {k : List Key} (hu : X.A.units + 64 < cLine) (hp : At B L p (.dT kvs)) (hb : At B L b (.tup (k.map kV))) (q : Q (.bl (valV kvs k).isSome) B L) : kO X (compareOp .In) (.ref b) (.ref p) B L Q :=
  ⟨_, KvU.op_in (by omega), fun H s => ⟨p, _, rfl, DGet.t (hp.at s) (hb.at s), _, _, s, q⟩⟩
theorem o_ninT {b p : Addr} {kvs : List (List Key × V)} {k : List Key} (hu : X.A.units + 64 < cLine) (hp : At B L p (.dT kvs)) (hb : At B L b (.tup (k.map kV))) (q : Q (.bl (!(valV kvs k).isSome)) B L) : kO X (compareOp .NotIn) (.ref b) (.ref p) B L Q :=
  ⟨_, KvU.op_nin (by omega), fun H s => ⟨p, _, rfl, DGet.t (hp.at s) (hb.at s), _, _, s, q⟩⟩
/-- d[k] = v, d ours -/
theorem g_setT {v : V} {Q : KN} (hu : X.A.units + 64 < cLine) (h : kE X o σ B L fun x B1 L1 => kE X e σ B1 L1 fun y B2 L2 => ∃ p b kvs k L3, x = .ref p ∧ y = .ref b ∧ At B2 L2 b (.tup (k.map kV)) ∧ Rep L2 p (.dT kvs) (.dT (putK kvs k v)) L3 ∧ kvs.length < 16777216 ∧ Q σ B2 L3)
    (ha : ∀ v, assign (.Subscript o e pos) X.env v = (do
      let ov ← holding [v] (eval o X.env)
      let iv ← holding [v, ov] (eval e X.env)
      standAt pos
      holding [v, ov, iv] (setItem ov iv v)
      release [v, ov, iv] []) := by intro _; rfl) : kG X (.Subscript o e pos) v σ B L Q :=
  ⟨_, pg_sub pe_c pe_c (set_dict (by omega)) ha, fun H s => toE s h fun _ _ _ _ s q => toE s q fun _ _ _ _ s ⟨p, b, kvs, k, L3, e1, e2, hb, r, hl, q⟩ => ⟨p, _, e1, by rw [e2]; exact DPut.t (s.own _ r.mem) (hb.at s) (small' hl), _, _, s.rep r, q⟩⟩
end
end Kv

/-! Values that read as data: what their types say. Objects found by membership. -/
namespace Kv
open PySem PySem.Spec PyProof.Rows L2
def tyN : PyData → String
  | .none => "NoneType" | .bool _ => "bool" | .int _ => "int" | .str _ => "str" | .list _ => "list" | .tuple _ => "tuple" | _ => "NoneType"
theorem tyx_d {K : PySem.W.Frag} {H : Hp} {v : V} {d : PyData} (h : Dp K H v d) : TyX K H v (.type (tyN d)) := by
  cases h with
  | non => exact .base .non
  | bl b => exact .base (.bl b)
  | int i => exact .base (.int i)
  | str s => exact .base (.str s)
  | lst h _ => exact tyx_l h
  | tup h _ => exact tyx_t h
def isTup : PyData → Bool | .tuple _ => true | _ => false
def isStr : PyData → Bool | .str _ => true | _ => false
def isInt : PyData → Bool | .int _ => true | .bool _ => true | _ => false
def isBool : PyData → Bool | .bool _ => true | _ => false
def isList : PyData → Bool | .list _ => true | _ => false
/-- whether it is a whole number -/
def whlD : PyData → Bool | .int _ => true | _ => false
theorem kit_tup (d : PyData) : kitB (tyN d) "tuple" = some (isTup d) := by cases d <;> (dsimp only [tyN, isTup]; decide +kernel)
theorem kit_str (d : PyData) : kitB (tyN d) "str" = some (isStr d) := by cases d <;> (dsimp only [tyN, isStr]; decide +kernel)
theorem kit_int (d : PyData) : kitB (tyN d) "int" = some (isInt d) := by cases d <;> (dsimp only [tyN, isInt]; decide +kernel)
theorem kit_bool (d : PyData) : kitB (tyN d) "bool" = some (isBool d) := by cases d <;> (dsimp only [tyN, isBool]; decide +kernel)
theorem kit_list (d : PyData) : kitB (tyN d) "list" = some (isList d) := by cases d <;> (dsimp only [tyN, isList]; decide +kernel)
theorem whl_eq (d : PyData) : (isInt d && !isBool d) = whlD d := by cases d <;> rfl
section
variable {X : Cx} {B : Hp} {L : HL} {Q : KQ}
theorem c_isD {v : V} {d : PyData} {T : String} {k : Bool} (h : Dd X B L v d) (hk : kitB (tyN d) T = some k) (q : Q (.bl k) B L) : kC X (.builtin "isinstance") [v, .ty T] B L Q := c_isi (.ty T) (fun H s => tyx_d (h H s)) (kit_ty hk) q
end
theorem rep_of {L : HL} {p : Addr} {o : HO} (o' : HO) (h : (p, o) ∈ L) : ∃ L', Rep L p o o' L' ∧ (p, o') ∈ L' := by
  induction L with
  | nil => cases h
  | cons q L ih =>
    rcases List.mem_cons.mp h with e | h
    · subst e; exact ⟨_, .here, List.mem_cons_self⟩
    · obtain ⟨L', r, m⟩ := ih h
      exact ⟨_, .there r, .tail _ m⟩
end Kv

/-! Objects made where what is raised is wished for at the slots; methods with one default. -/
namespace Kv
open PySem PySem.Spec PyProof.Rows L2
section
variable {X : Cx} {CX : CXT} {k : Nat} {f C : Addr} {fd : FuncData} {ps : List Str} {sp : Sp}
/-- C(..) behind its arguments -/
theorem made {pins : List (Addr × Obj)} {σ : L2.St} {H : Hp} {s : Shared} {Q : VK} {us : List Value} {vs : List V} {E : XK} (M : Mk X.K C f) (F : FnOk X.prog X.w X.K X.mg X.base CX k f fd ps sp) (hr : Room (k + 1) X.A) (hb : Binds X.K fd ps []) (hx : PassesAt CX X σ E) (I : Inv X pins σ H s) (r : Vals vs us)
    (h : ∀ x dx, H x = none → H dx = none → dx ≠ x → sp (.ref x :: vs) (upd (upd H dx (.own x)) x (.ins C dx [])) (fun v H2 => v = .non ∧ Q (.ref x) H2) E) : wpAny (model X.prog X.w) X.A (call (.ref C) us) (EP X pins σ Q) X.xe s := by
  have n1 : H (s.heap.objs.size + 1) = none := I.hok.fresh (Nat.le_add_right _ 1)
  have n0 : H s.heap.objs.size = none := I.hok.fresh (Nat.le_refl _)
  have hsp := h _ _ n1 n0 (Nat.ne_of_lt (Nat.lt_add_one _))
  have I2 := Inv.made (C := C) I
  have rr : Vals (V.ref (s.heap.objs.size + 1) :: vs) (Value.ref (s.heap.objs.size + 1) :: us) := .cons rfl r
  have hl : (Value.ref (s.heap.objs.size + 1) :: us).length = ps.length := (Vals.length rr).symm.trans (F.len _ _ _ _ hsp)
  have b := hb _ (Value.ref (s.heap.objs.size + 1) :: us) I2.kIn (by rw [List.append_nil]; exact hl)
  rw [List.append_nil] at b
  have run := F.run _ X.stack _ _ ⟨Value.ref (s.heap.objs.size + 1) :: us, []⟩ _ _ _ E (hr.make C us []) (I2.env0.make C us []) b rr hsp
  refine wpAny_call (make_map (f := f) I.kIn M.makes M.init (beq_iff_eq.mp M.fn) (codeAny_mono run fun z s' hz => ?_))
  match z, hz with
  | .error e, hz => exact hx pins _ _ e s' I2 hz
  | .ok (.ret u), hz =>
    obtain ⟨v, H', I3, rv, ev, q⟩ := I2.after hz
    subst ev
    exact ⟨rv, .ref (s.heap.objs.size + 1), H', I3, rfl, q⟩
end
section
variable {X : Cx} {σ : L2.St} {B : Hp} {L : HL} {Q : KQ} {a e : Expr} {es : List Expr} {pos p2 : Pos}
/-- C(e, ..), what is raised goes to W -/
theorem k_makeS {x : Str} {C : Addr} {k : Nat} {sp : Sp} {W : WX} (F : Mkr X.prog X.w X.K X.mg X.base k x C sp) (hr : Room (k + 1) X.A) (tk : Takes X W)
    (h : kA X (e :: es) σ B L fun vs B1 L1 => ∀ x dx, ∀ H, Sat B1 ((x, .ins C dx []) :: (dx, .own x) :: L1) H → sp (.ref x :: vs) H (fun v H2 => v = .non ∧ up Q (.ref x) H2) (WE W σ))
    (hg : Gl X x := by rfl) (hdb : (x == ("__debug__" : Str)) = false := by decide) (he : starEach (e :: es) X.env = (false, eval e X.env) :: starEach es X.env := by rfl) (hpl : (backTo pos (starEach es X.env)).any (·.1) = false := by rfl) : kE X (.Call (.Name x p2) (e :: es) [] pos) σ B L Q := by
  obtain ⟨f, fd, ps, hF, hm, hb⟩ := F.ex
  refine ⟨fun σ H Q => cA X (e :: es) σ H fun vs H1 => ∀ x dx, H1 x = none → H1 dx = none → dx ≠ x → sp (.ref x :: vs) (upd (upd H1 dx (.own x)) x (.ins C dx [])) (fun v H2 => v = .non ∧ Q (.ref x) H2) (WE W σ), ⟨fun pins s σ H Q I h => ?_⟩, fun H s => toA s h fun vs H' B' L' s' q => fun x dx nx ndx nex => ?_⟩
  · refine wpAny_Call_Name_kw (ld_glob I hg F.mg ?_ hdb)
    refine PySem.W.callWith_K (h₀ := X.base) I.ok.mod.kin hm.kp (thn (pa_c.run pos pins s σ H _ I h) fun us s1 ⟨vs, H1, I1, r, q⟩ => ⟨I1.kIn, ?_⟩) he hpl
    exact made hm hF hr hb (passAt tk σ) I1 r q
  · have s2 := s'.new (o := .own x) ndx
    have nx2 : (upd H' dx (.own x)) x = none := by rw [upd_ne (Ne.symm nex)]; exact nx
    exact q x dx _ (s2.new (o := .ins C dx []) nx2)
/-- a method with one default -/
structure MtD (P : Program) (w : World) (K : PySem.W.Frag) (mg : Str → Option Value) (base : Heap) (k : Nat) (C : Addr) (m : Str) (d : V) (sp : Sp) : Prop where
  ex : ∃ f fd ps ds, FnOk P w K mg base (L2.CX P w) k f fd ps sp ∧ Meth K C m f ∧ Binds K fd ps ds ∧ Vals [d] ds
  cls : Cls K C
/-- o.m(e, ..) without the last argument -/
theorem k_methD {m : Str} {C : Addr} {k : Nat} {sp : Sp} {d : V} {W : WX} {apos : Pos} {pl : Sem Bool} (F : MtD X.prog X.w X.K X.mg X.base k C m d sp) (hr : Room k X.A) (tk : Takes X W)
    (h : kE X a σ B L fun x B1 L1 => ∃ p dx fs, x = .ref p ∧ At B1 L1 p (.ins C dx fs) ∧ fs.lookup m = none ∧ kA X (e :: es) σ B1 L1 fun vs B2 L2 => ∀ H, Sat B2 L2 H → sp (.ref p :: (vs ++ [d])) H (up Q) (WE W σ))
    (hst : starEach (e :: es) X.env = (false, eval e X.env) :: starEach es X.env := by rfl) (hpl : (backTo pos (starEach es X.env)).any (·.1) = false := by rfl)
    (ht : eval (.Call (.Attribute a m apos) (e :: es) [] pos) X.env = (do
      let ov ← eval a X.env
      standAt apos.atName
      let (f, first) ← holding [ov] (getMethod ov m pl)
      callWith pos f first (backTo pos (starEach (e :: es) X.env)) (backToKw pos (keywordEach [] X.env))) := by rfl) : kE X (.Call (.Attribute a m apos) (e :: es) [] pos) σ B L Q := by
  obtain ⟨f, fd, ps, ds, hF, hm, hb, hd⟩ := F.ex
  refine ⟨fun σ H Q => cE X a σ H fun x H1 => ∃ p dx fs, x = .ref p ∧ H1 p = some (.ins C dx fs) ∧ fs.lookup m = none ∧ cA X (e :: es) σ H1 fun vs H2 => sp (.ref p :: (vs ++ [d])) H2 Q (WE W σ), ⟨fun pins s σ H Q I h => ?_⟩, fun H s => toE s h fun _ _ _ _ s ⟨p, dx, fs, e, ha, hl, q⟩ => ⟨p, dx, fs, e, ha.at s, hl, toA s q fun _ _ _ _ s q => q _ s⟩⟩
  refine PySem.W.methodCall_KW (pl := pl) (thn (pe_c.run pins s σ H _ I h) fun u s1 ⟨x, H1, I1, rx, p, dx, fs, ex, ea, l, q⟩ => ?_) ht
  subst ex
  obtain rfl : u = Value.ref p := rx
  refine getmeth_ok I1 ea F.cls hm l ?_
  refine PySem.W.callWith_K (first := [.ref p]) (h₀ := X.base) I.ok.mod.kin hm.kp (thn (pa_c.run pos pins s1 σ H1 _ I1 q) fun us s2 ⟨vs, H2, I2, r, q2⟩ => ⟨I2.kIn, ?_⟩) hst hpl
  exact run_fnSD (E := WE W) (us := .ref p :: us) (vs := .ref p :: vs) hF hr hb hd (passAt tk σ) I2 (.cons rfl r) q2
end
/-- the promise of a def with defaults, by its body -/
theorem fn_okFD {P : Program} {w : World} {K : PySem.W.Frag} {mg : Str → Option Value} {base : Heap} {x qual : Str} {st : Stmt} {f : Addr} {fd : FuncData} {dvs : List V} {kws : List (Str × V)} {N ps : List Str} {k : Nat} {sp : Sp} (F : FunD K x qual (defArgs st) (defBody st) (defScope st) dvs kws f fd) (S : FnScope N ps (defScope st))
    (len : ∀ vs H Q E, sp vs H Q E → vs.length = ps.length)
    (hbody : ∀ (cdv : Value) (A : Around) (outer : List Env) (s : Shared) (H : Hp) (vs : List V) (Q : VK) (E : XK), Room k (A.deeper (envOfC qual (defScope st) s.heap.objs.size f cdv)) → sp vs H Q E →
      Takes (cxOf (L2.CX P w) P w K mg base N qual (defScope st) f cdv A outer s H E) (fun cls d _ H => E cls d H) →
      PassesOwn (model P w) (A.deeper (envOfC qual (defScope st) s.heap.objs.size f cdv)) (envOfC qual (defScope st) s.heap.objs.size f cdv) (cxOf (L2.CX P w) P w K mg base N qual (defScope st) f cdv A outer s H E).xe →
      ∃ B L, Sat B L H ∧ kSs (cxOf (L2.CX P w) P w K mg base N qual (defScope st) f cdv A outer s H E) (defBody st) (start N vs) B L (fD Q)) : FnOk P w K mg base (L2.CX P w) (k + 1) f fd ps sp := by
  refine FunD.ok F S len fun cdv A outer s H vs Q E hr h => ?_
  obtain ⟨B, L, sat, t, h1, h2⟩ := hbody cdv A outer s H vs Q E hr h (takes_of rfl rfl rfl rfl) (passes_of rfl)
  refine ⟨_, pss_c, B, L, fD Q, sat, ⟨t, h1, h2⟩, ?_, ?_, ?_, ?_⟩
  · rintro σ' H' ⟨B', L', s', q⟩
    exact q H' s'
  · rintro v H' ⟨B', L', s', q⟩
    exact q H' s'
  · rintro σ' H' ⟨B', L', s', q⟩
    exact q.elim
  · rintro σ' H' ⟨B', L', s', q⟩
    exact q.elim
section
variable {X : Cx} {σ : L2.St} {B : Hp} {L : HL} {Q : KQ} {a : Expr} {pos : Pos}
/-- s.upper() -/
theorem k_supper {apos : Pos} (h : kE X a σ B L fun x B1 L1 => ∃ l, x = .str (sOf l) ∧ kMt X "str.upper" x [] B1 L1 Q)
    (hbase : attributeBase a "upper" X.env (eval a X.env) = eval a X.env := by rfl) (hline : (apos.endLine == pos.line) = true := by rfl) : kE X (.Call (.Attribute a "upper" apos) [] [] pos) σ B L Q := by
  refine k_m0 PySem.F.plainAttrs_str PySem.F.slot_str_upper PySem.F.type_str_upper ?_ hbase hline
  obtain ⟨t, h1, h2⟩ := h
  refine ⟨_, pe_c, fun H s => toE s ⟨t, h1, h2⟩ fun x H' B' L' s' ⟨z, e, q⟩ => ⟨B', L', s', ?_, q⟩⟩
  subst e
  exact ty_s
theorem m_upper {x y : Str} (hy : Txt.upper x = y) (q : Q (.str y) B L) (hl : x.length ≤ 1000) : kMt X "str.upper" (.str x) [] B L Q := ⟨_, mt_upper, fun H s => ⟨x, rfl, rfl, by omega, by rw [hy]; exact ⟨_, _, s, q⟩⟩⟩
end
end Kv

/-! [elt for x in a list if c], the list's items told by things of another kind. -/
namespace Kv
open PySem PySem.Spec PyProof.Rows L2
section
variable {X : Cx} {σ : L2.St} {B : Hp} {L : HL} {Q : KQ} {elt iter c : Expr} {scope : Scope}
theorem k_lcfA {α : Type} {x : Str} {j : Nat} {px : Pos} (M : List α) (val : α → V) (pr : α → Bool) (g : α → V) (hN : X.N.Nodup) (ok : BlkOk X.N X.env.scope scope [(x, j)])
    (h : kE X iter σ B L fun v B1 L1 => ∃ a, v = .ref a ∧ Ls X.K B1 L1 a (M.map val) ∧ M.length ≤ 16777216 ∧ (∀ z ∈ M, ∀ D acc s H0 C cl fp, kT (Bk X scope s H0 C cl fp) c (σ.set j (some (val z))) B1 ((D, .lst acc) :: L1) fun k B3 L3 => k = pr z ∧ B3 = B1 ∧ L3 = (D, .lst acc) :: L1) ∧
      (∀ z ∈ M, pr z = true → ∀ D acc s H0 C cl fp, kE (Bk X scope s H0 C cl fp) elt (σ.set j (some (val z))) B1 ((D, .lst acc) :: L1) fun y B3 L3 => y = g z ∧ B3 = B1 ∧ L3 = (D, .lst acc) :: L1) ∧
      ∀ D, Q (.ref D) B1 ((D, .lst ((M.filter pr).map g)) :: L1))
    (hp : ∀ s H0 C cl fp, Loc (Bk X scope s H0 C cl fp).env.scope x := by intro _ _ _ _ _; first | exact Or.inl rfl | exact Or.inr rfl) (hf : ∀ s H0 C cl fp, (Bk X scope s H0 C cl fp).fn x = true ∨ (Bk X scope s H0 C cl fp).env.scope.names.lookup x = some .local := by intro _ _ _ _ _; first | exact .inr rfl | exact .inl rfl)
    (hj : X.N[j]? = some x := by rfl) (hc : X.calm = true := by rfl) (hs : ∀ x, foldedSetIterable iter X.env x = pure x := by intro _; rfl) : kL X elt (.Name x px) iter [c] scope [(x, j)] σ B L Q :=
  k_lcf hN ok (r_list (by
    obtain ⟨t, h1, h2⟩ := h
    refine ⟨_, pe_c, fun H s => toE s ⟨t, h1, h2⟩ fun v H' B1 L1 s' ⟨a, e, hls, hl, ht, hg, hd⟩ => ⟨B1, L1, s', a, M.map val, e, hls, (M.map val).length, _, _, fun i acc B L => B = B1 ∧ L = L1 ∧ acc = ((M.take i).filter pr).map g, walk_list, ⟨rfl, rfl, by simp⟩, ?_, ?_, ?_⟩⟩
    · rintro i acc B L H hi ⟨rfl, rfl, _⟩ s
      exact hls.at s
    · rintro D i acc x B L H H' hi ⟨rfl, rfl, rfl⟩ s ⟨rfl, hx⟩
      obtain ⟨z, hz, rfl⟩ : ∃ z, M[i]? = some z ∧ x = val z := by
        rw [List.getElem?_map] at hx
        cases h : M[i]? with
        | none => rw [h] at hx; cases hx
        | some z => rw [h] at hx; exact ⟨z, rfl, (Option.some.inj hx).symm⟩
      have hzm := List.mem_of_getElem? hz
      have hiM : i < M.length := (List.getElem?_eq_some_iff.mp hz).1
      refine ⟨_, _, s, fun sa Ha Ca cla fpa => g_name j ?_ hN hj (hp sa Ha Ca cla fpa) (hf sa Ha Ca cla fpa)⟩
      refine ⟨wipe1 σ j _, fun sb Hb Cb clb fpb => ?_⟩
      show kT _ _ ((wipe σ [j]).set j _) _ _ _
      rw [wipe1']
      have hsucc : (M.take (i + 1)).filter pr = (M.take i).filter pr ++ (if pr z = true then [z] else []) := by
        rw [List.take_add_one, hz, List.filter_append]
        congr 1
        by_cases hfi : pr z = true <;> simp [hfi]
      have hlen : (((M.take i).filter pr).map g).length ≤ i := by
        rw [List.length_map]
        exact Nat.le_trans (List.length_filter_le _ _) (by rw [List.length_take]; omega)
      obtain ⟨t2, k1, k2⟩ := ht z hzm D (((M.take i).filter pr).map g) sb Hb Cb clb fpb
      refine ⟨_, pt_c, fun H s => toT s ⟨t2, k1, k2⟩ fun k H2 B2 L2 s2 ⟨e1, e2, e3⟩ => ⟨B2, L2, s2, fun hk => fun sc Hc Cc clc fpc => ?_, fun hk => ?_⟩⟩
      · subst e2 e3
        have hfx : pr z = true := by rw [← e1]; exact hk
        obtain ⟨t3, k3, k4⟩ := hg z hzm hfx D (((M.take i).filter pr).map g) sc Hc Cc clc fpc
        show kE _ _ ((wipe σ [j]).set j _) _ _ _
        rw [wipe1']
        refine ⟨_, pe_c, fun H s => toE s ⟨t3, k3, k4⟩ fun y H3 B3 L3 s3 ⟨e4, e5, e6⟩ => ⟨B3, L3, s3, by omega, L, e6, e5, rfl, ?_⟩⟩
        rw [hsucc, if_pos hfx, List.map_append, e4]; rfl
      · refine ⟨L, e3, e2, rfl, ?_⟩
        rw [hsucc, if_neg (by rw [← e1, hk]; decide), List.append_nil]
    · rintro acc B L D ⟨rfl, rfl, rfl⟩
      rw [List.length_map, List.take_length]
      exact hd D)) hc hs
/-- .. of a tuple -/
theorem k_lcfAt {α : Type} {x : Str} {j : Nat} {px : Pos} (M : List α) (val : α → V) (pr : α → Bool) (g : α → V) (hN : X.N.Nodup) (ok : BlkOk X.N X.env.scope scope [(x, j)])
    (h : kE X iter σ B L fun v B1 L1 => ∃ a, v = .ref a ∧ Tp X.K B1 L1 a (M.map val) ∧ M.length ≤ 16777216 ∧ (∀ z ∈ M, ∀ D acc s H0 C cl fp, kT (Bk X scope s H0 C cl fp) c (σ.set j (some (val z))) B1 ((D, .lst acc) :: L1) fun k B3 L3 => k = pr z ∧ B3 = B1 ∧ L3 = (D, .lst acc) :: L1) ∧
      (∀ z ∈ M, pr z = true → ∀ D acc s H0 C cl fp, kE (Bk X scope s H0 C cl fp) elt (σ.set j (some (val z))) B1 ((D, .lst acc) :: L1) fun y B3 L3 => y = g z ∧ B3 = B1 ∧ L3 = (D, .lst acc) :: L1) ∧
      ∀ D, Q (.ref D) B1 ((D, .lst ((M.filter pr).map g)) :: L1))
    (hp : ∀ s H0 C cl fp, Loc (Bk X scope s H0 C cl fp).env.scope x := by intro _ _ _ _ _; first | exact Or.inl rfl | exact Or.inr rfl) (hf : ∀ s H0 C cl fp, (Bk X scope s H0 C cl fp).fn x = true ∨ (Bk X scope s H0 C cl fp).env.scope.names.lookup x = some .local := by intro _ _ _ _ _; first | exact .inr rfl | exact .inl rfl)
    (hj : X.N[j]? = some x := by rfl) (hc : X.calm = true := by rfl) (hs : ∀ x, foldedSetIterable iter X.env x = pure x := by intro _; rfl) : kL X elt (.Name x px) iter [c] scope [(x, j)] σ B L Q :=
  k_lcf hN ok (r_tup (by
    obtain ⟨t, h1, h2⟩ := h
    refine ⟨_, pe_c, fun H s => toE s ⟨t, h1, h2⟩ fun v H' B1 L1 s' ⟨a, e, hls, hl, ht, hg, hd⟩ => ⟨B1, L1, s', a, M.map val, e, hls, (M.map val).length, _, _, fun i acc B L => B = B1 ∧ L = L1 ∧ acc = ((M.take i).filter pr).map g, walk_tup, ⟨rfl, rfl, by simp⟩, ?_, ?_, ?_⟩⟩
    · rintro i acc B L H hi ⟨rfl, rfl, _⟩ s
      exact hls.at s
    · rintro D i acc x B L H H' hi ⟨rfl, rfl, rfl⟩ s ⟨rfl, hx⟩
      obtain ⟨z, hz, rfl⟩ : ∃ z, M[i]? = some z ∧ x = val z := by
        rw [List.getElem?_map] at hx
        cases h : M[i]? with
        | none => rw [h] at hx; cases hx
        | some z => rw [h] at hx; exact ⟨z, rfl, (Option.some.inj hx).symm⟩
      have hzm := List.mem_of_getElem? hz
      have hiM : i < M.length := (List.getElem?_eq_some_iff.mp hz).1
      refine ⟨_, _, s, fun sa Ha Ca cla fpa => g_name j ?_ hN hj (hp sa Ha Ca cla fpa) (hf sa Ha Ca cla fpa)⟩
      refine ⟨wipe1 σ j _, fun sb Hb Cb clb fpb => ?_⟩
      show kT _ _ ((wipe σ [j]).set j _) _ _ _
      rw [wipe1']
      have hsucc : (M.take (i + 1)).filter pr = (M.take i).filter pr ++ (if pr z = true then [z] else []) := by
        rw [List.take_add_one, hz, List.filter_append]
        congr 1
        by_cases hfi : pr z = true <;> simp [hfi]
      have hlen : (((M.take i).filter pr).map g).length ≤ i := by
        rw [List.length_map]
        exact Nat.le_trans (List.length_filter_le _ _) (by rw [List.length_take]; omega)
      obtain ⟨t2, k1, k2⟩ := ht z hzm D (((M.take i).filter pr).map g) sb Hb Cb clb fpb
      refine ⟨_, pt_c, fun H s => toT s ⟨t2, k1, k2⟩ fun k H2 B2 L2 s2 ⟨e1, e2, e3⟩ => ⟨B2, L2, s2, fun hk => fun sc Hc Cc clc fpc => ?_, fun hk => ?_⟩⟩
      · subst e2 e3
        have hfx : pr z = true := by rw [← e1]; exact hk
        obtain ⟨t3, k3, k4⟩ := hg z hzm hfx D (((M.take i).filter pr).map g) sc Hc Cc clc fpc
        show kE _ _ ((wipe σ [j]).set j _) _ _ _
        rw [wipe1']
        refine ⟨_, pe_c, fun H s => toE s ⟨t3, k3, k4⟩ fun y H3 B3 L3 s3 ⟨e4, e5, e6⟩ => ⟨B3, L3, s3, by omega, L, e6, e5, rfl, ?_⟩⟩
        rw [hsucc, if_pos hfx, List.map_append, e4]; rfl
      · refine ⟨L, e3, e2, rfl, ?_⟩
        rw [hsucc, if_neg (by rw [← e1, hk]; decide), List.append_nil]
    · rintro acc B L D ⟨rfl, rfl, rfl⟩
      rw [List.length_map, List.take_length]
      exact hd D)) hc hs
end
end Kv

/-! Dicts with number and text keys: k in d, {k: v}; comprehensions whose target is three names. -/
namespace Kv
open PySem PySem.Spec PyProof.Rows L2
section
variable {X : Cx} {B : Hp} {L : HL} {Q : KQ}
theorem o_inK {p : Addr} {kvs : List (Key × V)} {k : Key} (hu : X.A.units + 64 < cLine) (hp : At B L p (.dK kvs)) (q : Q (.bl (valV kvs k).isSome) B L) : kO X (compareOp .In) (kV k) (.ref p) B L Q :=
  ⟨_, KvU.op_in (by omega), fun H s => ⟨p, _, rfl, .inl ⟨kvs, k, .inl (hp.at s), rfl, rfl⟩, _, _, s, q⟩⟩
theorem o_ninK {p : Addr} {kvs : List (Key × V)} {k : Key} (hu : X.A.units + 64 < cLine) (hp : At B L p (.dK kvs)) (q : Q (.bl (!(valV kvs k).isSome)) B L) : kO X (compareOp .NotIn) (kV k) (.ref p) B L Q :=
  ⟨_, KvU.op_nin (by omega), fun H s => ⟨p, _, rfl, .inl ⟨kvs, k, .inl (hp.at s), rfl, rfl⟩, _, _, s, q⟩⟩
end
section
variable {X : Cx} {σ : L2.St} {B : Hp} {L : HL} {Q : KQ} {pos p2 pos' : Pos} {elt iter a b : Expr} {scope : Scope}
theorem t_sub {L' : HL} {c : Expr} {R : KB} (h : List.Sublist L' L) (k : kT X c σ B L' R) : kT X c σ B L R := by
  obtain ⟨t, h1, h2⟩ := k
  exact ⟨t, h1, fun H s => h2 H (Sat.sub h s)⟩
theorem e_sub {L' : HL} {c : Expr} (h : List.Sublist L' L) (k : kE X c σ B L' Q) : kE X c σ B L Q := by
  obtain ⟨t, h1, h2⟩ := k
  exact ⟨t, h1, fun H s => h2 H (Sat.sub h s)⟩
/-- {a: b} -/
theorem k_dK1 (h : ∀ D, kE X a σ B ((D, .dK []) :: L) fun x B1 L1 => ∃ k, x = kV k ∧ kE X b σ B1 L1 fun y B2 L2 => ∃ L3, Rep L2 D (.dK []) (.dK [(k, y)]) L3 ∧ Q (.ref D) B2 L3) : kE X (.Dict [some a] [b] pos) σ B L Q := by
  refine k_dict [(a, b)] (by simp) (by simp) fun D => ?_
  obtain ⟨t, h1, h2⟩ := h D
  refine ⟨_, pe_c, fun H s => toE s ⟨t, h1, h2⟩ fun x H1 B1 L1 s1 ⟨k, e, h3⟩ => ⟨B1, L1, s1, ?_⟩⟩
  obtain ⟨t2, h4, h5⟩ := h3
  refine ⟨_, pe_c, fun H s => toE s ⟨t2, h4, h5⟩ fun y H2 B2 L2 s2 ⟨L3, r, q⟩ => ⟨B2, L2, s2, [(k, y)], L3, by rw [e]; rfl, by simp, ?_, q⟩⟩
  exact r
theorem putK_new {κ : Type} [DecidableEq κ] {kvs : List (κ × V)} {k : κ} {v : V} (h : valV kvs k = none) : putK kvs k v = kvs ++ [(k, v)] := by
  unfold putK
  rw [if_neg (by rw [valV_any, h]; decide)]
theorem wipe3 (σ : L2.St) (i j k : Nat) (x y z : V) : wipe ((((wipe σ [i, j, k]).set i (some x)).set j (some y)).set k (some z)) [i, j, k] = wipe σ [i, j, k] := by
  apply List.ext_getElem?
  intro n
  simp only [wipe, List.getElem?_set, List.length_set]
  repeat' split
  all_goals first | rfl | omega | simp_all
theorem wipe3' (σ : L2.St) (i j k : Nat) (x y z : V) : (((wipe σ [i, j, k]).set i (some x)).set j (some y)).set k (some z) = ((σ.set i (some x)).set j (some y)).set k (some z) := by
  apply List.ext_getElem?
  intro n
  simp only [wipe, List.getElem?_set, List.length_set]
  repeat' split
  all_goals first | rfl | omega | simp_all
/-- [elt for x, y, z in a list], the items told by things of another kind -/
theorem k_lcv_l3 {α : Type} {x y z : Str} {i j k kk : Nat} {px py pz tpos : Pos} (val : α → V) (it : α → List V) (hN : X.N.Nodup) (ok : BlkOk X.N X.env.scope scope [(x, i), (y, j), (z, k)])
    (h : kE X iter σ B L fun v B1 L1 => ∃ (a : Addr) (M : List α) (Pv : Nat → List V → Hp → HL → Prop), v = .ref a ∧ M.length ≤ 16777216 ∧ Pv 0 [] B1 L1 ∧ (∀ n acc B L, Pv n acc B L → Ls X.K B L a (M.map val) ∧ acc.length = n) ∧
      (∀ n acc B L m, M[n]? = some m → Pv n acc B L → ∃ t u v w, val m = .ref t ∧ Tp X.K B L t (it m) ∧ it m = [u, v, w] ∧ ∀ D s H0 C cl fp, kE (Bk X scope s H0 C cl fp) elt (((σ.set i (some u)).set j (some v)).set k (some w)) B ((D, .lst acc) :: L) fun r B3 L3 => ∃ L4, L3 = (D, .lst acc) :: L4 ∧ Pv (n + 1) (acc ++ [r]) B3 L4) ∧
      ∀ acc B L D, Pv M.length acc B L → Q (.ref D) B ((D, .lst acc) :: L))
    (hp : ∀ s H0 C cl fp, Loc (Bk X scope s H0 C cl fp).env.scope x ∧ Loc (Bk X scope s H0 C cl fp).env.scope y ∧ Loc (Bk X scope s H0 C cl fp).env.scope z := by intro _ _ _ _ _; exact ⟨Or.inl rfl, Or.inl rfl, Or.inl rfl⟩)
    (hf : ∀ s H0 C cl fp, (Bk X scope s H0 C cl fp).env.scope.names.lookup x = some .local ∧ (Bk X scope s H0 C cl fp).env.scope.names.lookup y = some .local ∧ (Bk X scope s H0 C cl fp).env.scope.names.lookup z = some .local := by intro _ _ _ _ _; exact ⟨rfl, rfl, rfl⟩)
    (hn : ∀ s H0 C cl fp, (assignEach [.Name x px, .Name y py, .Name z pz] (Bk X scope s H0 C cl fp).env).length = 3 := by intro _ _ _ _ _; rfl) (hfi : ∀ s H0 C cl fp, (assignEach [.Name x px, .Name y py, .Name z pz] (Bk X scope s H0 C cl fp).env).findIdx? (·.1) = none := by intro _ _ _ _ _; rfl)
    (h1 : ∀ s H0 C cl fp, (assignEach [.Name x px, .Name y py, .Name z pz] (Bk X scope s H0 C cl fp).env).map (·.2) = assign (.Name x px) (Bk X scope s H0 C cl fp).env :: (assignEach [.Name y py, .Name z pz] (Bk X scope s H0 C cl fp).env).map (·.2) := by intro _ _ _ _ _; rfl)
    (h2 : ∀ s H0 C cl fp, (assignEach [.Name y py, .Name z pz] (Bk X scope s H0 C cl fp).env).map (·.2) = assign (.Name y py) (Bk X scope s H0 C cl fp).env :: (assignEach [.Name z pz] (Bk X scope s H0 C cl fp).env).map (·.2) := by intro _ _ _ _ _; rfl)
    (h3 : ∀ s H0 C cl fp, (assignEach [.Name z pz] (Bk X scope s H0 C cl fp).env).map (·.2) = assign (.Name z pz) (Bk X scope s H0 C cl fp).env :: (assignEach [] (Bk X scope s H0 C cl fp).env).map (·.2) := by intro _ _ _ _ _; rfl)
    (hi : X.N[i]? = some x := by rfl) (hj : X.N[j]? = some y := by rfl) (hk : X.N[k]? = some z := by rfl) (hc : X.calm = true := by rfl) (hs : ∀ x, foldedSetIterable iter X.env x = pure x := by intro _; rfl) :
    kL X elt (.Tuple [.Name x px, .Name y py, .Name z pz] kk tpos) iter [] scope [(x, i), (y, j), (z, k)] σ B L Q :=
  k_lc hN ok (r_list (by
    obtain ⟨t, k1, k2⟩ := h
    refine ⟨_, pe_c, fun H s => toE s ⟨t, k1, k2⟩ fun v H' B1 L1 s' ⟨a, M, Pv, e, hl, p0, hpv, ht, hd⟩ => ⟨B1, L1, s', a, M.map val, e, (hpv _ _ _ _ p0).1, (M.map val).length, _, _, fun n acc B L => Pv n acc B L, walk_list, p0, ?_, ?_, ?_⟩⟩
    · intro n acc B L H _ p s
      exact (hpv _ _ _ _ p).1.at s
    · rintro D n acc r B L H H' hn' p s ⟨rfl, hx⟩
      obtain ⟨m, hm, rfl⟩ : ∃ m, M[n]? = some m ∧ r = val m := by
        rw [List.getElem?_map] at hx
        cases hq : M[n]? with
        | none => rw [hq] at hx; cases hx
        | some m => rw [hq] at hx; exact ⟨m, rfl, (Option.some.inj hx).symm⟩
      obtain ⟨t, u, v, w, e1, hT, e2, hE⟩ := ht n acc B L m hm p
      have hnl := (List.getElem?_eq_some_iff.mp hm).1
      have hac := (hpv _ _ _ _ p).2
      refine ⟨_, _, s, fun sa Ha Ca cla fpa => ?_⟩
      rw [e1]
      refine g_tup (n := 3) (xs := it m) (show Tp (Bk X scope sa Ha Ca cla fpa).K B ((D, .lst acc) :: L) t (it m) from hT.imp id fun z => List.mem_cons_of_mem _ z) (by rw [e2]; rfl) ?_ hc (hn sa Ha Ca cla fpa) (hfi sa Ha Ca cla fpa)
      rw [e2]
      refine gs_cons (g_name i ?_ hN hi (hp sa Ha Ca cla fpa).1 (.inr (hf sa Ha Ca cla fpa).1)) (h1 sa Ha Ca cla fpa)
      refine gs_cons (g_name j ?_ hN hj (hp sa Ha Ca cla fpa).2.1 (.inr (hf sa Ha Ca cla fpa).2.1)) (h2 sa Ha Ca cla fpa)
      refine gs_cons (g_name k ?_ hN hk (hp sa Ha Ca cla fpa).2.2 (.inr (hf sa Ha Ca cla fpa).2.2)) (h3 sa Ha Ca cla fpa)
      refine gs_nil ⟨wipe3 σ i j k _ _ _, fun sb Hb Cb clb fpb => ?_⟩
      show kE _ _ ((((wipe σ [i, j, k]).set i _).set j _).set k _) _ _ _
      rw [wipe3']
      obtain ⟨t2, m1, m2⟩ := hE D sb Hb Cb clb fpb
      exact ⟨_, pe_c, fun H s => toE s ⟨t2, m1, m2⟩ fun r H2 B2 L2 s2 ⟨L4, e4, q⟩ => ⟨B2, L2, s2, by omega, L4, e4, q⟩⟩
    · intro acc B L D p
      rw [List.length_map] at p
      exact hd acc B L D p)) hc hs
end
end Kv

/-! Webs, plain: places come to, roads trimmed, places numbered anew; no program in sight. -/
namespace Pw
open Fg
abbrev Road := Nat × Nat × Nat
abbrev Arc := (Nat × Nat) × Nat
abbrev Sf := Nat × Nat → Option Nat
def LT : List Nat := [97, 98, 99, 100, 101, 102]
def OL : List Nat := [97, 65, 98, 66, 99, 67, 100, 68, 101, 69, 102, 70]
theorem lt_ol {c : Nat} (h : c ∈ LT) : c ∈ OL ∧ bk c ∈ OL := by
  have : ∀ c ∈ LT, c ∈ OL ∧ bk c ∈ OL := by decide
  exact this c h
theorem lt_bk {c : Nat} (h : c ∈ LT) : bk c ∉ LT := by
  have : ∀ c ∈ LT, bk c ∉ LT := by decide
  exact this c h
def arcs (r : Road) : List Arc := [((r.1, r.2.1), r.2.2), ((r.2.2, bk r.2.1), r.1)]
theorem mem_arcs {U : List Road} {a : Nat × Nat} {p : Nat} : (a, p) ∈ U.flatMap arcs ↔ ∃ r ∈ U, (a = (r.1, r.2.1) ∧ p = r.2.2) ∨ (a = (r.2.2, bk r.2.1) ∧ p = r.1) := by
  rw [List.mem_flatMap]
  constructor
  · rintro ⟨r, hr, h⟩
    simp only [arcs, List.mem_cons, List.not_mem_nil, or_false, Prod.mk.injEq] at h
    exact ⟨r, hr, h.imp (fun h => ⟨Prod.ext (congrArg Prod.fst h.1) (congrArg Prod.snd h.1), h.2⟩) (fun h => ⟨Prod.ext (congrArg Prod.fst h.1) (congrArg Prod.snd h.1), h.2⟩)⟩
  · rintro ⟨r, hr, h⟩
    refine ⟨r, hr, ?_⟩
    simp only [arcs, List.mem_cons, List.not_mem_nil, or_false, Prod.mk.injEq]
    exact h
/-- the steps are those of the roads -/
def Is (st : Sf) (U : List Road) : Prop := ∀ a p, st a = some p ↔ (a, p) ∈ U.flatMap arcs
def Lt (U : List Road) : Prop := ∀ r ∈ U, r.2.1 ∈ LT
theorem Is.uniq {st st' : Sf} {U U' : List Road} (h : Is st U) (h' : Is st' U') (e : ∀ r, r ∈ U ↔ r ∈ U') : st = st' := by
  funext a
  apply Option.ext
  intro p
  rw [h a p, h' a p, mem_arcs, mem_arcs]
  exact ⟨fun ⟨r, h1, h2⟩ => ⟨r, (e r).mp h1, h2⟩, fun ⟨r, h1, h2⟩ => ⟨r, (e r).mpr h1, h2⟩⟩
theorem Is.fwd {st : Sf} {U : List Road} (h : Is st U) {r : Road} (hr : r ∈ U) : st (r.1, r.2.1) = some r.2.2 := (h _ _).mpr (mem_arcs.mpr ⟨r, hr, .inl ⟨rfl, rfl⟩⟩)
theorem Is.bwd {st : Sf} {U : List Road} (h : Is st U) {r : Road} (hr : r ∈ U) : st (r.2.2, bk r.2.1) = some r.1 := (h _ _).mpr (mem_arcs.mpr ⟨r, hr, .inr ⟨rfl, rfl⟩⟩)
theorem Is.ol {st : Sf} {U : List Road} (h : Is st U) (hl : Lt U) {p c q : Nat} (e : st (p, c) = some q) : c ∈ OL := by
  obtain ⟨r, hr, h2⟩ := mem_arcs.mp ((h _ _).mp e)
  rcases h2 with ⟨h2, _⟩ | ⟨h2, _⟩
  · rw [(Prod.mk.inj h2).2]; exact (lt_ol (hl r hr)).1
  · rw [(Prod.mk.inj h2).2]; exact (lt_ol (hl r hr)).2
theorem Is.sub {st st' : Sf} {U T : List Road} (h : Is st U) (h' : Is st' T) (s : ∀ r ∈ T, r ∈ U) {a : Nat × Nat} {p : Nat} (e : st' a = some p) : st a = some p := by
  obtain ⟨r, hr, h2⟩ := mem_arcs.mp ((h' _ _).mp e)
  exact (h _ _).mpr (mem_arcs.mpr ⟨r, s r hr, h2⟩)
theorem sub_len {α : Type} [DecidableEq α] : ∀ {l m : List α}, l.Nodup → (∀ x ∈ l, x ∈ m) → l.length ≤ m.length
  | [], _, _, _ => Nat.zero_le _
  | x :: l, m, hn, hs => by
    rw [List.nodup_cons] at hn
    have hx := hs x List.mem_cons_self
    have h1 := sub_len (m := m.erase x) hn.2 fun y hy => (List.mem_erase_of_ne (fun e : y = x => hn.1 (by rw [← e]; exact hy))).mpr (hs y (.tail _ hy))
    rw [List.length_erase_of_mem hx] at h1
    have := List.length_pos_of_mem hx
    rw [List.length_cons]; omega
/-! ### ends of roads, trimming -/
def ends (U : List Road) : List Nat := U.map (fun r => r.1) ++ U.map fun r => r.2.2
def Held (U : List Road) (p : Nat) : Prop := p = 0 ∨ 1 < (ends U).count p
def Stb (U : List Road) : Prop := ∀ r ∈ U, Held U r.1 ∧ Held U r.2.2
theorem cnt_map {α : Type} (f : α → Nat) (p : Nat) : ∀ T : List α, (T.map f).count p = (T.filter fun r => f r == p).length
  | [] => rfl
  | a :: T => by
    rw [List.map_cons, List.count_cons, cnt_map f p T, List.filter_cons]
    split <;> simp
theorem cnt_ends (U : List Road) (p : Nat) : (ends U).count p = (U.filter fun r => r.1 == p).length + (U.filter fun r => r.2.2 == p).length := by
  unfold ends
  rw [List.count_append, cnt_map, cnt_map]
theorem nd_filter {α : Type} {l : List α} (f : α → Bool) (h : l.Nodup) : (l.filter f).Nodup := List.Pairwise.sublist List.filter_sublist h
theorem cnt_mono {T U : List Road} (hn : T.Nodup) (hs : ∀ r ∈ T, r ∈ U) (p : Nat) : (ends T).count p ≤ (ends U).count p := by
  rw [cnt_ends, cnt_ends]
  have h1 := sub_len (l := T.filter fun r => r.1 == p) (m := U.filter fun r => r.1 == p) (nd_filter _ hn) fun x hx => List.mem_filter.mpr ⟨hs x (List.mem_filter.mp hx).1, (List.mem_filter.mp hx).2⟩
  have h2 := sub_len (l := T.filter fun r => r.2.2 == p) (m := U.filter fun r => r.2.2 == p) (nd_filter _ hn) fun x hx => List.mem_filter.mpr ⟨hs x (List.mem_filter.mp hx).1, (List.mem_filter.mp hx).2⟩
  omega
theorem Held.mono {T U : List Road} {p : Nat} (hn : T.Nodup) (hs : ∀ r ∈ T, r ∈ U) (h : Held T p) : Held U p := h.imp id fun h => Nat.lt_of_lt_of_le h (cnt_mono hn hs p)
theorem cnt_same {T U : List Road} (hn : T.Nodup) (hm : U.Nodup) (e : ∀ r, r ∈ T ↔ r ∈ U) (p : Nat) : (ends T).count p = (ends U).count p :=
  Nat.le_antisymm (cnt_mono hn (fun r => (e r).mp) p) (cnt_mono hm (fun r => (e r).mpr) p)
theorem one_in {l : List Road} (h : l.length = 1) {x y : Road} (hx : x ∈ l) (hy : y ∈ l) : x = y := by
  match l, h with
  | [a], _ => rw [List.mem_singleton.mp hx, List.mem_singleton.mp hy]
theorem mem_fst {U : List Road} {r : Road} {p : Nat} (hr : r ∈ U) (h : r.1 = p) : r ∈ U.filter fun r => r.1 == p := List.mem_filter.mpr ⟨hr, by simpa using h⟩
theorem mem_lst {U : List Road} {r : Road} {p : Nat} (hr : r ∈ U) (h : r.2.2 = p) : r ∈ U.filter fun r => r.2.2 == p := List.mem_filter.mpr ⟨hr, by simpa using h⟩
theorem one_end {U : List Road} {p : Nat} (hc : (ends U).count p = 1) {r r' : Road} (hr : r ∈ U) (hr' : r' ∈ U) (h : r.1 = p ∨ r.2.2 = p) (h' : r'.1 = p ∨ r'.2.2 = p) : r = r' ∧ ¬ (r.1 = p ∧ r.2.2 = p) := by
  rw [cnt_ends] at hc
  rcases h with h | h
  · have h1 := mem_fst hr h
    have l1 := List.length_pos_of_mem h1
    have z : ∀ x ∈ U, x.2.2 ≠ p := fun x hx e => by
      have := List.length_pos_of_mem (mem_lst hx e)
      omega
    have h2 := h'.resolve_right (z r' hr')
    exact ⟨one_in (by omega) h1 (mem_fst hr' h2), fun k => z r hr k.2⟩
  · have h1 := mem_lst hr h
    have l1 := List.length_pos_of_mem h1
    have z : ∀ x ∈ U, x.1 ≠ p := fun x hx e => by
      have := List.length_pos_of_mem (mem_fst hx e)
      omega
    have h2 := h'.resolve_left (z r' hr')
    exact ⟨one_in (by omega) h1 (mem_lst hr' h2), fun k => z r hr k.1⟩
/-- what is left when loose ends are trimmed -/
structure Trim (U T : List Road) : Prop where
  n : T.Nodup
  s : ∀ r ∈ T, r ∈ U
  b : Stb T
  g : ∀ T' : List Road, T'.Nodup → (∀ r ∈ T', r ∈ U) → Stb T' → ∀ r ∈ T', r ∈ T
theorem Trim.same {U U' T T' : List Road} (h : Trim U T) (h' : Trim U' T') (e : ∀ r, r ∈ U ↔ r ∈ U') (r : Road) : r ∈ T ↔ r ∈ T' :=
  ⟨h'.g T h.n (fun x hx => (e x).mp (h.s x hx)) h.b r, h.g T' h'.n (fun x hx => (e x).mpr (h'.s x hx)) h'.b r⟩
def heldB (n : Nat) (es : List Nat) : Bool := decide (n = 0) || decide (1 < es.count n)
theorem heldB_iff {U : List Road} {p : Nat} : heldB p (ends U) = true ↔ Held U p := by unfold heldB Held; simp
def keepR (U : List Road) : List Road := U.filter fun r => heldB r.1 (ends U) && heldB r.2.2 (ends U)
theorem keep_g {U T : List Road} (hn : T.Nodup) (hs : ∀ r ∈ T, r ∈ U) (hb : Stb T) : ∀ r ∈ T, r ∈ keepR U := fun r hr => by
  refine List.mem_filter.mpr ⟨hs r hr, ?_⟩
  rw [Bool.and_eq_true, heldB_iff, heldB_iff]
  exact ⟨(hb r hr).1.mono hn hs, (hb r hr).2.mono hn hs⟩
theorem keep_stb {U : List Road} (h : ¬ (keepR U).length < U.length) : keepR U = U ∧ Stb U := by
  have e : keepR U = U := List.Sublist.eq_of_length_le List.filter_sublist (by omega)
  refine ⟨e, fun r hr => ?_⟩
  rw [← e] at hr
  have := (List.mem_filter.mp hr).2
  rw [Bool.and_eq_true, heldB_iff, heldB_iff] at this
  exact this
def trimN : Nat → List Road → List Road
  | 0, U => U
  | n + 1, U => if (keepR U).length < U.length then trimN n (keepR U) else keepR U
def trimR (U : List Road) : List Road := trimN (U.length + 1) U
theorem trimN_is : ∀ {n : Nat} {U : List Road}, U.Nodup → U.length < n → Trim U (trimN n U)
  | 0, _, _, h => absurd h (by omega)
  | n + 1, U, hn, hl => by
    show Trim U (if (keepR U).length < U.length then trimN n (keepR U) else keepR U)
    by_cases h : (keepR U).length < U.length
    · rw [if_pos h]
      have ih := trimN_is (n := n) (U := keepR U) (nd_filter _ hn) (by omega)
      exact ⟨ih.n, fun r hr => (List.mem_filter.mp (ih.s r hr)).1, ih.b, fun T' h1 h2 h3 => ih.g T' h1 (keep_g h1 h2 h3) h3⟩
    · rw [if_neg h]
      obtain ⟨e, hb⟩ := keep_stb h
      rw [e]
      exact ⟨hn, fun _ z => z, hb, fun T' _ h2 _ => h2⟩
theorem trimR_is {U : List Road} (h : U.Nodup) : Trim U (trimR U) := trimN_is h (Nat.lt_succ_self _)
/-! one at a time -/
def rmv (U : List Road) (p : Nat) : List Road := U.filter fun r => !(r.1 == p) && !(r.2.2 == p)
theorem mem_rmv {U : List Road} {p : Nat} {r : Road} : r ∈ rmv U p ↔ r ∈ U ∧ r.1 ≠ p ∧ r.2.2 ≠ p := by unfold rmv; rw [List.mem_filter]; simp
theorem rmv_g {U T : List Road} {p : Nat} (hp : p ≠ 0) (hc : (ends U).count p = 1) (hn : T.Nodup) (hs : ∀ r ∈ T, r ∈ U) (hb : Stb T) : ∀ r ∈ T, r ∈ rmv U p := fun r hr => by
  have z : ¬ Held T p := fun h => by
    rcases h with h | h
    · exact hp h
    · have := cnt_mono hn hs p; omega
  refine mem_rmv.mpr ⟨hs r hr, fun e => z (e ▸ (hb r hr).1), fun e => z (e ▸ (hb r hr).2)⟩
theorem rmv_len {U : List Road} {p : Nat} (hc : (ends U).count p = 1) : (rmv U p).length < U.length := by
  have : p ∈ ends U := by
    apply Classical.byContradiction
    intro h
    rw [List.count_eq_zero_of_not_mem h] at hc
    omega
  have ⟨r, hr, h⟩ : ∃ r ∈ U, r.1 = p ∨ r.2.2 = p := by
    unfold ends at this
    rcases List.mem_append.mp this with h | h
    · obtain ⟨r, hr, e⟩ := List.mem_map.mp h; exact ⟨r, hr, .inl e⟩
    · obtain ⟨r, hr, e⟩ := List.mem_map.mp h; exact ⟨r, hr, .inr e⟩
  apply Nat.lt_of_not_le
  intro hl
  have e : rmv U p = U := List.Sublist.eq_of_length_le List.filter_sublist hl
  rw [← e] at hr
  have := mem_rmv.mp hr
  exact h.elim this.2.1 this.2.2
/-- come to from 0 along roads -/
inductive Rch (U : List Road) : Nat → Prop where
  | z : Rch U 0
  | f {r : Road} : r ∈ U → Rch U r.1 → Rch U r.2.2
  | b {r : Road} : r ∈ U → Rch U r.2.2 → Rch U r.1
theorem Rch.mono {U V : List Road} (h : ∀ r ∈ U, r ∈ V) {p : Nat} (k : Rch U p) : Rch V p := by
  induction k with
  | z => exact .z
  | f hr _ ih => exact .f (h _ hr) ih
  | b hr _ ih => exact .b (h _ hr) ih
def Conn (U : List Road) : Prop := ∀ r ∈ U, Rch U r.1 ∧ Rch U r.2.2
theorem cut_rch {U : List Road} {p : Nat} (hp : p ≠ 0) (hc : (ends U).count p = 1) {q : Nat} (h : Rch U q) : (q ≠ p → Rch (rmv U p) q) ∧ (q = p → ∀ r ∈ U, (r.1 = p → Rch (rmv U p) r.2.2) ∧ (r.2.2 = p → Rch (rmv U p) r.1)) := by
  induction h with
  | z => exact ⟨fun _ => .z, fun e => absurd e.symm hp⟩
  | @f r hr _ ih =>
    constructor
    · intro hq
      by_cases h1 : r.1 = p
      · exact (ih.2 h1 r hr).1 h1
      · exact .f (mem_rmv.mpr ⟨hr, h1, hq⟩) (ih.1 h1)
    · intro hq r' hr'
      constructor
      · intro h'
        obtain ⟨e, nl⟩ := one_end hc hr hr' (.inr hq) (.inl h')
        subst e
        exact absurd ⟨h', hq⟩ nl
      · intro h'
        obtain ⟨e, nl⟩ := one_end hc hr hr' (.inr hq) (.inr h')
        subst e
        exact ih.1 fun k => nl ⟨k, hq⟩
  | @b r hr _ ih =>
    constructor
    · intro hq
      by_cases h1 : r.2.2 = p
      · exact (ih.2 h1 r hr).2 h1
      · exact .b (mem_rmv.mpr ⟨hr, hq, h1⟩) (ih.1 h1)
    · intro hq r' hr'
      constructor
      · intro h'
        obtain ⟨e, nl⟩ := one_end hc hr hr' (.inl hq) (.inl h')
        subst e
        exact ih.1 fun k => nl ⟨hq, k⟩
      · intro h'
        obtain ⟨e, nl⟩ := one_end hc hr hr' (.inl hq) (.inr h')
        subst e
        exact absurd ⟨hq, h'⟩ nl
theorem trim_conn : ∀ (n : Nat) {U T : List Road}, U.length ≤ n → U.Nodup → Conn U → Trim U T → Conn T
  | n, U, T, hl, hn, hC, hT => by
    by_cases h : ∃ p, p ≠ 0 ∧ (ends U).count p = 1
    · obtain ⟨p, hp, hc⟩ := h
      have hlt := rmv_len hc
      match n, hl with
      | 0, hl => omega
      | n + 1, hl =>
        refine trim_conn n (U := rmv U p) (by omega) (nd_filter _ hn) (fun r hr => ?_) ⟨hT.n, rmv_g hp hc hT.n hT.s hT.b, hT.b, fun T' h1 h2 h3 => hT.g T' h1 (fun r hr => (mem_rmv.mp (h2 r hr)).1) h3⟩
        obtain ⟨h1, h2, h3⟩ := mem_rmv.mp hr
        exact ⟨(cut_rch hp hc (hC r h1).1).1 h2, (cut_rch hp hc (hC r h1).2).1 h3⟩
    · have hb : Stb U := fun r hr => by
        have key : ∀ p, p ∈ ends U → Held U p := fun p hp => by
          by_cases h0 : p = 0
          · exact .inl h0
          · have h1 := List.count_pos_iff.mpr hp
            have h2 : (ends U).count p ≠ 1 := fun e => h ⟨p, h0, e⟩
            exact .inr (by omega)
        exact ⟨key _ (List.mem_append_left _ (List.mem_map.mpr ⟨r, hr, rfl⟩)), key _ (List.mem_append_right _ (List.mem_map.mpr ⟨r, hr, rfl⟩))⟩
      have up := hT.g U hn (fun _ z => z) hb
      intro r hr
      have := hC r (hT.s r hr)
      exact ⟨this.1.mono up, this.2.mono up⟩
/-! ### the places come to, in order -/
def vis1 (st : Sf) (p : Nat) (f : List Nat) (c : Nat) : List Nat :=
  match st (p, c) with
  | some q => if q ∈ f then f else f ++ [q]
  | none => f
def vis (st : Sf) (p : Nat) (l f : List Nat) : List Nat := l.foldl (vis1 st p) f
def comeF (st : Sf) : Nat → List Nat → Nat → List Nat
  | 0, f, _ => f
  | n + 1, f, i => match f[i]? with
    | some p => comeF st n (vis st p OL f) (i + 1)
    | none => f
theorem comeF_some {st : Sf} {n i p : Nat} {f : List Nat} (h : f[i]? = some p) : comeF st (n + 1) f i = comeF st n (vis st p OL f) (i + 1) := by
  show (match f[i]? with | some p => comeF st n (vis st p OL f) (i + 1) | none => f) = _
  rw [h]
theorem comeF_none {st : Sf} {n i : Nat} {f : List Nat} (h : f[i]? = none) : comeF st n f i = f := by
  cases n with
  | zero => rfl
  | succ n =>
    show (match f[i]? with | some p => comeF st n (vis st p OL f) (i + 1) | none => f) = _
    rw [h]
theorem vis1_mem {st : Sf} {p c x : Nat} {f : List Nat} : x ∈ vis1 st p f c ↔ x ∈ f ∨ st (p, c) = some x := by
  unfold vis1
  cases e : st (p, c) with
  | none => simp
  | some q =>
    dsimp only
    by_cases h : q ∈ f
    · rw [if_pos h]
      exact ⟨.inl, fun z => z.elim id fun z => by cases z; exact h⟩
    · rw [if_neg h, List.mem_append, List.mem_singleton]
      exact or_congr Iff.rfl ⟨fun z => by rw [z], fun z => by cases z; rfl⟩
theorem vis_mem {st : Sf} {p x : Nat} : ∀ {l f : List Nat}, x ∈ vis st p l f ↔ x ∈ f ∨ ∃ c ∈ l, st (p, c) = some x
  | [], f => by simp [vis]
  | c :: l, f => by
    show x ∈ vis st p l (vis1 st p f c) ↔ _
    rw [vis_mem, vis1_mem]
    constructor
    · rintro ((h | h) | ⟨d, hd, h⟩)
      · exact .inl h
      · exact .inr ⟨c, List.mem_cons_self, h⟩
      · exact .inr ⟨d, .tail _ hd, h⟩
    · rintro (h | ⟨d, hd, h⟩)
      · exact .inl (.inl h)
      · rcases List.mem_cons.mp hd with e | hd
        · exact .inl (.inr (e ▸ h))
        · exact .inr ⟨d, hd, h⟩
theorem vis1_pre (st : Sf) (p c : Nat) (f : List Nat) : ∃ z, vis1 st p f c = f ++ z := by
  unfold vis1
  cases st (p, c) with
  | none => exact ⟨[], by simp⟩
  | some q =>
    dsimp only
    by_cases h : q ∈ f
    · exact ⟨[], by simp [h]⟩
    · exact ⟨[q], by simp [h]⟩
theorem vis_pre (st : Sf) (p : Nat) : ∀ (l f : List Nat), ∃ z, vis st p l f = f ++ z
  | [], f => ⟨[], by simp [vis]⟩
  | c :: l, f => by
    obtain ⟨z1, e1⟩ := vis1_pre st p c f
    obtain ⟨z2, e2⟩ := vis_pre st p l (vis1 st p f c)
    exact ⟨z1 ++ z2, by show vis st p l (vis1 st p f c) = _; rw [e2, e1, List.append_assoc]⟩
theorem comeF_pre (st : Sf) : ∀ (n : Nat) (f : List Nat) (i : Nat), ∃ z, comeF st n f i = f ++ z
  | 0, f, i => ⟨[], by simp [comeF]⟩
  | n + 1, f, i => by
    cases h : f[i]? with
    | none => exact ⟨[], by rw [comeF_none h]; simp⟩
    | some p =>
      obtain ⟨z1, e1⟩ := vis_pre st p OL f
      obtain ⟨z2, e2⟩ := comeF_pre st n (vis st p OL f) (i + 1)
      exact ⟨z1 ++ z2, by rw [comeF_some h, e2, e1, List.append_assoc]⟩
theorem comeF_sound {st : Sf} {P : Nat → Prop} (hP : ∀ p c q, P p → st (p, c) = some q → P q) : ∀ {n : Nat} {f : List Nat} {i : Nat}, (∀ x ∈ f, P x) → ∀ x ∈ comeF st n f i, P x
  | 0, f, i, h => h
  | n + 1, f, i, h => by
    cases e : f[i]? with
    | none => rw [comeF_none e]; exact h
    | some p =>
      rw [comeF_some e]
      refine comeF_sound hP fun x hx => ?_
      rcases vis_mem.mp hx with hx | ⟨c, _, hx⟩
      · exact h x hx
      · exact hP p c x (h p (List.mem_of_getElem? e)) hx
theorem vis1_nd {st : Sf} {p c : Nat} {f : List Nat} (h : f.Nodup) : (vis1 st p f c).Nodup := by
  unfold vis1
  cases st (p, c) with
  | none => exact h
  | some q =>
    dsimp only
    by_cases hq : q ∈ f
    · rw [if_pos hq]; exact h
    · rw [if_neg hq, List.nodup_append]
      exact ⟨h, by simp, fun a ha b hb e => hq (by rw [← List.mem_singleton.mp hb, ← e]; exact ha)⟩
theorem vis_nd {st : Sf} {p : Nat} : ∀ {l f : List Nat}, f.Nodup → (vis st p l f).Nodup
  | [], _, h => h
  | c :: l, f, h => vis_nd (l := l) (vis1_nd h)
theorem comeF_nd {st : Sf} : ∀ {n : Nat} {f : List Nat} {i : Nat}, f.Nodup → (comeF st n f i).Nodup
  | 0, f, i, h => h
  | n + 1, f, i, h => by
    cases e : f[i]? with
    | none => rw [comeF_none e]; exact h
    | some p => rw [comeF_some e]; exact comeF_nd (vis_nd h)
theorem comeF_closed {st : Sf} : ∀ {n : Nat} {f : List Nat} {i : Nat}, (comeF st n f i).length ≤ i + n → (∀ (j : Nat) p, j < i → f[j]? = some p → ∀ c ∈ OL, ∀ q, st (p, c) = some q → q ∈ f) →
    ∀ p ∈ comeF st n f i, ∀ c ∈ OL, ∀ q, st (p, c) = some q → q ∈ comeF st n f i
  | n, f, i, hl, hd => by
    have done : f.length ≤ i → ∀ p ∈ f, ∀ c ∈ OL, ∀ q, st (p, c) = some q → q ∈ f := fun hle p hp => by
      obtain ⟨j, hj, e⟩ := List.mem_iff_getElem.mp hp
      exact hd j p (by omega) (by rw [List.getElem?_eq_getElem hj, e])
    match n with
    | 0 =>
      have hl' : f.length ≤ i := by simpa [comeF] using hl
      exact done hl'
    | n + 1 =>
      cases e : f[i]? with
      | none =>
        rw [comeF_none e]
        exact done (by simpa using e)
      | some p =>
        rw [comeF_some e] at hl ⊢
        refine comeF_closed (by omega) fun j x hj hx c hc q hq => ?_
        obtain ⟨z, ez⟩ := vis_pre st p OL f
        have hil := (List.getElem?_eq_some_iff.mp e).1
        have hx' : f[j]? = some x := by rw [ez, List.getElem?_append_left (by omega)] at hx; exact hx
        rw [vis_mem]
        by_cases hji : j = i
        · subst hji
          rw [e] at hx'
          cases hx'
          exact .inr ⟨c, hc, hq⟩
        · exact .inl (hd j x (by omega) hx' c hc q hq)
theorem comeF_more {st : Sf} : ∀ {n : Nat} {f : List Nat} {i : Nat} (k : Nat), (comeF st n f i).length ≤ i + n → comeF st (n + k) f i = comeF st n f i
  | 0, f, i, k, h => by
    have : f[i]? = none := List.getElem?_eq_none (by simpa [comeF] using h)
    rw [comeF_none this, comeF_none this]
  | n + 1, f, i, k, h => by
    have e : n + 1 + k = (n + k) + 1 := by omega
    cases e2 : f[i]? with
    | none => rw [comeF_none e2, comeF_none e2]
    | some p =>
      rw [comeF_some e2] at h
      rw [e, comeF_some e2, comeF_some e2]
      exact comeF_more k (by omega)
theorem comeF_fuel {st : Sf} {n k i : Nat} {f : List Nat} (h1 : (comeF st n f i).length ≤ i + n) (h2 : (comeF st k f i).length ≤ i + k) : comeF st n f i = comeF st k f i := by
  rcases Nat.le_total n k with h | h
  · obtain ⟨d, rfl⟩ := Nat.exists_eq_add_of_le h
    exact (comeF_more d h1).symm
  · obtain ⟨d, rfl⟩ := Nat.exists_eq_add_of_le h
    exact comeF_more d h2
theorem comeF_map {st st' : Sf} {g : Nat → Nat} {D : Nat → Prop} (hi : ∀ x y, D x → D y → g x = g y → x = y) (hc : ∀ p c q, D p → st (p, c) = some q → D q) (hs : ∀ p c, D p → st' (g p, c) = (st (p, c)).map g) :
    ∀ {n : Nat} {f : List Nat} {i : Nat}, (∀ x ∈ f, D x) → comeF st' n (f.map g) i = (comeF st n f i).map g
  | 0, f, i, _ => rfl
  | n + 1, f, i, hf => by
    have v1 : ∀ p c (f : List Nat), D p → (∀ x ∈ f, D x) → vis1 st' (g p) (f.map g) c = (vis1 st p f c).map g := fun p c f hp hf => by
      unfold vis1
      rw [hs p c hp]
      cases e : st (p, c) with
      | none => rfl
      | some q =>
        dsimp only [Option.map]
        have hm : g q ∈ f.map g ↔ q ∈ f := by
          rw [List.mem_map]
          exact ⟨fun ⟨x, hx, e2⟩ => (hi x q (hf x hx) (hc p c q hp e) e2) ▸ hx, fun h => ⟨q, h, rfl⟩⟩
        by_cases h : q ∈ f
        · rw [if_pos h, if_pos (hm.mpr h)]
        · rw [if_neg h, if_neg (fun z => h (hm.mp z)), List.map_append]; rfl
    have d1 : ∀ p c (f : List Nat), D p → (∀ x ∈ f, D x) → ∀ x ∈ vis1 st p f c, D x := fun p c f hp hf x hx => (vis1_mem.mp hx).elim (hf x) fun h => hc p c x hp h
    have v : ∀ p (l f : List Nat), D p → (∀ x ∈ f, D x) → vis st' (g p) l (f.map g) = (vis st p l f).map g := fun p l => by
      induction l with
      | nil => intro f _ _; rfl
      | cons c l ih =>
        intro f hp hf
        show vis st' (g p) l (vis1 st' (g p) (f.map g) c) = _
        rw [v1 p c f hp hf]
        exact ih _ hp (d1 p c f hp hf)
    cases e : f[i]? with
    | none =>
      have e' : (f.map g)[i]? = none := by rw [List.getElem?_map, e]; rfl
      rw [comeF_none e, comeF_none e']
    | some p =>
      have e' : (f.map g)[i]? = some (g p) := by rw [List.getElem?_map, e]; rfl
      have hp := hf p (List.mem_of_getElem? e)
      rw [comeF_some e, comeF_some e', v p OL f hp hf]
      refine comeF_map hi hc hs fun x hx => ?_
      rcases vis_mem.mp hx with hx | ⟨c, _, hx⟩
      · exact hf x hx
      · exact hc p c x hp hx
/-- come to from 0 along steps -/
inductive Rs (st : Sf) : Nat → Prop where
  | z : Rs st 0
  | s {p c q : Nat} : Rs st p → st (p, c) = some q → Rs st q
/-- the places that are come to: order, all of them -/
structure Come (st : Sf) (f : List Nat) : Prop where
  e : ∃ n, f = comeF st n [0] 0 ∧ f.length ≤ n
theorem Come.uniq {st : Sf} {f g : List Nat} (h : Come st f) (k : Come st g) : f = g := by
  obtain ⟨n, e1, h1⟩ := h.e
  obtain ⟨m, e2, h2⟩ := k.e
  rw [e1] at h1
  rw [e2] at h2
  rw [e1, e2]
  exact comeF_fuel (by omega) (by omega)
theorem Come.nd {st : Sf} {f : List Nat} (h : Come st f) : f.Nodup := by
  obtain ⟨n, e1, _⟩ := h.e
  rw [e1]; exact comeF_nd (by simp)
theorem Come.zero {st : Sf} {f : List Nat} (h : Come st f) : ∃ z, f = 0 :: z := by
  obtain ⟨n, e1, _⟩ := h.e
  obtain ⟨z, e⟩ := comeF_pre st n [0] 0
  exact ⟨z, by rw [e1, e]; rfl⟩
theorem Come.mem {st : Sf} {f : List Nat} (h : Come st f) (ho : ∀ p c q, st (p, c) = some q → c ∈ OL) (x : Nat) : x ∈ f ↔ Rs st x := by
  obtain ⟨z, hz⟩ := h.zero
  obtain ⟨n, e1, hl⟩ := h.e
  constructor
  · intro hx
    rw [e1] at hx
    exact comeF_sound (P := Rs st) (fun p c q hp e => .s hp e) (fun x hx => by rw [List.mem_singleton.mp hx]; exact .z) x hx
  · intro hx
    induction hx with
    | z => rw [hz]; exact List.mem_cons_self
    | s _ e ih =>
      rw [e1] at ih ⊢
      exact comeF_closed (by rw [← e1]; omega) (fun j p hj => absurd hj (by omega)) _ ih _ (ho _ _ _ e) _ e
theorem Come.mk' {st : Sf} {n m : Nat} (hB : ∀ a p, st a = some p → p < m) (hm : 1 ≤ m) (hn : m ≤ n) : Come st (comeF st n [0] 0) :=
  ⟨n, rfl, Nat.le_trans (by
    have := sub_len (l := comeF st n [0] 0) (m := List.range m) (comeF_nd (by simp)) fun x hx => List.mem_range.mpr (comeF_sound (P := (· < m)) (fun p c q _ e => hB _ _ e) (fun x hx => by rw [List.mem_singleton.mp hx]; omega) x hx)
    rwa [List.length_range] at this) hn⟩
/-- no more places than roads, and one -/
theorem come_few {st : Sf} {U : List Road} (h : Is st U) : ∀ {n : Nat} {f : List Nat} {i : Nat}, (∃ rs : List Road, rs.Nodup ∧ (∀ r ∈ rs, r ∈ U ∧ r.1 ∈ f ∧ r.2.2 ∈ f) ∧ f.length ≤ rs.length + 1) → (comeF st n f i).length ≤ U.length + 1
  | 0, f, i, ⟨rs, h1, h2, h3⟩ => by
    have := sub_len h1 fun r hr => (h2 r hr).1
    show f.length ≤ _
    omega
  | n + 1, f, i, hI => by
    cases e : f[i]? with
    | none =>
      obtain ⟨rs, h1, h2, h3⟩ := hI
      have := sub_len h1 fun r hr => (h2 r hr).1
      rw [comeF_none e]; omega
    | some p =>
      rw [comeF_some e]
      refine come_few h ?_
      have hp := List.mem_of_getElem? e
      have key : ∀ (l f : List Nat), p ∈ f → (∃ rs : List Road, rs.Nodup ∧ (∀ r ∈ rs, r ∈ U ∧ r.1 ∈ f ∧ r.2.2 ∈ f) ∧ f.length ≤ rs.length + 1) → ∃ rs : List Road, rs.Nodup ∧ (∀ r ∈ rs, r ∈ U ∧ r.1 ∈ vis st p l f ∧ r.2.2 ∈ vis st p l f) ∧ (vis st p l f).length ≤ rs.length + 1 := fun l => by
        induction l with
        | nil => intro f _ k; exact k
        | cons c l ih =>
          intro f hp ⟨rs, h1, h2, h3⟩
          refine ih (vis1 st p f c) (vis1_mem.mpr (.inl hp)) ?_
          unfold vis1
          cases e2 : st (p, c) with
          | none => exact ⟨rs, h1, h2, h3⟩
          | some q =>
            dsimp only
            by_cases hq : q ∈ f
            · rw [if_pos hq]; exact ⟨rs, h1, h2, h3⟩
            · rw [if_neg hq]
              obtain ⟨r, hr, hrr⟩ := mem_arcs.mp ((h _ _).mp e2)
              have up : ∀ x ∈ f, x ∈ f ++ [q] := fun x hx => List.mem_append_left _ hx
              have hq2 : q ∈ f ++ [q] := by simp
              refine ⟨r :: rs, List.nodup_cons.mpr ⟨fun hm => ?_, h1⟩, fun y hy => ?_, by simp; omega⟩
              · have := h2 r hm
                rcases hrr with ⟨_, e3⟩ | ⟨_, e3⟩
                · exact hq (e3 ▸ this.2.2)
                · exact hq (e3 ▸ this.2.1)
              · rcases List.mem_cons.mp hy with ey | hy
                · subst ey
                  refine ⟨hr, ?_⟩
                  rcases hrr with ⟨e4, e3⟩ | ⟨e4, e3⟩
                  · exact ⟨up _ ((Prod.mk.inj e4).1 ▸ hp), e3 ▸ hq2⟩
                  · exact ⟨e3 ▸ hq2, up _ ((Prod.mk.inj e4).1 ▸ hp)⟩
                · exact ⟨(h2 y hy).1, up _ (h2 y hy).2.1, up _ (h2 y hy).2.2⟩
      exact key OL f hp hI
theorem Come.mkR {st : Sf} {U : List Road} {n : Nat} (h : Is st U) (hn : U.length + 1 ≤ n) : Come st (comeF st n [0] 0) :=
  ⟨n, rfl, Nat.le_trans (come_few h ⟨[], List.nodup_nil, fun _ z => (nomatch z), Nat.le_refl _⟩) hn⟩
theorem rs_rch {st : Sf} {U : List Road} (h : Is st U) (x : Nat) : Rs st x ↔ Rch U x := by
  constructor
  · intro k
    induction k with
    | z => exact .z
    | s _ e ih =>
      obtain ⟨r, hr, h2⟩ := mem_arcs.mp ((h _ _).mp e)
      rcases h2 with ⟨h2, rfl⟩ | ⟨h2, rfl⟩
      · exact .f hr ((Prod.mk.inj h2).1 ▸ ih)
      · exact .b hr ((Prod.mk.inj h2).1 ▸ ih)
  · intro k
    induction k with
    | z => exact .z
    | f hr _ ih => exact .s ih (h.fwd hr)
    | b hr _ ih => exact .s ih (h.bwd hr)
/-- the roads that are led to -/
def Led (st : Sf) (U S : List Road) : Prop := ∀ r, r ∈ S ↔ r ∈ U ∧ Rs st r.1
theorem led_conn {st : Sf} {U S : List Road} (h : Is st U) (hS : Led st U S) : Conn S := by
  have key : ∀ x, Rs st x → Rch S x := fun x k => by
    induction k with
    | z => exact .z
    | s hp e ih =>
      obtain ⟨r, hr, h2⟩ := mem_arcs.mp ((h _ _).mp e)
      rcases h2 with ⟨h2, rfl⟩ | ⟨h2, rfl⟩
      · have e1 := (Prod.mk.inj h2).1
        subst e1
        exact .f ((hS r).mpr ⟨hr, hp⟩) ih
      · have e1 := (Prod.mk.inj h2).1
        subst e1
        exact .b ((hS r).mpr ⟨hr, .s hp (h.bwd hr)⟩) ih
  intro r hr
  obtain ⟨h1, h2⟩ := (hS r).mp hr
  exact ⟨key _ h2, key _ (.s h2 (h.fwd h1))⟩
/-! ### walking -/
def wlk (st : Sf) (l : List Nat) (o : Option Nat) : Option Nat := l.foldl (fun o c => o.bind fun p => st (p, c)) o
theorem wlk_cons (st : Sf) (c : Nat) (l : List Nat) (o : Option Nat) : wlk st (c :: l) o = wlk st l (o.bind fun p => st (p, c)) := rfl
theorem wlk_none (st : Sf) : ∀ l : List Nat, wlk st l none = none
  | [] => rfl
  | _ :: l => wlk_none st l
theorem wlk_app (st : Sf) (l m : List Nat) (o : Option Nat) : wlk st (l ++ m) o = wlk st m (wlk st l o) := by unfold wlk; rw [List.foldl_append]
theorem wlk_sub {st st' : Sf} (h : ∀ a p, st' a = some p → st a = some p) : ∀ {l : List Nat} {p q : Nat}, wlk st' l (some p) = some q → wlk st l (some p) = some q
  | [], _, _, e => e
  | c :: l, p, q, e => by
    have e' : wlk st' l (st' (p, c)) = some q := e
    show wlk st l (st (p, c)) = some q
    cases e2 : st' (p, c) with
    | none => rw [e2, wlk_none] at e'; cases e'
    | some y =>
      rw [e2] at e'
      rw [h _ _ e2]
      exact wlk_sub h e'
theorem wlk_map {st st' : Sf} {g : Nat → Nat} {D : Nat → Prop} (hc : ∀ p c q, D p → st (p, c) = some q → D q) (hs : ∀ p c, D p → st' (g p, c) = (st (p, c)).map g) : ∀ {l : List Nat} {p : Nat}, D p → wlk st' l (some (g p)) = (wlk st l (some p)).map g
  | [], _, _ => rfl
  | c :: l, p, hp => by
    show wlk st' l (st' (g p, c)) = (wlk st l (st (p, c))).map g
    rw [hs p c hp]
    cases e : st (p, c) with
    | none => rw [wlk_none]; exact wlk_none _ _
    | some q => exact wlk_map hc hs (hc p c q hp e)
theorem wlk_in {st : Sf} {D : Nat → Prop} (hc : ∀ p c q, D p → st (p, c) = some q → D q) : ∀ {l : List Nat} {p q : Nat}, D p → wlk st l (some p) = some q → D q
  | [], p, q, hp, e => by cases e; exact hp
  | c :: l, p, q, hp, e => by
    have e' : wlk st l (st (p, c)) = some q := e
    cases e2 : st (p, c) with
    | none => rw [e2, wlk_none] at e'; cases e'
    | some y => rw [e2] at e'; exact wlk_in hc (hc p c y hp e2) e'
theorem wlk_at {st : Sf} {l : List Nat} {p z : Nat} (h : wlk st l (some p) = some z) (i : Nat) : ∃ q, wlk st (l.take i) (some p) = some q := by
  have e : wlk st (l.drop i) (wlk st (l.take i) (some p)) = some z := by rw [← wlk_app, List.take_append_drop]; exact h
  cases k : wlk st (l.take i) (some p) with
  | none => rw [k, wlk_none] at e; cases e
  | some q => exact ⟨q, rfl⟩
theorem two_fst {T : List Road} {r r' : Road} {p : Nat} (hr : r ∈ T) (hr' : r' ∈ T) (hn : r ≠ r') (h : r.1 = p) (h' : r'.1 = p) : 1 < (ends T).count p := by
  rw [cnt_ends]
  have := sub_len (l := [r, r']) (m := T.filter fun r => r.1 == p) (by simp [hn]) fun x hx => by
    rcases List.mem_cons.mp hx with e | hx
    · rw [e]; exact mem_fst hr h
    · rw [List.mem_singleton.mp hx]; exact mem_fst hr' h'
  simp only [List.length_cons, List.length_nil] at this
  omega
theorem two_lst {T : List Road} {r r' : Road} {p : Nat} (hr : r ∈ T) (hr' : r' ∈ T) (hn : r ≠ r') (h : r.2.2 = p) (h' : r'.2.2 = p) : 1 < (ends T).count p := by
  rw [cnt_ends]
  have := sub_len (l := [r, r']) (m := T.filter fun r => r.2.2 == p) (by simp [hn]) fun x hx => by
    rcases List.mem_cons.mp hx with e | hx
    · rw [e]; exact mem_lst hr h
    · rw [List.mem_singleton.mp hx]; exact mem_lst hr' h'
  simp only [List.length_cons, List.length_nil] at this
  omega
theorem two_mix {T : List Road} {r r' : Road} {p : Nat} (hr : r ∈ T) (hr' : r' ∈ T) (h : r.1 = p) (h' : r'.2.2 = p) : 1 < (ends T).count p := by
  rw [cnt_ends]
  have h1 := List.length_pos_of_mem (mem_fst hr h)
  have h2 := List.length_pos_of_mem (mem_lst hr' h')
  omega
/-- a word without backs side by side that comes round goes along roads that stay -/
theorem stays {st stT : Sf} {U S T : List Road} (hU : U.Nodup) (h : Is st U) (hS : Led st U S) (hT : Trim S T) (hI : Is stT T) {l : List Nat} (hw : ∀ (n : Nat) x y, l[n]? = some x → l[n + 1]? = some y → y ≠ bk x) (e : wlk st l (some 0) = some 0) : wlk stT l (some 0) = some 0 := by
  have hP : ∃ P : Nat → Nat, ∀ i, wlk st (l.take i) (some 0) = some (P i) := ⟨fun i => (wlk_at e i).choose, fun i => (wlk_at e i).choose_spec⟩
  obtain ⟨P, hP⟩ := hP
  have P0 : P 0 = 0 := by have := hP 0; rw [List.take_zero] at this; exact (Option.some.inj this).symm
  have Pn : ∀ i, l.length ≤ i → P i = 0 := fun i hi => by have := hP i; rw [List.take_of_length_le hi, e] at this; exact (Option.some.inj this).symm
  have hstep : ∀ i c, l[i]? = some c → st (P i, c) = some (P (i + 1)) := fun i c hc => by
    have := hP (i + 1)
    rw [List.take_add_one, hc, wlk_app, hP i] at this
    exact this
  have hreach : ∀ i, Rs st (P i) := fun i => wlk_in (D := Rs st) (fun p c q hp e => .s hp e) .z (hP i)
  classical
  let T' : List Road := U.filter fun r => decide (∃ i c, l[i]? = some c ∧ ((((P i, c) : Nat × Nat) = (r.1, r.2.1) ∧ P (i + 1) = r.2.2) ∨ (((P i, c) : Nat × Nat) = (r.2.2, bk r.2.1) ∧ P (i + 1) = r.1)))
  have road : ∀ i c, l[i]? = some c → ∃ r ∈ T', (((P i, c) : Nat × Nat) = (r.1, r.2.1) ∧ P (i + 1) = r.2.2) ∨ (((P i, c) : Nat × Nat) = (r.2.2, bk r.2.1) ∧ P (i + 1) = r.1) := fun i c hc => by
    obtain ⟨r, hr, h2⟩ := mem_arcs.mp ((h _ _).mp (hstep i c hc))
    exact ⟨r, List.mem_filter.mpr ⟨hr, decide_eq_true ⟨i, c, hc, h2⟩⟩, h2⟩
  have hheld : ∀ j, Held T' (P j) := fun j => by
    by_cases hz : P j = 0
    · exact .inl hz
    · right
      match j with
      | 0 => exact absurd P0 hz
      | j + 1 =>
        have hj1 : j + 1 < l.length := Nat.lt_of_not_le fun k => hz (Pn _ k)
        have c1 : l[j]? = some l[j] := List.getElem?_eq_getElem (by omega)
        have c2 : l[j + 1]? = some l[j + 1] := List.getElem?_eq_getElem hj1
        have hne := hw j _ _ c1 c2
        obtain ⟨r1, m1, d1⟩ := road j _ c1
        obtain ⟨r2, m2, d2⟩ := road (j + 1) _ c2
        rcases d1 with ⟨d1, e1⟩ | ⟨d1, e1⟩ <;> rcases d2 with ⟨d2, e2⟩ | ⟨d2, e2⟩
        · exact two_mix m2 m1 (Prod.mk.inj d2).1.symm e1.symm
        · refine two_lst m1 m2 (fun er => hne ?_) e1.symm (Prod.mk.inj d2).1.symm
          rw [(Prod.mk.inj d2).2, (Prod.mk.inj d1).2, er]
        · refine two_fst m1 m2 (fun er => hne ?_) e1.symm (Prod.mk.inj d2).1.symm
          rw [(Prod.mk.inj d2).2, (Prod.mk.inj d1).2, bk_bk, er]
        · exact two_mix m1 m2 e1.symm (Prod.mk.inj d2).1.symm
  have hT'n : T'.Nodup := nd_filter _ hU
  have inT : ∀ r ∈ T', ∃ i c, l[i]? = some c ∧ ((((P i, c) : Nat × Nat) = (r.1, r.2.1) ∧ P (i + 1) = r.2.2) ∨ (((P i, c) : Nat × Nat) = (r.2.2, bk r.2.1) ∧ P (i + 1) = r.1)) := fun r hr => of_decide_eq_true (List.mem_filter.mp hr).2
  have hT'b : Stb T' := fun r hr => by
    obtain ⟨i, c, _, h2⟩ := inT r hr
    rcases h2 with ⟨h2, h3⟩ | ⟨h2, h3⟩
    · exact ⟨(Prod.mk.inj h2).1 ▸ hheld i, h3 ▸ hheld (i + 1)⟩
    · exact ⟨h3 ▸ hheld (i + 1), (Prod.mk.inj h2).1 ▸ hheld i⟩
  have hT's : ∀ r ∈ T', r ∈ S := fun r hr => by
    obtain ⟨i, c, _, h2⟩ := inT r hr
    refine (hS r).mpr ⟨(List.mem_filter.mp hr).1, ?_⟩
    rcases h2 with ⟨h2, h3⟩ | ⟨h2, h3⟩
    · exact (Prod.mk.inj h2).1 ▸ hreach i
    · exact h3 ▸ hreach (i + 1)
  have up := hT.g T' hT'n hT's hT'b
  have walk : ∀ i, wlk stT (l.take i) (some 0) = some (P i) := fun i => by
    induction i with
    | zero => rw [List.take_zero, P0]; rfl
    | succ i ih =>
      rw [List.take_add_one]
      cases hc : l[i]? with
      | none =>
        have hi : l.length ≤ i := by simpa using hc
        have h1 := Pn i hi
        rw [Pn (i + 1) (by omega), ← h1]
        rw [show l.take i ++ (none : Option Nat).toList = l.take i by simp]
        rw [h1] at ih ⊢
        exact ih
      | some c =>
        rw [wlk_app, ih]
        obtain ⟨r, hr, h2⟩ := road i c hc
        exact (hI _ _).mpr (mem_arcs.mpr ⟨r, up r hr, h2⟩)
  have := walk l.length
  rw [List.take_length, Pn _ (Nat.le_refl _)] at this
  exact this
/-! ### numbered anew -/
def num (ord : List Nat) (r : Road) : Road := (ord.idxOf r.1, r.2.1, ord.idxOf r.2.2)
theorem idx_inj {l : List Nat} {x y : Nat} (hx : x ∈ l) (hy : y ∈ l) (e : l.idxOf x = l.idxOf y) : x = y := by
  have h1 := List.getElem_idxOf (List.idxOf_lt_length_of_mem hx)
  have h2 := List.getElem_idxOf (List.idxOf_lt_length_of_mem hy)
  rw [← h1, ← h2]
  congr 1
theorem idx_nd {l : List Nat} (h : l.Nodup) {i : Nat} (hi : i < l.length) : l.idxOf l[i] = i := List.Nodup.idxOf_getElem h i hi
theorem map_idx {l : List Nat} (h : l.Nodup) : l.map l.idxOf = List.range l.length := by
  apply List.ext_getElem
  · simp
  · intro i h1 h2
    rw [List.getElem_map, List.getElem_range]
    exact idx_nd h (by simpa using h1)
/-- all of a plain web: what is led to, trimmed, numbered as it is come to -/
structure Pl (U : List Road) (k : Nat) (N : List Road) (st stT : Sf) (S T : List Road) (ord : List Nat) : Prop where
  un : U.Nodup
  lt : Lt U
  i : Is st U
  l : Led st U S
  sn : S.Nodup
  t : Trim S T
  it : Is stT T
  o : Come stT ord
  k : k = ord.length
  n : ∀ r, r ∈ N ↔ ∃ r' ∈ T, r = num ord r'
section
variable {U N S T : List Road} {k : Nat} {st stT : Sf} {ord : List Nat}
theorem Pl.tu (h : Pl U k N st stT S T ord) : ∀ r ∈ T, r ∈ U := fun r hr => ((h.l r).mp (h.t.s r hr)).1
theorem Pl.tlt (h : Pl U k N st stT S T ord) : Lt T := fun r hr => h.lt r (h.tu r hr)
theorem Pl.conn (h : Pl U k N st stT S T ord) : Conn T := trim_conn _ (Nat.le_refl _) h.sn (led_conn h.i h.l) h.t
theorem Pl.mem (h : Pl U k N st stT S T ord) (x : Nat) : x ∈ ord ↔ Rs stT x := h.o.mem (fun p c q e => h.it.ol h.tlt e) x
theorem Pl.fst (h : Pl U k N st stT S T ord) {r : Road} (hr : r ∈ T) : r.1 ∈ ord := (h.mem _).mpr ((rs_rch h.it _).mpr (h.conn r hr).1)
theorem Pl.lst (h : Pl U k N st stT S T ord) {r : Road} (hr : r ∈ T) : r.2.2 ∈ ord := (h.mem _).mpr ((rs_rch h.it _).mpr (h.conn r hr).2)
theorem Pl.zero (h : Pl U k N st stT S T ord) : 0 ∈ ord ∧ ord.idxOf 0 = 0 := by
  obtain ⟨z, e⟩ := h.o.zero
  rw [e]; simp
theorem Pl.step (h : Pl U k N st stT S T ord) {p c q : Nat} (hp : p ∈ ord) (e : stT (p, c) = some q) : q ∈ ord := (h.mem q).mpr (.s ((h.mem p).mp hp) e)
/-- the numbered roads can be walked in one way -/
theorem Pl.arc (h : Pl U k N st stT S T ord) {a : Nat × Nat} {y : Nat} : (a, y) ∈ N.flatMap arcs ↔ ∃ p q, p ∈ ord ∧ stT (p, a.2) = some q ∧ a.1 = ord.idxOf p ∧ y = ord.idxOf q := by
  rw [mem_arcs]
  constructor
  · rintro ⟨r, hr, d⟩
    obtain ⟨r', hr', rfl⟩ := (h.n r).mp hr
    rcases d with ⟨rfl, rfl⟩ | ⟨rfl, rfl⟩
    · exact ⟨r'.1, r'.2.2, h.fst hr', h.it.fwd hr', rfl, rfl⟩
    · exact ⟨r'.2.2, r'.1, h.lst hr', h.it.bwd hr', rfl, rfl⟩
  · rintro ⟨p, q, hp, e, h1, h2⟩
    obtain ⟨r, hr, d⟩ := mem_arcs.mp ((h.it _ _).mp e)
    refine ⟨num ord r, (h.n _).mpr ⟨r, hr, rfl⟩, ?_⟩
    rcases d with ⟨d, rfl⟩ | ⟨d, rfl⟩
    · exact .inl ⟨Prod.ext (by rw [h1, (Prod.mk.inj d).1]; rfl) (Prod.mk.inj d).2, h2⟩
    · exact .inr ⟨Prod.ext (by rw [h1, (Prod.mk.inj d).1]; rfl) (Prod.mk.inj d).2, h2⟩
theorem Pl.cons (h : Pl U k N st stT S T ord) : ∀ a p q, (a, p) ∈ N.flatMap arcs → (a, q) ∈ N.flatMap arcs → p = q := fun a p q h1 h2 => by
  obtain ⟨x, y, hx, e, e1, e2⟩ := h.arc.mp h1
  obtain ⟨x', y', hx', e', e1', e2'⟩ := h.arc.mp h2
  have := idx_inj hx hx' (e1.symm.trans e1')
  subst this
  rw [e] at e'
  cases e'
  rw [e2, e2']
theorem Pl.good (h : Pl U k N st stT S T ord) {r : Road} (hr : r ∈ N) : r.1 < k ∧ r.2.1 ∈ LT ∧ r.2.2 < k := by
  obtain ⟨r', hr', rfl⟩ := (h.n r).mp hr
  rw [h.k]
  exact ⟨List.idxOf_lt_length_of_mem (h.fst hr'), h.tlt r' hr', List.idxOf_lt_length_of_mem (h.lst hr')⟩
theorem Pl.num_inj (h : Pl U k N st stT S T ord) {r r' : Road} (hr : r ∈ T) (hr' : r' ∈ T) (e : num ord r = num ord r') : r = r' := by
  unfold num at e
  have ⟨e1, e2⟩ := Prod.mk.inj e
  have ⟨e3, e4⟩ := Prod.mk.inj e2
  exact Prod.ext (idx_inj (h.fst hr) (h.fst hr') e1) (Prod.ext e3 (idx_inj (h.lst hr) (h.lst hr') e4))
theorem Pl.nd (h : Pl U k N st stT S T ord) : (T.map (num ord)).Nodup := by
  rw [List.nodup_iff_pairwise_ne, List.pairwise_map]
  have := List.nodup_iff_pairwise_ne.mp h.t.n
  exact List.Pairwise.imp_of_mem (fun {a b} ha hb hne e => hne (h.num_inj ha hb e)) this
theorem Pl.stN (h : Pl U k N st stT S T ord) {sN : Sf} (hN : Is sN N) {p c : Nat} (hp : p ∈ ord) : sN (ord.idxOf p, c) = (stT (p, c)).map ord.idxOf := by
  apply Option.ext
  intro y
  rw [hN, h.arc]
  constructor
  · rintro ⟨x, q, hx, e, e1, e2⟩
    have := idx_inj hp hx e1
    subst this
    rw [e, e2]; rfl
  · intro e
    cases e2 : stT (p, c) with
    | none => rw [e2] at e; cases e
    | some q =>
      rw [e2] at e
      exact ⟨p, q, hp, e2, rfl, (Option.some.inj e).symm⟩
/-- the same words belong -/
theorem Pl.belongs (h : Pl U k N st stT S T ord) {sN : Sf} (hN : Is sN N) {l : List Nat} (hw : ∀ (n : Nat) x y, l[n]? = some x → l[n + 1]? = some y → y ≠ bk x) : wlk sN l (some 0) = some 0 ↔ wlk st l (some 0) = some 0 := by
  have hz := h.zero
  have e : wlk sN l (some 0) = (wlk stT l (some 0)).map ord.idxOf := by
    have := wlk_map (st := stT) (st' := sN) (g := ord.idxOf) (D := (· ∈ ord)) (fun p c q hp e => h.step hp e) (fun p c hp => h.stN hN hp) (l := l) hz.1
    rw [hz.2] at this
    exact this
  have e2 : wlk sN l (some 0) = some 0 ↔ wlk stT l (some 0) = some 0 := by
    rw [e]
    cases k : wlk stT l (some 0) with
    | none => simp
    | some q =>
      have hq : q ∈ ord := wlk_in (D := (· ∈ ord)) (fun p c q hp e => h.step hp e) hz.1 k
      show some (ord.idxOf q) = some 0 ↔ some q = some 0
      constructor
      · intro e3
        rw [idx_inj hq hz.1 (by rw [hz.2]; exact Option.some.inj e3)]
      · intro e3
        rw [Option.some.inj e3, hz.2]
  rw [e2]
  exact ⟨wlk_sub fun a p e => h.i.sub h.it h.tu e, stays h.un h.i h.l h.t h.it hw⟩
/-- the plain web is one -/
theorem Pl.uniq (h : Pl U k N st stT S T ord) {U' N' S' T' : List Road} {k' : Nat} {st' stT' : Sf} {ord' : List Nat} (h' : Pl U' k' N' st' stT' S' T' ord') (e : ∀ r, r ∈ U ↔ r ∈ U') : k = k' ∧ ord = ord' ∧ (∀ r, r ∈ T ↔ r ∈ T') ∧ ∀ r, r ∈ N ↔ r ∈ N' := by
  have es := h.i.uniq h'.i e
  subst es
  have eS : ∀ r, r ∈ S ↔ r ∈ S' := fun r => by rw [h.l, h'.l, e]
  have eT := h.t.same h'.t eS
  have et := h.it.uniq h'.it eT
  subst et
  have eo := h.o.uniq h'.o
  subst eo
  refine ⟨h.k.trans h'.k.symm, rfl, eT, fun r => ?_⟩
  rw [h.n, h'.n]
  exact ⟨fun ⟨x, h1, h2⟩ => ⟨x, (eT x).mp h1, h2⟩, fun ⟨x, h1, h2⟩ => ⟨x, (eT x).mpr h1, h2⟩⟩
theorem count_map {l : List Nat} {g : Nat → Nat} {p : Nat} (hi : ∀ x ∈ l, g x = g p → x = p) : (l.map g).count (g p) = l.count p := by
  induction l with
  | nil => rfl
  | cons a l ih =>
    rw [List.map_cons, List.count_cons, List.count_cons, ih fun x hx => hi x (.tail _ hx)]
    congr 1
    by_cases e : a = p
    · subst e; simp
    · have : g a ≠ g p := fun z => e (hi a List.mem_cons_self z)
      simp [e, this]
theorem ends_num (T : List Road) (ord : List Nat) : ends (T.map (num ord)) = (ends T).map ord.idxOf := by
  unfold ends
  rw [List.map_append, List.map_map, List.map_map, List.map_map, List.map_map]; rfl
/-- the plain web of a plain web is itself -/
theorem Pl.again (h : Pl U k N st stT S T ord) (hn : N.Nodup) {sN : Sf} (hN : Is sN N) : Pl N k N sN sN N N (List.range ord.length) := by
  have hz := h.zero
  have hR : ∀ x, Rs stT x → Rs sN (ord.idxOf x) := fun x k => by
    induction k with
    | z => rw [hz.2]; exact .z
    | @s p c q hp e ih =>
      have e2 : sN (ord.idxOf p, c) = some (ord.idxOf q) := by rw [h.stN hN ((h.mem _).mpr hp), e]; rfl
      exact .s ih e2
  have hmemN : ∀ r, r ∈ N ↔ r ∈ T.map (num ord) := fun r => by
    rw [h.n, List.mem_map]
    exact ⟨fun ⟨x, h1, h2⟩ => ⟨x, h1, h2.symm⟩, fun ⟨x, h1, h2⟩ => ⟨x, h1, h2.symm⟩⟩
  have hcnt : ∀ p, p ∈ ord → (ends N).count (ord.idxOf p) = (ends T).count p := fun p hp => by
    rw [cnt_same hn h.nd hmemN, ends_num]
    refine count_map fun x hx e => idx_inj ?_ hp e
    unfold ends at hx
    rcases List.mem_append.mp hx with hx | hx
    · obtain ⟨r, hr, rfl⟩ := List.mem_map.mp hx; exact h.fst hr
    · obtain ⟨r, hr, rfl⟩ := List.mem_map.mp hx; exact h.lst hr
  have hheld : ∀ p, p ∈ ord → Held T p → Held N (ord.idxOf p) := fun p hp hh => by
    rcases hh with hh | hh
    · left; rw [hh]; exact hz.2
    · right; rw [hcnt p hp]; exact hh
  have hmap : ∀ n, comeF sN n [0] 0 = (comeF stT n [0] 0).map ord.idxOf := fun n => by
    have := comeF_map (st := stT) (st' := sN) (g := ord.idxOf) (D := (· ∈ ord)) (fun x y hx hy e => idx_inj hx hy e) (fun p c q hp e => h.step hp e) (fun p c hp => h.stN hN hp) (n := n) (f := [0]) (i := 0) (fun x hx => by rw [List.mem_singleton.mp hx]; exact hz.1)
    rw [List.map_cons, List.map_nil, hz.2] at this
    exact this
  have hgood : Lt N := fun r hr => (h.good hr).2.1
  refine ⟨hn, hgood, hN, fun r => ⟨fun hr => ⟨hr, ?_⟩, fun hr => hr.1⟩, hn, ⟨hn, fun _ z => z, fun r hr => ?_, fun T' _ h2 _ => h2⟩, hN, ?_, by rw [List.length_range]; exact h.k, fun r => ?_⟩
  · obtain ⟨x, hx, rfl⟩ := (h.n r).mp hr
    exact hR _ ((h.mem _).mp (h.fst hx))
  · obtain ⟨x, hx, rfl⟩ := (h.n r).mp hr
    exact ⟨hheld _ (h.fst hx) (h.t.b x hx).1, hheld _ (h.lst hx) (h.t.b x hx).2⟩
  · obtain ⟨n, e, hl⟩ := h.o.e
    refine ⟨n, ?_, by rw [List.length_range]; exact hl⟩
    rw [hmap n, ← e, map_idx h.o.nd]
  · have hid : ∀ r ∈ N, num (List.range ord.length) r = r := fun r hr => by
      have hg := h.good hr
      rw [h.k] at hg
      have ix : ∀ x, x < ord.length → (List.range ord.length).idxOf x = x := fun x hx => by
        have := idx_nd (List.nodup_range (n := ord.length)) (i := x) (by rw [List.length_range]; exact hx)
        rwa [List.getElem_range] at this
      unfold num
      rw [ix _ hg.1, ix _ hg.2.2]
    exact ⟨fun hr => ⟨r, hr, (hid r hr).symm⟩, fun ⟨x, hx, e⟩ => by rw [e, hid x hx]; exact hx⟩
end
end Pw

/-! The tree of a web, ways, fewest words, plain; no program in sight. -/
namespace Pf
open Fg Pw
/-- a place, the letter by which it is come to first (none: []), from where, the way -/
structure Ent where
  q : Nat
  c : List Nat
  p : Nat
  w : List Nat
def root : Ent := ⟨0, [], 0, []⟩
def v1 (st : Sf) (e : Ent) (E : List Ent) (c : Nat) : List Ent :=
  match st (e.q, c) with
  | some q => if q ∈ E.map Ent.q then E else E ++ [⟨q, [c], e.q, e.w ++ [c]⟩]
  | none => E
def vE (st : Sf) (e : Ent) (l : List Nat) (E : List Ent) : List Ent := l.foldl (v1 st e) E
def treeF (st : Sf) : Nat → List Ent → Nat → List Ent
  | 0, E, _ => E
  | n + 1, E, i => match E[i]? with
    | some e => treeF st n (vE st e OL E) (i + 1)
    | none => E
theorem treeF_some {st : Sf} {n i : Nat} {e : Ent} {E : List Ent} (h : E[i]? = some e) : treeF st (n + 1) E i = treeF st n (vE st e OL E) (i + 1) := by
  show (match E[i]? with | some e => treeF st n (vE st e OL E) (i + 1) | none => E) = _
  rw [h]
theorem treeF_none {st : Sf} {n i : Nat} {E : List Ent} (h : E[i]? = none) : treeF st n E i = E := by
  cases n with
  | zero => rfl
  | succ n =>
    show (match E[i]? with | some e => treeF st n (vE st e OL E) (i + 1) | none => E) = _
    rw [h]
theorem v1_map (st : Sf) (e : Ent) (E : List Ent) (c : Nat) : (v1 st e E c).map Ent.q = vis1 st e.q (E.map Ent.q) c := by
  unfold v1 vis1
  cases st (e.q, c) with
  | none => rfl
  | some q =>
    dsimp only
    by_cases h : q ∈ E.map Ent.q
    · rw [if_pos h, if_pos h]
    · rw [if_neg h, if_neg h, List.map_append]; rfl
theorem vE_map (st : Sf) (e : Ent) : ∀ (l : List Nat) (E : List Ent), (vE st e l E).map Ent.q = vis st e.q l (E.map Ent.q)
  | [], _ => rfl
  | c :: l, E => by
    show (vE st e l (v1 st e E c)).map Ent.q = vis st e.q l (vis1 st e.q (E.map Ent.q) c)
    rw [vE_map st e l, v1_map]
theorem treeF_map (st : Sf) : ∀ (n : Nat) (E : List Ent) (i : Nat), (treeF st n E i).map Ent.q = comeF st n (E.map Ent.q) i
  | 0, _, _ => rfl
  | n + 1, E, i => by
    cases h : E[i]? with
    | none =>
      have h2 : (E.map Ent.q)[i]? = none := by rw [List.getElem?_map, h]; rfl
      rw [treeF_none h, comeF_none h2]
    | some e =>
      have h2 : (E.map Ent.q)[i]? = some e.q := by rw [List.getElem?_map, h]; rfl
      rw [treeF_some h, comeF_some h2, treeF_map st n, vE_map]
theorem v1_pre (st : Sf) (e : Ent) (E : List Ent) (c : Nat) : ∃ z, v1 st e E c = E ++ z := by
  unfold v1
  cases st (e.q, c) with
  | none => exact ⟨[], by simp⟩
  | some q =>
    dsimp only
    by_cases h : q ∈ E.map Ent.q
    · exact ⟨[], by rw [if_pos h]; simp⟩
    · exact ⟨_, by rw [if_neg h]⟩
theorem vE_pre (st : Sf) (e : Ent) : ∀ (l : List Nat) (E : List Ent), ∃ z, vE st e l E = E ++ z
  | [], E => ⟨[], by simp [vE]⟩
  | c :: l, E => by
    obtain ⟨z1, e1⟩ := v1_pre st e E c
    obtain ⟨z2, e2⟩ := vE_pre st e l (v1 st e E c)
    exact ⟨z1 ++ z2, by show vE st e l (v1 st e E c) = _; rw [e2, e1, List.append_assoc]⟩
theorem vE_take {st : Sf} {e : Ent} {l : List Nat} {E : List Ent} {j c : Nat} (h : l[j]? = some c) : vE st e (l.take (j + 1)) E = v1 st e (vE st e (l.take j) E) c := by
  unfold vE
  rw [List.take_add_one, h, List.foldl_append]; rfl
/-- a tree as far as it is made -/
structure Ok (st : Sf) (E : List Ent) : Prop where
  nd : (E.map Ent.q).Nodup
  z : ∃ E', E = root :: E'
  s : ∀ (j : Nat) e, E[j]? = some e → 0 < j → ∃ (i : Nat) (d : Ent) (c : Nat), i < j ∧ E[i]? = some d ∧ d.q = e.p ∧ e.c = [c] ∧ c ∈ OL ∧ e.w = d.w ++ [c] ∧ st (e.p, c) = some e.q
theorem ok_root (st : Sf) : Ok st [root] := ⟨by simp, ⟨[], rfl⟩, fun j e h hj => by
  match j, hj with
  | j + 1, _ => simp at h⟩
theorem v1_ok {st : Sf} {e : Ent} {E : List Ent} {c : Nat} (h : Ok st E) (he : e ∈ E) (hc : c ∈ OL) : Ok st (v1 st e E c) := by
  refine ⟨by rw [v1_map]; exact vis1_nd h.nd, ?_, ?_⟩
  · obtain ⟨E', h1⟩ := h.z
    obtain ⟨z, h2⟩ := v1_pre st e E c
    exact ⟨E' ++ z, by rw [h2, h1]; rfl⟩
  · unfold v1
    cases e2 : st (e.q, c) with
    | none => exact h.s
    | some q =>
      dsimp only
      by_cases hq : q ∈ E.map Ent.q
      · rw [if_pos hq]; exact h.s
      · rw [if_neg hq]
        intro j x hx hj
        by_cases hl : j < E.length
        · rw [List.getElem?_append_left hl] at hx
          obtain ⟨i, d, c2, h1, h2, h3⟩ := h.s j x hx hj
          exact ⟨i, d, c2, h1, by rw [List.getElem?_append_left (by omega)]; exact h2, h3⟩
        · rw [List.getElem?_append_right (by omega)] at hx
          have hj2 : j - E.length = 0 := by
            have := (List.getElem?_eq_some_iff.mp hx).1
            simp at this; omega
          rw [hj2] at hx
          have hx : (⟨q, [c], e.q, e.w ++ [c]⟩ : Ent) = x := by simpa using hx
          subst hx
          obtain ⟨i, hi, e3⟩ := List.mem_iff_getElem.mp he
          exact ⟨i, e, c, by omega, by rw [List.getElem?_append_left hi, List.getElem?_eq_getElem hi, e3], rfl, rfl, hc, rfl, e2⟩
theorem vE_ok {st : Sf} {e : Ent} : ∀ {l : List Nat} {E : List Ent}, Ok st E → e ∈ E → (∀ c ∈ l, c ∈ OL) → Ok st (vE st e l E)
  | [], _, h, _, _ => h
  | c :: l, E, h, he, hl => by
    obtain ⟨z, hz⟩ := v1_pre st e E c
    exact vE_ok (l := l) (v1_ok h he (hl c List.mem_cons_self)) (by rw [hz]; exact List.mem_append_left _ he) fun x hx => hl x (.tail _ hx)
theorem treeF_ok {st : Sf} : ∀ {n : Nat} {E : List Ent} {i : Nat}, Ok st E → Ok st (treeF st n E i)
  | 0, _, _, h => h
  | n + 1, E, i, h => by
    cases e : E[i]? with
    | none => rw [treeF_none e]; exact h
    | some x =>
      rw [treeF_some e]
      exact treeF_ok (vE_ok h (List.mem_of_getElem? e) fun _ z => z)
section
variable {st : Sf} {E : List Ent}
theorem Ok.same (h : Ok st E) {i j : Nat} {a b : Ent} (ha : E[i]? = some a) (hb : E[j]? = some b) (e : a.q = b.q) : i = j ∧ a = b := by
  obtain ⟨hi, ea⟩ := List.getElem?_eq_some_iff.mp ha
  obtain ⟨hj, eb⟩ := List.getElem?_eq_some_iff.mp hb
  have : i = j := by
    have pw := List.pairwise_iff_getElem.mp h.nd
    rcases Nat.lt_trichotomy i j with hlt | heq | hgt
    · refine absurd ?_ (pw i j (by simpa using hi) (by simpa using hj) hlt)
      rw [List.getElem_map, List.getElem_map, ea, eb, e]
    · exact heq
    · refine absurd ?_ (pw j i (by simpa using hj) (by simpa using hi) hgt)
      rw [List.getElem_map, List.getElem_map, ea, eb, e]
  subst this
  exact ⟨rfl, by rw [← ea, ← eb]⟩
theorem Ok.eq (h : Ok st E) {a b : Ent} (ha : a ∈ E) (hb : b ∈ E) (e : a.q = b.q) : a = b := by
  obtain ⟨i, hi, ea⟩ := List.mem_iff_getElem.mp ha
  obtain ⟨j, hj, eb⟩ := List.mem_iff_getElem.mp hb
  exact (h.same (by rw [List.getElem?_eq_getElem hi, ea]) (by rw [List.getElem?_eq_getElem hj, eb]) e).2
theorem Ok.at0 (h : Ok st E) : E[0]? = some root := by
  obtain ⟨E', e⟩ := h.z
  rw [e]; rfl
theorem Ok.root_mem (h : Ok st E) : root ∈ E := by
  obtain ⟨E', e⟩ := h.z
  rw [e]; exact List.mem_cons_self
theorem Ok.cases (h : Ok st E) {e : Ent} (he : e ∈ E) : e = root ∨ ∃ j d c, E[j]? = some e ∧ 0 < j ∧ d ∈ E ∧ (∃ i, i < j ∧ E[i]? = some d) ∧ d.q = e.p ∧ e.c = [c] ∧ c ∈ OL ∧ e.w = d.w ++ [c] ∧ st (e.p, c) = some e.q := by
  obtain ⟨j, hj, ej⟩ := List.mem_iff_getElem.mp he
  have hx : E[j]? = some e := by rw [List.getElem?_eq_getElem hj, ej]
  by_cases h0 : j = 0
  · subst h0
    rw [h.at0] at hx
    exact .inl (Option.some.inj hx).symm
  · obtain ⟨i, d, c, h1, h2, h3⟩ := h.s j e hx (by omega)
    exact .inr ⟨j, d, c, hx, by omega, List.mem_of_getElem? h2, ⟨i, h1, h2⟩, h3⟩
theorem Ok.at_leads (h : Ok st E) : ∀ (n j : Nat), j < n → ∀ e, E[j]? = some e → wlk st e.w (some 0) = some e.q ∧ e.w.length ≤ j ∧ ∀ c ∈ e.w, c ∈ OL
  | 0, j, hj, _, _ => absurd hj (by omega)
  | n + 1, j, hj, e, he => by
    by_cases h0 : j = 0
    · subst h0
      rw [h.at0] at he
      cases he
      exact ⟨rfl, Nat.zero_le _, fun _ z => (nomatch z)⟩
    · obtain ⟨i, d, c, h1, h2, h3, h4, h5, h6, h7⟩ := h.s j e he (by omega)
      obtain ⟨k1, k2, k3⟩ := h.at_leads n i (by omega) d h2
      refine ⟨?_, by rw [h6, List.length_append]; simp; omega, fun x hx => ?_⟩
      · rw [h6, wlk_app, k1, h3]
        exact h7
      · rw [h6] at hx
        rcases List.mem_append.mp hx with hx | hx
        · exact k3 x hx
        · rw [List.mem_singleton.mp hx]; exact h5
theorem Ok.leads (h : Ok st E) {e : Ent} (he : e ∈ E) : wlk st e.w (some 0) = some e.q ∧ e.w.length < E.length ∧ ∀ c ∈ e.w, c ∈ OL := by
  obtain ⟨j, hj, ej⟩ := List.mem_iff_getElem.mp he
  obtain ⟨h1, h2, h3⟩ := h.at_leads (j + 1) j (by omega) e (by rw [List.getElem?_eq_getElem hj, ej])
  exact ⟨h1, by omega, h3⟩
theorem Ok.way_inj (h : Ok st E) {a b : Ent} (ha : a ∈ E) (hb : b ∈ E) (e : a.w = b.w) : a = b := by
  refine h.eq ha hb ?_
  have h1 := (h.leads ha).1
  have h2 := (h.leads hb).1
  rw [e, h2] at h1
  exact (Option.some.inj h1).symm
/-- a road of the tree, by letters and by ways -/
theorem Ok.cond (h : Ok st E) {a b : Ent} {c : Nat} (ha : a ∈ E) (hb : b ∈ E) : (b.c = [c] ∧ b.p = a.q) ↔ b.w = a.w ++ [c] := by
  rcases h.cases hb with e | ⟨j, d, c', _, _, hd, _, h3, h4, _, h6, _⟩
  · subst e
    constructor
    · rintro ⟨z, _⟩; cases z
    · intro z
      have := congrArg List.length z
      simp [root] at this
  · constructor
    · rintro ⟨e1, e2⟩
      have : d = a := h.eq hd ha (h3.trans e2)
      rw [h4] at e1
      rw [h6, this, (List.cons.inj e1).1]
    · intro e
      rw [h6] at e
      have e1 := List.append_inj' e rfl
      have : d = a := h.way_inj hd ha e1.1
      exact ⟨h4.trans e1.2, by rw [← h3, this]⟩
end
/-! ### the entry of a place -/
def ent (E : List Ent) (p : Nat) : Ent := (E.find? fun e => e.q == p).getD root
theorem ent_at {E : List Ent} {p : Nat} (h : p ∈ E.map Ent.q) : ent E p ∈ E ∧ (ent E p).q = p := by
  unfold ent
  cases e : E.find? fun e => e.q == p with
  | none =>
    obtain ⟨x, hx, e2⟩ := List.mem_map.mp h
    exact absurd (List.find?_eq_none.mp e x hx) (by simp [e2])
  | some x =>
    exact ⟨List.mem_of_find?_eq_some e, by have := List.find?_some e; simpa using this⟩
theorem ent_of {st : Sf} {E : List Ent} (h : Ok st E) {e : Ent} (he : e ∈ E) : ent E e.q = e := by
  obtain ⟨h1, h2⟩ := ent_at (List.mem_map.mpr ⟨e, he, rfl⟩)
  exact h.eq h1 he h2
/-- the whole tree: all places come to -/
def tree (st : Sf) (n : Nat) : List Ent := treeF st n [root] 0
theorem tree_come (st : Sf) (n : Nat) : (tree st n).map Ent.q = comeF st n [0] 0 := treeF_map st n _ _
theorem tree_ok (st : Sf) (n : Nat) : Ok st (tree st n) := treeF_ok (ok_root st)
theorem treeF_more {st : Sf} : ∀ {n : Nat} {E : List Ent} {i : Nat} (k : Nat), (treeF st n E i).length ≤ i + n → treeF st (n + k) E i = treeF st n E i
  | 0, E, i, k, h => by
    have : E[i]? = none := List.getElem?_eq_none (by simpa [treeF] using h)
    rw [treeF_none this, treeF_none this]
  | n + 1, E, i, k, h => by
    have e : n + 1 + k = (n + k) + 1 := by omega
    cases e2 : E[i]? with
    | none => rw [treeF_none e2, treeF_none e2]
    | some p =>
      rw [treeF_some e2] at h
      rw [e, treeF_some e2, treeF_some e2]
      exact treeF_more k (by omega)
theorem tree_len {st : Sf} {n m : Nat} (hB : ∀ a p, st a = some p → p < m) (hm : 1 ≤ m) : (tree st n).length ≤ m := by
  have e := tree_come st n
  have := congrArg List.length e
  rw [List.length_map] at this
  rw [this]
  have h2 := sub_len (l := comeF st n [0] 0) (m := List.range m) (comeF_nd (by simp)) fun x hx => List.mem_range.mpr (comeF_sound (P := (· < m)) (fun p c q _ e => hB _ _ e) (fun x hx => by rw [List.mem_singleton.mp hx]; omega) x hx)
  rwa [List.length_range] at h2
theorem tree_fuel {st : Sf} {n m : Nat} (hB : ∀ a p, st a = some p → p < m) (hm : 1 ≤ m) (hn : m ≤ n) : tree st n = tree st m := by
  obtain ⟨d, rfl⟩ := Nat.exists_eq_add_of_le hn
  exact treeF_more d (by rw [Nat.zero_add]; exact tree_len hB hm)
/-! ### walking words that are put together -/
def Rev (st : Sf) : Prop := ∀ p c q, st (p, c) = some q → st (q, bk c) = some p
theorem rev_of {st : Sf} {U : List Road} (h : Is st U) : Rev st := fun p c q e => by
  obtain ⟨r, hr, d⟩ := mem_arcs.mp ((h _ _).mp e)
  rcases d with ⟨d, rfl⟩ | ⟨d, rfl⟩
  · rw [(Prod.mk.inj d).1, (Prod.mk.inj d).2]; exact h.bwd hr
  · rw [(Prod.mk.inj d).1, (Prod.mk.inj d).2, bk_bk]; exact h.fwd hr
theorem wlk_push {st : Sf} (h : Rev st) {s : List Nat} {c : Nat} {o z : Option Nat} (e : wlk st (s.reverse ++ [c]) o = z) (hz : z ≠ none) : wlk st (push s c).reverse o = z := by
  cases s with
  | nil => exact e
  | cons x r =>
    rw [push_cons]
    by_cases hx : x = bk c
    · rw [if_pos hx]
      rw [List.reverse_cons, wlk_app, wlk_app] at e
      cases k : wlk st r.reverse o with
      | none => rw [k] at e; exact absurd e.symm hz
      | some p =>
        rw [k] at e
        have e2 : (st (p, x)).bind (fun y => st (y, c)) = z := e
        cases k2 : st (p, x) with
        | none => rw [k2] at e2; exact absurd e2.symm hz
        | some y =>
          rw [k2] at e2
          have := h _ _ _ k2
          rw [hx, bk_bk] at this
          rw [← e2]
          exact this.symm
    · rw [if_neg hx, List.reverse_cons]; exact e
theorem wlk_act {st : Sf} (h : Rev st) : ∀ {l s : List Nat} {o z : Option Nat}, wlk st (s.reverse ++ l) o = z → z ≠ none → wlk st (act l s).reverse o = z
  | [], s, o, z, e, _ => by rw [act_nil]; rwa [List.append_nil] at e
  | c :: l, s, o, z, e, hz => by
    rw [act_cons]
    refine wlk_act h (l := l) ?_ hz
    rw [show s.reverse ++ c :: l = (s.reverse ++ [c]) ++ l by simp, wlk_app] at e
    rw [wlk_app, wlk_push h (z := wlk st (s.reverse ++ [c]) o) rfl ?_]
    · exact e
    · intro k
      rw [k, wlk_none] at e
      exact hz e.symm
theorem wlk_red {st : Sf} (h : Rev st) {l : List Nat} {o : Option Nat} {q : Nat} (e : wlk st l o = some q) : wlk st (red l) o = some q := by
  unfold red
  exact wlk_act h (s := []) (by exact e) (by simp)
theorem wlk_inv {st : Sf} (h : Rev st) : ∀ {l : List Nat} {p q : Nat}, wlk st l (some p) = some q → wlk st (inv l) (some q) = some p
  | [], p, q, e => by cases e; rfl
  | c :: l, p, q, e => by
    have e' : wlk st l (st (p, c)) = some q := e
    cases k : st (p, c) with
    | none => rw [k, wlk_none] at e'; cases e'
    | some y =>
      rw [k] at e'
      rw [inv_cons, wlk_app, wlk_inv h e']
      exact h _ _ _ k
/-- a fewest word comes round -/
theorem few_leads {st : Sf} {E : List Ent} (hr : Rev st) (h : Ok st E) {a b : Ent} {c : Nat} (ha : a ∈ E) (hb : b ∈ E) (e : st (a.q, c) = some b.q) : wlk st (red (a.w ++ [c] ++ inv b.w)) (some 0) = some 0 := by
  refine wlk_red hr ?_
  rw [wlk_app, wlk_app, (h.leads ha).1]
  show wlk st (inv b.w) (st (a.q, c)) = _
  rw [e]
  exact wlk_inv hr (h.leads hb).1
/-! ### how many roads are of the tree -/
def treeB (E : List Ent) (r : Road) : Bool := decide ((ent E r.2.2).c = [r.2.1] ∧ (ent E r.2.2).p = r.1) || decide ((ent E r.1).c = [bk r.2.1] ∧ (ent E r.1).p = r.2.2)
def wayB (E : List Ent) (r : Road) : Bool := decide ((ent E r.2.2).w = (ent E r.1).w ++ [r.2.1]) || decide ((ent E r.1).w = (ent E r.2.2).w ++ [bk r.2.1])
theorem tree_way {st : Sf} {E : List Ent} (h : Ok st E) {r : Road} (h1 : r.1 ∈ E.map Ent.q) (h2 : r.2.2 ∈ E.map Ent.q) : treeB E r = wayB E r := by
  obtain ⟨a1, a2⟩ := ent_at h1
  obtain ⟨b1, b2⟩ := ent_at h2
  unfold treeB wayB
  have e1 := h.cond (c := r.2.1) a1 b1
  have e2 := h.cond (c := bk r.2.1) b1 a1
  rw [a2] at e1
  rw [b2] at e2
  rw [decide_eq_decide.mpr e1, decide_eq_decide.mpr e2]
def rdE (e : Ent) : Road := if (e.c.headD 0) ∈ Pw.LT then (e.p, e.c.headD 0, e.q) else (e.q, bk (e.c.headD 0), e.p)
theorem tree_count {st : Sf} {E : List Ent} {N : List Road} (h : Ok st E) (hn : N.Nodup) (hl : Lt N) (hi : Is st N) (h1 : ∀ r ∈ N, r.1 ∈ E.map Ent.q ∧ r.2.2 ∈ E.map Ent.q) : (N.filter (treeB E)).length + 1 = E.length := by
  have tl : ∀ e ∈ E.tail, ∃ j, E[j]? = some e ∧ 0 < j := fun e he => by
    obtain ⟨j, hj, ej⟩ := List.mem_iff_getElem.mp he
    refine ⟨j + 1, ?_, by omega⟩
    rw [List.length_tail] at hj
    rw [List.getElem_tail] at ej
    rw [List.getElem?_eq_getElem (by omega), ej]
  have lt_tl : ∀ j e, E[j]? = some e → 0 < j → e ∈ E.tail := fun j e he hj => by
    obtain ⟨E', e2⟩ := h.z
    rw [e2] at he ⊢
    match j, hj with
    | j + 1, _ => exact List.mem_of_getElem? (by simpa using he)
  -- each entry but the first has a road of the tree
  have fwd : ∀ e ∈ E.tail, rdE e ∈ N ∧ treeB E (rdE e) = true := fun e he => by
    obtain ⟨j, hj, h0⟩ := tl e he
    obtain ⟨i, d, c, k1, k2, k3, k4, k5, k6, k7⟩ := h.s j e hj h0
    have heE := List.mem_of_getElem? hj
    obtain ⟨r, hr, dd⟩ := mem_arcs.mp ((hi _ _).mp k7)
    have hh : e.c.headD 0 = c := by rw [k4]; rfl
    rcases dd with ⟨dd, d2⟩ | ⟨dd, d2⟩
    · have hc : c ∈ Pw.LT := by rw [(Prod.mk.inj dd).2]; exact hl r hr
      have er : rdE e = r := by
        unfold rdE
        rw [hh, if_pos hc]
        exact Prod.ext (Prod.mk.inj dd).1 (Prod.ext (Prod.mk.inj dd).2 d2)
      rw [er]
      refine ⟨hr, ?_⟩
      unfold treeB
      rw [← d2, ent_of h heE, k4, (Prod.mk.inj dd).1, (Prod.mk.inj dd).2]
      simp
    · have hc : c ∉ Pw.LT := by rw [(Prod.mk.inj dd).2]; exact lt_bk (hl r hr)
      have er : rdE e = r := by
        unfold rdE
        rw [hh, if_neg hc]
        exact Prod.ext d2 (Prod.ext (by show bk c = _; rw [(Prod.mk.inj dd).2, bk_bk]) (Prod.mk.inj dd).1)
      rw [er]
      refine ⟨hr, ?_⟩
      unfold treeB
      rw [← d2, ent_of h heE, k4, (Prod.mk.inj dd).1, (Prod.mk.inj dd).2]
      simp
  have inj : ∀ e ∈ E.tail, ∀ e' ∈ E.tail, rdE e = rdE e' → e = e' := fun e he e' he' er => by
    obtain ⟨j, hj, h0⟩ := tl e he
    obtain ⟨j', hj', h0'⟩ := tl e' he'
    obtain ⟨i, d, c, k1, k2, k3, k4, k5, k6, k7⟩ := h.s j e hj h0
    obtain ⟨i', d', c', k1', k2', k3', k4', k5', k6', k7'⟩ := h.s j' e' hj' h0'
    have hh : e.c.headD 0 = c := by rw [k4]; rfl
    have hh' : e'.c.headD 0 = c' := by rw [k4']; rfl
    unfold rdE at er
    rw [hh, hh'] at er
    have cross : e.p = e'.q → e.q = e'.p → e = e' := fun a b => by
      have x1 := (h.same k2 hj' (k3.trans a)).1
      have x2 := (h.same k2' hj (k3'.trans b.symm)).1
      omega
    split at er <;> split at er
    · have := Prod.mk.inj er
      exact (h.same hj hj' (Prod.mk.inj this.2).2).2
    · have := Prod.mk.inj er
      exact cross this.1 (Prod.mk.inj this.2).2
    · have := Prod.mk.inj er
      exact cross (Prod.mk.inj this.2).2 this.1
    · have := Prod.mk.inj er
      exact (h.same hj hj' this.1).2
  have ndE : E.Nodup := List.Pairwise.of_map Ent.q (fun _ _ hne e => hne (congrArg Ent.q e)) h.nd
  have ndt : E.tail.Nodup := List.Pairwise.sublist (List.tail_sublist _) ndE
  have nm : (E.tail.map rdE).Nodup := by
    rw [List.nodup_iff_pairwise_ne, List.pairwise_map]
    exact List.Pairwise.imp_of_mem (fun {a b} ha hb hne e => hne (inj a ha b hb e)) (List.nodup_iff_pairwise_ne.mp ndt)
  have le1 := sub_len nm (m := N.filter (treeB E)) fun r hr => by
    obtain ⟨e, he, rfl⟩ := List.mem_map.mp hr
    exact List.mem_filter.mpr (fwd e he)
  have le2 := sub_len (nd_filter (treeB E) hn) (m := E.tail.map rdE) fun r hr => by
    obtain ⟨hrN, ht⟩ := List.mem_filter.mp hr
    obtain ⟨a1, a2⟩ := ent_at (h1 r hrN).1
    obtain ⟨b1, b2⟩ := ent_at (h1 r hrN).2
    have nz : ∀ x ∈ E, x.c ≠ [] → x ∈ E.tail := fun x hx hc => by
      rcases h.cases hx with e | ⟨j, _, _, hj, h0, _⟩
      · subst e; exact absurd rfl hc
      · exact lt_tl j x hj h0
    unfold treeB at ht
    rw [Bool.or_eq_true, decide_eq_true_iff, decide_eq_true_iff] at ht
    rcases ht with ⟨t1, t2⟩ | ⟨t1, t2⟩
    · refine List.mem_map.mpr ⟨_, nz _ b1 (by rw [t1]; simp), ?_⟩
      unfold rdE
      rw [t1, t2, b2]
      exact if_pos (hl r hrN)
    · refine List.mem_map.mpr ⟨_, nz _ a1 (by rw [t1]; simp), ?_⟩
      unfold rdE
      rw [t1, t2, a2]
      have : ([bk r.2.1] : List Nat).headD 0 = bk r.2.1 := rfl
      rw [this, if_neg (lt_bk (hl r hrN)), bk_bk]
  rw [List.length_map, List.length_tail] at le1 le2
  have : 0 < E.length := List.length_pos_of_mem h.root_mem
  omega
end Pf

/-! The head: facts of the top by names. -/
namespace Kv
open PySem PySem.Spec PyProof.Rows L2
section
variable {K : PySem.W.Frag} {h : Heap} {mg : Str → Option Value}
theorem fun_d {x qual : Str} {st : Stmt} {f : Addr} {fd : FuncData} (F : FunD K x qual (defArgs st) (defBody st) (defScope st) [] [] f fd) : Fun K x qual st f fd := by
  obtain ⟨u, v, dV, kV, doc, pm, an, cv, t, sl, e, q, hc, hD, _⟩ := F.ex
  rcases hD with ⟨_, e2⟩ | ⟨e2, _⟩
  · subst e2
    exact ⟨⟨u, v, kV, doc, pm, an, cv, t, sl, e, q, hc⟩, F.kp⟩
  · exact absurd rfl e2
/-- a def of the top, a method -/
abbrev dTop (x : Str) (st : Stmt) : He.DefD := ⟨(x, none), x, x, defArgs st, defBody st, defScope st, [], []⟩
abbrev dMth (C m q : Str) (st : Stmt) : He.DefD := ⟨(C, some m), m, q, defArgs st, defBody st, defScope st, [], []⟩
theorem d_top {fa : List He.Fa} {fn : List He.DefD} {x : Str} {st : Stmt} (c : He.SaysD fa fn K) (i : Nat) (h : fn[i]? = some (dTop x st)) : ∃ fd, FunD K x x (defArgs st) (defBody st) (defScope st) [] [] (He.ga K x) fd := c.def_ i h
theorem d_mth {fa : List He.Fa} {fn : List He.DefD} {C m q : Str} {st : Stmt} (c : He.SaysD fa fn K) (i : Nat) (h : fn[i]? = some (dMth C m q st)) : ∃ fd, FunD K m q (defArgs st) (defBody st) (defScope st) [] [] (He.ma K (He.ga K C) m) fd := c.def_ i h
def isoB (K : PySem.W.Frag) (x : Str) : Bool :=
  (He.eqO (PySem.W.findIn K (.ref (He.ga K x)) "__class__") (some (some (.builtin "object.__class__"))) && He.eqO (PySem.W.specialIn K (.builtin "object.__class__") "__get__") (some (some (.builtin "getset_descriptor.__get__")))) &&
  ((decide (PySem.W.takesIn K (.builtin "object.__class__") = some true) && decide (PySem.W.mroIn K (He.ga K x) (.type "object") = some true)) && decide (PySem.W.kitOne K (.ref (He.ga K x)) (.ref (He.ga K x)) = some true))
theorem iso_of {x : Str} (c : (He.Fa.cls x).ok K = true) (e : isoB K x = true) : IsO K (He.ga K x) := by
  unfold isoB at e
  obtain ⟨e1, e2⟩ := He.ba e
  obtain ⟨a1, a2⟩ := He.ba e1
  obtain ⟨e3, a5⟩ := He.ba e2
  obtain ⟨a3, a4⟩ := He.ba e3
  exact ⟨He.cls_ok c, He.eqO_ok a1, He.eqO_ok a2, of_decide_eq_true a3, of_decide_eq_true a4, of_decide_eq_true a5⟩
theorem exk_of (X : K.In h) (G : h.Ns mainGlobals mg) {x : Str} (c1 : (He.Fa.glo x).ok K = true) (c2 : (He.Fa.exc x).ok K = true) : ExK K mg x (He.ga K x) := by
  obtain ⟨a1, a2, a3, a4⟩ := He.exc_ok c2
  exact ⟨He.glo_ok X G c1, a1, a2, a3, a4⟩
theorem cx_end {P : Program} {w : World} {H : Hp} {s : Shared} {e : Value} {s' : Shared} (h : L2.CX P w [] H s (fun _ _ _ => False) e s') : False := by
  obtain ⟨_, _, _, _, _, _, _, _, _, _, _, _, z⟩ := h
  exact z
end
/-- the law's def, all that is known of it -/
theorem walk_end {l : PySem.W.OpenLaw} {n k : Nat} {q : Program} {loose : List Str} {XP : (Str → Option Value) → Heap → Prop} {YP : World → Heap → Prop} {d : DefRec} {x : Str} (hn : l.most = some n) (hn2 : n ≤ sizeLine) (hdf : d.params.defaults = []) (hr : Room k callerA)
    (F : ∀ (w : World) (mg : Str → Option Value) (fa : Addr) (h : Heap), YP w h → h.Ns mainGlobals mg → mg d.name = some (.ref fa) → ∃ (K : PySem.W.Frag) (fd : FuncData) (sp : Sp), K.In h ∧ (∀ (s : Shared) (u : Value), BindsTo s fd ⟨[u], []⟩ [(x, u)]) ∧
      (∀ (H : Hp) (a : Addr) (ns : List Int), ns.length ≤ n → Only H → SqL K H a (ns.map V.int) → sp [.ref a] H (fun v _ => v = .bl true) fun _ _ _ => False) ∧ ∀ base : Heap, K.In base → base.Ns mainGlobals mg → FnOk l.prog w K mg base (L2.CX l.prog w) k fa fd [x] sp) :
    PySem.W.WalkO q loose XP YP l.row.toRowW d [] (fun f vs => PySem.call f vs) := by
  refine Att.attach_call hn hdf fun w t0 t1 mg mb fa o u cv dc a vs ns G Y e1 e2 e3 e4 e5 e6 e7 e8 => ?_
  obtain ⟨K, fd, sp, KX, hb, hsp, hF⟩ := F w mg fa _ Y G.T.g e4
  exact law_call KX G.T.g G.T.b G.T.builtins G.T.nolimit e8 e5 e6 (Nat.le_trans e7 hn2) hr hF hb (fun H o1 o2 => hsp H a ns e7 o1 o2) fun H e s' z => cx_end z
end Kv
namespace Kv
open PySem PySem.Spec PyProof.Rows L2
def excB (K : PySem.W.Frag) (x : Str) : Bool :=
  (He.eqO (PySem.W.findIn K (.ref (He.ga K x)) "__getattribute__") (some (some (.builtin "BaseException.__getattribute__"))) && He.eqO (PySem.W.findIn K (.ref (He.ga K x)) "__getattr__") (some none)) &&
  ((decide (PySem.W.subIn K (.ref (He.ga K x)) (.type "BaseException") = some true) && PySem.W.hasDictIn K (He.ga K x)) &&
  ((He.eqO (PySem.W.findIn K (.ref (He.ga K x)) "__class__") (some (some (.builtin "object.__class__"))) && He.eqO (PySem.W.specialIn K (.builtin "object.__class__") "__get__") (some (some (.builtin "getset_descriptor.__get__")))) &&
  (decide (PySem.W.takesIn K (.builtin "object.__class__") = some true) && decide (PySem.W.mroIn K (He.ga K x) (.type "object") = some true))))
theorem excc_of {K : PySem.W.Frag} {x : Str} (e : excB K x = true) : ExcC K (He.ga K x) := by
  unfold excB at e
  obtain ⟨e1, e2⟩ := He.ba e
  obtain ⟨a1, a2⟩ := He.ba e1
  obtain ⟨e3, e4⟩ := He.ba e2
  obtain ⟨a3, a4⟩ := He.ba e3
  obtain ⟨e5, e6⟩ := He.ba e4
  obtain ⟨a5, a6⟩ := He.ba e5
  obtain ⟨a7, a8⟩ := He.ba e6
  exact ⟨He.eqO_ok a1, He.eqO_ok a2, of_decide_eq_true a3, a4, He.eqO_ok a5, He.eqO_ok a6, of_decide_eq_true a7, of_decide_eq_true a8⟩
/-- isinstance between own classes -/
def kitB2 (K : PySem.W.Frag) (x y : Str) (b : Bool) : Bool := decide (PySem.W.kitOne K (.ref (He.ga K x)) (.ref (He.ga K y)) = some b)
theorem kit2_of {K : PySem.W.Frag} {x y : Str} {b : Bool} (e : kitB2 K x y b = true) : PySem.W.kitOne K (.ref (He.ga K x)) (.ref (He.ga K y)) = some b := of_decide_eq_true e
/-- isinstance of an own class's thing, a built-in class -/
def kitBT (K : PySem.W.Frag) (x : Str) (y : String) (b : Bool) : Bool := decide (PySem.W.kitOne K (.ref (He.ga K x)) (.type y) = some b)
theorem kitT_of {K : PySem.W.Frag} {x : Str} {y : String} {b : Bool} (e : kitBT K x y b = true) : PySem.W.kitOne K (.ref (He.ga K x)) (.type y) = some b := of_decide_eq_true e
end Kv

namespace K51
open PySem PySem.Spec PyProof.Rows L2 Kv Fg
local macro_rules | `(tactic| walk_at "mm") => `(tactic| (repeat (first | exact List.Mem.head _ | apply List.Mem.tail)))
local macro_rules | `(tactic| walk_at "rep") => `(tactic| (repeat (first | exact Rep.here | apply Rep.there)))
local macro_rules | `(tactic| walk_at "sfx") => `(tactic| first | exact List.suffix_refl _ | (refine List.IsSuffix.trans ?_ (List.suffix_cons _ _); walk_at "sfx"; done))
local macro_rules | `(tactic| walk_at "ls") => `(tactic| first | assumption | exact Or.inl (by assumption) | (refine Or.inr ?_; walk_at "mm"; done))
local macro_rules | `(tactic| walk_at "tp") => `(tactic| first | assumption | exact Or.inl (by assumption) | (refine Or.inr ?_; walk_at "mm"; done))
local macro_rules | `(tactic| walk_at "at") => `(tactic| first | assumption | exact Or.inl (by assumption) | (refine Or.inr ?_; walk_at "mm"; done))
local macro_rules | `(tactic| walk_at "opAdd") => `(tactic| first | refine o_add ?_ | refine o_adds ?_ ?_)
local macro_rules | `(tactic| walk_at "opSub") => `(tactic| refine o_sub ?_)
local macro_rules | `(tactic| walk_at "opMult") => `(tactic| first | refine o_mul ?_ (.inr (by decide)) | refine o_mul ?_ (.inl (by decide)) | refine o_mul ?_ ?_ | refine o_muls ?_ ?_ ?_)
local macro_rules | `(tactic| walk_at "opMod") => `(tactic| first | refine o_mod ?_ (by decide) | refine o_mod ?_ ?_)
local macro_rules | `(tactic| walk_at "opFloorDiv") => `(tactic| first | refine o_fdiv ?_ (by decide) | refine o_fdiv ?_ ?_)
local macro_rules | `(tactic| walk_at "opPow") => `(tactic| refine o_pow ?_ ⟨by decide, by decide, by decide⟩)
local macro_rules | `(tactic| walk_at "opLt") => `(tactic| refine o_lt ?_)
local macro_rules | `(tactic| walk_at "opLtE") => `(tactic| refine o_le ?_)
local macro_rules | `(tactic| walk_at "opGt") => `(tactic| refine o_gt ?_)
local macro_rules | `(tactic| walk_at "opGtE") => `(tactic| refine o_ge ?_)
local macro_rules | `(tactic| walk_at "opEq") => `(tactic| first | refine o_eqi ?_ | refine o_eqs ?_ | refine o_eqb ?_)
local macro_rules | `(tactic| walk_at "opNotEq") => `(tactic| first | refine o_nei ?_ | refine o_nes ?_ | refine o_neb ?_)
local macro_rules | `(tactic| walk_at "opIn") => `(tactic| refine o_ins ?_)
local macro_rules | `(tactic| walk_at "opNotIn") => `(tactic| refine o_nins ?_)
local macro_rules | `(tactic| walk_at "opIs") => `(tactic| refine o_isN ?_)
local macro_rules | `(tactic| walk_at "opIsNot") => `(tactic| refine o_notN ?_)
local macro_rules | `(tactic| walk_at "IX") => `(tactic| first | refine i_sN ?_ ?_ ?_ | refine i_li (by walk_at "ls") ?_ ?_ | refine i_lN (by walk_at "ls") ?_ ?_)
local macro_rules | `(tactic| walk_at "SLICE") => `(tactic| first | refine sl_s ?_ ?_ | refine sl_l (by walk_at "ls") fun p => ?_)
local macro_rules | `(tactic| walk_at "c_len") => `(tactic| first | refine c_lens ?_ ?_ | refine c_lenl (by walk_at "ls") ?_ | refine c_lent (by walk_at "tp") ?_)
local macro_rules | `(tactic| walk_at "c_abs") => `(tactic| refine c_abs ?_)
local macro_rules | `(tactic| walk_at "c_min") => `(tactic| refine c_min2 ?_)
local macro_rules | `(tactic| walk_at "c_max") => `(tactic| refine c_max2 ?_)
local macro_rules | `(tactic| walk_at "c_int") => `(tactic| refine c_intb ?_)
local macro_rules | `(tactic| walk_at "c_list") => `(tactic| first | refine c_listl (by walk_at "ls") fun p => ?_ | refine c_listt (by walk_at "tp") fun p => ?_)
local macro_rules | `(tactic| walk_at "c_tuple") => `(tactic| refine c_tupl (by walk_at "ls") fun p => ?_)
local macro_rules | `(tactic| walk_at "c_isinstance") => `(tactic| first | refine c_isS (k := true) ?_ | refine c_isS (k := false) ?_ | refine c_isI (k := true) ?_ | refine c_isI (k := false) ?_ | refine c_isB (k := true) ?_ | refine c_isB (k := false) ?_ | refine c_isN (k := true) ?_ | refine c_isN (k := false) ?_ | refine c_isL (k := true) (by walk_at "ls") ?_ | refine c_isL (k := false) (by walk_at "ls") ?_ | refine c_isT (k := true) (by walk_at "tp") ?_ | refine c_isT (k := false) (by walk_at "tp") ?_)
local macro_rules | `(tactic| walk_at "c_all") => `(tactic| refine c_all (by walk_at "ls") ?_)
local macro_rules | `(tactic| walk_at "c_any") => `(tactic| refine c_any (by walk_at "ls") ?_)
local macro_rules | `(tactic| walk_at "c_sum") => `(tactic| refine c_sum (by walk_at "ls") ?_)
local macro_rules | `(tactic| walk_at "side") => `(tactic| first | assumption | omega | decide | (simp only [List.length_cons, List.length_nil]; omega))
def top (i : Nat) : Stmt := PySem.Challenge.pw_backwords_k51_fewest_words.main.body.getD i (.Pass ⟨0, 0, 0, 0⟩)
/-! ### letters, words (the plain side) -/
def ordL : List Nat := [97, 65, 98, 66, 99, 67, 100, 68, 101, 69, 102, 70]
def ltL : List Nat := [97, 98, 99, 100, 101, 102]
abbrev Let (l : List Nat) : Prop := ∀ c ∈ l, c ∈ ordL
theorem ord_ix {c : Nat} (h : c ∈ ordL) : Txt.index0 (sOf ordL) (sOf [c]) = some (ordL.idxOf c) := by
  simp only [ordL, List.mem_cons, List.not_mem_nil, or_false] at h
  rcases h with h | h | h | h | h | h | h | h | h | h | h | h <;> subst h <;> decide +kernel
theorem ord_at {c : Nat} (h : c ∈ ordL) : (atI ordL ((ordL.idxOf c : Nat) + 1 - 2 * (((ordL.idxOf c : Nat) : Int) % 2))).getD 0 = bk c := by
  simp only [ordL, List.mem_cons, List.not_mem_nil, or_false] at h
  rcases h with h | h | h | h | h | h | h | h | h | h | h | h <;> subst h <;> decide +kernel
theorem ord_lt {c : Nat} (h : c ∈ ordL) : ordL.idxOf c < 12 := List.idxOf_lt_length_of_mem h
theorem let_bk {c : Nat} (h : c ∈ ordL) : bk c ∈ ordL := by
  simp only [ordL, List.mem_cons, List.not_mem_nil, or_false] at h
  rcases h with h | h | h | h | h | h | h | h | h | h | h | h <;> subst h <;> decide
theorem let_small {l : List Nat} (h : Let l) : ∀ c ∈ l, c < 1114112 := fun c hc => by
  have := h c hc
  simp only [ordL, List.mem_cons, List.not_mem_nil, or_false] at this
  omega
theorem let_red {l : List Nat} (h : Let l) : Let (red l) := fun c hc => h c (red_mem hc)
theorem let_inv {l : List Nat} (h : Let l) : Let (inv l) := fun c hc => by
  unfold inv at hc
  rw [List.mem_reverse, List.mem_map] at hc
  obtain ⟨d, hd, rfl⟩ := hc
  exact let_bk (h d hd)
theorem let_app {a b : List Nat} (ha : Let a) (hb : Let b) : Let (a ++ b) := fun c hc => (List.mem_append.mp hc).elim (ha c) (hb c)
theorem let_cut {l : List Nat} {lo hi : Option Int} (h : Let l) : Let (cut l lo hi) := fun c hc => h c (List.mem_of_mem_drop (List.mem_of_mem_take hc))
/-- the stack as the list of texts that the program keeps -/
def one (c : Nat) : V := .str (sOf [c])
def stk (s : List Nat) : List V := s.reverse.map one
theorem stk_push (s : List Nat) (c : Nat) : stk (c :: s) = stk s ++ [.str (sOf [c])] := by simp [stk, one]
theorem stk_pop (c : Nat) (s : List Nat) : (stk (c :: s)).dropLast = stk s := by rw [stk_push, List.dropLast_concat]
theorem stk_len (s : List Nat) : (stk s).length = s.length := by simp [stk]
theorem flat_one (l : List Nat) : (l.map fun c => [c]).flatten = l := by induction l with | nil => rfl | cons a l ih => simp [ih]
theorem map_one (l : List Nat) : l.map one = (l.map fun c => [c]).map fun l => V.str (sOf l) := by rw [List.map_map]; rfl
theorem act_take {l : List Nat} {i c : Nat} (h : l[i]? = some c) : act (l.take (i + 1)) [] = push (act (l.take i) []) c := by
  rw [List.take_add_one, h, act_app]; rfl
theorem act_len (l st : List Nat) : (act l st).length ≤ st.length + l.length := by
  induction l generalizing st with
  | nil => simp [act_nil]
  | cons c l ih =>
    rw [act_cons]
    have h1 := ih (push st c)
    have h2 : (push st c).length ≤ st.length + 1 := by
      cases st with
      | nil => simp [push]
      | cons x r => rw [push_cons]; split <;> simp <;> omega
    simp only [List.length_cons]
    omega
theorem at_last {α : Type} (xs : List α) (v : α) : atI (xs ++ [v]) (-1) = some v := by
  have h := atI_neg (l := xs ++ [v]) (j := 0) (by simp)
  have e : (-1 - ((0 : Nat) : Int)) = -1 := rfl
  rw [e] at h
  rw [h]; simp
theorem get_last {α : Type} (xs : List α) (v : α) : (xs ++ [v])[(xs ++ [v]).length - 1]? = some v := by simp
/-! ### more of letters, words -/
def lo (c : Nat) : Nat := if c ∈ ltL then c else bk c
theorem lo_is {c : Nat} (h : c ∈ ordL) : Txt.lower (sOf [c]) = sOf [lo c] := by
  simp only [ordL, List.mem_cons, List.not_mem_nil, or_false] at h
  rcases h with h | h | h | h | h | h | h | h | h | h | h | h <;> subst h <;> decide +kernel
theorem pair_iff {x y : Nat} (hx : x ∈ ordL) (hy : y ∈ ordL) : ((!decide ([x] = [y])) && decide ([lo x] = [lo y])) = decide (y = bk x) := by
  have h : ∀ x ∈ ordL, ∀ y ∈ ordL, ((!decide ([x] = [y])) && decide ([lo x] = [lo y])) = decide (y = bk x) := by decide +kernel
  exact h x hx y hy
theorem rd_iff : ∀ {l : List Nat}, Wd l ↔ ∀ (n : Nat) x y, l[n]? = some x → l[n + 1]? = some y → y ≠ bk x
  | [] => by simp [Wd]
  | [a] => by simp [Wd]
  | a :: b :: r => by
    have ih := rd_iff (l := b :: r)
    constructor
    · intro h n x y h1 h2
      cases n with
      | zero =>
        have e1 : a = x := by simpa using h1
        have e2 : b = y := by simpa using h2
        rw [← e1, ← e2]; exact h.1
      | succ n => exact ih.mp h.2 n x y (by simpa using h1) (by simpa using h2)
    · intro h
      exact ⟨h 0 a b rfl rfl, ih.mpr fun n x y h1 h2 => h (n + 1) x y (by simpa using h1) (by simpa using h2)⟩
theorem cut_to {α : Type} (l : List α) (n : Nat) : cut l none (some (n : Int)) = l.take n := by
  unfold cut
  rw [HT.sIx_none, HT.sIx_nat]
  simp only [List.drop_zero, Nat.sub_zero]
  rcases Nat.le_total n l.length with h | h
  · rw [Nat.min_eq_left h]
  · rw [Nat.min_eq_right h, List.take_of_length_le h, List.take_length]
theorem cut_from {α : Type} (l : List α) (n : Nat) : cut l (some (n : Int)) none = l.drop n := by
  unfold cut
  rw [HT.sIx_none, HT.sIx_nat]
  rcases Nat.le_total n l.length with h | h
  · rw [Nat.min_eq_left h, List.take_of_length_le (by rw [List.length_drop]; omega)]
  · rw [Nat.min_eq_right h, List.drop_of_length_le h]; simp
theorem red_cut (a b : List Nat) (x : Nat) : red (a ++ x :: bk x :: b) = red (a ++ b) := by
  unfold red
  rw [act_app, act_app, act_cons, act_cons, push_push (rd_act (by trivial) a)]
theorem split_two {l : List Nat} {i x y : Nat} (h1 : l[i]? = some x) (h2 : l[i + 1]? = some y) : l = l.take i ++ x :: y :: l.drop (i + 2) := by
  obtain ⟨hi, e1⟩ := List.getElem?_eq_some_iff.mp h1
  obtain ⟨hj, e2⟩ := List.getElem?_eq_some_iff.mp h2
  conv => lhs; rw [← List.take_append_drop i l]
  rw [List.drop_eq_getElem_cons hi, List.drop_eq_getElem_cons hj, e1, e2]
/-- what the top leaves of written names -/
structure Tx (mg : Str → Option Value) : Prop where
  g_LETTERS : ∃ t, mg "LETTERS" = some (.str (sOf ltL) t)
  g_ORDER : ∃ t, mg "ORDER" = some (.str (sOf ordL) t)
  g_MOST_LETTERS : ∃ t, mg "MOST_LETTERS" = some (.int 60 t)
  g_MOST_PLACES : ∃ t, mg "MOST_PLACES" = some (.int 200 t)
  b_ValueError : mg "ValueError" = none
  b_list : mg "list" = none
  b_dict : mg "dict" = none
  b_range : mg "range" = none
  b_isinstance : mg "isinstance" = none
  b_str : mg "str" = none
  b_all : mg "all" = none
  b_any : mg "any" = none
  b_int : mg "int" = none
  b_tuple : mg "tuple" = none
  b_len : mg "len" = none
  b_zip : mg "zip" = none
  b_sorted : mg "sorted" = none
  b_min : mg "min" = none
  b_bool : mg "bool" = none
  b_reversed : mg "reversed" = none
  b_set : mg "set" = none
  b_enumerate : mg "enumerate" = none
section
variable {P : Program} {w : World} {K : PySem.W.Frag} {mg : Str → Option Value} {base : Heap}
abbrev s_back_of : Stmt := top 9
abbrev N_back_of : List Str := ["letter", "at"]
theorem sc_back_of : FnScope N_back_of ["letter"] (defScope s_back_of) := ⟨rfl, rfl, rfl, by decide +kernel, rfl, by decide +kernel, by decide +kernel⟩
def sp_back_of : Sp := fun vs H Q _ => ∃ c, vs = [.str (sOf [c])] ∧ c ∈ ordL ∧ ∀ H', (∀ b o, H b = some o → H' b = some o) → Q (.str (sOf [bk c])) H'
theorem use_back_of {B : Hp} {L : HL} {Q : KQ} {E : XK} {c : Nat} (q : Q (.str (sOf [bk c])) B L) (h : c ∈ ordL) : ∀ H, Sat B L H → sp_back_of [.str (sOf [c])] H (up Q) E := fun H s => ⟨c, rfl, h, fun H' e => s.upq e q⟩
theorem ok_back_of {f : Addr} {fd : FuncData} (F : Fun K "back_of" "back_of" s_back_of f fd) (hm : mg "back_of" = some (.ref f)) (T : Tx mg) : Fn P w K mg base 1 "back_of" sp_back_of := by
  refine fn_ok F sc_back_of hm (fun _ _ _ _ _ _ us hl => match us, hl with | [_], _ => rfl) ?_ fun cdv A outer s H vs Q E hr h tk po => ?_
  · rintro vs H Q E ⟨c, rfl, _⟩; rfl
  obtain ⟨c, rfl, hc, hq⟩ := h
  refine ⟨H, [], Sat.whole, ?_⟩
  refine k_cons ?_
  refine k_set 1 ?_ sc_back_of.nd
  refine k_sindex ?_ (name := "")
  refine k_gsE T.g_ORDER ?_
  refine ⟨_, rfl, ?_⟩
  refine a_cons ?_
  refine k_n 0 ?_
  refine a_nil ?_
  refine m_index (ord_ix hc) ?_
  refine k_one ?_
  refine k_ret ?_
  refine k_ix ?_
  refine k_gsE T.g_ORDER ?_
  refine k_bin ?_
  refine k_bin ?_
  refine k_n 1 ?_
  refine k_int ?_
  walk_at "opAdd"
  refine k_bin ?_
  refine k_int ?_
  refine k_bin ?_
  refine k_n 1 ?_
  refine k_int ?_
  walk_at "opMod"
  walk_at "opMult"
  walk_at "opSub"
  walk_at "IX"
  · rw [ord_at hc]
    exact fun H' s => hq H' s.ext
  · have := ord_lt hc
    show -12 ≤ _ ∧ _ < (12 : Int)
    omega
  · decide
abbrev s_are_letters : Stmt := top 10
abbrev N_are_letters : List Str := ["thing", "most", "letter"]
theorem sc_are_letters : FnScope N_are_letters ["thing", "most"] (defScope s_are_letters) := ⟨rfl, rfl, rfl, by decide +kernel, rfl, by decide +kernel, by decide +kernel⟩
def letB (l : List Nat) : Bool := l.all fun c => decide (c ∈ ordL)
theorem letB_iff {l : List Nat} : letB l = true ↔ Let l := by simp [letB]
def sp_are_letters (K : PySem.W.Frag) : Sp := fun vs H Q _ => (∃ l n, vs = [.str (sOf l), .int n] ∧ l.length ≤ 1000000 ∧ ∀ H', (∀ b o, H b = some o → H' b = some o) → Q (.bl (decide ((l.length : Int) ≤ n) && letB l)) H') ∨
  ∃ (x : V) (n : Int), vs = [x, .int n] ∧ NoTx K H x ∧ ∀ H', (∀ b o, H b = some o → H' b = some o) → Q (.bl false) H'
theorem use_are_letters {K : PySem.W.Frag} {B : Hp} {L : HL} {Q : KQ} {E : XK} {l : List Nat} {n : Int} (q : Q (.bl (decide ((l.length : Int) ≤ n) && letB l)) B L) (h : l.length ≤ 1000000) : ∀ H, Sat B L H → sp_are_letters K [.str (sOf l), .int n] H (up Q) E := fun H s => .inl ⟨l, n, rfl, h, fun H' e => s.upq e q⟩
theorem use_are_lettersN {K : PySem.W.Frag} {B : Hp} {L : HL} {Q : KQ} {E : XK} {x : V} {n : Int} (q : Q (.bl false) B L) (h : ∀ H, Sat B L H → NoTx K H x) : ∀ H, Sat B L H → sp_are_letters K [x, .int n] H (up Q) E := fun H s => .inr ⟨x, n, rfl, h H s, fun H' e => s.upq e q⟩
theorem ok_are_letters {f : Addr} {fd : FuncData} (F : Fun K "are_letters" "are_letters" s_are_letters f fd) (hm : mg "are_letters" = some (.ref f)) (T : Tx mg) : Fn P w K mg base 1 "are_letters" (sp_are_letters K) := by
  refine fn_ok F sc_are_letters hm (fun _ _ _ _ _ _ us hl => match us, hl with | [_, _], _ => rfl) ?_ fun cdv A outer s H vs Q E hr h tk po => ?_
  · rintro vs H Q E (⟨l, n, rfl, _⟩ | ⟨x, n, rfl, _⟩) <;> rfl
  rcases h with ⟨l, n, rfl, hn, hq⟩ | ⟨x, n, rfl, hx, hq⟩
  · refine ⟨H, [], Sat.whole, ?_⟩
    refine k_one ?_
    refine k_ret ?_
    refine k_andP ?_
    refine k_callB (id := "isinstance") T.b_isinstance ?_
    refine a_cons ?_
    refine k_n 0 ?_
    refine a_cons ?_
    refine k_ty (T := "str") T.b_str ?_
    refine a_nil ?_
    walk_at "c_isinstance"
    refine ⟨_, rfl, ?_⟩; apply Exists.intro; refine ⟨fun hk => ?_, ?_⟩
    {
    refine k_andP ?_
    refine k_cmp ?_
    refine k_callB (id := "len") T.b_len ?_
    refine a_cons ?_
    refine k_n 0 ?_
    refine a_nil ?_
    walk_at "c_len"
    refine k_n 1 ?_
    walk_at "opLtE"
    refine ⟨_, rfl, ?_⟩; apply Exists.intro; refine ⟨fun hk => ?_, ?_⟩
    {
    refine k_and1 ?_
    refine k_callB (id := "all") T.b_all ?_
    refine a_cons ?_
    refine k_le (k_lcm_s (j := 2) (fun c => .bl (decide (c ∈ ordL))) sc_are_letters.nd (blkOk_by (N := N_are_letters) (sc := defScope s_are_letters) (by decide +kernel)) ?_)
    refine k_n 0 ?_
    refine ⟨l, rfl, by omega, fun c hc D acc sb Hb Cb clb fpb => ?_, fun D => ?_⟩
    ·
      refine k_cmp ?_
      refine k_n 2 ?_
      refine k_gsE T.g_ORDER ?_
      walk_at "opIn"
      exact ⟨rfl, rfl, rfl⟩
    refine a_nil ?_
    refine c_all (bs := l.map fun c => decide (c ∈ ordL)) (by rw [List.map_map]; exact Or.inr (List.Mem.head _)) ?_
    exact ⟨rfl, rfl, by walk_at "sfx"⟩
    all_goals (try walk_at "side")
    }
    exact ⟨rfl, rfl, by walk_at "sfx"⟩
    all_goals (try walk_at "side")
    }
    · intro H' s
      have e : (l.map fun c => decide (c ∈ ordL)).all id = letB l := by unfold letB; rw [List.all_map]; rfl
      simp only [Bool.true_and]
      rw [e]
      exact hq H' s.ext
  · refine ⟨H, [], Sat.whole, ?_⟩
    refine k_one ?_
    refine k_ret ?_
    refine k_andP ?_
    refine k_callB (id := "isinstance") T.b_isinstance ?_
    refine a_cons ?_
    refine k_n 0 ?_
    refine a_cons ?_
    refine k_ty (T := "str") T.b_str ?_
    refine a_nil ?_
    refine c_isNT (fun H' s' => hx.le s'.ext) ?_
    refine ⟨_, rfl, false, fun hk => (by cases hk), ?_⟩
    exact fun H' s => hq H' s.ext
abbrev s_is_word : Stmt := top 11
abbrev N_is_word : List Str := ["thing", "at", "letter"]
theorem sc_is_word : FnScope N_is_word ["thing"] (defScope s_is_word) := ⟨rfl, rfl, rfl, by decide +kernel, rfl, by decide +kernel, by decide +kernel⟩
theorem cut_init (l : List Nat) : cut l none (some (-1)) = l.take (l.length - 1) := by
  unfold cut
  have e : HT.sIx l.length l.length (some (-1)) = l.length - 1 := by
    show (if (-1 : Int) < 0 then ((-1 : Int) + (l.length : Int)).toNat else min (-1 : Int).toNat l.length) = _
    rw [if_pos (by decide)]; omega
  rw [e, HT.sIx_none]
  simp
theorem map_mapIdx' {α β γ : Type} (l : List α) (f : Nat → α → β) (g : β → γ) : (l.mapIdx f).map g = l.mapIdx fun n c => g (f n c) := by apply List.ext_getElem <;> simp
def nbB (l : List Nat) : Bool := !((l.take (l.length - 1)).mapIdx fun n c => decide (l[n + 1]? = some (bk c))).any id
theorem nbB_iff (l : List Nat) : nbB l = true ↔ Wd l := by
  unfold nbB
  rw [rd_iff, Bool.not_eq_true', List.any_eq_false]
  constructor
  · intro h n x y h1 h2 e
    have hn : n + 1 < l.length := (List.getElem?_eq_some_iff.mp h2).1
    refine h (decide (l[n + 1]? = some (bk x))) ?_ (by simp [h2, e])
    rw [List.mem_mapIdx]
    refine ⟨n, by simp; omega, ?_⟩
    have h3 : (l.take (l.length - 1))[n]? = some x := by rw [List.getElem?_take_of_lt (by omega)]; exact h1
    obtain ⟨h4, h5⟩ := List.getElem?_eq_some_iff.mp h3
    rw [h5]
  · intro h b hb
    rw [List.mem_mapIdx] at hb
    obtain ⟨n, hn, rfl⟩ := hb
    rw [List.length_take] at hn
    rw [List.getElem_take]
    simp only [id, Bool.not_eq_true, decide_eq_false_iff_not]
    intro e
    exact h n l[n] (bk l[n]) (by simp) e rfl
/-- a word that may be handed in -/
def isW (l : List Nat) : Bool := decide (l.length ≤ 60) && letB l && nbB l
theorem isW_iff (l : List Nat) : isW l = true ↔ l.length ≤ 60 ∧ Let l ∧ Wd l := by
  unfold isW
  rw [Bool.and_eq_true, Bool.and_eq_true, nbB_iff, letB_iff, decide_eq_true_iff, and_assoc]
def sp_is_word (K : PySem.W.Frag) : Sp := fun vs H Q _ => (∃ l, vs = [.str (sOf l)] ∧ l.length ≤ 1000000 ∧ ∀ H', (∀ b o, H b = some o → H' b = some o) → Q (.bl (isW l)) H') ∨ ∃ x, vs = [x] ∧ NoTx K H x ∧ ∀ H', (∀ b o, H b = some o → H' b = some o) → Q (.bl false) H'
theorem use_is_word {K : PySem.W.Frag} {B : Hp} {L : HL} {Q : KQ} {E : XK} {l : List Nat} (q : Q (.bl (isW l)) B L) (h : l.length ≤ 1000000) : ∀ H, Sat B L H → sp_is_word K [.str (sOf l)] H (up Q) E := fun H s => .inl ⟨l, rfl, h, fun H' e => s.upq e q⟩
theorem use_is_wordN {K : PySem.W.Frag} {B : Hp} {L : HL} {Q : KQ} {E : XK} {x : V} (q : Q (.bl false) B L) (h : ∀ H, Sat B L H → NoTx K H x) : ∀ H, Sat B L H → sp_is_word K [x] H (up Q) E := fun H s => .inr ⟨x, rfl, h H s, fun H' e => s.upq e q⟩
theorem ok_is_word {f : Addr} {fd : FuncData} (F : Fun K "is_word" "is_word" s_is_word f fd) (hm : mg "is_word" = some (.ref f)) (T : Tx mg) (F_are_letters : Fn P w K mg base 1 "are_letters" (sp_are_letters K)) (F_back_of : Fn P w K mg base 1 "back_of" sp_back_of) : Fn P w K mg base 2 "is_word" (sp_is_word K) := by
  refine fn_ok F sc_is_word hm (fun _ _ _ _ _ _ us hl => match us, hl with | [_], _ => rfl) ?_ fun cdv A outer s H vs Q E hr h tk po => ?_
  · rintro vs H Q E (⟨l, rfl, _⟩ | ⟨x, rfl, _⟩) <;> rfl
  rcases h with ⟨l, rfl, hn, hq⟩ | ⟨x, rfl, hx, hq⟩
  · refine ⟨H, [], Sat.whole, ?_⟩
    refine k_cons ?_
    refine k_if ?_
    refine t_not ?_
    refine t_val ?_
    refine k_fn F_are_letters (hr.mono (by decide)) ?_
    refine a_cons ?_
    refine k_n 0 ?_
    refine a_cons ?_
    refine k_giE T.g_MOST_LETTERS ?_
    refine a_nil ?_
    refine use_are_letters ?_ hn
    refine ⟨_, rfl, ?_⟩
    refine ⟨fun hk => ?_, fun hk => ?_⟩
    · skip
      refine k_one ?_
      refine k_ret ?_
      refine k_bl ?_
      intro H' s
      have e : isW l = false := by
        unfold isW
        have : ((l.length : Int) ≤ 60) ↔ l.length ≤ 60 := by omega
        simp only [this, Bool.not_eq_true'] at hk
        rw [hk, Bool.false_and]
      rw [← e]
      exact hq H' s.ext
    · refine k_nil ?_
      have h60 : l.length ≤ 60 ∧ Let l := by
        rw [Bool.not_eq_false', Bool.and_eq_true, letB_iff, decide_eq_true_iff] at hk
        exact ⟨by omega, hk.2⟩
      refine k_one ?_
      refine k_ret ?_
      refine k_not ?_
      refine k_callB (id := "any") T.b_any ?_
      refine a_cons ?_
      refine k_le (k_lcm_es (i := 1) (j := 2) (fun n c => .bl (decide (l[n + 1]? = some (bk c)))) sc_is_word.nd (blkOk_by (N := N_is_word) (sc := defScope s_is_word) (by decide +kernel)) T.b_enumerate ?_)
      refine k_slice ?_
      refine k_n 0 ?_
      refine p_none ?_
      refine p_some ?_
      refine k_neg ?_
      refine k_int ?_
      refine ⟨_, rfl, ?_⟩
      refine ⟨_, rfl, ?_⟩
      walk_at "SLICE"
      rw [cut_init]
      refine ⟨_, rfl, by rw [List.length_take]; omega, fun n c hc D acc sb Hb Cb clb fpb => ?_, fun D => ?_⟩
      ·
        have hcl : n < (l.take (l.length - 1)).length := (List.getElem?_eq_some_iff.mp hc).1
        rw [List.length_take] at hcl
        have hc2 : l[n]? = some c := by rw [List.getElem?_take_of_lt (by omega)] at hc; exact hc
        have hn1 : l[n + 1]? = some (l[n + 1]'(by omega)) := by simp [show n + 1 < l.length by omega]
        refine k_cmp ?_
        refine k_ix ?_
        refine k_n 0 ?_
        refine k_bin ?_
        refine k_n 1 ?_
        refine k_int ?_
        walk_at "opAdd"
        refine i_sv (l[n + 1]'(by omega)) ?_ ?_ (by omega)
        refine k_fn F_back_of (hr.mono (by decide)) ?_
        refine a_cons ?_
        refine k_n 2 ?_
        refine a_nil ?_
        refine use_back_of ?_ (h60.2 c (List.mem_of_getElem? hc2))
        walk_at "opEq"
        · refine ⟨?_, rfl, rfl⟩
          rw [hn1]; simp
        · have e : ((n : Int) + 1) = ((n + 1 : Nat) : Int) := by omega
          rw [e, atI_n]; exact hn1
      refine a_nil ?_
      refine c_any (bs := (l.take (l.length - 1)).mapIdx fun n c => decide (l[n + 1]? = some (bk c))) (by rw [map_mapIdx']; exact Or.inr (List.Mem.head _)) ?_
      refine ⟨_, rfl, ?_⟩
      · intro H' s
        have e : isW l = !((l.take (l.length - 1)).mapIdx fun n c => decide (l[n + 1]? = some (bk c))).any id := by
          unfold isW
          rw [decide_eq_true h60.1, letB_iff.mpr h60.2]
          simp [nbB]
        rw [← e]
        exact hq H' s.ext
      · omega
  · refine ⟨H, [], Sat.whole, ?_⟩
    refine k_cons ?_
    refine k_if ?_
    refine t_not ?_
    refine t_val ?_
    refine k_fn F_are_letters (hr.mono (by decide)) ?_
    refine a_cons ?_
    refine k_n 0 ?_
    refine a_cons ?_
    refine k_giE T.g_MOST_LETTERS ?_
    refine a_nil ?_
    refine use_are_lettersN ?_ (fun H' s' => hx.le s'.ext)
    refine ⟨_, rfl, ?_⟩
    refine ⟨fun _ => ?_, fun hk => (by cases hk)⟩
    refine k_one ?_
    refine k_ret ?_
    refine k_bl ?_
    exact fun H' s => hq H' s.ext
abbrev s_need_word : Stmt := top 12
abbrev N_need_word : List Str := ["thing"]
theorem sc_need_word : FnScope N_need_word ["thing"] (defScope s_need_word) := ⟨rfl, rfl, rfl, by decide +kernel, rfl, by decide +kernel, by decide +kernel⟩
def sp_need_word (K : PySem.W.Frag) (C : Addr) : Sp := fun vs H Q E => (∃ l, vs = [.str (sOf l)] ∧ l.length ≤ 1000000 ∧ (isW l = true → ∀ H', (∀ b o, H b = some o → H' b = some o) → Q .non H') ∧ (isW l = false → ∀ H', (∀ b o, H b = some o → H' b = some o) → E (.ref C) none H')) ∨
  ∃ x, vs = [x] ∧ NoTx K H x ∧ ∀ H', (∀ b o, H b = some o → H' b = some o) → E (.ref C) none H'
theorem use_need_word {C : Addr} {B : Hp} {L : HL} {Q : KQ} {E : XK} {l : List Nat} (q : Q .non B L) (h : isW l = true) (hn : l.length ≤ 1000000) : ∀ H, Sat B L H → sp_need_word K C [.str (sOf l)] H (up Q) E := fun H s => .inl ⟨l, rfl, hn, fun _ H' e => s.upq e q, fun z => by rw [h] at z; cases z⟩
theorem ok_need_word {f C : Addr} {fd : FuncData} (F : Fun K "need_word" "need_word" s_need_word f fd) (hm : mg "need_word" = some (.ref f)) (T : Tx mg) (F_is_word : Fn P w K mg base 2 "is_word" (sp_is_word K)) (eW : ExK K mg "NoWord" C) : Fn P w K mg base 3 "need_word" (sp_need_word K C) := by
  refine fn_ok F sc_need_word hm (fun _ _ _ _ _ _ us hl => match us, hl with | [_], _ => rfl) ?_ fun cdv A outer s H vs Q E hr h tk po => ?_
  · rintro vs H Q E (⟨l, rfl, _⟩ | ⟨_, rfl, _⟩) <;> rfl
  rcases h with ⟨l, rfl, hn, hq, he⟩ | ⟨x, rfl, hx, he⟩
  · refine ⟨H, [], Sat.whole, ?_⟩
    refine k_one ?_
    refine k_if ?_
    refine t_not ?_
    refine t_val ?_
    refine k_fn F_is_word (hr.mono (by decide)) ?_
    refine a_cons ?_
    refine k_n 0 ?_
    refine a_nil ?_
    refine use_is_word ?_ hn
    refine ⟨_, rfl, ?_⟩
    refine ⟨fun hk => ?_, fun hk => ?_⟩
    · refine k_one (k_raise eW tk fun H' s => he (by simpa using hk) H' s.ext)
    · refine k_nil ?_
      exact fun H' s => hq (by simpa using hk) H' s.ext
  · refine ⟨H, [], Sat.whole, ?_⟩
    refine k_one ?_
    refine k_if ?_
    refine t_not ?_
    refine t_val ?_
    refine k_fn F_is_word (hr.mono (by decide)) ?_
    refine a_cons ?_
    refine k_n 0 ?_
    refine a_nil ?_
    refine use_is_wordN ?_ fun H' s' => hx.le s'.ext
    refine ⟨_, rfl, ?_⟩
    refine ⟨fun hk => ?_, fun hk => (by cases hk)⟩
    exact k_one (k_raise eW tk fun H' s => he H' s.ext)
abbrev s_is_whole : Stmt := top 15
abbrev N_is_whole : List Str := ["thing"]
theorem sc_is_whole : FnScope N_is_whole ["thing"] (defScope s_is_whole) := ⟨rfl, rfl, rfl, by decide +kernel, rfl, by decide +kernel, by decide +kernel⟩
def sp_is_whole (K : PySem.W.Frag) : Sp := fun vs H Q _ => ∃ v d, vs = [v] ∧ Dp K H v d ∧ ∀ H', (∀ b o, H b = some o → H' b = some o) → Q (.bl (whlD d)) H'
theorem use_is_whole {K : PySem.W.Frag} {B : Hp} {L : HL} {Q : KQ} {E : XK} {v : V} {d : PyData} (h : ∀ H, Sat B L H → Dp K H v d) (q : Q (.bl (whlD d)) B L) : ∀ H, Sat B L H → sp_is_whole K [v] H (up Q) E := fun H s => ⟨v, d, rfl, h H s, fun H' e => s.upq e q⟩
theorem ok_is_whole {f : Addr} {fd : FuncData} (F : Fun K "is_whole" "is_whole" s_is_whole f fd) (hm : mg "is_whole" = some (.ref f)) (T : Tx mg) : Fn P w K mg base 1 "is_whole" (sp_is_whole K) := by
  refine fn_ok F sc_is_whole hm (fun _ _ _ _ _ _ us hl => match us, hl with | [_], _ => rfl) ?_ fun cdv A outer s H vs Q E hr h tk po => ?_
  · rintro vs H Q E ⟨_, _, rfl, _⟩; rfl
  obtain ⟨v, d, rfl, hd, hq⟩ := h
  refine ⟨H, [], Sat.whole, ?_⟩
  refine k_one ?_
  refine k_ret ?_
  refine k_andP ?_
  refine k_callB (id := "isinstance") T.b_isinstance ?_
  refine a_cons ?_
  refine k_n 0 ?_
  refine a_cons ?_
  refine k_ty (T := "int") T.b_int ?_
  refine a_nil ?_
  refine c_isD (d := d) (fun H' s' => dp_le s'.ext _ _ hd) (kit_int d) ?_
  refine ⟨_, rfl, ?_⟩; apply Exists.intro; refine ⟨fun hk => ?_, ?_⟩
  {
  refine k_and1 ?_
  refine k_not ?_
  refine k_callB (id := "isinstance") T.b_isinstance ?_
  refine a_cons ?_
  refine k_n 0 ?_
  refine a_cons ?_
  refine k_ty (T := "bool") T.b_bool ?_
  refine a_nil ?_
  refine c_isD (d := d) (fun H' s' => dp_le s'.ext _ _ hd) (kit_bool d) ?_
  refine ⟨_, rfl, ?_⟩
  exact ⟨rfl, rfl, by walk_at "sfx"⟩
  all_goals (try walk_at "side")
  }
  rw [whl_eq]
  exact fun H' s => hq H' s.ext
abbrev s_is_road : Stmt := top 18
abbrev N_is_road : List Str := ["thing", "many", "first", "letter", "last"]
theorem sc_is_road : FnScope N_is_road ["thing", "many"] (defScope s_is_road) := ⟨rfl, rfl, rfl, by decide +kernel, rfl, by decide +kernel, by decide +kernel⟩
abbrev Road := Nat × Nat × Nat
def rdV (r : Road) : List V := [.int (r.1 : Nat), .str (sOf [r.2.1]), .int (r.2.2 : Nat)]
def rdK (r : Road) : List Key := [.inl (r.1 : Nat), .inr (sOf [r.2.1]), .inl (r.2.2 : Nat)]
def rdD (r : Road) : PyData := .tuple [.int (r.1 : Nat), .str (sOf [r.2.1]), .int (r.2.2 : Nat)]
theorem rdK_V (r : Road) : (rdK r).map kV = rdV r := rfl
structure GoodR (m : Nat) (r : Road) : Prop where
  f : r.1 < m
  c : r.2.1 ∈ ltL
  l : r.2.2 < m
def IsRoad (m : Nat) (d : PyData) : Prop := ∃ r, GoodR m r ∧ d = rdD r
/-- the texts in a tuple are no longer than can be -/
def ShortT (d : PyData) : Prop := ∀ a s b, d = .tuple [a, .str s, b] → s.cps.toList.length ≤ 1000000
def sp_is_road (K : PySem.W.Frag) : Sp := fun vs H Q _ => ∃ (v : V) (d : PyData) (m : Nat), vs = [v, .int m] ∧ Dp K H v d ∧ ShortT d ∧ ∀ H' b, (b = true ↔ IsRoad m d) → (∀ b o, H b = some o → H' b = some o) → Q (.bl b) H'
theorem use_is_road {K : PySem.W.Frag} {B : Hp} {L : HL} {Q : KQ} {E : XK} {v : V} {d : PyData} {m : Nat} (h : ∀ H, Sat B L H → Dp K H v d) (hs : ShortT d) (q : ∀ b, (b = true ↔ IsRoad m d) → Q (.bl b) B L) : ∀ H, Sat B L H → sp_is_road K [v, .int m] H (up Q) E := fun H s => ⟨v, d, m, rfl, h H s, hs, fun H' b hb e => s.upq e (q b hb)⟩
theorem dpa_len {K : PySem.W.Frag} {H : Hp} : ∀ {xs : List V} {ds : List PyData}, DpAll K H xs ds → xs.length = ds.length
  | _, _, .nil => rfl
  | _, _, .cons _ t => congrArg (· + 1) (dpa_len t)
theorem rd_not {m : Nat} {d : PyData} (h : ∀ r, d ≠ rdD r) : (false = true ↔ IsRoad m d) := ⟨fun z => (nomatch z), fun ⟨r, _, e⟩ => absurd e (h r)⟩
theorem rdD_tup {a b c : PyData} {r : Road} (e : PyData.tuple [a, b, c] = rdD r) : a = .int (r.1 : Nat) ∧ b = .str (sOf [r.2.1]) ∧ c = .int (r.2.2 : Nat) := by
  unfold rdD at e
  injection e with e
  injection e with e1 e
  injection e with e2 e
  injection e with e3 e
  exact ⟨e1, e2, e3⟩
theorem rdD_str {a c : PyData} {l : List Nat} {r : Road} (e : PyData.tuple [a, .str (sOf l), c] = rdD r) : l = [r.2.1] := by
  have h := (rdD_tup e).2.1
  injection h with h
  exact sOf_inj.mp (congrArg V.str h)
theorem whl_int {K : PySem.W.Frag} {H : Hp} {x : V} {d : PyData} (h : Dp K H x d) (hw : whlD d = true) : ∃ i, x = .int i ∧ d = .int i := by
  cases h with
  | int i => exact ⟨i, rfl, rfl⟩
  | _ => cases hw
theorem ok_is_road {f : Addr} {fd : FuncData} (F : Fun K "is_road" "is_road" s_is_road f fd) (hm : mg "is_road" = some (.ref f)) (T : Tx mg) (F_is_whole : Fn P w K mg base 1 "is_whole" (sp_is_whole K)) : Fn P w K mg base 2 "is_road" (sp_is_road K) := by
  refine fn_ok F sc_is_road hm (fun _ _ _ _ _ _ us hl => match us, hl with | [_, _], _ => rfl) ?_ fun cdv A outer s H vs Q E hr h tk po => ?_
  · rintro vs H Q E ⟨_, _, _, rfl, _⟩; rfl
  obtain ⟨v, d, m, rfl, hd, hsh, hq⟩ := h
  refine ⟨H, [], Sat.whole, ?_⟩
  by_cases ht : isTup d = true
  · obtain ⟨p, xs, ds, rfl, rfl, hp, hxs⟩ : ∃ p xs ds, v = .ref p ∧ d = .tuple ds ∧ SqT K H p xs ∧ DpAll K H xs ds := by
      cases hd with
      | tup h1 h2 => exact ⟨_, _, _, rfl, rfl, h1, h2⟩
      | _ => cases ht
    by_cases hl : xs.length = 3
    · obtain ⟨x1, x2, x3, d1, d2, d3, rfl, rfl, h1, h2, h3⟩ : ∃ x1 x2 x3 d1 d2 d3, xs = [x1, x2, x3] ∧ ds = [d1, d2, d3] ∧ Dp K H x1 d1 ∧ Dp K H x2 d2 ∧ Dp K H x3 d3 := by
        cases hxs with
        | nil => cases hl
        | cons h1 t =>
          cases t with
          | nil => cases hl
          | cons h2 t =>
            cases t with
            | nil => cases hl
            | cons h3 t =>
              cases t with
              | nil => exact ⟨_, _, _, _, _, _, rfl, rfl, h1, h2, h3⟩
              | cons _ _ => simp at hl
      by_cases hs : isStr d2 = true
      · obtain ⟨l, rfl, rfl⟩ : ∃ l, x2 = .str (sOf l) ∧ d2 = .str (sOf l) := by
          cases h2 with
          | str s => exact ⟨s.cps.toList, by rw [show sOf s.cps.toList = s by simp [sOf]], by rw [show sOf s.cps.toList = s by simp [sOf]]⟩
          | _ => cases hs
        have hll : l.length ≤ 1000000 := hsh _ _ _ rfl
        refine k_cons ?_
        refine k_if ?_
        refine t_w ?_
        refine w_orP ?_
        refine t_not ?_
        refine t_val ?_
        refine k_callB (id := "isinstance") T.b_isinstance ?_
        refine a_cons ?_
        refine k_n 0 ?_
        refine a_cons ?_
        refine k_ty (T := "tuple") T.b_tuple ?_
        refine a_nil ?_
        refine c_isD (d := .tuple [d1, .str (sOf l), d3]) (k := true) (fun H' s' => dp_le s'.ext _ _ hd) (kit_tup _) ?_
        refine ⟨_, rfl, ?_⟩
        apply Exists.intro; refine ⟨fun hk => ?_, ?_⟩
        {
        refine w_orP ?_
        refine t_cmp ?_
        refine k_callB (id := "len") T.b_len ?_
        refine a_cons ?_
        refine k_n 0 ?_
        refine a_nil ?_
        refine c_lent (.inl hp) ?_
        refine k_int ?_
        walk_at "opNotEq"
        refine ⟨_, rfl, ?_⟩
        apply Exists.intro; refine ⟨fun hk => ?_, ?_⟩
        {
        refine w_or1 ?_
        refine t_not ?_
        refine t_val ?_
        refine k_callB (id := "isinstance") T.b_isinstance ?_
        refine a_cons ?_
        refine k_ix ?_
        refine k_n 0 ?_
        refine k_int ?_
        refine i_tv (.str (sOf l)) (.inl hp) ?_ rfl
        refine a_cons ?_
        refine k_ty (T := "str") T.b_str ?_
        refine a_nil ?_
        refine c_isS (k := true) ?_
        refine ⟨_, rfl, ?_⟩
        exact ⟨rfl, rfl, by walk_at "sfx"⟩
        all_goals (try walk_at "side")
        }
        exact ⟨rfl, rfl, by walk_at "sfx"⟩
        all_goals (try walk_at "side")
        }
        refine ⟨fun z => (by simp at z), fun _ => ?_⟩
        refine k_nil ?_
        refine k_cons ?_
        refine k_asg ?_
        refine k_n 0 ?_
        refine g_tup (.inl hp) rfl ?_
        refine gs_cons ?_
        refine g_name 2 ?_ sc_is_road.nd
        refine gs_cons ?_
        refine g_name 3 ?_ sc_is_road.nd
        refine gs_cons ?_
        refine g_name 4 ?_ sc_is_road.nd
        refine gs_nil ?_
        show kSs _ _ _ _ _ _
        refine k_norm (by simp only [L2.start, N_is_road, List.map_cons, List.map_nil, List.length_cons, List.length_nil, Nat.reduceAdd, Nat.reduceSub, List.replicate_succ, List.replicate_zero, List.cons_append, List.nil_append, List.set_cons_succ, List.set_cons_zero]; exact rfl) ?_
        by_cases h1l : l.length = 1
        · obtain ⟨c, rfl⟩ := List.length_eq_one_iff.mp h1l
          refine k_cons ?_
          refine k_if ?_
          refine t_w ?_
          refine w_orP ?_
          refine t_cmp ?_
          refine k_callB (id := "len") T.b_len ?_
          refine a_cons ?_
          refine k_n 3 ?_
          refine a_nil ?_
          refine c_lens ?_ (by simp)
          refine k_int ?_
          walk_at "opNotEq"
          refine ⟨_, rfl, ?_⟩
          apply Exists.intro; refine ⟨fun hk => ?_, ?_⟩
          {
          refine w_or1 ?_
          refine t_cmp ?_
          refine k_n 3 ?_
          refine k_gsE T.g_LETTERS ?_
          walk_at "opNotIn"
          refine ⟨_, rfl, ?_⟩
          exact ⟨rfl, rfl, by walk_at "sfx"⟩
          all_goals (try walk_at "side")
          }
          refine ⟨fun hk => ?_, fun hk => ?_⟩
          · skip
            refine k_one ?_
            refine k_ret ?_
            refine k_bl ?_
            have hc : c ∉ ltL := by simpa using hk
            exact fun H' s => hq H' false ⟨fun z => (nomatch z), fun ⟨r, g, e⟩ => absurd (by have := rdD_str e; injection this with this; rw [this]; exact g.c) hc⟩ s.ext
          · refine k_nil ?_
            have hc : c ∈ ltL := by simpa using hk
            by_cases w1 : whlD d1 = true
            · obtain ⟨i, rfl, rfl⟩ := whl_int h1 w1
              by_cases w3 : whlD d3 = true
              · obtain ⟨j, rfl, rfl⟩ := whl_int h3 w3
                refine k_one ?_
                refine k_ret ?_
                refine k_andP ?_
                refine k_fn F_is_whole (hr.mono (by decide)) ?_
                refine a_cons ?_
                refine k_n 2 ?_
                refine a_nil ?_
                refine use_is_whole (d := .int i) (fun H' s' => dp_le s'.ext _ _ h1) ?_
                refine ⟨_, rfl, ?_⟩; apply Exists.intro; refine ⟨fun hk => ?_, ?_⟩
                {
                refine k_andP ?_
                refine k_fn F_is_whole (hr.mono (by decide)) ?_
                refine a_cons ?_
                refine k_n 4 ?_
                refine a_nil ?_
                refine use_is_whole (d := .int j) (fun H' s' => dp_le s'.ext _ _ h3) ?_
                refine ⟨_, rfl, ?_⟩; apply Exists.intro; refine ⟨fun hk => ?_, ?_⟩
                {
                refine k_andP ?_
                refine k_chainP ?_
                refine k_int ?_
                refine k_n 2 ?_
                walk_at "opLtE"
                refine ⟨_, rfl, ?_⟩; apply Exists.intro; refine ⟨fun hk => ?_, ?_⟩
                {
                refine k_n 1 ?_
                walk_at "opLt"
                exact ⟨rfl, rfl, by walk_at "sfx"⟩
                all_goals (try walk_at "side")
                }
                refine ⟨_, rfl, ?_⟩; apply Exists.intro; refine ⟨fun hk => ?_, ?_⟩
                {
                refine k_and1 ?_
                refine k_chainP ?_
                refine k_int ?_
                refine k_n 4 ?_
                walk_at "opLtE"
                refine ⟨_, rfl, ?_⟩; apply Exists.intro; refine ⟨fun hk => ?_, ?_⟩
                {
                refine k_n 1 ?_
                walk_at "opLt"
                exact ⟨rfl, rfl, by walk_at "sfx"⟩
                all_goals (try walk_at "side")
                }
                exact ⟨rfl, rfl, by walk_at "sfx"⟩
                all_goals (try walk_at "side")
                }
                exact ⟨rfl, rfl, by walk_at "sfx"⟩
                all_goals (try walk_at "side")
                }
                exact ⟨rfl, rfl, by walk_at "sfx"⟩
                all_goals (try walk_at "side")
                }
                refine fun H' s => hq H' _ ?_ s.ext
                simp only [whlD, Bool.true_and, Bool.and_eq_true, decide_eq_true_eq]
                constructor
                · rintro ⟨⟨a1, a2⟩, b1, b2⟩
                  refine ⟨(i.toNat, c, j.toNat), ⟨by show i.toNat < m; omega, hc, by show j.toNat < m; omega⟩, ?_⟩
                  unfold rdD
                  have e1 : ((i.toNat : Nat) : Int) = i := by omega
                  have e2 : ((j.toNat : Nat) : Int) = j := by omega
                  simp only [e1, e2]
                · rintro ⟨r, g, e⟩
                  have ⟨e1, _, e3⟩ := rdD_tup e
                  injection e1 with e1
                  injection e3 with e3
                  have := g.f
                  have := g.l
                  omega
              · refine k_one ?_
                refine k_ret ?_
                refine k_andP ?_
                refine k_fn F_is_whole (hr.mono (by decide)) ?_
                refine a_cons ?_
                refine k_n 2 ?_
                refine a_nil ?_
                refine use_is_whole (d := .int i) (fun H' s' => dp_le s'.ext _ _ h1) ?_
                refine ⟨_, rfl, false, fun hk => ?_, ?_⟩
                · refine k_andP ?_
                  refine k_fn F_is_whole (hr.mono (by decide)) ?_
                  refine a_cons ?_
                  refine k_n 4 ?_
                  refine a_nil ?_
                  refine use_is_whole (d := d3) (fun H' s' => dp_le s'.ext _ _ h3) ?_
                  refine ⟨_, rfl, false, fun hk => absurd hk w3, ?_⟩
                  exact ⟨by rw [Bool.and_false], rfl, by walk_at "sfx"⟩
                · exact fun H' s => hq H' _ ⟨fun z => (by simp at z), fun ⟨r, g, e⟩ => absurd (by rw [(rdD_tup e).2.2]; rfl) w3⟩ s.ext
            · refine k_one ?_
              refine k_ret ?_
              refine k_andP ?_
              refine k_fn F_is_whole (hr.mono (by decide)) ?_
              refine a_cons ?_
              refine k_n 2 ?_
              refine a_nil ?_
              refine use_is_whole (d := d1) (fun H' s' => dp_le s'.ext _ _ h1) ?_
              refine ⟨_, rfl, false, fun hk => absurd hk w1, ?_⟩
              exact fun H' s => hq H' _ ⟨fun z => (by simp at z), fun ⟨r, g, e⟩ => absurd (by rw [(rdD_tup e).1]; rfl) w1⟩ s.ext
        · refine k_cons ?_
          refine k_if ?_
          refine t_w ?_
          refine w_orP ?_
          refine t_cmp ?_
          refine k_callB (id := "len") T.b_len ?_
          refine a_cons ?_
          refine k_n 3 ?_
          refine a_nil ?_
          refine c_lens ?_ (by omega)
          refine k_int ?_
          walk_at "opNotEq"
          refine ⟨_, rfl, ?_⟩
          refine ⟨false, fun hk => (by simp at hk; omega), ?_⟩
          refine ⟨fun hk => ?_, fun hk => (by simp at hk; omega)⟩
          refine k_one ?_
          refine k_ret ?_
          refine k_bl ?_
          exact fun H' s => hq H' false (rd_not fun r e => absurd (congrArg List.length (rdD_str e)) (by simpa using h1l)) s.ext
      · refine k_cons ?_
        refine k_if ?_
        refine t_w ?_
        refine w_orP ?_
        refine t_not ?_
        refine t_val ?_
        refine k_callB (id := "isinstance") T.b_isinstance ?_
        refine a_cons ?_
        refine k_n 0 ?_
        refine a_cons ?_
        refine k_ty (T := "tuple") T.b_tuple ?_
        refine a_nil ?_
        refine c_isD (d := .tuple [d1, d2, d3]) (k := true) (fun H' s' => dp_le s'.ext _ _ hd) (kit_tup _) ?_
        refine ⟨_, rfl, ?_⟩
        apply Exists.intro; refine ⟨fun hk => ?_, ?_⟩
        {
        refine w_orP ?_
        refine t_cmp ?_
        refine k_callB (id := "len") T.b_len ?_
        refine a_cons ?_
        refine k_n 0 ?_
        refine a_nil ?_
        refine c_lent (.inl hp) ?_
        refine k_int ?_
        walk_at "opNotEq"
        refine ⟨_, rfl, ?_⟩
        apply Exists.intro; refine ⟨fun hk => ?_, ?_⟩
        {
        refine w_or1 ?_
        refine t_not ?_
        refine t_val ?_
        refine k_callB (id := "isinstance") T.b_isinstance ?_
        refine a_cons ?_
        refine k_ix ?_
        refine k_n 0 ?_
        refine k_int ?_
        refine i_tv x2 (.inl hp) ?_ rfl
        refine a_cons ?_
        refine k_ty (T := "str") T.b_str ?_
        refine a_nil ?_
        refine c_isD (d := d2) (k := isStr d2) (fun H' s' => dp_le s'.ext _ _ h2) (kit_str _) ?_
        refine ⟨_, rfl, ?_⟩
        exact ⟨rfl, rfl, by walk_at "sfx"⟩
        all_goals (try walk_at "side")
        }
        exact ⟨rfl, rfl, by walk_at "sfx"⟩
        all_goals (try walk_at "side")
        }
        refine ⟨fun _ => ?_, fun hk => (by simp [hs] at hk)⟩
        refine k_one ?_
        refine k_ret ?_
        refine k_bl ?_
        exact fun H' s => hq H' false (rd_not fun r e => absurd (by rw [(rdD_tup e).2.1]; rfl) hs) s.ext
    · refine k_cons ?_
      refine k_if ?_
      refine t_w ?_
      refine w_orP ?_
      refine t_not ?_
      refine t_val ?_
      refine k_callB (id := "isinstance") T.b_isinstance ?_
      refine a_cons ?_
      refine k_n 0 ?_
      refine a_cons ?_
      refine k_ty (T := "tuple") T.b_tuple ?_
      refine a_nil ?_
      refine c_isD (d := .tuple ds) (k := true) (fun H' s' => dp_le s'.ext _ _ hd) (kit_tup _) ?_
      refine ⟨_, rfl, ?_⟩
      refine ⟨true, fun _ => ?_, ?_⟩
      · refine w_orP ?_
        refine t_cmp ?_
        refine k_callB (id := "len") T.b_len ?_
        refine a_cons ?_
        refine k_n 0 ?_
        refine a_nil ?_
        refine c_lent (.inl hp) ?_
        refine k_int ?_
        walk_at "opNotEq"
        refine ⟨_, rfl, ?_⟩
        refine ⟨false, fun hk => (by simp at hk; omega), ?_⟩
        refine ⟨?_, rfl, by walk_at "sfx"⟩
        simp; omega
      refine ⟨fun _ => ?_, fun hk => (by simp at hk)⟩
      refine k_one ?_
      refine k_ret ?_
      refine k_bl ?_
      exact fun H' s => hq H' false (rd_not fun r e => hl (by rw [dpa_len hxs]; unfold rdD at e; injection e with e; rw [e]; rfl)) s.ext
  · refine k_cons ?_
    refine k_if ?_
    refine t_w ?_
    refine w_orP ?_
    refine t_not ?_
    refine t_val ?_
    refine k_callB (id := "isinstance") T.b_isinstance ?_
    refine a_cons ?_
    refine k_n 0 ?_
    refine a_cons ?_
    refine k_ty (T := "tuple") T.b_tuple ?_
    refine a_nil ?_
    refine c_isD (d := d) (k := false) (fun H' s' => dp_le s'.ext _ _ hd) (by rw [kit_tup]; exact congrArg _ (by simpa using ht)) ?_
    refine ⟨_, rfl, ?_⟩
    refine ⟨true, fun hk => (by simp at hk), ?_⟩
    refine ⟨fun _ => ?_, fun hk => (by simp at hk)⟩
    refine k_one ?_
    refine k_ret ?_
    refine k_bl ?_
    exact fun H' s => hq H' false (rd_not fun r e => ht (by rw [e]; rfl)) s.ext
/-! ### steps: plain -/
/-- from a place by a letter to a place -/
abbrev Arc := (Nat × Nat) × Nat
def arcs (r : Road) : List Arc := [((r.1, r.2.1), r.2.2), ((r.2.2, bk r.2.1), r.1)]
def arcV (a : Arc) : List V := [.int (a.1.1 : Nat), .str (sOf [a.1.2]), .int (a.2 : Nat)]
def stK (a : Nat × Nat) : List Key := [.inl (a.1 : Nat), .inr (sOf [a.2])]
abbrev Dct := List (List Key × V)
def setA (kvs : Dct) (a : Arc) : Option Dct :=
  match valV kvs (stK a.1) with
  | some w => if w = .int (a.2 : Nat) then some kvs else none
  | none => some (putK kvs (stK a.1) (.int (a.2 : Nat)))
def foldA : Dct → List Arc → Option Dct
  | kvs, [] => some kvs
  | kvs, a :: as => (setA kvs a).bind fun k => foldA k as
theorem foldA_app : ∀ (as bs : List Arc) (kvs : Dct), foldA kvs (as ++ bs) = (foldA kvs as).bind fun k => foldA k bs
  | [], _, _ => rfl
  | a :: as, bs, kvs => by
    show (setA kvs a).bind (fun k => foldA k (as ++ bs)) = ((setA kvs a).bind fun k => foldA k as).bind _
    cases setA kvs a with
    | none => rfl
    | some k => exact foldA_app as bs k
def stepsF (rs : List Road) : Option Dct := foldA [] (rs.flatMap arcs)
/-- the values are places -/
def AllN (kvs : Dct) : Prop := ∀ k v, valV kvs k = some v → ∃ n : Nat, v = .int (n : Nat)
theorem stK_inj {a b : Nat × Nat} (h : stK a = stK b) : a = b := by
  unfold stK at h
  injection h with h1 h
  injection h with h2 _
  injection h1 with h1
  injection h2 with h2
  have e2 : [a.2] = [b.2] := sOf_inj.mp (congrArg V.str h2)
  injection e2 with e2
  have e1 : a.1 = b.1 := by omega
  exact Prod.ext e1 e2
theorem val_put_new {kvs : Dct} {k : List Key} {v : V} (h : valV kvs k = none) (j : List Key) : valV (putK kvs k v) j = if j = k then some v else valV kvs j := by
  unfold putK
  rw [if_neg (by rw [valV_any, h]; decide)]
  exact valV_snoc k j v kvs h
theorem setA_none {kvs : Dct} {a : Arc} {w : V} (h : valV kvs (stK a.1) = some w) (hw : ¬ w = .int (a.2 : Nat)) : setA kvs a = none := by unfold setA; rw [h]; exact if_neg hw
theorem setA_same {kvs : Dct} {a : Arc} (h : valV kvs (stK a.1) = some (.int (a.2 : Nat))) : setA kvs a = some kvs := by unfold setA; rw [h]; exact if_pos rfl
theorem setA_new {kvs : Dct} {a : Arc} (h : valV kvs (stK a.1) = none) : setA kvs a = some (putK kvs (stK a.1) (.int (a.2 : Nat))) := by unfold setA; rw [h]
theorem allN_put {kvs : Dct} {k : List Key} {n : Nat} (hA : AllN kvs) (h : valV kvs k = none) : AllN (putK kvs k (.int (n : Nat))) := fun j v hv => by
  rw [val_put_new h] at hv
  split at hv
  · exact ⟨n, (Option.some.inj hv).symm⟩
  · exact hA j v hv
theorem arc_cases {r : Road} {j : Nat} {a : Arc} (h : (arcs r)[j]? = some a) : (arcs r).take (j + 1) = (arcs r).take j ++ [a] := by
  rw [List.take_add_one, h]; rfl
theorem road_split {rs : List Road} {i j : Nat} {r : Road} {a : Arc} (h : rs[i]? = some r) (ha : (arcs r)[j]? = some a) : ∃ z, rs.flatMap arcs = ((rs.take i).flatMap arcs ++ (arcs r).take j ++ [a]) ++ z := by
  obtain ⟨hi, e⟩ := List.getElem?_eq_some_iff.mp h
  refine ⟨(arcs r).drop (j + 1) ++ (rs.drop (i + 1)).flatMap arcs, ?_⟩
  have h1 : rs = rs.take i ++ r :: rs.drop (i + 1) := by
    conv => lhs; rw [← List.take_append_drop i rs, List.drop_eq_getElem_cons hi, e]
  have h2 : arcs r = (arcs r).take j ++ [a] ++ (arcs r).drop (j + 1) := by
    rw [← arc_cases ha, List.take_append_drop]
  calc rs.flatMap arcs = (rs.take i ++ r :: rs.drop (i + 1)).flatMap arcs := by rw [← h1]
    _ = (rs.take i).flatMap arcs ++ (arcs r ++ (rs.drop (i + 1)).flatMap arcs) := by rw [List.flatMap_append, List.flatMap_cons]
    _ = _ := by
      conv => lhs; rw [h2]
      simp only [List.append_assoc]
theorem flat_take {rs : List Road} {i : Nat} {r : Road} (h : rs[i]? = some r) : (rs.take (i + 1)).flatMap arcs = (rs.take i).flatMap arcs ++ arcs r := by
  rw [List.take_add_one, h, List.flatMap_append]
  simp
theorem none_end {rs : List Road} {pre : List Arc} {kvs : Dct} {a : Arc} {z : List Arc} (e : rs.flatMap arcs = (pre ++ [a]) ++ z) (h : foldA [] pre = some kvs) (hn : setA kvs a = none) : stepsF rs = none := by
  unfold stepsF
  rw [e, foldA_app, foldA_app, h]
  show ((setA kvs a).bind _).bind _ = none
  rw [hn]; rfl
theorem some_next {pre : List Arc} {kvs k2 : Dct} {a : Arc} (h : foldA [] pre = some kvs) (hn : setA kvs a = some k2) : foldA [] (pre ++ [a]) = some k2 := by
  rw [foldA_app, h]
  show (setA kvs a).bind _ = _
  rw [hn]; rfl
theorem lt_ord {c : Nat} (h : c ∈ ltL) : c ∈ ordL := by
  have : ∀ c ∈ ltL, c ∈ ordL := by decide
  exact this c h
abbrev s_steps_of : Stmt := top 19
abbrev N_steps_of : List Str := ["roads", "found", "first", "letter", "last", "here", "sign", "there"]
theorem sc_steps_of : FnScope N_steps_of ["roads"] (defScope s_steps_of) := ⟨rfl, rfl, rfl, by decide +kernel, rfl, by decide +kernel, by decide +kernel⟩
/-- a list of roads, each a tuple of its own -/
def RdM (K : PySem.W.Frag) (H : Hp) (M : List (Addr × Road)) : Prop := ∀ z ∈ M, SqT K H z.1 (rdV z.2)
def rV (M : List (Addr × Road)) : List V := M.map fun z => V.ref z.1
def sp_steps_of (K : PySem.W.Frag) : Sp := fun vs H Q _ => ∃ (a : Addr) (M : List (Addr × Road)), vs = [.ref a] ∧ SqL K H a (rV M) ∧ RdM K H M ∧ ((∀ z ∈ M, z.2.2.1 ∈ ltL) ∧ M.length ≤ 1000) ∧ (stepsF (M.map (·.2)) = none → ∀ H', (∀ b o, H b = some o → H' b = some o) → Q .non H') ∧
  ∀ kvs, stepsF (M.map (·.2)) = some kvs → ∀ H' d, (∀ b o, H b = some o → H' b = some o) → H d = none → H' d = some (.dT kvs) → Q (.ref d) H'
theorem use_steps_of {B : Hp} {L : HL} {Q : KQ} {E : XK} {a : Addr} {M : List (Addr × Road)} (hl : Ls K B L a (rV M)) (hM : ∀ z ∈ M, Tp K B L z.1 (rdV z.2)) (h : (∀ z ∈ M, z.2.2.1 ∈ ltL) ∧ M.length ≤ 1000) (q0 : stepsF (M.map (·.2)) = none → Q .non B L) (q : ∀ kvs, stepsF (M.map (·.2)) = some kvs → ∀ d, Q (.ref d) B ((d, .dT kvs) :: L)) : ∀ H, Sat B L H → sp_steps_of K [.ref a] H (up Q) E :=
  fun H s => ⟨a, M, rfl, hl.at s, fun z hz => (hM z hz).at s, h, fun hn H' e => s.upq e (q0 hn), fun kvs hk H' d e h1 h2 => ⟨B, _, s.new' h1 e h2, q kvs hk d⟩⟩
theorem ok_steps_of {f : Addr} {fd : FuncData} (F : Fun K "steps_of" "steps_of" s_steps_of f fd) (hm : mg "steps_of" = some (.ref f)) (T : Tx mg) (F_back_of : Fn P w K mg base 1 "back_of" sp_back_of) : Fn P w K mg base 2 "steps_of" (sp_steps_of K) := by
  refine fn_ok F sc_steps_of hm (fun _ _ _ _ _ _ us hl => match us, hl with | [_], _ => rfl) ?_ fun cdv A outer s H vs Q E hr h tk po => ?_
  · rintro vs H Q E ⟨_, _, rfl, _⟩; rfl
  obtain ⟨a, M, rfl, ha, hM, ⟨hc, hn⟩, hq0, hq⟩ := h
  refine ⟨H, [], Sat.whole, ?_⟩
  refine k_cons ?_
  refine k_set 1 ?_ sc_steps_of.nd
  refine k_dT0 fun d => ?_
  show kSs _ _ _ _ _ _
  refine k_norm (by simp only [L2.start, N_steps_of, List.map_cons, List.map_nil, List.length_cons, List.length_nil, Nat.reduceAdd, Nat.reduceSub, List.replicate_succ, List.replicate_zero, List.cons_append, List.nil_append, List.set_cons_succ, List.set_cons_zero]; exact rfl) ?_
  refine k_cons ?_
  refine k_for_l (fun i σ B L => ∃ v2 v3 v4 v5 v6 v7 kvs, σ = [some (.ref a), some (.ref d), v2, v3, v4, v5, v6, v7] ∧ Le H B ∧ (d, HO.dT kvs) ∈ L ∧ foldA [] (((M.map (·.2)).take i).flatMap arcs) = some kvs ∧ AllN kvs ∧ kvs.length ≤ 2 * i) po ?_
  refine k_n 0 ?_
  refine ⟨a, rV M, rfl, .inl ha, ⟨_, _, _, _, _, _, [], rfl, fun _ _ z => z, List.mem_cons_self, rfl, fun _ _ z => (nomatch z), Nat.le_refl _⟩, ?_, ?_, ?_⟩
  · rintro i σ B L hi ⟨_, _, _, _, _, _, _, _, hle, _⟩
    exact .inl (ext_l hle ha)
  · rintro i x σ B L hx ⟨v2, v3, v4, v5, v6, v7, kvs, rfl, hle, hmd, hfo, hA, hkl⟩
    obtain ⟨r, hr1, hr2⟩ : ∃ z, M[i]? = some z ∧ x = .ref z.1 := by unfold rV at hx; rw [List.getElem?_map] at hx; cases h : M[i]? with | none => rw [h] at hx; cases hx | some z => rw [h] at hx; exact ⟨z, rfl, (Option.some.inj hx).symm⟩
    obtain ⟨pz, r⟩ := r
    subst hr2
    have hzm := List.mem_of_getElem? hr1
    have hrc : r.2.1 ∈ ltL := hc _ hzm
    have hri : (M.map (·.2))[i]? = some r := by rw [List.getElem?_map, hr1]; rfl
    have hiM : i < M.length := (List.getElem?_eq_some_iff.mp hr1).1
    refine g_tup (xs := rdV r) (.inl (ext_t hle (hM _ hzm))) rfl ?_
    refine gs_cons ?_
    refine g_name 2 ?_ sc_steps_of.nd
    refine gs_cons ?_
    refine g_name 3 ?_ sc_steps_of.nd
    refine gs_cons ?_
    refine g_name 4 ?_ sc_steps_of.nd
    refine gs_nil ?_
    show kSs _ _ _ _ _ _
    refine k_norm (by simp only [L2.start, N_steps_of, List.map_cons, List.map_nil, List.length_cons, List.length_nil, Nat.reduceAdd, Nat.reduceSub, List.replicate_succ, List.replicate_zero, List.cons_append, List.nil_append, List.set_cons_succ, List.set_cons_zero]; exact rfl) ?_
    refine k_sub (L' := [(d, .dT kvs)]) (List.singleton_sublist.mpr hmd) ?_
    refine k_one ?_
    refine k_for_t2 po ?_
    refine e_fz1 ?_
    refine e_fz1 ?_
    refine e_fz1 ?_
    refine k_tup ?_
    refine a_cons ?_
    refine k_tup ?_
    refine a_cons ?_
    refine k_n 2 ?_
    refine a_cons ?_
    refine k_n 3 ?_
    refine a_cons ?_
    refine k_n 4 ?_
    refine a_nil ?_
    refine ⟨by simp, fun p1 => ?_⟩
    refine a_cons ?_
    refine k_tup ?_
    refine a_cons ?_
    refine k_n 4 ?_
    refine a_cons ?_
    refine k_fn F_back_of (hr.mono (by decide)) ?_
    refine a_cons ?_
    refine k_n 3 ?_
    refine a_nil ?_
    refine use_back_of ?_ (lt_ord hrc)
    refine a_cons ?_
    refine k_n 2 ?_
    refine a_nil ?_
    refine ⟨by simp, fun p2 => ?_⟩
    refine a_nil ?_
    refine ⟨by simp, fun p3 => ?_⟩
    refine ⟨_, _, _, rfl, fun B1 l1 _ e1 => ⟨_, _, _, rfl, fun B2 l2 _ e2 => ⟨_, _, _, rfl, fun B3 l3 _ e3 => ?_⟩⟩⟩
    have hle3 : Le H B3 := fun b o e => l3 _ _ (l2 _ _ (l1 _ _ (hle b o e)))
    have f3 : B3 p3 = some (.tup [.ref p1, .ref p2]) := l3 _ _ (l2 _ _ e1)
    have f2 : B3 p2 = some (.tup (arcV ((r.2.2, bk r.2.1), r.1))) := l3 _ _ e2
    have f1 : B3 p1 = some (.tup (arcV ((r.1, r.2.1), r.2.2))) := e3
    clear e1 e2 e3 l1 l2 l3
    refine ⟨p3, _, fun j σ B L => ∃ v5 v6 v7 kvs, σ = [some (.ref a), some (.ref d), some (.int (r.1 : Nat)), some (.str (sOf [r.2.1])), some (.int (r.2.2 : Nat)), v5, v6, v7] ∧ Le B3 B ∧ (d, HO.dT kvs) ∈ L ∧ foldA [] (((M.map (·.2)).take i).flatMap arcs ++ (arcs r).take j) = some kvs ∧ AllN kvs ∧ kvs.length ≤ 2 * i + j, rfl, .inl (.inl (.inl f3)), ⟨_, _, _, kvs, rfl, fun _ _ z => z, List.mem_cons_self, by rw [List.take_zero, List.append_nil]; exact hfo, hA, hkl⟩, ?_, ?_, ?_⟩
    · rintro j σ B L _ ⟨_, _, _, _, _, hl3, _⟩
      exact .inl (.inl (.inl (hl3 _ _ f3)))
    · rintro j x σ B L hx ⟨v5, v6, v7, kvs, rfl, hl3, hmd, hfo, hA, hkl⟩
      obtain ⟨pj, aj, hx2, haj, fj⟩ : ∃ pj aj, x = .ref pj ∧ (arcs r)[j]? = some aj ∧ B3 pj = some (.tup (arcV aj)) := by
        match j, hx with
        | 0, hx => exact ⟨p1, _, (Option.some.inj hx).symm, rfl, f1⟩
        | 1, hx => exact ⟨p2, _, (Option.some.inj hx).symm, rfl, f2⟩
        | n + 2, hx => cases hx
      subst hx2
      have hj2 : j < 2 := (List.getElem?_eq_some_iff.mp haj).1
      obtain ⟨z, hz⟩ := road_split hri haj
      refine g_tup (xs := arcV aj) (.inl (.inl (.inl (hl3 _ _ fj)))) rfl ?_
      refine gs_cons ?_
      refine g_name 5 ?_ sc_steps_of.nd
      refine gs_cons ?_
      refine g_name 6 ?_ sc_steps_of.nd
      refine gs_cons ?_
      refine g_name 7 ?_ sc_steps_of.nd
      refine gs_nil ?_
      show kSs _ _ _ _ _ _
      refine k_norm (by simp only [L2.start, N_steps_of, List.map_cons, List.map_nil, List.length_cons, List.length_nil, Nat.reduceAdd, Nat.reduceSub, List.replicate_succ, List.replicate_zero, List.cons_append, List.nil_append, List.set_cons_succ, List.set_cons_zero]; exact rfl) ?_
      refine k_sub (L' := [(d, .dT kvs)]) (List.singleton_sublist.mpr hmd) ?_
      refine k_one ?_
      refine k_if ?_
      refine t_cmp ?_
      refine k_setd hr.units ?_
      refine k_n 1 ?_
      refine ⟨d, kvs, rfl, .inr List.mem_cons_self, ?_⟩
      refine k_tup ?_
      refine a_cons ?_
      refine k_n 5 ?_
      refine a_cons ?_
      refine k_n 6 ?_
      refine a_nil ?_
      refine ⟨by simp, fun pk => ?_⟩
      refine k_n 7 ?_
      refine ⟨kvs, stK aj.1, pk, .tail _ List.mem_cons_self, rfl, .inr List.mem_cons_self, by omega, fun v hv => ?_, fun hn => ⟨_, .there .here, ?_⟩⟩
      · obtain ⟨n, rfl⟩ := hA _ _ hv
        refine k_n 7 ?_
        refine o_nei ?_
        refine ⟨_, rfl, ?_⟩
        refine ⟨fun hk => ?_, fun hk => ?_⟩
        · have hne : ¬ (V.int (n : Nat) = .int (aj.2 : Nat)) := fun z => by injection z with z; simp [z] at hk
          refine k_one ?_
          refine k_ret ?_
          refine k_non ?_
          exact fun H' s => hq0 (none_end hz hfo (setA_none hv hne)) H' fun b o e => s.ext _ _ (hl3 _ _ (hle3 b o e))
        · have he : (n : Int) = (aj.2 : Nat) := by simpa using hk
          rw [he] at hv
          refine k_nil ?_
          refine ⟨_, _, _, kvs, rfl, hl3, .tail _ List.mem_cons_self, ?_, hA, by omega⟩
          rw [arc_cases haj, ← List.append_assoc]
          exact some_next hfo (setA_same hv)
      · refine k_n 7 ?_
        refine o_nei ?_
        refine ⟨_, rfl, ?_⟩
        refine ⟨fun hk => (by simp at hk), fun hk => ?_⟩
        refine k_nil ?_
        refine ⟨_, _, _, _, rfl, hl3, .tail _ List.mem_cons_self, ?_, allN_put hA hn, by have := length_putK kvs (stK aj.1) (V.int (aj.2 : Nat)); omega⟩
        rw [arc_cases haj, ← List.append_assoc]
        exact some_next hfo (setA_new hn)
    · rintro σ B L ⟨v5, v6, v7, kvs, rfl, hl3, hmd, hfo, hA, hkl⟩
      refine ⟨_, _, _, _, _, _, kvs, rfl, fun b o e => hl3 _ _ (hle3 b o e), hmd, ?_, hA, by simp at hkl; omega⟩
      rw [flat_take hri]
      exact hfo
  · rintro σ B L ⟨v2, v3, v4, v5, v6, v7, kvs, rfl, hle, hmd, hfo, hA, hkl⟩
    refine k_one ?_
    refine k_ret ?_
    refine k_n 1 ?_
    refine fun H' s => hq kvs ?_ H' d (fun b o e => s.ext b o (hle b o e)) ?_ (s.own _ hmd)
    · unfold stepsF
      rw [List.take_of_length_le (by simp [rV])] at hfo
      exact hfo
    · have h1 := s.nb _ hmd
      cases h : H d with
      | none => rfl
      | some o => rw [hle d o h] at h1; cases h1
/-! ### Web: plain -/
theorem rdD_inj {r s : Road} (h : rdD r = rdD s) : r = s := by
  have ⟨h1, h2, h3⟩ := rdD_tup (a := .int (r.1 : Nat)) (b := .str (sOf [r.2.1])) (c := .int (r.2.2 : Nat)) h
  injection h1 with h1
  injection h2 with h2
  injection h3 with h3
  have e2 : [r.2.1] = [s.2.1] := sOf_inj.mp (congrArg V.str h2)
  injection e2 with e2
  exact Prod.ext (by omega) (Prod.ext e2 (by show r.2.2 = s.2.2; omega))
theorem rdDs_inj : ∀ {rs ss : List Road}, rs.map rdD = ss.map rdD → rs = ss
  | [], [], _ => rfl
  | [], _ :: _, h => by cases h
  | _ :: _, [], h => by cases h
  | r :: rs, s :: ss, h => by
    obtain ⟨h1, h2⟩ := List.cons.inj h
    rw [rdD_inj h1, rdDs_inj h2]
/-- what makes a web -/
structure Fine (dm dr : PyData) (m : Nat) (rs : List Road) : Prop where
  em : dm = .int (m : Nat)
  m1 : 1 ≤ m ∧ m ≤ 200
  er : dr = .list (rs.map rdD)
  g : ∀ r ∈ rs, GoodR m r
  s : stepsF rs ≠ none
/-- rising, each once, the same roads -/
structure Srt (rs zs : List Road) : Prop where
  nd : zs.Nodup
  mem : ∀ r, r ∈ zs ↔ r ∈ rs
  ris : zs.Pairwise fun y z => PySem.W.dataLt (rdD z) (rdD y) = false
theorem dp_rdD {K : PySem.W.Frag} {H : Hp} {v : V} {r : Road} (h : Dp K H v (rdD r)) : ∃ p, v = .ref p ∧ SqT K H p (rdV r) := by
  unfold rdD at h
  cases h with
  | tup h1 h2 =>
    cases h2 with
    | cons a1 t =>
      cases a1
      cases t with
      | cons a2 t =>
        cases a2
        cases t with
        | cons a3 t =>
          cases a3
          cases t
          exact ⟨_, rfl, h1⟩
theorem dp_rds {K : PySem.W.Frag} {H : Hp} : ∀ {rs : List Road} {xs : List V}, DpAll K H xs (rs.map rdD) → ∃ M : List (Addr × Road), xs = rV M ∧ M.map (·.2) = rs ∧ RdM K H M
  | [], _, h => by
    cases h
    exact ⟨[], rfl, rfl, fun _ z => (nomatch z)⟩
  | r :: rs, _, h => by
    have h' : DpAll K H _ (rdD r :: rs.map rdD) := h
    cases h' with
    | cons h1 t =>
      obtain ⟨p, rfl, hp⟩ := dp_rdD h1
      obtain ⟨M, rfl, e, hM⟩ := dp_rds t
      exact ⟨(p, r) :: M, rfl, by rw [List.map_cons, e], fun z hz => (List.mem_cons.mp hz).elim (fun e => by rw [e]; exact hp) (hM z)⟩
theorem roads_of {m : Nat} : ∀ {ds : List PyData}, (∀ d ∈ ds, IsRoad m d) → ∃ rs : List Road, ds = rs.map rdD ∧ ∀ r ∈ rs, GoodR m r
  | [], _ => ⟨[], rfl, fun _ z => (nomatch z)⟩
  | d :: ds, h => by
    obtain ⟨r, g, e⟩ := h d List.mem_cons_self
    obtain ⟨rs, e2, g2⟩ := roads_of fun d hd => h d (.tail _ hd)
    exact ⟨r :: rs, by rw [e, e2]; rfl, fun z hz => (List.mem_cons.mp hz).elim (fun e => by rw [e]; exact g) (g2 z)⟩
theorem keyed_of {M : List (Addr × Road)} : ∀ {N : List (Addr × List Key)}, (∀ z ∈ N, z ∈ M.map fun z => (z.1, rdK z.2)) → ∃ M2 : List (Addr × Road), N = M2.map (fun z => (z.1, rdK z.2)) ∧ ∀ z ∈ M2, z ∈ M
  | [], _ => ⟨[], rfl, fun _ z => (nomatch z)⟩
  | n :: N, h => by
    obtain ⟨z, hz, e⟩ := List.mem_map.mp (h n List.mem_cons_self)
    obtain ⟨M2, e2, h2⟩ := keyed_of fun n hn => h n (.tail _ hn)
    exact ⟨z :: M2, by rw [e2, ← e]; rfl, fun y hy => (List.mem_cons.mp hy).elim (fun e => by rw [e]; exact hz) (h2 y)⟩
theorem rdK_inj {r s : Road} (h : rdK r = rdK s) : r = s := by
  unfold rdK at h
  injection h with h1 h
  injection h with h2 h
  injection h with h3 _
  injection h1 with h1
  injection h2 with h2
  injection h3 with h3
  have e2 : [r.2.1] = [s.2.1] := sOf_inj.mp (congrArg V.str h2)
  injection e2 with e2
  exact Prod.ext (by omega) (Prod.ext e2 (by omega))
theorem rdD_alike (r s : Road) : PySem.W.alike (rdD r) (rdD s) = true := by
  unfold rdD PySem.W.alike
  unfold PySem.W.alikeAll
  unfold PySem.W.alikeAll
  unfold PySem.W.alikeAll
  unfold PySem.W.alikeAll
  unfold PySem.W.alike
  rfl
theorem tD_rdK (r : Road) : KvT.tD (rdK r) = rdD r := rfl
/-- what a set of roads, sorted, is -/
theorem srt_of {M M3 : List (Addr × Road)} {N N2 : List (Addr × List Key)} (h1 : ∀ z ∈ N, z ∈ M.map fun z => (z.1, rdK z.2)) (h2 : ∀ z ∈ M.map (fun z => (z.1, rdK z.2)), z.2 ∈ N.map (·.2)) (h3 : (N.map (·.2)).Nodup) (pm : N2.Perm N) (e : N2 = M3.map fun z => (z.1, rdK z.2)) (hM : ∀ z ∈ M3, z ∈ M) (pw : N2.Pairwise fun y z => PySem.W.dataLt (KvT.tD z.2) (KvT.tD y.2) = false) : Srt (M.map (·.2)) (M3.map (·.2)) := by
  have nd : (N2.map (·.2)).Nodup := (pm.map _).nodup_iff.mpr h3
  rw [e, List.map_map] at nd
  refine ⟨?_, fun r => ⟨fun h => ?_, fun h => ?_⟩, ?_⟩
  · have nd' : ((M3.map (·.2)).map rdK).Nodup := by rw [List.map_map]; exact nd
    exact (List.pairwise_map.mp nd').imp fun {a b} k e => k (congrArg rdK e)
  · obtain ⟨z, hz, rfl⟩ := List.mem_map.mp h
    exact List.mem_map.mpr ⟨z, hM z hz, rfl⟩
  · obtain ⟨z, hz, rfl⟩ := List.mem_map.mp h
    have hk := h2 _ (List.mem_map.mpr ⟨z, hz, rfl⟩)
    have hk2 := (pm.map (·.2)).mem_iff.mpr hk
    rw [e, List.map_map] at hk2
    obtain ⟨y, hy, ey⟩ := List.mem_map.mp hk2
    exact List.mem_map.mpr ⟨y, hy, rdK_inj ey⟩
  · rw [e] at pw
    rw [List.pairwise_map]
    exact (List.pairwise_map.mp pw).imp fun {a b} k => k
theorem dpa_at {K : PySem.W.Frag} {H : Hp} : ∀ {xs : List V} {ds : List PyData}, DpAll K H xs ds → ∀ {i : Nat} {z : V}, xs[i]? = some z → ∃ d, ds[i]? = some d ∧ Dp K H z d
  | _, _, .nil, i, z, h => by simp at h
  | _, _, .cons h1 t, 0, z, h => ⟨_, rfl, by cases h; exact h1⟩
  | _, _, .cons h1 t, i + 1, z, h => dpa_at t (by simpa using h)
theorem paired_snoc {α β : Type} {F : α → β → Prop} : ∀ {as : List α} {bs : List β} {a : α} {b : β}, Paired F as bs → F a b → Paired F (as ++ [a]) (bs ++ [b])
  | _, _, _, _, .nil, h => .cons h .nil
  | _, _, _, _, .cons r t, h => .cons r (paired_snoc t h)
theorem all_of {m : Nat} : ∀ {bs : List Bool} {ds : List PyData}, Paired (fun b d => b = true ↔ IsRoad m d) bs ds → (∀ d ∈ ds, IsRoad m d) → bs.all id = true
  | _, _, .nil, _ => rfl
  | _, _, .cons r t, h => by
    rw [List.all_cons, all_of t fun d hd => h d (.tail _ hd), Bool.and_true]
    exact r.mpr (h _ List.mem_cons_self)
theorem of_all {m : Nat} : ∀ {bs : List Bool} {ds : List PyData}, Paired (fun b d => b = true ↔ IsRoad m d) bs ds → bs.all id = true → ∀ d ∈ ds, IsRoad m d
  | _, _, .nil, _, _, hd => by cases hd
  | _, _, .cons r t, h, d, hd => by
    rw [List.all_cons, Bool.and_eq_true] at h
    rcases List.mem_cons.mp hd with e | hd
    · rw [e]; exact r.mp h.1
    · exact of_all t h.2 d hd
theorem keyed_alike {M : List (Addr × Road)} {N : List (Addr × List Key)} (h : ∀ z ∈ N, z ∈ M.map fun z => (z.1, rdK z.2)) : PySem.W.AllAlike (N.map fun z => KvT.tD z.2) := by
  intro d hd d' hd'
  obtain ⟨y, hy, rfl⟩ := List.mem_map.mp hd
  obtain ⟨y', hy', rfl⟩ := List.mem_map.mp hd'
  obtain ⟨z, _, rfl⟩ := List.mem_map.mp (h y hy)
  obtain ⟨z', _, rfl⟩ := List.mem_map.mp (h y' hy')
  exact rdD_alike z.2 z'.2
theorem keyed_sortable {M : List (Addr × Road)} {N : List (Addr × List Key)} (h : ∀ z ∈ N, z ∈ M.map fun z => (z.1, rdK z.2)) : PySem.W.Sortable (N.map fun z => KvT.tD z.2) := .inl fun d hd => by
  obtain ⟨y, hy, rfl⟩ := List.mem_map.mp hd
  obtain ⟨z, _, rfl⟩ := List.mem_map.mp (h y hy)
  exact ⟨_, _, rfl⟩
theorem putF_len (f : Str) (v : V) : ∀ fs : List (Str × V), (putF f v fs).length ≤ fs.length + 1
  | [] => Nat.le_refl _
  | (g, x) :: r => by
    have ih := putF_len f v r
    show (if g = f then (g, v) :: r else (g, x) :: putF f v r).length ≤ r.length + 1 + 1
    split
    · rw [List.length_cons]; omega
    · rw [List.length_cons]; omega
/-- a list whose items read as data at G, or another value -/
def DpL (K : PySem.W.Frag) (H G : Hp) (v : V) (d : PyData) : Prop := (∃ a xs ds, v = .ref a ∧ d = .list ds ∧ SqL K H a xs ∧ DpAll K G xs ds) ∨ (isList d = false ∧ Dp K H v d)
theorem DpL.dp {K : PySem.W.Frag} {H G : Hp} {v : V} {d : PyData} (h : DpL K H G v d) (e : Le G H) : Dp K H v d := by
  rcases h with ⟨a, xs, ds, rfl, rfl, h1, h2⟩ | ⟨_, h⟩
  · exact .lst h1 (dp_leA e _ _ h2)
  · exact h
abbrev s_Web_init : Stmt := inClass (top 20) 0
abbrev N_Web_init : List Str := ["self", "many", "roads", "steps", "road"]
theorem sc_Web_init : FnScope N_Web_init ["self", "many", "roads"] (defScope s_Web_init) := ⟨rfl, rfl, rfl, by decide +kernel, rfl, by decide +kernel, by decide +kernel⟩
def wfs (m : Nat) (sd t : Addr) : List (Str × V) := [("size", .int (m : Nat)), ("steps", .ref sd), ("kept", .ref t)]
/-- the items of a list are no longer than can be -/
def ShortL (d : PyData) : Prop := ∀ ds, d = .list ds → ds.length < 64 ∧ ∀ x ∈ ds, ShortT x
def sp_init (K : PySem.W.Frag) (C CE : Addr) : Sp := fun vs H Q E => ∃ (x dx : Addr) (vm vr : V) (dm dr : PyData) (G : Hp), vs = [.ref x, vm, vr] ∧ H x = some (.ins C dx []) ∧ Le G (rmH H x) ∧ Dp K (rmH H x) vm dm ∧ DpL K (rmH H x) G vr dr ∧ ShortL dr ∧
  ((¬ ∃ m rs, Fine dm dr m rs) → ∀ H', (∀ b o, b ≠ x → H b = some o → H' b = some o) → E (.ref CE) none H') ∧
  ∀ m rs, Fine dm dr m rs → ∀ H' sd t kvs M, (∀ b o, b ≠ x → H b = some o → H' b = some o) → H sd = none → H t = none → sd ≠ t → H' x = some (.ins C dx (wfs m sd t)) → H' sd = some (.dT kvs) → H' t = some (.tup (rV M)) → RdM K G M → stepsF rs = some kvs → Srt rs (M.map (·.2)) → Q .non H'
theorem ok_init {f C CE : Addr} {fd : FuncData} (F : Fun K "__init__" "Web.__init__" s_Web_init f fd) (T : Tx mg) (cls : Cls K C) (n1 : NoAttr K C "size") (n2 : NoAttr K C "steps") (n3 : NoAttr K C "kept") (eW : ExK K mg "NoWeb" CE)
    (F_is_whole : Fn P w K mg base 1 "is_whole" (sp_is_whole K)) (F_is_road : Fn P w K mg base 2 "is_road" (sp_is_road K)) (F_steps_of : Fn P w K mg base 2 "steps_of" (sp_steps_of K)) : FnOk P w K mg base (L2.CX P w) 3 f fd ["self", "many", "roads"] (sp_init K C CE) := by
  refine fn_okF F sc_Web_init ?_ fun cdv A outer s H vs Q E hr h tk po => ?_
  · rintro vs H Q E ⟨_, _, _, _, _, _, _, rfl, _⟩; rfl
  obtain ⟨x, dx, vm, vr, dm, dr, G, rfl, hx, hG, hdm, hdr, hsh, he, hq⟩ := h
  refine ⟨rmH H x, _, sat_rm hx, ?_⟩
  have hext : ∀ {B : Hp} {L : HL} {H' : Hp}, Le (rmH H x) B → Sat B L H' → ∀ b o, b ≠ x → H b = some o → H' b = some o := fun hle s b o hb e => s.ext b o (hle b o (by rw [rm_ne hb]; exact e))
  by_cases w1 : whlD dm = true
  · obtain ⟨i, rfl, rfl⟩ := whl_int hdm w1
    by_cases w2 : (1 ≤ i ∧ i ≤ 200) ∧ isList dr = true
    · obtain ⟨⟨i1, i2⟩, wl⟩ := w2
      obtain ⟨m, rfl⟩ : ∃ m : Nat, i = m := ⟨i.toNat, by omega⟩
      obtain ⟨a, xs, ds, rfl, rfl, ha, hxs⟩ : ∃ a xs ds, vr = .ref a ∧ dr = .list ds ∧ SqL K (rmH H x) a xs ∧ DpAll K G xs ds := by
        rcases hdr with h | ⟨h, _⟩
        · exact h
        · rw [wl] at h; cases h
      have hds := hsh ds rfl
      have hxl := dpa_len hxs
      refine k_cons ?_
      refine k_if ?_
      refine t_w ?_
      refine w_orP ?_
      refine t_not ?_
      refine t_val ?_
      refine k_fn F_is_whole (hr.mono (by decide)) ?_
      refine a_cons ?_
      refine k_n 1 ?_
      refine a_nil ?_
      refine use_is_whole (d := .int (m : Nat)) (fun H' s' => dp_le s'.ext _ _ hdm) ?_
      refine ⟨_, rfl, ?_⟩
      apply Exists.intro; refine ⟨fun hk => ?_, ?_⟩
      {
      refine w_orP ?_
      refine t_not ?_
      refine t_chainP ?_
      refine k_int ?_
      refine k_n 1 ?_
      walk_at "opLtE"
      refine ⟨_, rfl, ?_⟩; apply Exists.intro; refine ⟨fun hk => ?_, ?_⟩
      {
      refine k_giE T.g_MOST_PLACES ?_
      walk_at "opLtE"
      exact ⟨rfl, rfl, by walk_at "sfx"⟩
      all_goals (try walk_at "side")
      }
      apply Exists.intro; refine ⟨fun hk => ?_, ?_⟩
      {
      refine w_or1 ?_
      refine t_not ?_
      refine t_val ?_
      refine k_callB (id := "isinstance") T.b_isinstance ?_
      refine a_cons ?_
      refine k_n 2 ?_
      refine a_cons ?_
      refine k_ty (T := "list") T.b_list ?_
      refine a_nil ?_
      refine c_isL (k := true) (.inl ha) ?_
      refine ⟨_, rfl, ?_⟩
      exact ⟨rfl, rfl, by walk_at "sfx"⟩
      all_goals (try walk_at "side")
      }
      exact ⟨rfl, rfl, by walk_at "sfx"⟩
      all_goals (try walk_at "side")
      }
      refine ⟨fun z => ?_, fun _ => ?_⟩
      · exfalso
        simp [whlD] at z
        omega
      refine k_nil ?_
      refine k_cons ?_
      refine k_if ?_
      refine t_not ?_
      refine t_val ?_
      refine k_callB (id := "all") T.b_all ?_
      refine a_cons ?_
      refine k_le (k_lcv_l (j := 4) (fun i acc B' L' => B' = rmH H x ∧ L' = [(x, .ins C dx [])] ∧ ∃ bs : List Bool, acc = bs.map V.bl ∧ bs.length = i ∧ Paired (fun b d => b = true ↔ IsRoad m d) bs (ds.take i)) sc_Web_init.nd (blkOk_by (N := N_Web_init) (sc := defScope s_Web_init) (by decide +kernel)) ?_)
      refine k_n 2 ?_
      refine ⟨a, xs, rfl, by omega, ⟨rfl, rfl, [], rfl, rfl, .nil⟩, ?_, ?_, fun acc B1 L1 D hP => ?_⟩
      · rintro i acc B1 L1 ⟨rfl, rfl, bs, rfl, hbs, _⟩
        exact ⟨.inl ha, by simpa using hbs⟩
      · rintro i acc B1 L1 z hz ⟨rfl, rfl, bs, rfl, hbs, hpr⟩ D s0 H0 C0 cl0 fp0
        obtain ⟨d, hd1, hd2⟩ := dpa_at hxs hz
        refine k_fn F_is_road (hr.mono (by decide)) ?_
        refine a_cons ?_
        refine k_n 4 ?_
        refine a_cons ?_
        refine k_n 1 ?_
        refine a_nil ?_
        refine use_is_road (d := d) (m := m) (fun H' s' => dp_le (fun b o e => s'.ext b o (hG b o e)) _ _ hd2) (hds.2 d (List.mem_of_getElem? hd1)) fun b hb => ?_
        refine ⟨_, rfl, rfl, rfl, bs ++ [b], by simp, by simp [hbs], ?_⟩
        rw [List.take_add_one, hd1]
        exact paired_snoc hpr hb
      obtain ⟨rfl, rfl, bs, rfl, hbs, hpr⟩ := hP
      rw [hxl, List.take_length] at hpr
      refine a_nil ?_
      refine c_all (bs := bs) (.inr List.mem_cons_self) ?_
      refine ⟨_, rfl, ?_⟩
      refine ⟨fun hk => ?_, fun hk => ?_⟩
      · refine k_one (k_raise eW tk fun H' s => he ?_ H' (hext (fun _ _ z => z) s))
        rintro ⟨m2, rs, hf⟩
        have e1 := hf.em
        injection e1 with e1
        have e1 : m = m2 := by omega
        subst e1
        have e2 := hf.er
        injection e2 with e2
        subst e2
        have : bs.all id = true := all_of hpr fun d hd => by
          obtain ⟨r, hr, rfl⟩ := List.mem_map.mp hd
          exact ⟨r, hf.g r hr, rfl⟩
        rw [this] at hk
        cases hk
      refine k_nil ?_
      have hk2 : bs.all id = true := by simpa using hk
      obtain ⟨rs, rfl, hg⟩ := roads_of (of_all hpr hk2)
      obtain ⟨M, rfl, rfl, hM⟩ := dp_rds hxs
      have hMl : M.length < 64 := by have := hds.1; simpa using this
      refine k_sub (L' := [(x, .ins C dx [])]) (List.sublist_cons_self _ _) ?_
      refine k_cons ?_
      refine k_set 3 ?_ sc_Web_init.nd
      refine k_fn F_steps_of (hr.mono (by decide)) ?_
      refine a_cons ?_
      refine k_n 2 ?_
      refine a_nil ?_
      refine use_steps_of (M := M) (.inl ha) (fun z hz => .inl (ext_t hG (hM z hz))) ⟨fun z hz => (hg _ (List.mem_map.mpr ⟨z, hz, rfl⟩)).c, by omega⟩ (fun hn => ?_) fun kvs hkv sd => ?_
      · show kSs _ _ _ _ _ _
        refine k_norm (by simp only [L2.start, N_Web_init, List.map_cons, List.map_nil, List.length_cons, List.length_nil, Nat.reduceAdd, Nat.reduceSub, List.replicate_succ, List.replicate_zero, List.cons_append, List.nil_append, List.set_cons_succ, List.set_cons_zero]; exact rfl) ?_
        refine k_cons ?_
        refine k_if ?_
        refine t_cmp ?_
        refine k_n 3 ?_
        refine k_non ?_
        walk_at "opIs"
        refine ⟨_, rfl, ?_⟩
        refine ⟨fun _ => ?_, fun z => (by simp at z)⟩
        refine k_one (k_raise eW tk fun H' s => he ?_ H' (hext (fun _ _ z => z) s))
        rintro ⟨m2, rs, hf⟩
        have e2 := hf.er
        injection e2 with e2
        have e3 := rdDs_inj e2
        rw [← e3] at hf
        exact hf.s hn
      · show kSs _ _ _ _ _ _
        refine k_norm (by simp only [L2.start, N_Web_init, List.map_cons, List.map_nil, List.length_cons, List.length_nil, Nat.reduceAdd, Nat.reduceSub, List.replicate_succ, List.replicate_zero, List.cons_append, List.nil_append, List.set_cons_succ, List.set_cons_zero]; exact rfl) ?_
        refine k_cons ?_
        refine k_if ?_
        refine t_cmp ?_
        refine k_n 3 ?_
        refine k_non ?_
        walk_at "opIs"
        refine ⟨_, rfl, ?_⟩
        refine ⟨fun z => (by simp at z), fun _ => ?_⟩
        refine k_nil ?_
        refine k_cons ?_
        refine k_setf cls n1 ?_
        refine k_n 1 ?_
        refine k_n 0 ?_
        refine ⟨_, _, _, _, rfl, by walk_at "rep", by first | decide | simp [putF], ?_⟩
        refine k_cons ?_
        refine k_setf cls n2 ?_
        refine k_n 3 ?_
        refine k_n 0 ?_
        refine ⟨_, _, _, _, rfl, by walk_at "rep", Nat.lt_of_le_of_lt (putF_len _ _ _) (by decide), ?_⟩
        refine k_one ?_
        refine k_setf cls n3 ?_
        refine k_callT (T := "tuple") T.b_tuple ?_
        refine a_cons ?_
        refine k_callB (id := "sorted") T.b_sorted ?_
        refine a_cons ?_
        refine k_callT (T := "set") T.b_set ?_
        refine a_cons ?_
        refine k_n 2 ?_
        refine a_nil ?_
        refine c_setT (ks := M.map fun z => (z.1, rdK z.2)) (.inl (by rw [List.map_map]; exact ha)) (fun z hz => by obtain ⟨y, hy, rfl⟩ := List.mem_map.mp hz; exact .inl (ext_t hG (hM y hy))) (by rw [List.length_map]; exact hMl) hr.units fun ps N hN1 hN2 hN3 => ?_
        refine a_nil ?_
        refine c_sortedT (.inr List.mem_cons_self) (fun z hz => by obtain ⟨y, hy, rfl⟩ := List.mem_map.mp (hN1 z hz); exact .inl (ext_t hG (hM y hy))) (keyed_alike hN1) (keyed_sortable hN1) hr.units fun pl N2 hN4 hN5 => ?_
        refine a_nil ?_
        refine c_tupl (.inr List.mem_cons_self) fun t => ?_
        refine k_n 0 ?_
        refine ⟨_, _, _, _, rfl, by walk_at "rep", Nat.lt_of_le_of_lt (putF_len _ _ _) (Nat.succ_lt_succ (Nat.lt_of_le_of_lt (putF_len _ _ _) (by decide))), ?_⟩
        obtain ⟨M3, rfl, hM3⟩ := keyed_of (M := M) fun z hz => hN1 z (hN4.mem_iff.mp hz)
        have hsr := srt_of hN1 (fun z hz => hN2 z hz) hN3 hN4 rfl hM3 hN5
        intro H' s
        have nd := s.nd
        have nbs := s.nb _ (List.mem_cons_of_mem _ (List.mem_cons_of_mem _ (List.mem_cons_of_mem _ List.mem_cons_self)))
        have nbt := s.nb _ List.mem_cons_self
        simp only [List.map_cons, List.map_nil, List.nodup_cons, List.mem_cons, List.not_mem_nil, or_false, not_or] at nd
        have hsx : sd ≠ x := nd.2.2.2.1
        have htx : t ≠ x := nd.1.2.2.2
        have hst : t ≠ sd := nd.1.2.2.1
        have et : (List.map (fun z : Addr × List Key => V.ref z.1) (List.map (fun z : Addr × Road => (z.1, rdK z.2)) M3)) = rV M3 := by rw [List.map_map]; rfl
        refine hq m _ ⟨rfl, ⟨by omega, by omega⟩, rfl, hg, by rw [hkv]; exact fun z => (nomatch z)⟩ H' sd t kvs M3 (hext (fun _ _ z => z) s) (by rw [← rm_ne (H := H) hsx]; exact nbs) (by rw [← rm_ne (H := H) htx]; exact nbt) (Ne.symm hst) ?_ (s.own _ (List.mem_cons_of_mem _ (List.mem_cons_of_mem _ (List.mem_cons_of_mem _ List.mem_cons_self)))) ?_ (fun z hz => hM z (hM3 z hz)) hkv hsr
        · have := s.own _ (List.mem_cons_of_mem _ (List.mem_cons_of_mem _ (List.mem_cons_of_mem _ (List.mem_cons_of_mem _ List.mem_cons_self))))
          exact this
        · rw [← et]
          exact s.own _ List.mem_cons_self
    · refine k_cons ?_
      refine k_if ?_
      refine t_w ?_
      refine w_orP ?_
      refine t_not ?_
      refine t_val ?_
      refine k_fn F_is_whole (hr.mono (by decide)) ?_
      refine a_cons ?_
      refine k_n 1 ?_
      refine a_nil ?_
      refine use_is_whole (d := .int i) (fun H' s' => dp_le s'.ext _ _ hdm) ?_
      refine ⟨_, rfl, ?_⟩
      apply Exists.intro; refine ⟨fun hk => ?_, ?_⟩
      {
      refine w_orP ?_
      refine t_not ?_
      refine t_chainP ?_
      refine k_int ?_
      refine k_n 1 ?_
      walk_at "opLtE"
      refine ⟨_, rfl, ?_⟩; apply Exists.intro; refine ⟨fun hk => ?_, ?_⟩
      {
      refine k_giE T.g_MOST_PLACES ?_
      walk_at "opLtE"
      exact ⟨rfl, rfl, by walk_at "sfx"⟩
      all_goals (try walk_at "side")
      }
      apply Exists.intro; refine ⟨fun hk => ?_, ?_⟩
      {
      refine w_or1 ?_
      refine t_not ?_
      refine t_val ?_
      refine k_callB (id := "isinstance") T.b_isinstance ?_
      refine a_cons ?_
      refine k_n 2 ?_
      refine a_cons ?_
      refine k_ty (T := "list") T.b_list ?_
      refine a_nil ?_
      refine c_isD (d := dr) (k := isList dr) (fun H' s' => dp_le s'.ext _ _ (hdr.dp hG)) (kit_list dr) ?_
      refine ⟨_, rfl, ?_⟩
      exact ⟨rfl, rfl, by walk_at "sfx"⟩
      all_goals (try walk_at "side")
      }
      exact ⟨rfl, rfl, by walk_at "sfx"⟩
      all_goals (try walk_at "side")
      }
      refine ⟨fun _ => ?_, fun hk => ?_⟩
      · refine k_one (k_raise eW tk fun H' s => he ?_ H' (hext (fun _ _ z => z) s))
        rintro ⟨m, rs, hf⟩
        have e1 := hf.em
        injection e1 with e1
        have := hf.m1
        exact w2 ⟨⟨by omega, by omega⟩, by rw [hf.er]; rfl⟩
      · exfalso
        apply w2
        simp [whlD] at hk
        exact ⟨⟨by omega, by omega⟩, hk.2⟩
  · refine k_cons ?_
    refine k_if ?_
    refine t_w ?_
    refine w_orP ?_
    refine t_not ?_
    refine t_val ?_
    refine k_fn F_is_whole (hr.mono (by decide)) ?_
    refine a_cons ?_
    refine k_n 1 ?_
    refine a_nil ?_
    refine use_is_whole (d := dm) (fun H' s' => dp_le s'.ext _ _ hdm) ?_
    refine ⟨_, rfl, ?_⟩
    refine ⟨true, fun hk => absurd (by simpa using hk) w1, ?_⟩
    refine ⟨fun _ => ?_, fun hk => (by simp at hk)⟩
    refine k_one (k_raise eW tk fun H' s => he ?_ H' (hext (fun _ _ z => z) s))
    rintro ⟨m, rs, hf⟩
    exact w1 (by rw [hf.em]; rfl)
/-! ### a web in the heap -/
def IsWeb (K : PySem.W.Frag) (C : Addr) (H : Hp) (x : Addr) (m : Nat) (rs : List Road) : Prop := ∃ dx sd t kvs M, H x = some (.ins C dx (wfs m sd t)) ∧ H sd = some (.dT kvs) ∧ H t = some (.tup (rV M)) ∧ RdM K H M ∧ stepsF rs = some kvs ∧ Srt rs (M.map (·.2))
theorem RdM.le {K : PySem.W.Frag} {H H' : Hp} {M : List (Addr × Road)} (h : RdM K H M) (e : Le H H') : RdM K H' M := fun z hz => ext_t e (h z hz)
theorem IsWeb.le {K : PySem.W.Frag} {C : Addr} {H H' : Hp} {x : Addr} {m : Nat} {rs : List Road} (h : IsWeb K C H x m rs) (e : Le H H') : IsWeb K C H' x m rs := by
  obtain ⟨dx, sd, t, kvs, M, h1, h2, h3, h4, h5, h6⟩ := h
  exact ⟨dx, sd, t, kvs, M, e _ _ h1, e _ _ h2, e _ _ h3, h4.le e, h5, h6⟩
theorem sat_rmx {B : Hp} {L : HL} {H : Hp} {x : Addr} {o : HO} (s : Sat B ((x, o) :: L) H) : Sat B L (rmH H x) := by
  have hb : B x = none := s.nb _ List.mem_cons_self
  have nd := s.nd
  rw [List.map_cons, List.nodup_cons] at nd
  refine ⟨fun b u h => ?_, fun p hp => ?_, fun p hp => s.nb p (.tail _ hp), nd.2⟩
  · rw [rm_ne (fun z => by rw [z, hb] at h; cases h)]; exact s.ext _ _ h
  · rw [rm_ne (fun z => nd.1 (List.mem_map.mpr ⟨p, hp, z⟩))]; exact s.own p (.tail _ hp)
theorem rdD_short (r : Road) : ShortT (rdD r) := fun a s b e => by
  have h := (rdD_tup e.symm).2.1
  injection h with h
  rw [h]
  simp [sOf]
theorem dpa_of {K : PySem.W.Frag} {H : Hp} : ∀ {M : List (Addr × Road)}, RdM K H M → DpAll K H (rV M) ((M.map (·.2)).map rdD)
  | [], _ => .nil
  | z :: M, h => .cons (.tup (h z List.mem_cons_self) (.cons (.int _) (.cons (.str _) (.cons (.int _) .nil)))) (dpa_of fun y hy => h y (.tail _ hy))
/-- a web is made -/
theorem use_web {C CE : Addr} {B : Hp} {L : HL} {Q : KQ} {E : XK} {a : Addr} {m : Nat} {M : List (Addr × Road)} (hl : Ls K B L a (rV M)) (hM : RdM K B M) (hn : M.length < 64) (h1 : 1 ≤ m ∧ m ≤ 200) (hg : ∀ r ∈ M.map (·.2), GoodR m r) (hs : stepsF (M.map (·.2)) ≠ none)
    (q : ∀ x B', Le B B' → IsWeb K C B' x m (M.map (·.2)) → Q (.ref x) B' L) : ∀ x dx, ∀ H, Sat B ((x, .ins C dx []) :: (dx, .own x) :: L) H → sp_init K C CE [.ref x, .int (m : Nat), .ref a] H (fun v H2 => v = .non ∧ up Q (.ref x) H2) E := by
  classical
  intro x dx H s
  have s1 := (sat_rmx s).drop
  have hf : Fine (.int (m : Nat)) (.list ((M.map (·.2)).map rdD)) m (M.map (·.2)) := ⟨rfl, h1, rfl, hg, hs⟩
  refine ⟨x, dx, _, _, .int (m : Nat), .list ((M.map (·.2)).map rdD), B, rfl, s.own _ List.mem_cons_self, s1.ext, .int _, .inl ⟨a, rV M, _, rfl, rfl, hl.at s1, dpa_of hM⟩, fun ds e => ?_, fun hn => absurd ⟨_, _, hf⟩ hn, fun m' rs' hf' H' sd t kvs M' he n1 n2 hne hx hsd ht hM' hk hsr => ?_⟩
  · injection e with e
    subst e
    refine ⟨by simpa using hn, fun d hd => ?_⟩
    obtain ⟨r, _, rfl⟩ := List.mem_map.mp hd
    exact rdD_short r
  · have em := hf'.em
    injection em with em
    have em : m = m' := by omega
    have er := hf'.er
    injection er with er
    have er := rdDs_inj er
    subst em er
    have hxL : x ∉ L.map (·.1) := by
      have nd := s.nd
      simp only [List.map_cons, List.nodup_cons, List.mem_cons, not_or] at nd
      exact nd.1.2
    have hown : ∀ p ∈ L, H p.1 = some p.2 := fun p hp => s.own p (.tail _ (.tail _ hp))
    have hne : ∀ {b : Addr}, H b = none → b ∉ L.map (·.1) := fun h hm => by
      obtain ⟨p, hp, rfl⟩ := List.mem_map.mp hm
      rw [hown p hp] at h; cases h
    have hBx : B x = none := s.nb _ List.mem_cons_self
    refine ⟨rfl, fun b => if b ∈ L.map (·.1) then none else H' b, L, ⟨fun b o e => ?_, fun p hp => ?_, fun p hp => if_pos (List.mem_map.mpr ⟨p, hp, rfl⟩), s1.nd⟩, q _ _ (fun b o e => ?_) ?_⟩
    · by_cases hb : b ∈ L.map (·.1)
      · rw [if_pos hb] at e; cases e
      · rw [if_neg hb] at e; exact e
    · exact he _ _ (fun z => hxL (z ▸ List.mem_map.mpr ⟨p, hp, rfl⟩)) (hown p hp)
    · rw [if_neg (fun hm => by obtain ⟨p, hp, rfl⟩ := List.mem_map.mp hm; rw [s1.nb p hp] at e; cases e)]
      exact he _ _ (fun z => by rw [z, hBx] at e; cases e) (s.ext _ _ e)
    · have lift : ∀ b o, B b = some o → (if b ∈ L.map (·.1) then none else H' b) = some o := fun b o e => by
        rw [if_neg (fun hm => by obtain ⟨p, hp, rfl⟩ := List.mem_map.mp hm; rw [s1.nb p hp] at e; cases e)]
        exact he _ _ (fun z => by rw [z, hBx] at e; cases e) (s.ext _ _ e)
      exact ⟨dx, sd, t, kvs, M', (if_neg hxL).trans hx, (if_neg (hne n1)).trans hsd, (if_neg (hne n2)).trans ht, hM'.le lift, hk, hsr⟩
/-- what makes no web is refused -/
theorem use_web_bad {C CE : Addr} {B : Hp} {L : HL} {Q : KQ} {E : XK} {vm vr : V} {dm dr : PyData} (hm : ∀ H, Sat B L H → Dp K H vm dm) (hr : ∀ H, Sat B L H → DpL K H B vr dr) (hs : ShortL dr) (hn : ¬ ∃ m rs, Fine dm dr m rs)
    (h : ∀ H, Sat B L H → E (.ref CE) none H) : ∀ x dx, ∀ H, Sat B ((x, .ins C dx []) :: (dx, .own x) :: L) H → sp_init K C CE [.ref x, vm, vr] H (fun v H2 => v = .non ∧ up Q (.ref x) H2) E := by
  intro x dx H s
  have s1 := (sat_rmx s).drop
  refine ⟨x, dx, _, _, dm, dr, B, rfl, s.own _ List.mem_cons_self, s1.ext, hm _ s1, hr _ s1, hs, fun _ H' he => h H' (s1.keep fun b o e => ?_), fun m rs hf => absurd ⟨_, _, hf⟩ hn⟩
  have hb : b ≠ x := fun z => by rw [z, rm_eq] at e; cases e
  rw [rm_ne hb] at e
  exact he _ _ hb e
abbrev s_Web_many : Stmt := inClass (top 20) 1
abbrev N_Web_many : List Str := ["self"]
theorem sc_Web_many : FnScope N_Web_many ["self"] (defScope s_Web_many) := ⟨rfl, rfl, rfl, by decide +kernel, rfl, by decide +kernel, by decide +kernel⟩
def sp_many (K : PySem.W.Frag) (C : Addr) : Sp := fun vs H Q _ => ∃ x m rs, vs = [.ref x] ∧ IsWeb K C H x m rs ∧ ∀ H', (∀ b o, H b = some o → H' b = some o) → Q (.int (m : Nat)) H'
theorem use_many {C : Addr} {B : Hp} {L : HL} {Q : KQ} {E : XK} {x : Addr} {m : Nat} {rs : List Road} (h : IsWeb K C B x m rs) (q : Q (.int (m : Nat)) B L) : ∀ H, Sat B L H → sp_many K C [.ref x] H (up Q) E := fun H s => ⟨x, m, rs, rfl, h.le s.ext, fun H' e => s.upq e q⟩
theorem ok_many {f C : Addr} {fd : FuncData} (F : Fun K "many" "Web.many" s_Web_many f fd) (hm : Meth K C "many" f) (cls : Cls K C) (n1 : NoAttr K C "size") : Mt P w K mg base 1 C "many" (sp_many K C) := by
  refine mt_okM F sc_Web_many hm cls (fun _ _ _ _ _ _ us hl => match us, hl with | [_], _ => rfl) ?_ fun cdv A outer s H vs Q E hr h tk po => ?_
  · rintro vs H Q E ⟨_, _, _, rfl, _⟩; rfl
  obtain ⟨x, m, rs, rfl, ⟨dx, sd, t, kvs, M, hx, _⟩, hq⟩ := h
  refine ⟨H, [], Sat.whole, ?_⟩
  refine k_one ?_
  refine k_ret ?_
  refine k_fld cls n1 ?_
  refine k_n 0 ?_
  refine ⟨_, _, _, _, rfl, by walk_at "at", rfl, ?_⟩
  exact fun H' s => hq H' s.ext
abbrev s_Web_roads : Stmt := inClass (top 20) 2
abbrev N_Web_roads : List Str := ["self"]
theorem sc_Web_roads : FnScope N_Web_roads ["self"] (defScope s_Web_roads) := ⟨rfl, rfl, rfl, by decide +kernel, rfl, by decide +kernel, by decide +kernel⟩
def sp_roads (K : PySem.W.Frag) (C : Addr) : Sp := fun vs H Q _ => ∃ x m rs G, vs = [.ref x] ∧ Le G H ∧ IsWeb K C G x m rs ∧ ∀ H' p M, RdM K G M → Srt rs (M.map (·.2)) → (∀ b o, H b = some o → H' b = some o) → H p = none → H' p = some (.lst (rV M)) → Q (.ref p) H'
theorem use_roads {C : Addr} {B : Hp} {L : HL} {Q : KQ} {E : XK} {x : Addr} {m : Nat} {rs : List Road} (h : IsWeb K C B x m rs) (q : ∀ p M, RdM K B M → Srt rs (M.map (·.2)) → Q (.ref p) B ((p, .lst (rV M)) :: L)) : ∀ H, Sat B L H → sp_roads K C [.ref x] H (up Q) E := fun H s => ⟨x, m, rs, B, rfl, s.ext, h, fun H' p M h1 h2 e n e2 => ⟨B, _, s.new' n e e2, q p M h1 h2⟩⟩
theorem ok_roads {f C : Addr} {fd : FuncData} (F : Fun K "roads" "Web.roads" s_Web_roads f fd) (hm : Meth K C "roads" f) (cls : Cls K C) (n3 : NoAttr K C "kept") (T : Tx mg) : Mt P w K mg base 1 C "roads" (sp_roads K C) := by
  refine mt_okM F sc_Web_roads hm cls (fun _ _ _ _ _ _ us hl => match us, hl with | [_], _ => rfl) ?_ fun cdv A outer s H vs Q E hr h tk po => ?_
  · rintro vs H Q E ⟨_, _, _, _, rfl, _⟩; rfl
  obtain ⟨x, m, rs, G, rfl, hG, ⟨dx, sd, t, kvs, M, hx, hsd, ht, hM, _, hs⟩, hq⟩ := h
  have hx' := hG _ _ hx
  have ht' : Tp K H [] t (rV M) := .inl (.inl (.inl (hG _ _ ht)))
  refine ⟨H, [], Sat.whole, ?_⟩
  refine k_one ?_
  refine k_ret ?_
  refine k_callT (T := "list") T.b_list ?_
  refine a_cons ?_
  refine k_fld cls n3 ?_
  refine k_n 0 ?_
  refine ⟨_, _, _, _, rfl, by walk_at "at", rfl, ?_⟩
  refine a_nil ?_
  refine c_listt ht' fun p => ?_
  exact fun H' s => hq H' p M hM hs s.ext (s.nb _ List.mem_cons_self) (s.own _ List.mem_cons_self)
/-! ### walking along -/
def oN : Option Nat → V
  | none => .non
  | some n => .int (n : Nat)
/-- the place to which a letter leads -/
def stp (kvs : Dct) (a : Nat × Nat) : Option Nat := match valV kvs (stK a) with | some (.int i) => some i.toNat | _ => none
theorem stp_val {kvs : Dct} (h : AllN kvs) (a : Nat × Nat) : (valV kvs (stK a)).getD .non = oN (stp kvs a) := by
  unfold stp
  cases e : valV kvs (stK a) with
  | none => rfl
  | some v =>
    obtain ⟨n, rfl⟩ := h _ _ e
    rfl
def wlk (kvs : Dct) (l : List Nat) (at_ : Option Nat) : Option Nat := l.foldl (fun o c => o.bind fun p => stp kvs (p, c)) at_
theorem setA_all {kvs k2 : Dct} {a : Arc} (h : AllN kvs) (e : setA kvs a = some k2) : AllN k2 := by
  unfold setA at e
  cases hv : valV kvs (stK a.1) with
  | none => rw [hv] at e; cases e; exact allN_put h hv
  | some v =>
    rw [hv] at e
    dsimp only at e
    split at e
    · cases e; exact h
    · cases e
theorem foldA_all : ∀ {as : List Arc} {kvs k2 : Dct}, AllN kvs → foldA kvs as = some k2 → AllN k2
  | [], _, _, h, e => by cases e; exact h
  | a :: as, kvs, k2, h, e => by
    have e' : ((setA kvs a).bind fun k => foldA k as) = some k2 := e
    cases hs : setA kvs a with
    | none => rw [hs] at e'; cases e'
    | some k => rw [hs] at e'; exact foldA_all (setA_all h hs) e'
theorem steps_all {rs : List Road} {kvs : Dct} (e : stepsF rs = some kvs) : AllN kvs := foldA_all (fun _ _ z => by rw [valV_nil] at z; cases z) e
abbrev s_Web_step : Stmt := inClass (top 20) 3
abbrev N_Web_step : List Str := ["self", "place", "letter"]
theorem sc_Web_step : FnScope N_Web_step ["self", "place", "letter"] (defScope s_Web_step) := ⟨rfl, rfl, rfl, by decide +kernel, rfl, by decide +kernel, by decide +kernel⟩
def sp_step (K : PySem.W.Frag) (C : Addr) : Sp := fun vs H Q _ => ∃ x m rs kvs p c, vs = [.ref x, .int (p : Nat), .str (sOf [c])] ∧ IsWeb K C H x m rs ∧ stepsF rs = some kvs ∧ ∀ H', (∀ b o, H b = some o → H' b = some o) → Q (oN (stp kvs (p, c))) H'
theorem use_step {C : Addr} {B : Hp} {L : HL} {Q : KQ} {E : XK} {x : Addr} {m p c : Nat} {rs : List Road} {kvs : Dct} (h : IsWeb K C B x m rs) (hk : stepsF rs = some kvs) (q : Q (oN (stp kvs (p, c))) B L) : ∀ H, Sat B L H → sp_step K C [.ref x, .int (p : Nat), .str (sOf [c])] H (up Q) E := fun H s => ⟨x, m, rs, kvs, p, c, rfl, h.le s.ext, hk, fun H' e => s.upq e q⟩
theorem ok_step {f C : Addr} {fd : FuncData} (F : Fun K "step" "Web.step" s_Web_step f fd) (hm : Meth K C "step" f) (cls : Cls K C) (n2 : NoAttr K C "steps") : Mt P w K mg base 1 C "step" (sp_step K C) := by
  refine mt_okM F sc_Web_step hm cls (fun _ _ _ _ _ _ us hl => match us, hl with | [_, _, _], _ => rfl) ?_ fun cdv A outer s H vs Q E hr h tk po => ?_
  · rintro vs H Q E ⟨_, _, _, _, _, _, rfl, _⟩; rfl
  obtain ⟨x, m, rs, kvs, p, c, rfl, ⟨dx, sd, t, kvs2, M, hx, hsd, ht, hM, hk2, hs⟩, hk, hq⟩ := h
  rw [hk] at hk2
  cases hk2
  refine ⟨H, [], Sat.whole, ?_⟩
  refine k_one ?_
  refine k_ret ?_
  refine k_getT hr.units ?_
  refine k_fld cls n2 ?_
  refine k_n 0 ?_
  refine ⟨x, dx, _, _, rfl, .inl hx, rfl, ?_⟩
  refine ⟨sd, kvs, rfl, .inl hsd, ?_⟩
  refine k_tup ?_
  refine a_cons ?_
  refine k_n 1 ?_
  refine a_cons ?_
  refine k_n 2 ?_
  refine a_nil ?_
  refine ⟨by simp, fun pk => ?_⟩
  refine ⟨kvs, stK (p, c), pk, .inl hsd, rfl, .inr List.mem_cons_self, ?_⟩
  rw [stp_val (steps_all hk)]
  exact fun H' s => hq H' s.ext
theorem scal_oN (a : Option Nat) (i : Int) : scal (oN a) (.int i) = true := by cases a <;> rfl
theorem scal_oNN (a b : Option Nat) : scal (oN a) (oN b) = true := by cases a <;> cases b <;> rfl
abbrev s_Web_along : Stmt := inClass (top 20) 4
abbrev N_Web_along : List Str := ["self", "word", "at", "letter"]
theorem sc_Web_along : FnScope N_Web_along ["self", "word", "at"] (defScope s_Web_along) := ⟨rfl, rfl, rfl, by decide +kernel, rfl, by decide +kernel, by decide +kernel⟩
def sp_along (K : PySem.W.Frag) (C : Addr) : Sp := fun vs H Q _ => ∃ x m rs kvs l o, vs = [.ref x, .str (sOf l), oN o] ∧ IsWeb K C H x m rs ∧ stepsF rs = some kvs ∧ ∀ H', (∀ b o, H b = some o → H' b = some o) → Q (oN (wlk kvs l o)) H'
theorem use_along {C : Addr} {B : Hp} {L : HL} {Q : KQ} {E : XK} {x : Addr} {m : Nat} {l : List Nat} {o : Option Nat} {rs : List Road} {kvs : Dct} (h : IsWeb K C B x m rs) (hk : stepsF rs = some kvs) (q : Q (oN (wlk kvs l o)) B L) : ∀ H, Sat B L H → sp_along K C [.ref x, .str (sOf l), oN o] H (up Q) E := fun H s => ⟨x, m, rs, kvs, l, o, rfl, h.le s.ext, hk, fun H' e => s.upq e q⟩
theorem wlk_take {kvs : Dct} {l : List Nat} {i c : Nat} {o : Option Nat} (h : l[i]? = some c) : wlk kvs (l.take (i + 1)) o = (wlk kvs (l.take i) o).bind fun p => stp kvs (p, c) := by
  unfold wlk
  rw [List.take_add_one, h, List.foldl_append]; rfl
theorem ok_along {f C : Addr} {fd : FuncData} (F : Fun K "along" "Web.along" s_Web_along f fd) (hm : Meth K C "along" f) (cls : Cls K C) (M_step : Mt P w K mg base 1 C "step" (sp_step K C)) : Mt P w K mg base 2 C "along" (sp_along K C) := by
  refine mt_okM F sc_Web_along hm cls (fun _ _ _ _ _ _ us hl => match us, hl with | [_, _, _], _ => rfl) ?_ fun cdv A outer s H vs Q E hr h tk po => ?_
  · rintro vs H Q E ⟨_, _, _, _, _, _, rfl, _⟩; rfl
  obtain ⟨x, m, rs, kvs, l, o, rfl, hW, hk, hq⟩ := h
  have ⟨dx, sd, t, kvs2, M, hx, _⟩ := hW
  refine ⟨H, [], Sat.whole, ?_⟩
  refine k_cons ?_
  refine k_for_s (fun i σ B L => ∃ v, σ = [some (.ref x), some (.str (sOf l)), some (oN (wlk kvs (l.take i) o)), v] ∧ H = B ∧ L = []) po ?_
  refine k_n 1 ?_
  refine ⟨l, rfl, ⟨none, rfl, rfl, rfl⟩, ?_, ?_⟩
  · rintro i c σ B L hc ⟨v, rfl, rfl, rfl⟩
    refine g_name 3 ?_ sc_Web_along.nd
    refine k_one ?_
    refine k_if ?_
    refine t_cmp ?_
    refine k_n 2 ?_
    refine k_non ?_
    walk_at "opIsNot"
    refine ⟨_, rfl, ?_⟩
    refine ⟨fun hn => ?_, fun hn => ?_⟩
    · obtain ⟨p, hp⟩ : ∃ p, wlk kvs (l.take i) o = some p := by
        cases h : wlk kvs (l.take i) o with
        | none => rw [h] at hn; simp [oN] at hn
        | some p => exact ⟨p, rfl⟩
      rw [hp]
      refine k_one ?_
      refine k_set 2 ?_ sc_Web_along.nd
      refine k_meth M_step (hr.mono (by decide)) takes0 ?_
      refine k_n 0 ?_
      refine ⟨_, _, _, rfl, .inl hx, rfl, ?_⟩
      refine a_cons ?_
      refine k_n 2 ?_
      refine a_cons ?_
      refine k_n 3 ?_
      refine a_nil ?_
      refine use_step hW hk ?_
      refine ⟨some (.str (sOf [c])), ?_, rfl, rfl⟩
      rw [wlk_take hc, hp]; rfl
    · refine k_nil ?_
      refine ⟨some (.str (sOf [c])), ?_, rfl, rfl⟩
      have hz : wlk kvs (l.take i) o = none := by
        cases h : wlk kvs (l.take i) o with
        | none => rfl
        | some p => rw [h] at hn; simp [oN] at hn
      rw [wlk_take hc, hz]; rfl
  · rintro σ B L ⟨v, rfl, rfl, rfl⟩
    refine k_one ?_
    refine k_ret ?_
    refine k_n 2 ?_
    rw [List.take_length]
    exact fun H' s => hq H' s.ext
abbrev s_Web_leads : Stmt := inClass (top 20) 5
abbrev N_Web_leads : List Str := ["self", "word", "at"]
theorem sc_Web_leads : FnScope N_Web_leads ["self", "word", "at"] (defScope s_Web_leads) := ⟨rfl, rfl, rfl, by decide +kernel, rfl, by decide +kernel, by decide +kernel⟩
/-- what is refused as a word -/
def OddW (K : PySem.W.Frag) (H : Hp) (x : V) : Prop := (∃ l, x = .str (sOf l) ∧ l.length ≤ 1000000 ∧ isW l = false) ∨ NoTx K H x
theorem OddW.le {H H' : Hp} {x : V} (h : OddW K H x) (e : Le H H') : OddW K H' x := h.elim (fun z => .inl z) fun z => .inr (z.le e)
def IsPl (m : Nat) (d : PyData) : Prop := ∃ i : Nat, d = .int (i : Nat) ∧ i < m
def sp_leads (K : PySem.W.Frag) (C CW CP : Addr) : Sp := fun vs H Q E => ∃ x m rs kvs, IsWeb K C H x m rs ∧ stepsF rs = some kvs ∧
  ((∃ l i, vs = [.ref x, .str (sOf l), .int (i : Nat)] ∧ isW l = true ∧ i < m ∧ ∀ H', (∀ b o, H b = some o → H' b = some o) → Q (oN (wlk kvs l (some i))) H') ∨
   (∃ y z, vs = [.ref x, y, z] ∧ OddW K H y ∧ ∀ H', (∀ b o, H b = some o → H' b = some o) → E (.ref CW) none H') ∨
   (∃ l z d, vs = [.ref x, .str (sOf l), z] ∧ isW l = true ∧ Dp K H z d ∧ ¬ IsPl m d ∧ ∀ H', (∀ b o, H b = some o → H' b = some o) → E (.ref CP) none H'))
theorem use_leads {C CW CP : Addr} {B : Hp} {L : HL} {Q : KQ} {E : XK} {x : Addr} {m i : Nat} {l : List Nat} {rs : List Road} {kvs : Dct} (h : IsWeb K C B x m rs) (hk : stepsF rs = some kvs) (hw : isW l = true) (hi : i < m) (q : Q (oN (wlk kvs l (some i))) B L) : ∀ H, Sat B L H → sp_leads K C CW CP [.ref x, .str (sOf l), .int (i : Nat)] H (up Q) E := fun H s => ⟨x, m, rs, kvs, h.le s.ext, hk, .inl ⟨l, i, rfl, hw, hi, fun H' e => s.upq e q⟩⟩
theorem use_leads_w {C CW CP : Addr} {B : Hp} {L : HL} {Q : KQ} {E : XK} {x : Addr} {m : Nat} {y z : V} {rs : List Road} {kvs : Dct} (h : IsWeb K C B x m rs) (hk : stepsF rs = some kvs) (hy : ∀ H, Sat B L H → OddW K H y) (q : ∀ H, Sat B L H → E (.ref CW) none H) : ∀ H, Sat B L H → sp_leads K C CW CP [.ref x, y, z] H (up Q) E := fun H s => ⟨x, m, rs, kvs, h.le s.ext, hk, .inr (.inl ⟨y, z, rfl, hy H s, fun H' e => q H' (s.keep e)⟩)⟩
theorem use_leads_p {C CW CP : Addr} {B : Hp} {L : HL} {Q : KQ} {E : XK} {x : Addr} {m : Nat} {l : List Nat} {z : V} {d : PyData} {rs : List Road} {kvs : Dct} (h : IsWeb K C B x m rs) (hk : stepsF rs = some kvs) (hw : isW l = true) (hd : ∀ H, Sat B L H → Dp K H z d) (hn : ¬ IsPl m d) (q : ∀ H, Sat B L H → E (.ref CP) none H) : ∀ H, Sat B L H → sp_leads K C CW CP [.ref x, .str (sOf l), z] H (up Q) E := fun H s => ⟨x, m, rs, kvs, h.le s.ext, hk, .inr (.inr ⟨l, z, d, rfl, hw, hd H s, hn, fun H' e => q H' (s.keep e)⟩)⟩
theorem ok_leads {f C CW CP : Addr} {fd : FuncData} (F : FunD K "leads" "Web.leads" (defArgs s_Web_leads) (defBody s_Web_leads) (defScope s_Web_leads) [.int 0] [] f fd) (cls : Cls K C) (n1 : NoAttr K C "size") (T : Tx mg) (eP : ExK K mg "NoPlace" CP) (F_need_word : Fn P w K mg base 3 "need_word" (sp_need_word K CW)) (F_is_whole : Fn P w K mg base 1 "is_whole" (sp_is_whole K)) (M_along : Mt P w K mg base 2 C "along" (sp_along K C)) : FnOk P w K mg base (L2.CX P w) 4 f fd ["self", "word", "at"] (sp_leads K C CW CP) := by
  refine fn_okFD F sc_Web_leads ?_ fun cdv A outer s H vs Q E hr h tk po => ?_
  · rintro vs H Q E ⟨_, _, _, _, _, _, ⟨_, _, rfl, _⟩ | ⟨_, _, rfl, _⟩ | ⟨_, _, _, rfl, _⟩⟩ <;> rfl
  obtain ⟨x, m, rs, kvs, hW, hk, h⟩ := h
  have ⟨dx, sd, t, kvs2, M, hx, _⟩ := hW
  rcases h with ⟨l, i, rfl, hw, hi, hq⟩ | ⟨y, z, rfl, hy, he⟩ | ⟨l, z, d, rfl, hw, hd, hnp, he⟩
  · refine ⟨H, [], Sat.whole, ?_⟩
    have hl60 := ((isW_iff l).mp hw).1
    refine k_cons ?_
    refine k_expr ?_
    refine k_fn F_need_word (hr.mono (by decide)) ?_
    refine a_cons ?_
    refine k_n 1 ?_
    refine a_nil ?_
    refine use_need_word ?_ hw (by omega)
    refine k_cons ?_
    refine k_if ?_
    refine t_w ?_
    refine w_orP ?_
    refine t_not ?_
    refine t_val ?_
    refine k_fn F_is_whole (hr.mono (by decide)) ?_
    refine a_cons ?_
    refine k_n 2 ?_
    refine a_nil ?_
    refine use_is_whole (d := .int (i : Nat)) (fun _ _ => .int _) ?_
    refine ⟨_, rfl, ?_⟩
    apply Exists.intro; refine ⟨fun hk => ?_, ?_⟩
    {
    refine w_or1 ?_
    refine t_not ?_
    refine t_chainP ?_
    refine k_int ?_
    refine k_n 2 ?_
    walk_at "opLtE"
    refine ⟨_, rfl, ?_⟩; apply Exists.intro; refine ⟨fun hk => ?_, ?_⟩
    {
    refine k_fld cls n1 ?_
    refine k_n 0 ?_
    refine ⟨_, _, _, _, rfl, by walk_at "at", rfl, ?_⟩
    walk_at "opLt"
    exact ⟨rfl, rfl, by walk_at "sfx"⟩
    all_goals (try walk_at "side")
    }
    exact ⟨rfl, rfl, by walk_at "sfx"⟩
    all_goals (try walk_at "side")
    }
    refine ⟨fun hk => ?_, fun _ => ?_⟩
    · exfalso
      simp [whlD] at hk
      omega
    refine k_nil ?_
    refine k_one ?_
    refine k_ret ?_
    refine k_meth M_along (hr.mono (by decide)) takes0 ?_
    refine k_n 0 ?_
    refine ⟨_, _, _, rfl, .inl hx, rfl, ?_⟩
    refine a_cons ?_
    refine k_n 1 ?_
    refine a_cons ?_
    refine k_n 2 ?_
    refine a_nil ?_
    refine use_along (o := some i) hW hk ?_
    exact fun H' s => hq H' s.ext
  · refine ⟨H, [], Sat.whole, ?_⟩
    refine k_cons ?_
    refine k_expr ?_
    refine k_call F_need_word (hr.mono (by decide)) tk ?_
    refine a_cons ?_
    refine k_n 1 ?_
    refine a_nil ?_
    intro H' s'
    rcases hy.le s'.ext with ⟨l, rfl, hn, hl⟩ | hn
    · exact .inl ⟨l, rfl, hn, fun z => (by rw [hl] at z; cases z), fun _ H2 e => he H2 fun b o h => e _ _ (s'.ext _ _ h)⟩
    · exact .inr ⟨y, rfl, hn, fun H2 e => he H2 fun b o h => e _ _ (s'.ext _ _ h)⟩
  · refine ⟨H, [], Sat.whole, ?_⟩
    have hl60 := ((isW_iff l).mp hw).1
    refine k_cons ?_
    refine k_expr ?_
    refine k_fn F_need_word (hr.mono (by decide)) ?_
    refine a_cons ?_
    refine k_n 1 ?_
    refine a_nil ?_
    refine use_need_word ?_ hw (by omega)
    refine k_cons ?_
    refine k_if ?_
    by_cases w1 : whlD d = true
    · obtain ⟨i, rfl, rfl⟩ := whl_int hd w1
      refine t_w ?_
      refine w_orP ?_
      refine t_not ?_
      refine t_val ?_
      refine k_fn F_is_whole (hr.mono (by decide)) ?_
      refine a_cons ?_
      refine k_n 2 ?_
      refine a_nil ?_
      refine use_is_whole (d := .int i) (fun _ _ => .int _) ?_
      refine ⟨_, rfl, ?_⟩
      apply Exists.intro; refine ⟨fun hk => ?_, ?_⟩
      {
      refine w_or1 ?_
      refine t_not ?_
      refine t_chainP ?_
      refine k_int ?_
      refine k_n 2 ?_
      walk_at "opLtE"
      refine ⟨_, rfl, ?_⟩; apply Exists.intro; refine ⟨fun hk => ?_, ?_⟩
      {
      refine k_fld cls n1 ?_
      refine k_n 0 ?_
      refine ⟨_, _, _, _, rfl, by walk_at "at", rfl, ?_⟩
      walk_at "opLt"
      exact ⟨rfl, rfl, by walk_at "sfx"⟩
      all_goals (try walk_at "side")
      }
      exact ⟨rfl, rfl, by walk_at "sfx"⟩
      all_goals (try walk_at "side")
      }
      refine ⟨fun _ => ?_, fun hk => ?_⟩
      · exact k_one (k_raise eP tk fun H' s => he H' s.ext)
      · exfalso
        simp [whlD] at hk
        exact hnp ⟨i.toNat, by rw [show ((i.toNat : Nat) : Int) = i by omega], by omega⟩
    · refine t_w ?_
      refine w_orP ?_
      refine t_not ?_
      refine t_val ?_
      refine k_fn F_is_whole (hr.mono (by decide)) ?_
      refine a_cons ?_
      refine k_n 2 ?_
      refine a_nil ?_
      refine use_is_whole (d := d) (fun H' s' => dp_le s'.ext _ _ hd) ?_
      refine ⟨_, rfl, ?_⟩
      refine ⟨true, fun hk => absurd (by simpa using hk) w1, ?_⟩
      refine ⟨fun _ => ?_, fun hk => (by simp at hk)⟩
      exact k_one (k_raise eP tk fun H' s => he H' s.ext)
/-- leads as a method: told the place, and without -/
theorem mt_leads {f C CW CP : Addr} {fd : FuncData} (F : FunD K "leads" "Web.leads" (defArgs s_Web_leads) (defBody s_Web_leads) (defScope s_Web_leads) [.int 0] [] f fd) (hm : Meth K C "leads" f) (cls : Cls K C) (h : FnOk P w K mg base (L2.CX P w) 4 f fd ["self", "word", "at"] (sp_leads K C CW CP)) : Mt P w K mg base 4 C "leads" (sp_leads K C CW CP) ∧ MtD P w K mg base 4 C "leads" (.int 0) (sp_leads K C CW CP) := by
  obtain ⟨d1, v1, b1⟩ := F.binds1 (ps := ["self", "word", "at"]) 3 1 (by simp) rfl fun T kV doc pm an cdv ct us its hu hi => match us, its, hu, hi with | [_, _, _], [_], _, _ => ⟨_, rfl, rfl⟩
  obtain ⟨d2, v2, b2⟩ := F.binds1 (ps := ["self", "word", "at"]) 2 0 (by simp) rfl fun T kV doc pm an cdv ct us its hu hi => match us, its, hu, hi with | [_, _], [_], _, _ => ⟨_, rfl, rfl⟩
  cases v1
  exact ⟨⟨⟨f, fd, _, h, hm, b1⟩, cls⟩, ⟨⟨f, fd, _, d2, h, hm, b2, v2⟩, cls⟩⟩
abbrev s_belongs : Stmt := top 21
abbrev N_belongs : List Str := ["web", "word"]
theorem sc_belongs : FnScope N_belongs ["web", "word"] (defScope s_belongs) := ⟨rfl, rfl, rfl, by decide +kernel, rfl, by decide +kernel, by decide +kernel⟩
def sp_belongs (K : PySem.W.Frag) (C CW : Addr) : Sp := fun vs H Q E => ∃ x m rs kvs, IsWeb K C H x m rs ∧ 1 ≤ m ∧ stepsF rs = some kvs ∧
  ((∃ l, vs = [.ref x, .str (sOf l)] ∧ isW l = true ∧ ∀ H', (∀ b o, H b = some o → H' b = some o) → Q (.bl (decide (wlk kvs l (some 0) = some 0))) H') ∨
   (∃ y, vs = [.ref x, y] ∧ OddW K H y ∧ ∀ H', (∀ b o, H b = some o → H' b = some o) → E (.ref CW) none H'))
theorem use_belongs {C CW : Addr} {B : Hp} {L : HL} {Q : KQ} {E : XK} {x : Addr} {m : Nat} {l : List Nat} {rs : List Road} {kvs : Dct} (h : IsWeb K C B x m rs) (h1 : 1 ≤ m) (hk : stepsF rs = some kvs) (hw : isW l = true) (q : Q (.bl (decide (wlk kvs l (some 0) = some 0))) B L) : ∀ H, Sat B L H → sp_belongs K C CW [.ref x, .str (sOf l)] H (up Q) E := fun H s => ⟨x, m, rs, kvs, h.le s.ext, h1, hk, .inl ⟨l, rfl, hw, fun H' e => s.upq e q⟩⟩
theorem use_belongs_w {C CW : Addr} {B : Hp} {L : HL} {Q : KQ} {E : XK} {x : Addr} {m : Nat} {y : V} {rs : List Road} {kvs : Dct} (h : IsWeb K C B x m rs) (h1 : 1 ≤ m) (hk : stepsF rs = some kvs) (hy : ∀ H, Sat B L H → OddW K H y) (q : ∀ H, Sat B L H → E (.ref CW) none H) : ∀ H, Sat B L H → sp_belongs K C CW [.ref x, y] H (up Q) E := fun H s => ⟨x, m, rs, kvs, h.le s.ext, h1, hk, .inr ⟨y, rfl, hy H s, fun H' e => q H' (s.keep e)⟩⟩
theorem ok_belongs {f C CW CP : Addr} {fd : FuncData} (F : Fun K "belongs" "belongs" s_belongs f fd) (hm : mg "belongs" = some (.ref f)) (D_leads : MtD P w K mg base 4 C "leads" (.int 0) (sp_leads K C CW CP)) : Fn P w K mg base 5 "belongs" (sp_belongs K C CW) := by
  refine fn_ok F sc_belongs hm (fun _ _ _ _ _ _ us hl => match us, hl with | [_, _], _ => rfl) ?_ fun cdv A outer s H vs Q E hr h tk po => ?_
  · rintro vs H Q E ⟨_, _, _, _, _, _, _, ⟨_, rfl, _⟩ | ⟨_, rfl, _⟩⟩ <;> rfl
  obtain ⟨x, m, rs, kvs, hW, h1, hk, h⟩ := h
  have ⟨dx, sd, t, kvs2, M, hx, _⟩ := hW
  rcases h with ⟨l, rfl, hw, hq⟩ | ⟨y, rfl, hy, he⟩
  · refine ⟨H, [], Sat.whole, ?_⟩
    refine k_one ?_
    refine k_ret ?_
    refine k_cmp ?_
    refine k_methD D_leads (hr.mono (by decide)) takes0 ?_
    refine k_n 0 ?_
    refine ⟨_, _, _, rfl, .inl hx, rfl, ?_⟩
    refine a_cons ?_
    refine k_n 1 ?_
    refine a_nil ?_
    refine use_leads (i := 0) hW hk hw (by omega) ?_
    refine k_int ?_
    refine o_eqS (scal_oN _ _) ?_
    have e : (decide (oN (wlk kvs l (some 0)) = V.int 0)) = decide (wlk kvs l (some 0) = some 0) := by
      rw [Bool.eq_iff_iff, decide_eq_true_iff, decide_eq_true_iff]
      cases wlk kvs l (some 0) with
      | none => simp [oN]
      | some n => simp [oN]
    rw [e]
    exact fun H' s => hq H' s.ext
  · refine ⟨H, [], Sat.whole, ?_⟩
    refine k_one ?_
    refine k_ret ?_
    refine k_cmp ?_
    refine k_methD D_leads (hr.mono (by decide)) tk ?_
    refine k_n 0 ?_
    refine ⟨_, _, _, rfl, .inl hx, rfl, ?_⟩
    refine a_cons ?_
    refine k_n 1 ?_
    refine a_nil ?_
    exact use_leads_w hW hk (fun H' s' => hy.le s'.ext) fun H' s' => he H' s'.ext
/-! ### the places come to: plain -/
def nV (f : List Nat) : List V := f.map fun n => V.int (n : Nat)
theorem sub_len {α : Type} [DecidableEq α] : ∀ {l m : List α}, l.Nodup → (∀ x ∈ l, x ∈ m) → l.length ≤ m.length
  | [], _, _, _ => Nat.zero_le _
  | x :: l, m, hn, hs => by
    rw [List.nodup_cons] at hn
    have hx := hs x List.mem_cons_self
    have h1 := sub_len (m := m.erase x) hn.2 fun y hy => (List.mem_erase_of_ne (fun e : y = x => hn.1 (by rw [← e]; exact hy))).mpr (hs y (.tail _ hy))
    rw [List.length_erase_of_mem hx] at h1
    have := List.length_pos_of_mem hx
    rw [List.length_cons]; omega
theorem few_len {l : List Nat} {m : Nat} (hn : l.Nodup) (h : ∀ x ∈ l, x < m) : l.length ≤ m := by
  have := sub_len hn (m := List.range m) fun x hx => List.mem_range.mpr (h x hx)
  rwa [List.length_range] at this
def vis1 (kvs : Dct) (p : Nat) (f : List Nat) (c : Nat) : List Nat :=
  match stp kvs (p, c) with
  | some q => if q ∈ f then f else f ++ [q]
  | none => f
def vis (kvs : Dct) (p : Nat) (l f : List Nat) : List Nat := l.foldl (vis1 kvs p) f
def comeF (kvs : Dct) : Nat → List Nat → Nat → List Nat
  | 0, f, _ => f
  | n + 1, f, i => match f[i]? with
    | some p => comeF kvs n (vis kvs p ordL f) (i + 1)
    | none => f
def come (kvs : Dct) (m : Nat) : List Nat := comeF kvs m [0] 0
/-- the dict leads to places below m -/
def Bel (kvs : Dct) (m : Nat) : Prop := ∀ a p, stp kvs a = some p → p < m
structure Fnd (m : Nat) (f : List Nat) : Prop where
  n : f.Nodup
  b : ∀ p ∈ f, p < m
theorem vis1_fnd {kvs : Dct} {m p c : Nat} {f : List Nat} (hB : Bel kvs m) (h : Fnd m f) : Fnd m (vis1 kvs p f c) ∧ ∃ z, vis1 kvs p f c = f ++ z := by
  unfold vis1
  cases e : stp kvs (p, c) with
  | none => exact ⟨h, [], by simp⟩
  | some q =>
    dsimp only
    by_cases hq : q ∈ f
    · rw [if_pos hq]; exact ⟨h, [], by simp⟩
    · rw [if_neg hq]
      refine ⟨⟨?_, fun x hx => ?_⟩, [q], rfl⟩
      · rw [List.nodup_append]
        refine ⟨h.n, by simp, fun a ha b hb e2 => ?_⟩
        rw [List.mem_singleton] at hb
        exact hq (by rw [← hb, ← e2]; exact ha)
      · rcases List.mem_append.mp hx with hx | hx
        · exact h.b x hx
        · rw [List.mem_singleton.mp hx]; exact hB _ _ e
theorem vis_fnd {kvs : Dct} {m p : Nat} (hB : Bel kvs m) : ∀ {l f : List Nat}, Fnd m f → Fnd m (vis kvs p l f) ∧ ∃ z, vis kvs p l f = f ++ z
  | [], f, h => ⟨h, [], by simp [vis]⟩
  | c :: l, f, h => by
    obtain ⟨h1, z1, e1⟩ := vis1_fnd (p := p) (c := c) hB h
    obtain ⟨h2, z2, e2⟩ := vis_fnd hB (l := l) h1
    exact ⟨h2, z1 ++ z2, by show vis kvs p l (vis1 kvs p f c) = _; rw [e2, e1, List.append_assoc]⟩
theorem vis_take {kvs : Dct} {p : Nat} {l f : List Nat} {j c : Nat} (h : l[j]? = some c) : vis kvs p (l.take (j + 1)) f = vis1 kvs p (vis kvs p (l.take j) f) c := by
  unfold vis
  rw [List.take_add_one, h, List.foldl_append]; rfl
theorem inV_n (q : Nat) : ∀ f : List Nat, inV (.int (q : Nat)) (nV f) = decide (q ∈ f)
  | [] => rfl
  | a :: f => by
    show (eqV (.int (a : Nat)) (.int (q : Nat)) || inV (.int (q : Nat)) (nV f)) = _
    rw [inV_n q f]
    show (((a : Int) == (q : Int)) || decide (q ∈ f)) = _
    rw [Bool.eq_iff_iff]
    simp only [Bool.or_eq_true, beq_iff_eq, decide_eq_true_iff, List.mem_cons]
    constructor
    · rintro (h | h)
      · exact .inl (by omega)
      · exact .inr h
    · rintro (h | h)
      · exact .inl (by omega)
      · exact .inr h
theorem nV_flat (f : List Nat) : (nV f).all flatV = true := by
  unfold nV
  rw [List.all_map]
  exact List.all_eq_true.mpr fun x _ => rfl
section
variable {X : Cx} {B : Hp} {L : HL} {Q : KQ}
theorem o_ninlst {x : V} {p : Addr} {xs : List V} (h : Ls X.K B L p xs) (fx : flatV x = true) (fs : xs.all flatV = true) (q : Q (.bl (!inV x xs)) B L) : kO X (compareOp .NotIn) x (.ref p) B L Q :=
  ⟨_, op_notIn_seq, fun H s => ⟨p, xs, rfl, .inl (h.at s), fx, fs, _, _, s, q⟩⟩
end
abbrev s_come_to : Stmt := top 24
abbrev N_come_to : List Str := ["steps", "found", "at", "letter", "there"]
theorem sc_come_to : FnScope N_come_to ["steps"] (defScope s_come_to) := ⟨rfl, rfl, rfl, by decide +kernel, rfl, by decide +kernel, by decide +kernel⟩
def sp_come_to : Sp := fun vs H Q _ => ∃ d kvs m, vs = [.ref d] ∧ H d = some (.dT kvs) ∧ AllN kvs ∧ Bel kvs m ∧ (1 ≤ m ∧ m ≤ 1000) ∧ ∀ H' q, (∀ b o, H b = some o → H' b = some o) → H q = none → H' q = some (.lst (nV (come kvs m))) → Q (.ref q) H'
theorem use_come_to {B : Hp} {L : HL} {Q : KQ} {E : XK} {d : Addr} {kvs : Dct} {m : Nat} (hd : At B L d (.dT kvs)) (hA : AllN kvs) (hB : Bel kvs m) (hm : 1 ≤ m ∧ m ≤ 1000) (q : ∀ r, Q (.ref r) B ((r, .lst (nV (come kvs m))) :: L)) : ∀ H, Sat B L H → sp_come_to [.ref d] H (up Q) E :=
  fun H s => ⟨d, kvs, m, rfl, hd.at s, hA, hB, hm, fun H' r e h1 h2 => ⟨B, _, s.new' h1 e h2, q r⟩⟩
theorem ok_come_to {f : Addr} {fd : FuncData} (F : Fun K "come_to" "come_to" s_come_to f fd) (hm : mg "come_to" = some (.ref f)) (T : Tx mg) : Fn P w K mg base 1 "come_to" sp_come_to := by
  refine fn_ok F sc_come_to hm (fun _ _ _ _ _ _ us hl => match us, hl with | [_], _ => rfl) ?_ fun cdv A outer s H vs Q E hr h tk po => ?_
  · rintro vs H Q E ⟨_, _, _, rfl, _⟩; rfl
  obtain ⟨d, kvs, m, rfl, hd, hA, hB, ⟨hm1, hm2⟩, hq⟩ := h
  refine ⟨H, [], Sat.whole, ?_⟩
  refine k_cons ?_
  refine k_set 1 ?_ sc_come_to.nd
  refine k_lst ?_
  refine a_cons ?_
  refine k_int ?_
  refine a_nil ?_
  refine ⟨by simp, fun pf => ?_⟩
  show kSs _ _ _ _ _ _
  refine k_norm (by simp only [L2.start, N_come_to, List.map_cons, List.map_nil, List.length_cons, List.length_nil, Nat.reduceAdd, Nat.reduceSub, List.replicate_succ, List.replicate_zero, List.cons_append, List.nil_append, List.set_cons_succ, List.set_cons_zero]; exact rfl) ?_
  refine k_cons ?_
  refine k_set 2 ?_ sc_come_to.nd
  refine k_int ?_
  show kSs _ _ _ _ _ _
  refine k_norm (by simp only [L2.start, N_come_to, List.map_cons, List.map_nil, List.length_cons, List.length_nil, Nat.reduceAdd, Nat.reduceSub, List.replicate_succ, List.replicate_zero, List.cons_append, List.nil_append, List.set_cons_succ, List.set_cons_zero]; exact rfl) ?_
  refine k_cons ?_
  refine k_while (fun μ σ B L => ∃ (f : List Nat) (i : Nat) (v3 v4 : Option V), σ = [some (.ref d), some (.ref pf), some (.int (i : Nat)), v3, v4] ∧ H = B ∧ (pf, HO.lst (nV f)) ∈ L ∧ Fnd m f ∧ i ≤ f.length ∧ comeF kvs (m - i) f i = come kvs m ∧ μ = m - i) m po ⟨[0], 0, none, none, rfl, rfl, List.mem_cons_self, ⟨by simp, fun p hp => by rw [List.mem_singleton.mp hp]; omega⟩, Nat.zero_le _, rfl, rfl⟩ ?_
  rintro μ σ B L ⟨f, i, v3, v4, rfl, rfl, hmf, hF, hil, hcf, rfl⟩
  have hfm := few_len hF.n hF.b
  have hnl : (nV f).length = f.length := List.length_map _
  refine t_cmp ?_
  refine k_n 2 ?_
  refine k_callB (id := "len") T.b_len ?_
  refine a_cons ?_
  refine k_n 1 ?_
  refine a_nil ?_
  refine c_lenl (xs := nV f) (.inr hmf) ?_; rw [hnl]
  walk_at "opLt"
  refine ⟨_, rfl, ?_⟩
  refine ⟨fun hk => ?_, fun hk => ?_⟩
  · have hi : i < f.length := by have := of_decide_eq_true hk; omega
    have hfi : f[i]? = some f[i] := List.getElem?_eq_getElem hi
    generalize f[i] = p at hfi
    refine k_sub (L' := [(pf, .lst (nV f))]) (List.singleton_sublist.mpr hmf) ?_
    refine k_cons ?_
    refine k_for_s (fun j σ B L => ∃ v3 v4, σ = [some (.ref d), some (.ref pf), some (.int (i : Nat)), v3, v4] ∧ H = B ∧ (pf, HO.lst (nV (vis kvs p (ordL.take j) f))) ∈ L) po ?_
    refine k_gsE T.g_ORDER ?_
    refine ⟨ordL, rfl, ⟨_, _, rfl, rfl, List.mem_cons_self⟩, ?_, ?_⟩
    · rintro j c σ B L hc ⟨w3, w4, rfl, rfl, hmg⟩
      have hvt := vis_take (kvs := kvs) (p := p) (f := f) hc
      obtain ⟨hG, z, hz⟩ := vis_fnd (p := p) hB (l := ordL.take j) hF
      generalize vis kvs p (ordL.take j) f = g at *
      have hgi : g[i]? = some p := by rw [hz, List.getElem?_append_left hi]; exact hfi
      have hgl := few_len hG.n hG.b
      refine g_name 3 ?_ sc_come_to.nd
      refine k_norm (by simp only [L2.start, N_come_to, List.map_cons, List.map_nil, List.length_cons, List.length_nil, Nat.reduceAdd, Nat.reduceSub, List.replicate_succ, List.replicate_zero, List.cons_append, List.nil_append, List.set_cons_succ, List.set_cons_zero]; exact rfl) ?_
      refine k_sub (L' := [(pf, .lst (nV g))]) (List.singleton_sublist.mpr hmg) ?_
      refine k_cons ?_
      refine k_set 4 ?_ sc_come_to.nd
      refine k_getT hr.units ?_
      refine k_n 0 ?_
      refine ⟨d, kvs, rfl, .inl hd, ?_⟩
      refine k_tup ?_
      refine a_cons ?_
      refine k_ix ?_
      refine k_n 1 ?_
      refine k_n 2 ?_
      refine i_lv (.int (p : Nat)) (xs := nV g) (.inr (by walk_at "mm")) ?_ (by rw [atI_n]; unfold nV; rw [List.getElem?_map, hgi]; rfl)
      refine a_cons ?_
      refine k_n 3 ?_
      refine a_nil ?_
      refine ⟨by simp, fun pk => ?_⟩
      refine ⟨kvs, stK (p, c), pk, .inl hd, rfl, .inr List.mem_cons_self, ?_⟩
      rw [stp_val hA]
      show kSs _ _ _ _ _ _
      refine k_norm (by simp only [L2.start, N_come_to, List.map_cons, List.map_nil, List.length_cons, List.length_nil, Nat.reduceAdd, Nat.reduceSub, List.replicate_succ, List.replicate_zero, List.cons_append, List.nil_append, List.set_cons_succ, List.set_cons_zero]; exact rfl) ?_
      refine k_one ?_
      refine k_if ?_
      cases hs : stp kvs (p, c) with
      | none =>
        refine t_w ?_
        refine w_andP ?_
        refine t_cmp ?_
        refine k_n 4 ?_
        refine k_non ?_
        walk_at "opIsNot"
        refine ⟨_, rfl, ?_⟩
        refine ⟨false, fun z => (by simp [oN] at z), ?_⟩
        refine ⟨fun z => (by simp [oN] at z), fun _ => ?_⟩
        refine k_nil ?_
        refine ⟨_, _, rfl, rfl, ?_⟩
        rw [hvt]
        unfold vis1
        rw [hs]
        exact .tail _ List.mem_cons_self
      | some q =>
        refine t_w ?_
        refine w_andP ?_
        refine t_cmp ?_
        refine k_n 4 ?_
        refine k_non ?_
        walk_at "opIsNot"
        refine ⟨_, rfl, ?_⟩
        apply Exists.intro; refine ⟨fun hk => ?_, ?_⟩
        {
        refine w_and1 ?_
        refine t_cmp ?_
        refine k_n 4 ?_
        refine k_n 1 ?_
        refine o_ninlst (xs := nV g) (.inr (by walk_at "mm")) rfl (nV_flat g) ?_; rw [show oN (some q) = V.int (q : Nat) from rfl, inV_n]
        refine ⟨_, rfl, ?_⟩
        exact ⟨rfl, rfl, by walk_at "sfx"⟩
        all_goals (try walk_at "side")
        }
        refine ⟨fun hk2 => ?_, fun hk2 => ?_⟩
        · have hqg : q ∉ g := by simpa [oN] using hk2
          refine k_one ?_
          refine k_expr ?_
          refine k_m PySem.F.plainAttrs_list PySem.F.slot_list_append PySem.F.type_list_append ?_
          refine k_n 1 ?_
          refine ⟨ty_l (.inr (by walk_at "mm")), ?_⟩
          refine a_cons ?_
          refine k_n 4 ?_
          refine a_nil ?_
          refine m_append (xs := nV g) (.there .here) ?_ (by unfold nV; rw [List.length_map]; omega)
          refine ⟨_, _, rfl, rfl, ?_⟩
          rw [hvt]
          unfold vis1
          rw [hs]
          dsimp only
          rw [if_neg hqg]
          have e : nV g ++ [V.int (q : Nat)] = nV (g ++ [q]) := by unfold nV; rw [List.map_append]; rfl
          rw [← e]
          exact .tail _ List.mem_cons_self
        · have hqg : q ∈ g := by simpa [oN] using hk2
          refine k_nil ?_
          refine ⟨_, _, rfl, rfl, ?_⟩
          rw [hvt]
          unfold vis1
          rw [hs]
          dsimp only
          rw [if_pos hqg]
          exact .tail _ List.mem_cons_self
    · rintro σ B L ⟨w3, w4, rfl, rfl, hmg⟩
      rw [List.take_length] at hmg
      obtain ⟨hG, z, hz⟩ := vis_fnd (p := p) hB (l := ordL) hF
      refine k_one ?_
      refine k_aug_add 2 ?_ sc_come_to.nd
      refine k_int ?_
      refine ⟨_, rfl, ?_⟩
      have hmi : i < m := Nat.lt_of_lt_of_le hi hfm
      refine ⟨m - (i + 1), by omega, _, i + 1, _, _, (by rw [show ((i : Int) + 1) = ((i + 1 : Nat) : Int) by omega]; rfl), rfl, hmg, hG, by rw [hz, List.length_append]; omega, ?_, rfl⟩
      rw [← hcf]
      have e : m - i = (m - (i + 1)) + 1 := by omega
      rw [e]
      show _ = (match f[i]? with | some p => comeF kvs (m - (i + 1)) (vis kvs p ordL f) (i + 1) | none => f)
      rw [hfi]
  · have hi : f[i]? = none := List.getElem?_eq_none (by have := of_decide_eq_false hk; omega)
    have e : f = come kvs m := by
      rw [← hcf]
      cases h : m - i with
      | zero => rfl
      | succ n =>
        show f = (match f[i]? with | some p => comeF kvs n (vis kvs p ordL f) (i + 1) | none => f)
        rw [hi]
    refine k_one ?_
    refine k_ret ?_
    refine k_n 1 ?_
    rw [← e] at hq
    exact fun H' s => hq H' pf s.ext (s.nb _ hmf) (s.own _ hmf)
abbrev s_is_held : Stmt := top 23
abbrev N_is_held : List Str := ["place", "ends"]
theorem sc_is_held : FnScope N_is_held ["place", "ends"] (defScope s_is_held) := ⟨rfl, rfl, rfl, by decide +kernel, rfl, by decide +kernel, by decide +kernel⟩
def heldB (n : Nat) (es : List Nat) : Bool := decide (n = 0) || decide (1 < es.count n)
theorem countP_n (n : Nat) : ∀ es : List Nat, ((nV es).countP fun z => eqV z (.int (n : Nat))) = es.count n
  | [] => rfl
  | a :: es => by
    show List.countP _ (V.int (a : Nat) :: nV es) = _
    rw [List.countP_cons, countP_n n es, List.count_cons]
    congr 1
    have e : eqV (.int (a : Nat)) (.int (n : Nat)) = (a == n) := by
      show ((a : Int) == (n : Int)) = _
      rw [Bool.eq_iff_iff, beq_iff_eq, beq_iff_eq]
      omega
    rw [e]
def sp_is_held (K : PySem.W.Frag) : Sp := fun vs H Q _ => ∃ (n : Nat) (a : Addr) (es : List Nat), vs = [.int (n : Nat), .ref a] ∧ SqL K H a (nV es) ∧ ∀ H', (∀ b o, H b = some o → H' b = some o) → Q (.bl (heldB n es)) H'
theorem use_is_held {K : PySem.W.Frag} {B : Hp} {L : HL} {Q : KQ} {E : XK} {n : Nat} {a : Addr} {es : List Nat} (h : Ls K B L a (nV es)) (q : Q (.bl (heldB n es)) B L) : ∀ H, Sat B L H → sp_is_held K [.int (n : Nat), .ref a] H (up Q) E := fun H s => ⟨n, a, es, rfl, h.at s, fun H' e => s.upq e q⟩
theorem ok_is_held {f : Addr} {fd : FuncData} (F : Fun K "is_held" "is_held" s_is_held f fd) (hm : mg "is_held" = some (.ref f)) : Fn P w K mg base 1 "is_held" (sp_is_held K) := by
  refine fn_ok F sc_is_held hm (fun _ _ _ _ _ _ us hl => match us, hl with | [_, _], _ => rfl) ?_ fun cdv A outer s H vs Q E hr h tk po => ?_
  · rintro vs H Q E ⟨_, _, _, rfl, _⟩; rfl
  obtain ⟨n, a, es, rfl, ha, hq⟩ := h
  refine ⟨H, [], Sat.whole, ?_⟩
  refine k_one ?_
  refine k_ret ?_
  refine k_orP ?_
  refine k_cmp ?_
  refine k_n 0 ?_
  refine k_int ?_
  walk_at "opEq"
  refine ⟨_, rfl, ?_⟩; apply Exists.intro; refine ⟨fun hk => ?_, ?_⟩
  {
  refine k_or1 ?_
  refine k_cmp ?_
  refine k_m PySem.F.plainAttrs_list PySem.F.slot_list_count PySem.F.type_list_count ?_
  refine k_n 1 ?_
  refine ⟨ty_l (.inl ha), ?_⟩
  refine a_cons ?_
  refine k_n 0 ?_
  refine a_nil ?_
  refine m_lcount (.inl ha) rfl (nV_flat es) ?_; rw [countP_n]
  refine k_int ?_
  walk_at "opGt"
  exact ⟨rfl, rfl, by walk_at "sfx"⟩
  all_goals (try walk_at "side")
  }
  intro H' s
  have e : (decide ((n : Int) = 0) || decide (((es.count n : Nat) : Int) > 1)) = heldB n es := by
    unfold heldB
    have e1 : ((n : Int) = 0) = (n = 0) := by rw [eq_iff_iff]; omega
    have e2 : (((es.count n : Nat) : Int) > 1) = (1 < es.count n) := by rw [eq_iff_iff]; omega
    simp only [e1, e2]
  rw [e]
  exact hq H' s.ext
abbrev s_trimmed : Stmt := top 22
abbrev N_trimmed : List Str := ["roads", "left", "cut", "ends", "kept", "road"]
theorem sc_trimmed : FnScope N_trimmed ["roads"] (defScope s_trimmed) := ⟨rfl, rfl, rfl, by decide +kernel, rfl, by decide +kernel, by decide +kernel⟩
def ends (M : List (Addr × Road)) : List Nat := M.map (fun z => z.2.1) ++ M.map fun z => z.2.2.2
def keptF (M : List (Addr × Road)) : List (Addr × Road) := M.filter fun z => heldB z.2.1 (ends M) && heldB z.2.2.2 (ends M)
def trimN : Nat → List (Addr × Road) → List (Addr × Road)
  | 0, M => M
  | n + 1, M => if (keptF M).length < M.length then trimN n (keptF M) else keptF M
def trimF (M : List (Addr × Road)) : List (Addr × Road) := trimN (M.length + 1) M
theorem trimN_more : ∀ {n k : Nat} {M : List (Addr × Road)}, M.length + 1 ≤ n → M.length + 1 ≤ k → trimN n M = trimN k M
  | 0, _, _, h, _ => absurd h (by omega)
  | _ + 1, 0, _, _, h => absurd h (by omega)
  | n + 1, k + 1, M, hn, hk => by
    show (if (keptF M).length < M.length then trimN n (keptF M) else keptF M) = if (keptF M).length < M.length then trimN k (keptF M) else keptF M
    by_cases h : (keptF M).length < M.length
    · rw [if_pos h, if_pos h]; exact trimN_more (by omega) (by omega)
    · rw [if_neg h, if_neg h]
def sp_trimmed (K : PySem.W.Frag) : Sp := fun vs H Q _ => ∃ (a : Addr) (M : List (Addr × Road)), vs = [.ref a] ∧ SqL K H a (rV M) ∧ RdM K H M ∧ M.length ≤ 1000 ∧ ∀ H' q, (∀ b o, H b = some o → H' b = some o) → H q = none → H' q = some (.lst (rV (trimF M))) → Q (.ref q) H'
theorem use_trimmed {B : Hp} {L : HL} {Q : KQ} {E : XK} {a : Addr} {M : List (Addr × Road)} (hl : Ls K B L a (rV M)) (hM : RdM K B M) (hn : M.length ≤ 1000) (q : ∀ r, Q (.ref r) B ((r, .lst (rV (trimF M))) :: L)) : ∀ H, Sat B L H → sp_trimmed K [.ref a] H (up Q) E :=
  fun H s => ⟨a, M, rfl, hl.at s, hM.le s.ext, hn, fun H' r e h1 h2 => ⟨B, _, s.new' h1 e h2, q r⟩⟩
theorem ok_trimmed {f : Addr} {fd : FuncData} (F : Fun K "trimmed" "trimmed" s_trimmed f fd) (hm : mg "trimmed" = some (.ref f)) (T : Tx mg) (F_is_held : Fn P w K mg base 1 "is_held" (sp_is_held K)) : Fn P w K mg base 2 "trimmed" (sp_trimmed K) := by
  refine fn_ok F sc_trimmed hm (fun _ _ _ _ _ _ us hl => match us, hl with | [_], _ => rfl) ?_ fun cdv A outer s H vs Q E hr h tk po => ?_
  · rintro vs H Q E ⟨_, _, rfl, _⟩; rfl
  obtain ⟨a, M0, rfl, ha, hM0, hn, hq⟩ := h
  refine ⟨H, [], Sat.whole, ?_⟩
  refine k_cons ?_
  refine k_set 1 ?_ sc_trimmed.nd
  refine k_callT (T := "list") T.b_list ?_
  refine a_cons ?_
  refine k_n 0 ?_
  refine a_nil ?_
  refine c_listl (xs := rV M0) (.inl ha) fun pl0 => ?_
  show kSs _ _ _ _ _ _
  refine k_norm (by simp only [L2.start, N_trimmed, List.map_cons, List.map_nil, List.length_cons, List.length_nil, Nat.reduceAdd, Nat.reduceSub, List.replicate_succ, List.replicate_zero, List.cons_append, List.nil_append, List.set_cons_succ, List.set_cons_zero]; exact rfl) ?_
  refine k_cons ?_
  refine k_set 2 ?_ sc_trimmed.nd
  refine k_bl ?_
  show kSs _ _ _ _ _ _
  refine k_norm (by simp only [L2.start, N_trimmed, List.map_cons, List.map_nil, List.length_cons, List.length_nil, Nat.reduceAdd, Nat.reduceSub, List.replicate_succ, List.replicate_zero, List.cons_append, List.nil_append, List.set_cons_succ, List.set_cons_zero]; exact rfl) ?_
  refine k_cons ?_
  refine k_while (fun μ σ B L => ∃ (M : List (Addr × Road)) (c : Bool) (pl : Addr) (v3 v4 v5 : Option V), σ = [some (.ref a), some (.ref pl), some (.bl c), v3, v4, v5] ∧ H = B ∧ (pl, HO.lst (rV M)) ∈ L ∧ RdM K H M ∧ M.length ≤ 1000 ∧ (c = true → trimN (M.length + 1) M = trimF M0) ∧ (c = false → M = trimF M0) ∧ μ = if c = true then M.length + 1 else 0) (M0.length + 1) po ⟨M0, true, pl0, none, none, none, rfl, rfl, List.mem_cons_self, hM0, hn, fun _ => rfl, fun z => (nomatch z), rfl⟩ ?_
  rintro μ σ B L ⟨M, c, pl, v3, v4, v5, rfl, rfl, hml, hM, hMn, ht, hf, rfl⟩
  have hVl : (rV M).length = M.length := List.length_map _
  have hat : ∀ {i : Nat} {z : V}, (rV M)[i]? = some z → ∃ y, M[i]? = some y ∧ z = .ref y.1 := fun {i z} hz => by
    unfold rV at hz
    rw [List.getElem?_map] at hz
    cases h : M[i]? with
    | none => rw [h] at hz; cases hz
    | some y => rw [h] at hz; exact ⟨y, rfl, (Option.some.inj hz).symm⟩
  refine t_val ?_
  refine k_n 2 ?_
  refine ⟨_, rfl, ?_⟩
  refine ⟨fun hk => ?_, fun hk => ?_⟩
  · subst hk
    refine k_sub (L' := [(pl, .lst (rV M))]) (List.singleton_sublist.mpr hml) ?_
    refine k_cons ?_
    refine k_set 3 ?_ sc_trimmed.nd
    refine k_bin ?_
    refine k_le (k_lcv_l (j := 5) (fun i acc B' L' => H = B' ∧ L' = [(pl, .lst (rV M))] ∧ acc = (M.take i).map (fun z => V.int (z.2.1 : Nat)) ∧ i ≤ M.length) sc_trimmed.nd (blkOk_by (N := N_trimmed) (sc := defScope s_trimmed) (by decide +kernel)) ?_)
    refine k_n 1 ?_
    refine ⟨pl, rV M, rfl, by omega, ⟨rfl, rfl, rfl, Nat.zero_le _⟩, ?_, ?_, fun acc B1 L1 D0 hP => ?_⟩
    · rintro i acc B1 L1 ⟨rfl, rfl, rfl, hi⟩
      exact ⟨.inr List.mem_cons_self, by rw [List.length_map, List.length_take]; omega⟩
    · rintro i acc B1 L1 z hz ⟨rfl, rfl, rfl, hi⟩ D s0 H0 C0 cl0 fp0
      obtain ⟨y, hy, rfl⟩ := hat hz
      have hyl := (List.getElem?_eq_some_iff.mp hy).1
      refine k_ix ?_
      refine k_n 5 ?_
      refine k_int ?_
      refine i_tv (.int (y.2.1 : Nat)) (xs := rdV y.2) (.inl (hM y (List.mem_of_getElem? hy))) ?_ rfl
      exact ⟨_, rfl, rfl, rfl, by rw [List.take_add_one, hy]; simp, hyl⟩
    obtain ⟨rfl, rfl, rfl, _⟩ := hP
    rw [hVl, List.take_length]
    refine k_le (k_lcv_l (j := 5) (fun i acc B' L' => H = B' ∧ L' = [(D0, .lst (M.map fun z => V.int (z.2.1 : Nat))), (pl, .lst (rV M))] ∧ acc = (M.take i).map (fun z => V.int (z.2.2.2 : Nat)) ∧ i ≤ M.length) sc_trimmed.nd (blkOk_by (N := N_trimmed) (sc := defScope s_trimmed) (by decide +kernel)) ?_)
    refine k_n 1 ?_
    refine ⟨pl, rV M, rfl, by omega, ⟨rfl, rfl, rfl, Nat.zero_le _⟩, ?_, ?_, fun acc B1 L1 D1 hP => ?_⟩
    · rintro i acc B1 L1 ⟨rfl, rfl, rfl, hi⟩
      exact ⟨.inr (by walk_at "mm"), by rw [List.length_map, List.length_take]; omega⟩
    · rintro i acc B1 L1 z hz ⟨rfl, rfl, rfl, hi⟩ D s0 H0 C0 cl0 fp0
      obtain ⟨y, hy, rfl⟩ := hat hz
      have hyl := (List.getElem?_eq_some_iff.mp hy).1
      refine k_ix ?_
      refine k_n 5 ?_
      refine k_int ?_
      refine i_tv (.int (y.2.2.2 : Nat)) (xs := rdV y.2) (.inl (hM y (List.mem_of_getElem? hy))) ?_ rfl
      exact ⟨_, rfl, rfl, rfl, by rw [List.take_add_one, hy]; simp, hyl⟩
    obtain ⟨rfl, rfl, rfl, _⟩ := hP
    rw [hVl, List.take_length]
    refine o_catl (.inr (by walk_at "mm")) (.inr List.mem_cons_self) (by rw [List.length_map, List.length_map]; omega) fun pe => ?_
    have ee : M.map (fun z => V.int (z.2.1 : Nat)) ++ M.map (fun z => V.int (z.2.2.2 : Nat)) = nV (ends M) := by unfold nV ends; rw [List.map_append, List.map_map, List.map_map]; rfl
    rw [ee]
    show kSs _ _ _ _ _ _
    refine k_norm (by simp only [L2.start, N_trimmed, List.map_cons, List.map_nil, List.length_cons, List.length_nil, Nat.reduceAdd, Nat.reduceSub, List.replicate_succ, List.replicate_zero, List.cons_append, List.nil_append, List.set_cons_succ, List.set_cons_zero]; exact rfl) ?_
    refine k_sub (L' := [(pe, .lst (nV (ends M))), (pl, .lst (rV M))]) (by repeat (first | exact List.Sublist.refl _ | apply List.Sublist.cons_cons | apply List.Sublist.cons)) ?_
    refine k_cons ?_
    refine k_sle 4 (k_lcfA (j := 5) M (fun z => V.ref z.1) (fun z => heldB z.2.1 (ends M) && heldB z.2.2.2 (ends M)) (fun z => V.ref z.1) sc_trimmed.nd (blkOk_by (N := N_trimmed) (sc := defScope s_trimmed) (by decide +kernel)) ?_)
    refine k_n 1 ?_
    refine ⟨pl, rfl, .inr (by walk_at "mm"), by omega, fun z hz D acc sb Hb Cb clb fpb => ?_, fun z hz _ D acc sb Hb Cb clb fpb => ?_, fun pk => ?_⟩
    · skip
      refine t_w ?_
      refine w_andP ?_
      refine t_val ?_
      refine k_fn F_is_held (hr.mono (by decide)) ?_
      refine a_cons ?_
      refine k_ix ?_
      refine k_n 5 ?_
      refine k_int ?_
      refine i_tv (.int (z.2.1 : Nat)) (xs := rdV z.2) (.inl (hM z hz)) ?_ rfl
      refine a_cons ?_
      refine k_n 3 ?_
      refine a_nil ?_
      refine use_is_held (es := ends M) (.inr (by walk_at "mm")) ?_
      refine ⟨_, rfl, ?_⟩
      apply Exists.intro; refine ⟨fun hk => ?_, ?_⟩
      {
      refine w_and1 ?_
      refine t_val ?_
      refine k_fn F_is_held (hr.mono (by decide)) ?_
      refine a_cons ?_
      refine k_ix ?_
      refine k_n 5 ?_
      refine k_int ?_
      refine i_tv (.int (z.2.2.2 : Nat)) (xs := rdV z.2) (.inl (hM z hz)) ?_ rfl
      refine a_cons ?_
      refine k_n 3 ?_
      refine a_nil ?_
      refine use_is_held (es := ends M) (.inr (by walk_at "mm")) ?_
      refine ⟨_, rfl, ?_⟩
      exact ⟨rfl, rfl, by walk_at "sfx"⟩
      all_goals (try walk_at "side")
      }
      exact ⟨rfl, rfl, rfl⟩
    · skip
      refine k_n 5 ?_
      exact ⟨rfl, rfl, rfl⟩
    have ek : (M.filter fun z => heldB z.2.1 (ends M) && heldB z.2.2.2 (ends M)).map (fun z => V.ref z.1) = rV (keptF M) := rfl
    rw [ek]
    have hkl : (keptF M).length ≤ M.length := List.length_filter_le _ _
    have hkm : RdM K H (keptF M) := fun z hz => hM z (List.mem_filter.mp hz).1
    have hkv : (rV (keptF M)).length = (keptF M).length := List.length_map _
    show kSs _ _ _ _ _ _
    refine k_norm (by simp only [L2.start, N_trimmed, List.map_cons, List.map_nil, List.length_cons, List.length_nil, Nat.reduceAdd, Nat.reduceSub, List.replicate_succ, List.replicate_zero, List.cons_append, List.nil_append, List.set_cons_succ, List.set_cons_zero]; exact rfl) ?_
    refine k_cons ?_
    refine k_set 2 ?_ sc_trimmed.nd
    refine k_cmp ?_
    refine k_callB (id := "len") T.b_len ?_
    refine a_cons ?_
    refine k_n 4 ?_
    refine a_nil ?_
    refine c_lenl (xs := rV (keptF M)) (.inr (by walk_at "mm")) ?_; rw [hkv]
    refine k_callB (id := "len") T.b_len ?_
    refine a_cons ?_
    refine k_n 1 ?_
    refine a_nil ?_
    refine c_lenl (xs := rV M) (.inr (by walk_at "mm")) ?_; rw [hVl]
    walk_at "opLt"
    show kSs _ _ _ _ _ _
    refine k_norm (by simp only [L2.start, N_trimmed, List.map_cons, List.map_nil, List.length_cons, List.length_nil, Nat.reduceAdd, Nat.reduceSub, List.replicate_succ, List.replicate_zero, List.cons_append, List.nil_append, List.set_cons_succ, List.set_cons_zero]; exact rfl) ?_
    refine k_one ?_
    refine k_set 1 ?_ sc_trimmed.nd
    refine k_n 4 ?_
    have ht' := ht rfl
    have et : trimN (M.length + 1) M = if (keptF M).length < M.length then trimN M.length (keptF M) else keptF M := rfl
    rw [et] at ht'
    by_cases hc : (keptF M).length < M.length
    · rw [if_pos hc] at ht'
      refine ⟨(keptF M).length + 1, by simp; omega, keptF M, true, pk, some (.ref pe), some (.ref pk), v5, ?_, rfl, by walk_at "mm", hkm, by omega, fun _ => ?_, fun z => (nomatch z), rfl⟩
      · rw [decide_eq_true (show (((keptF M).length : Nat) : Int) < ((M.length : Nat) : Int) by omega)]; rfl
      · rw [← ht']
        exact trimN_more (Nat.le_refl _) (by omega)
    · rw [if_neg hc] at ht'
      refine ⟨0, by simp, keptF M, false, pk, some (.ref pe), some (.ref pk), v5, ?_, rfl, by walk_at "mm", hkm, by omega, fun z => (nomatch z), fun _ => ht', rfl⟩
      rw [decide_eq_false (show ¬ (((keptF M).length : Nat) : Int) < ((M.length : Nat) : Int) by omega)]; rfl
  · subst hk
    have e := hf rfl
    refine k_one ?_
    refine k_ret ?_
    refine k_n 1 ?_
    rw [← e] at hq
    exact fun H' s => hq H' pl s.ext (s.nb _ hml) (s.own _ hml)
/-! steps_of a tuple of roads (kl/web2.kl turned by a script) -/
def sp_steps_ofT (K : PySem.W.Frag) : Sp := fun vs H Q _ => ∃ (a : Addr) (M : List (Addr × Road)), vs = [.ref a] ∧ SqT K H a (rV M) ∧ RdM K H M ∧ ((∀ z ∈ M, z.2.2.1 ∈ ltL) ∧ M.length ≤ 1000) ∧ (stepsF (M.map (·.2)) = none → ∀ H', (∀ b o, H b = some o → H' b = some o) → Q .non H') ∧
  ∀ kvs, stepsF (M.map (·.2)) = some kvs → ∀ H' d, (∀ b o, H b = some o → H' b = some o) → H d = none → H' d = some (.dT kvs) → Q (.ref d) H'
theorem use_steps_ofT {B : Hp} {L : HL} {Q : KQ} {E : XK} {a : Addr} {M : List (Addr × Road)} (hl : Tp K B L a (rV M)) (hM : ∀ z ∈ M, Tp K B L z.1 (rdV z.2)) (h : (∀ z ∈ M, z.2.2.1 ∈ ltL) ∧ M.length ≤ 1000) (q0 : stepsF (M.map (·.2)) = none → Q .non B L) (q : ∀ kvs, stepsF (M.map (·.2)) = some kvs → ∀ d, Q (.ref d) B ((d, .dT kvs) :: L)) : ∀ H, Sat B L H → sp_steps_ofT K [.ref a] H (up Q) E :=
  fun H s => ⟨a, M, rfl, hl.at s, fun z hz => (hM z hz).at s, h, fun hn H' e => s.upq e (q0 hn), fun kvs hk H' d e h1 h2 => ⟨B, _, s.new' h1 e h2, q kvs hk d⟩⟩
theorem ok_steps_ofT {f : Addr} {fd : FuncData} (F : Fun K "steps_of" "steps_of" s_steps_of f fd) (hm : mg "steps_of" = some (.ref f)) (T : Tx mg) (F_back_of : Fn P w K mg base 1 "back_of" sp_back_of) : Fn P w K mg base 2 "steps_of" (sp_steps_ofT K) := by
  refine fn_ok F sc_steps_of hm (fun _ _ _ _ _ _ us hl => match us, hl with | [_], _ => rfl) ?_ fun cdv A outer s H vs Q E hr h tk po => ?_
  · rintro vs H Q E ⟨_, _, rfl, _⟩; rfl
  obtain ⟨a, M, rfl, ha, hM, ⟨hc, hn⟩, hq0, hq⟩ := h
  refine ⟨H, [], Sat.whole, ?_⟩
  refine k_cons ?_
  refine k_set 1 ?_ sc_steps_of.nd
  refine k_dT0 fun d => ?_
  show kSs _ _ _ _ _ _
  refine k_norm (by simp only [L2.start, N_steps_of, List.map_cons, List.map_nil, List.length_cons, List.length_nil, Nat.reduceAdd, Nat.reduceSub, List.replicate_succ, List.replicate_zero, List.cons_append, List.nil_append, List.set_cons_succ, List.set_cons_zero]; exact rfl) ?_
  refine k_cons ?_
  refine k_for_t (fun i σ B L => ∃ v2 v3 v4 v5 v6 v7 kvs, σ = [some (.ref a), some (.ref d), v2, v3, v4, v5, v6, v7] ∧ Le H B ∧ (d, HO.dT kvs) ∈ L ∧ foldA [] (((M.map (·.2)).take i).flatMap arcs) = some kvs ∧ AllN kvs ∧ kvs.length ≤ 2 * i) po ?_
  refine k_n 0 ?_
  refine ⟨a, rV M, rfl, .inl ha, ⟨_, _, _, _, _, _, [], rfl, fun _ _ z => z, List.mem_cons_self, rfl, fun _ _ z => (nomatch z), Nat.le_refl _⟩, ?_, ?_, ?_⟩
  · rintro i σ B L hi ⟨_, _, _, _, _, _, _, _, hle, _⟩
    exact .inl (ext_t hle ha)
  · rintro i x σ B L hx ⟨v2, v3, v4, v5, v6, v7, kvs, rfl, hle, hmd, hfo, hA, hkl⟩
    obtain ⟨r, hr1, hr2⟩ : ∃ z, M[i]? = some z ∧ x = .ref z.1 := by unfold rV at hx; rw [List.getElem?_map] at hx; cases h : M[i]? with | none => rw [h] at hx; cases hx | some z => rw [h] at hx; exact ⟨z, rfl, (Option.some.inj hx).symm⟩
    obtain ⟨pz, r⟩ := r
    subst hr2
    have hzm := List.mem_of_getElem? hr1
    have hrc : r.2.1 ∈ ltL := hc _ hzm
    have hri : (M.map (·.2))[i]? = some r := by rw [List.getElem?_map, hr1]; rfl
    have hiM : i < M.length := (List.getElem?_eq_some_iff.mp hr1).1
    refine g_tup (xs := rdV r) (.inl (ext_t hle (hM _ hzm))) rfl ?_
    refine gs_cons ?_
    refine g_name 2 ?_ sc_steps_of.nd
    refine gs_cons ?_
    refine g_name 3 ?_ sc_steps_of.nd
    refine gs_cons ?_
    refine g_name 4 ?_ sc_steps_of.nd
    refine gs_nil ?_
    show kSs _ _ _ _ _ _
    refine k_norm (by simp only [L2.start, N_steps_of, List.map_cons, List.map_nil, List.length_cons, List.length_nil, Nat.reduceAdd, Nat.reduceSub, List.replicate_succ, List.replicate_zero, List.cons_append, List.nil_append, List.set_cons_succ, List.set_cons_zero]; exact rfl) ?_
    refine k_sub (L' := [(d, .dT kvs)]) (List.singleton_sublist.mpr hmd) ?_
    refine k_one ?_
    refine k_for_t2 po ?_
    refine e_fz1 ?_
    refine e_fz1 ?_
    refine e_fz1 ?_
    refine k_tup ?_
    refine a_cons ?_
    refine k_tup ?_
    refine a_cons ?_
    refine k_n 2 ?_
    refine a_cons ?_
    refine k_n 3 ?_
    refine a_cons ?_
    refine k_n 4 ?_
    refine a_nil ?_
    refine ⟨by simp, fun p1 => ?_⟩
    refine a_cons ?_
    refine k_tup ?_
    refine a_cons ?_
    refine k_n 4 ?_
    refine a_cons ?_
    refine k_fn F_back_of (hr.mono (by decide)) ?_
    refine a_cons ?_
    refine k_n 3 ?_
    refine a_nil ?_
    refine use_back_of ?_ (lt_ord hrc)
    refine a_cons ?_
    refine k_n 2 ?_
    refine a_nil ?_
    refine ⟨by simp, fun p2 => ?_⟩
    refine a_nil ?_
    refine ⟨by simp, fun p3 => ?_⟩
    refine ⟨_, _, _, rfl, fun B1 l1 _ e1 => ⟨_, _, _, rfl, fun B2 l2 _ e2 => ⟨_, _, _, rfl, fun B3 l3 _ e3 => ?_⟩⟩⟩
    have hle3 : Le H B3 := fun b o e => l3 _ _ (l2 _ _ (l1 _ _ (hle b o e)))
    have f3 : B3 p3 = some (.tup [.ref p1, .ref p2]) := l3 _ _ (l2 _ _ e1)
    have f2 : B3 p2 = some (.tup (arcV ((r.2.2, bk r.2.1), r.1))) := l3 _ _ e2
    have f1 : B3 p1 = some (.tup (arcV ((r.1, r.2.1), r.2.2))) := e3
    clear e1 e2 e3 l1 l2 l3
    refine ⟨p3, _, fun j σ B L => ∃ v5 v6 v7 kvs, σ = [some (.ref a), some (.ref d), some (.int (r.1 : Nat)), some (.str (sOf [r.2.1])), some (.int (r.2.2 : Nat)), v5, v6, v7] ∧ Le B3 B ∧ (d, HO.dT kvs) ∈ L ∧ foldA [] (((M.map (·.2)).take i).flatMap arcs ++ (arcs r).take j) = some kvs ∧ AllN kvs ∧ kvs.length ≤ 2 * i + j, rfl, .inl (.inl (.inl f3)), ⟨_, _, _, kvs, rfl, fun _ _ z => z, List.mem_cons_self, by rw [List.take_zero, List.append_nil]; exact hfo, hA, hkl⟩, ?_, ?_, ?_⟩
    · rintro j σ B L _ ⟨_, _, _, _, _, hl3, _⟩
      exact .inl (.inl (.inl (hl3 _ _ f3)))
    · rintro j x σ B L hx ⟨v5, v6, v7, kvs, rfl, hl3, hmd, hfo, hA, hkl⟩
      obtain ⟨pj, aj, hx2, haj, fj⟩ : ∃ pj aj, x = .ref pj ∧ (arcs r)[j]? = some aj ∧ B3 pj = some (.tup (arcV aj)) := by
        match j, hx with
        | 0, hx => exact ⟨p1, _, (Option.some.inj hx).symm, rfl, f1⟩
        | 1, hx => exact ⟨p2, _, (Option.some.inj hx).symm, rfl, f2⟩
        | n + 2, hx => cases hx
      subst hx2
      have hj2 : j < 2 := (List.getElem?_eq_some_iff.mp haj).1
      obtain ⟨z, hz⟩ := road_split hri haj
      refine g_tup (xs := arcV aj) (.inl (.inl (.inl (hl3 _ _ fj)))) rfl ?_
      refine gs_cons ?_
      refine g_name 5 ?_ sc_steps_of.nd
      refine gs_cons ?_
      refine g_name 6 ?_ sc_steps_of.nd
      refine gs_cons ?_
      refine g_name 7 ?_ sc_steps_of.nd
      refine gs_nil ?_
      show kSs _ _ _ _ _ _
      refine k_norm (by simp only [L2.start, N_steps_of, List.map_cons, List.map_nil, List.length_cons, List.length_nil, Nat.reduceAdd, Nat.reduceSub, List.replicate_succ, List.replicate_zero, List.cons_append, List.nil_append, List.set_cons_succ, List.set_cons_zero]; exact rfl) ?_
      refine k_sub (L' := [(d, .dT kvs)]) (List.singleton_sublist.mpr hmd) ?_
      refine k_one ?_
      refine k_if ?_
      refine t_cmp ?_
      refine k_setd hr.units ?_
      refine k_n 1 ?_
      refine ⟨d, kvs, rfl, .inr List.mem_cons_self, ?_⟩
      refine k_tup ?_
      refine a_cons ?_
      refine k_n 5 ?_
      refine a_cons ?_
      refine k_n 6 ?_
      refine a_nil ?_
      refine ⟨by simp, fun pk => ?_⟩
      refine k_n 7 ?_
      refine ⟨kvs, stK aj.1, pk, .tail _ List.mem_cons_self, rfl, .inr List.mem_cons_self, by omega, fun v hv => ?_, fun hn => ⟨_, .there .here, ?_⟩⟩
      · obtain ⟨n, rfl⟩ := hA _ _ hv
        refine k_n 7 ?_
        refine o_nei ?_
        refine ⟨_, rfl, ?_⟩
        refine ⟨fun hk => ?_, fun hk => ?_⟩
        · have hne : ¬ (V.int (n : Nat) = .int (aj.2 : Nat)) := fun z => by injection z with z; simp [z] at hk
          refine k_one ?_
          refine k_ret ?_
          refine k_non ?_
          exact fun H' s => hq0 (none_end hz hfo (setA_none hv hne)) H' fun b o e => s.ext _ _ (hl3 _ _ (hle3 b o e))
        · have he : (n : Int) = (aj.2 : Nat) := by simpa using hk
          rw [he] at hv
          refine k_nil ?_
          refine ⟨_, _, _, kvs, rfl, hl3, .tail _ List.mem_cons_self, ?_, hA, by omega⟩
          rw [arc_cases haj, ← List.append_assoc]
          exact some_next hfo (setA_same hv)
      · refine k_n 7 ?_
        refine o_nei ?_
        refine ⟨_, rfl, ?_⟩
        refine ⟨fun hk => (by simp at hk), fun hk => ?_⟩
        refine k_nil ?_
        refine ⟨_, _, _, _, rfl, hl3, .tail _ List.mem_cons_self, ?_, allN_put hA hn, by have := length_putK kvs (stK aj.1) (V.int (aj.2 : Nat)); omega⟩
        rw [arc_cases haj, ← List.append_assoc]
        exact some_next hfo (setA_new hn)
    · rintro σ B L ⟨v5, v6, v7, kvs, rfl, hl3, hmd, hfo, hA, hkl⟩
      refine ⟨_, _, _, _, _, _, kvs, rfl, fun b o e => hl3 _ _ (hle3 b o e), hmd, ?_, hA, by simp at hkl; omega⟩
      rw [flat_take hri]
      exact hfo
  · rintro σ B L ⟨v2, v3, v4, v5, v6, v7, kvs, rfl, hle, hmd, hfo, hA, hkl⟩
    refine k_one ?_
    refine k_ret ?_
    refine k_n 1 ?_
    refine fun H' s => hq kvs ?_ H' d (fun b o e => s.ext b o (hle b o e)) ?_ (s.own _ hmd)
    · unfold stepsF
      rw [List.take_of_length_le (by simp [rV])] at hfo
      exact hfo
    · have h1 := s.nb _ hmd
      cases h : H d with
      | none => rfl
      | some o => rw [hle d o h] at h1; cases h1
/-! ### tables: plain -/
/-- the dict says what the arcs say -/
structure Tab (kvs : Dct) (as : List Arc) : Prop where
  n : AllN kvs
  t : ∀ a p, stp kvs a = some p ↔ (a, p) ∈ as
def Cons (as : List Arc) : Prop := ∀ a p q, (a, p) ∈ as → (a, q) ∈ as → p = q
theorem stp_put {kvs : Dct} {k : Nat × Nat} {n : Nat} (b : Nat × Nat) : stp (putK kvs (stK k) (.int (n : Nat))) b = if b = k then some n else stp kvs b := by
  unfold stp
  rw [valV_put]
  by_cases h : b = k
  · rw [if_pos (congrArg stK h), if_pos h]; rfl
  · rw [if_neg (fun z => h (stK_inj z)), if_neg h]
theorem allN_put2 {kvs : Dct} {k : List Key} {n : Nat} (hA : AllN kvs) : AllN (putK kvs k (.int (n : Nat))) := fun j v hv => by
  rw [valV_put] at hv
  split at hv
  · exact ⟨n, (Option.some.inj hv).symm⟩
  · exact hA j v hv
theorem tab_put {kvs : Dct} {as : List Arc} {a : Arc} (h : Tab kvs as) (hc : Cons (as ++ [a])) : Tab (putK kvs (stK a.1) (.int (a.2 : Nat))) (as ++ [a]) := by
  refine ⟨allN_put2 h.n, fun b p => ?_⟩
  rw [stp_put, List.mem_append, List.mem_singleton]
  by_cases hb : b = a.1
  · rw [if_pos hb]
    subst hb
    constructor
    · intro z
      have e : a.2 = p := Option.some.inj z
      exact .inr (by rw [← e])
    · rintro (z | z)
      · exact congrArg some (hc a.1 _ _ (by simp) (List.mem_append_left _ z))
      · rw [← z]
  · rw [if_neg hb, h.t]
    exact ⟨.inl, fun z => z.elim id fun z => absurd (by rw [← z]) hb⟩
theorem cons_left {as bs : List Arc} (h : Cons (as ++ bs)) : Cons as := fun a p q h1 h2 => h a p q (List.mem_append_left _ h1) (List.mem_append_left _ h2)
theorem tab_set {kvs : Dct} {as : List Arc} {a : Arc} (h : Tab kvs as) (hc : Cons (as ++ [a])) : ∃ k2, setA kvs a = some k2 ∧ Tab k2 (as ++ [a]) := by
  cases e : valV kvs (stK a.1) with
  | none => exact ⟨_, setA_new e, tab_put h hc⟩
  | some w =>
    obtain ⟨n, rfl⟩ := h.n _ _ e
    have hs : stp kvs a.1 = some n := by unfold stp; rw [e]; rfl
    have hm := (h.t a.1 n).mp hs
    have hn : a.2 = n := hc a.1 _ _ (by simp) (List.mem_append_left _ hm)
    refine ⟨kvs, setA_same (by rw [e, hn]), h.n, fun b p => ?_⟩
    rw [h.t, List.mem_append, List.mem_singleton]
    refine ⟨.inl, fun z => z.elim id fun z => ?_⟩
    have z1 : b = a.1 := by rw [← z]
    have z2 : p = a.2 := by rw [← z]
    rw [z1, z2, hn]; exact hm
theorem tab_fold : ∀ {bs as : List Arc} {kvs : Dct}, Tab kvs as → Cons (as ++ bs) → ∃ k2, foldA kvs bs = some k2 ∧ Tab k2 (as ++ bs)
  | [], as, kvs, h, _ => ⟨kvs, rfl, by rw [List.append_nil]; exact h⟩
  | b :: bs, as, kvs, h, hc => by
    have e : as ++ b :: bs = (as ++ [b]) ++ bs := by simp
    rw [e] at hc
    obtain ⟨k1, h1, t1⟩ := tab_set h (cons_left hc)
    obtain ⟨k2, h2, t2⟩ := tab_fold t1 hc
    refine ⟨k2, ?_, by rw [e]; exact t2⟩
    show (setA kvs b).bind _ = _
    rw [h1]; exact h2
theorem tab_nil : Tab [] [] := ⟨fun _ _ z => (by rw [valV_nil] at z; cases z), fun a p => ⟨fun z => (by unfold stp at z; rw [valV_nil] at z; cases z), fun z => (by cases z)⟩⟩
/-- roads of which none two are walked from a place by one letter -/
def ConsR (rs : List Road) : Prop := Cons (rs.flatMap arcs)
theorem cons_steps {rs : List Road} (h : ConsR rs) : ∃ kvs, stepsF rs = some kvs ∧ Tab kvs (rs.flatMap arcs) := by
  obtain ⟨k, h1, h2⟩ := tab_fold tab_nil (bs := rs.flatMap arcs) h
  exact ⟨k, h1, h2⟩
/-- the law's own dict -/
def lawF (rs : List Road) : Dct := (rs.flatMap arcs).foldl (fun k a => putK k (stK a.1) (.int (a.2 : Nat))) []
theorem law_fold : ∀ {bs as : List Arc} {kvs : Dct}, Tab kvs as → Cons (as ++ bs) → Tab (bs.foldl (fun k a => putK k (stK a.1) (.int (a.2 : Nat))) kvs) (as ++ bs)
  | [], as, kvs, h, _ => by rw [List.append_nil]; exact h
  | b :: bs, as, kvs, h, hc => by
    have e : as ++ b :: bs = (as ++ [b]) ++ bs := by simp
    rw [e] at hc ⊢
    exact law_fold (tab_put h (cons_left hc)) hc
theorem lawF_tab {rs : List Road} (h : ConsR rs) : Tab (lawF rs) (rs.flatMap arcs) := law_fold tab_nil (bs := rs.flatMap arcs) h
theorem stp_same {k1 k2 : Dct} {as bs : List Arc} (h1 : Tab k1 as) (h2 : Tab k2 bs) (e : ∀ x, x ∈ as ↔ x ∈ bs) (a : Nat × Nat) : stp k1 a = stp k2 a := by
  apply Option.ext
  intro p
  rw [h1.t, h2.t, e]
theorem wlk_same {k1 k2 : Dct} (h : ∀ a, stp k1 a = stp k2 a) (l : List Nat) (o : Option Nat) : wlk k1 l o = wlk k2 l o := by
  unfold wlk
  congr 1
  funext o c
  cases o with
  | none => rfl
  | some p => exact h _
theorem flat_mem {rs ss : List Road} (h : ∀ r, r ∈ rs ↔ r ∈ ss) (x : Arc) : x ∈ rs.flatMap arcs ↔ x ∈ ss.flatMap arcs := by
  rw [List.mem_flatMap, List.mem_flatMap]
  exact ⟨fun ⟨r, h1, h2⟩ => ⟨r, (h r).mp h1, h2⟩, fun ⟨r, h1, h2⟩ => ⟨r, (h r).mpr h1, h2⟩⟩
theorem consR_mem {rs ss : List Road} (h : ∀ r, r ∈ ss → r ∈ rs) (hc : ConsR rs) : ConsR ss := fun a p q h1 h2 => by
  have up : ∀ x, x ∈ ss.flatMap arcs → x ∈ rs.flatMap arcs := fun x hx => by
    obtain ⟨r, hr, hx⟩ := List.mem_flatMap.mp hx
    exact List.mem_flatMap.mpr ⟨r, h r hr, hx⟩
  exact hc a p q (up _ h1) (up _ h2)
theorem bk_ne {c : Nat} (h : c ∈ ltL) : bk c ≠ c := by
  have : ∀ c ∈ ltL, bk c ≠ c := by decide
  exact this c h
/-- one road more -/
theorem consR_add {rs : List Road} {r : Road} (hc : ConsR rs) (hl : r.2.1 ∈ ltL) (h1 : stp (lawF rs) (r.1, r.2.1) = none) (h2 : stp (lawF rs) (r.2.2, bk r.2.1) = none) : ConsR (rs ++ [r]) := by
  have T := lawF_tab hc
  have n1 : ∀ p, ((r.1, r.2.1), p) ∉ rs.flatMap arcs := fun p z => by rw [(T.t _ _).mpr z] at h1; cases h1
  have n2 : ∀ p, ((r.2.2, bk r.2.1), p) ∉ rs.flatMap arcs := fun p z => by rw [(T.t _ _).mpr z] at h2; cases h2
  have hne := bk_ne hl
  have e : (rs ++ [r]).flatMap arcs = rs.flatMap arcs ++ [((r.1, r.2.1), r.2.2), ((r.2.2, bk r.2.1), r.1)] := by rw [List.flatMap_append]; rfl
  intro a p q hp hq
  rw [e, List.mem_append] at hp hq
  simp only [List.mem_cons, List.not_mem_nil, or_false, Prod.mk.injEq] at hp hq
  rcases hp with hp | ⟨ha, hp⟩ | ⟨ha, hp⟩ <;> rcases hq with hq | ⟨ha2, hq⟩ | ⟨ha2, hq⟩
  · exact hc a p q hp hq
  · exact absurd (ha2 ▸ hp) (n1 p)
  · exact absurd (ha2 ▸ hp) (n2 p)
  · exact absurd (ha ▸ hq) (n1 q)
  · rw [hp, hq]
  · rw [ha] at ha2; exact absurd (Prod.mk.inj ha2).2.symm hne
  · exact absurd (ha ▸ hq) (n2 q)
  · rw [ha] at ha2; exact absurd (Prod.mk.inj ha2).2 hne
  · rw [hp, hq]
theorem stp_none {kvs : Dct} {a : Nat × Nat} (hA : AllN kvs) (h : (valV kvs (stK a)).isSome = false) : stp kvs a = none := by
  unfold stp
  cases e : valV kvs (stK a) with
  | none => rfl
  | some v => rw [e] at h; cases h
abbrev s_law_steps : Stmt := top 40
abbrev N_law_steps : List Str := ["_law_roads", "_law_steps_here", "_law_first", "_law_letter", "_law_last"]
theorem sc_law_steps : FnScope N_law_steps ["_law_roads"] (defScope s_law_steps) := ⟨rfl, rfl, rfl, by decide +kernel, rfl, by decide +kernel, by decide +kernel⟩
theorem up_lt {c : Nat} (h : c ∈ ltL) : Txt.upper (sOf [c]) = sOf [bk c] := by
  simp only [ltL, List.mem_cons, List.not_mem_nil, or_false] at h
  rcases h with h | h | h | h | h | h <;> subst h <;> decide +kernel
def sp_law_steps (K : PySem.W.Frag) : Sp := fun vs H Q _ => ∃ (a : Addr) (M : List (Addr × Road)), vs = [.ref a] ∧ SqL K H a (rV M) ∧ RdM K H M ∧ ((∀ z ∈ M, z.2.2.1 ∈ ltL) ∧ M.length ≤ 1000) ∧
  ∀ H' d, (∀ b o, H b = some o → H' b = some o) → H d = none → H' d = some (.dT (lawF (M.map (·.2)))) → Q (.ref d) H'
theorem use_law_steps {B : Hp} {L : HL} {Q : KQ} {E : XK} {a : Addr} {M : List (Addr × Road)} (hl : Ls K B L a (rV M)) (hM : RdM K B M) (h : (∀ z ∈ M, z.2.2.1 ∈ ltL) ∧ M.length ≤ 1000) (q : ∀ d, Q (.ref d) B ((d, .dT (lawF (M.map (·.2)))) :: L)) : ∀ H, Sat B L H → sp_law_steps K [.ref a] H (up Q) E :=
  fun H s => ⟨a, M, rfl, hl.at s, hM.le s.ext, h, fun H' d e h1 h2 => ⟨B, _, s.new' h1 e h2, q d⟩⟩
theorem ok_law_steps {f : Addr} {fd : FuncData} (F : Fun K "_law_steps" "_law_steps" s_law_steps f fd) (hm : mg "_law_steps" = some (.ref f)) : Fn P w K mg base 1 "_law_steps" (sp_law_steps K) := by
  refine fn_ok F sc_law_steps hm (fun _ _ _ _ _ _ us hl => match us, hl with | [_], _ => rfl) ?_ fun cdv A outer s H vs Q E hr h tk po => ?_
  · rintro vs H Q E ⟨_, _, rfl, _⟩; rfl
  obtain ⟨a, M, rfl, ha, hM, ⟨hc, hn⟩, hq⟩ := h
  refine ⟨H, [], Sat.whole, ?_⟩
  refine k_cons ?_
  refine k_set 1 ?_ sc_law_steps.nd
  refine k_dT0 fun d => ?_
  show kSs _ _ _ _ _ _
  refine k_norm (by simp only [L2.start, N_law_steps, List.map_cons, List.map_nil, List.length_cons, List.length_nil, Nat.reduceAdd, Nat.reduceSub, List.replicate_succ, List.replicate_zero, List.cons_append, List.nil_append, List.set_cons_succ, List.set_cons_zero]; exact rfl) ?_
  refine k_cons ?_
  refine k_for_l (fun i σ B L => ∃ v2 v3 v4, σ = [some (.ref a), some (.ref d), v2, v3, v4] ∧ H = B ∧ (d, HO.dT (lawF ((M.map (·.2)).take i))) ∈ L ∧ (lawF ((M.map (·.2)).take i)).length ≤ 2 * i) po ?_
  refine k_n 0 ?_
  refine ⟨a, rV M, rfl, .inl ha, ⟨_, _, _, rfl, rfl, List.mem_cons_self, Nat.le_refl _⟩, ?_, ?_, ?_⟩
  · rintro i σ B L hi ⟨_, _, _, _, rfl, _⟩
    exact .inl ha
  · rintro i x σ B L hx ⟨v2, v3, v4, rfl, rfl, hmd, hkl⟩
    obtain ⟨r, hr1, hr2⟩ : ∃ z, M[i]? = some z ∧ x = .ref z.1 := by unfold rV at hx; rw [List.getElem?_map] at hx; cases h : M[i]? with | none => rw [h] at hx; cases hx | some z => rw [h] at hx; exact ⟨z, rfl, (Option.some.inj hx).symm⟩
    obtain ⟨pz, r⟩ := r
    subst hr2
    have hzm := List.mem_of_getElem? hr1
    have hrc : r.2.1 ∈ ltL := hc _ hzm
    have hri : (M.map (·.2))[i]? = some r := by rw [List.getElem?_map, hr1]; rfl
    have hiM : i < M.length := (List.getElem?_eq_some_iff.mp hr1).1
    have hst : lawF ((M.map (·.2)).take (i + 1)) = putK (putK (lawF ((M.map (·.2)).take i)) (stK (r.1, r.2.1)) (.int (r.2.2 : Nat))) (stK (r.2.2, bk r.2.1)) (.int (r.1 : Nat)) := by
      unfold lawF
      rw [flat_take hri, List.foldl_append]; rfl
    have hl1 := length_putK (lawF ((M.map (·.2)).take i)) (stK (r.1, r.2.1)) (.int (r.2.2 : Nat))
    have hl2 := length_putK (putK (lawF ((M.map (·.2)).take i)) (stK (r.1, r.2.1)) (.int (r.2.2 : Nat))) (stK (r.2.2, bk r.2.1)) (.int (r.1 : Nat))
    generalize lawF ((M.map (·.2)).take i) = kvs at *
    refine g_tup (xs := rdV r) (.inl (hM _ hzm)) rfl ?_
    refine gs_cons ?_
    refine g_name 2 ?_ sc_law_steps.nd
    refine gs_cons ?_
    refine g_name 3 ?_ sc_law_steps.nd
    refine gs_cons ?_
    refine g_name 4 ?_ sc_law_steps.nd
    refine gs_nil ?_
    show kSs _ _ _ _ _ _
    refine k_norm (by simp only [L2.start, N_law_steps, List.map_cons, List.map_nil, List.length_cons, List.length_nil, Nat.reduceAdd, Nat.reduceSub, List.replicate_succ, List.replicate_zero, List.cons_append, List.nil_append, List.set_cons_succ, List.set_cons_zero]; exact rfl) ?_
    refine k_sub (L' := [(d, .dT kvs)]) (List.singleton_sublist.mpr hmd) ?_
    refine k_cons ?_
    refine k_asg ?_
    refine k_n 4 ?_
    refine g_setT hr.units ?_
    refine k_n 1 ?_
    refine k_tup ?_
    refine a_cons ?_
    refine k_n 2 ?_
    refine a_cons ?_
    refine k_n 3 ?_
    refine a_nil ?_
    refine ⟨by first | decide | simp, fun p => ?_⟩
    refine ⟨d, p, kvs, stK (r.1, r.2.1), _, rfl, rfl, .inr List.mem_cons_self, .there .here, by omega, ?_⟩
    show kSs _ _ _ _ _ _
    refine k_one ?_
    refine k_asg ?_
    refine k_n 2 ?_
    refine g_setT hr.units ?_
    refine k_n 1 ?_
    refine k_tup ?_
    refine a_cons ?_
    refine k_n 4 ?_
    refine a_cons ?_
    refine k_supper ?_
    refine k_n 3 ?_
    refine ⟨_, rfl, ?_⟩
    skip
    refine m_upper (up_lt hrc) ?_ (Nat.le_of_ble_eq_true rfl)
    refine a_nil ?_
    refine ⟨by first | decide | simp, fun p => ?_⟩
    refine ⟨d, p, _, stK (r.2.2, bk r.2.1), _, rfl, rfl, .inr List.mem_cons_self, .there (.there .here), by omega, ?_⟩
    refine ⟨_, _, _, rfl, rfl, by rw [hst]; walk_at "mm", by rw [hst]; omega⟩
  · rintro σ B L ⟨v2, v3, v4, rfl, rfl, hmd, hkl⟩
    refine k_one ?_
    refine k_ret ?_
    refine k_n 1 ?_
    rw [List.take_of_length_le (by simp [rV])] at hmd
    exact fun H' s => hq H' d s.ext (s.nb _ hmd) (s.own _ hmd)
/-! ### the plain web: joined to Pw -/
theorem comeF_pw (kvs : Dct) : ∀ (n : Nat) (f : List Nat) (i : Nat), comeF kvs n f i = Pw.comeF (stp kvs) n f i
  | 0, _, _ => rfl
  | n + 1, f, i => by
    cases e : f[i]? with
    | none =>
      rw [Pw.comeF_none e]
      show (match f[i]? with | some p => comeF kvs n (vis kvs p ordL f) (i + 1) | none => f) = f
      rw [e]
    | some p =>
      rw [Pw.comeF_some e]
      show (match f[i]? with | some p => comeF kvs n (vis kvs p ordL f) (i + 1) | none => f) = _
      rw [e]
      exact comeF_pw kvs n _ _
theorem tab_is {kvs : Dct} {U : List Road} (h : Tab kvs (U.flatMap arcs)) : Pw.Is (stp kvs) U := fun a p => h.t a p
theorem is_cons {U : List Road} (h : ∀ a p q, (a, p) ∈ U.flatMap Pw.arcs → (a, q) ∈ U.flatMap Pw.arcs → p = q) : ConsR U := h
theorem ends_pw (M : List (Addr × Road)) : ends M = Pw.ends (M.map (·.2)) := by unfold ends Pw.ends; rw [List.map_map, List.map_map]; rfl
theorem keptF_pw (M : List (Addr × Road)) : (keptF M).map (·.2) = Pw.keepR (M.map (·.2)) := by
  unfold keptF Pw.keepR
  rw [List.filter_map, ends_pw]
  rfl
theorem trimN_pw : ∀ (n : Nat) (M : List (Addr × Road)), (trimN n M).map (·.2) = Pw.trimN n (M.map (·.2))
  | 0, _ => rfl
  | n + 1, M => by
    show (if (keptF M).length < M.length then trimN n (keptF M) else keptF M).map (·.2) = if (Pw.keepR (M.map (·.2))).length < (M.map (·.2)).length then Pw.trimN n (Pw.keepR (M.map (·.2))) else Pw.keepR (M.map (·.2))
    rw [← keptF_pw, List.length_map, List.length_map]
    split
    · exact trimN_pw n _
    · rfl
theorem trimF_pw (M : List (Addr × Road)) : (trimF M).map (·.2) = Pw.trimR (M.map (·.2)) := by
  unfold trimF Pw.trimR
  rw [trimN_pw, List.length_map]
theorem trimN_sub : ∀ {n : Nat} {M : List (Addr × Road)}, ∀ z ∈ trimN n M, z ∈ M
  | 0, _, _, h => h
  | n + 1, M, z, h => by
    have h' : z ∈ (if (keptF M).length < M.length then trimN n (keptF M) else keptF M) := h
    split at h'
    · exact (List.mem_filter.mp (trimN_sub z h')).1
    · exact (List.mem_filter.mp h').1
theorem trimN_len : ∀ {n : Nat} {M : List (Addr × Road)}, (trimN n M).length ≤ M.length
  | 0, _ => Nat.le_refl _
  | n + 1, M => by
    show (if (keptF M).length < M.length then trimN n (keptF M) else keptF M).length ≤ _
    have hk : (keptF M).length ≤ M.length := List.length_filter_le _ _
    split
    · exact Nat.le_trans trimN_len hk
    · exact hk
theorem bel_of {kvs : Dct} {U : List Road} {m : Nat} (h : Tab kvs (U.flatMap arcs)) (hg : ∀ r ∈ U, GoodR m r) : Bel kvs m := fun a p e => by
  obtain ⟨r, hr, d⟩ := Pw.mem_arcs.mp ((h.t a p).mp e)
  rcases d with ⟨_, rfl⟩ | ⟨_, rfl⟩
  · exact (hg r hr).l
  · exact (hg r hr).f
theorem come_pw {kvs : Dct} {m : Nat} (hB : Bel kvs m) (hm : 1 ≤ m) : Pw.Come (stp kvs) (come kvs m) := by
  unfold come
  rw [comeF_pw]
  exact .mk' (m := m) hB hm (Nat.le_refl _)
/-- the plain web of roads -/
def PlW (U : List Road) (k : Nat) (N : List Road) : Prop := ∃ st stT S T ord, Pw.Pl U k N st stT S T ord
structure IsPw (K : PySem.W.Frag) (C : Addr) (H : Hp) (x : Addr) (U : List Road) (k : Nat) (N : List Road) : Prop where
  w : IsWeb K C H x k N
  p : PlW U k N
  n : N.Nodup
  l : N.length ≤ U.length
  kk : 1 ≤ k ∧ k ≤ 200
  c : ConsR N
  g : ∀ r ∈ N, GoodR k r
theorem IsPw.le {K : PySem.W.Frag} {C : Addr} {H H' : Hp} {x : Addr} {U : List Road} {k : Nat} {N : List Road} (h : IsPw K C H x U k N) (e : Le H H') : IsPw K C H' x U k N := ⟨h.w.le e, h.p, h.n, h.l, h.kk, h.c, h.g⟩
section
variable {X : Cx} {B : Hp} {L : HL} {Q : KQ}
theorem m_nidx {p : Addr} {f : List Nat} {n : Nat} (h : Ls X.K B L p (nV f)) (hn : n ∈ f) (q : Q (.int (f.idxOf n : Nat)) B L) : kMt X "list.index" (.ref p) [.int (n : Nat)] B L Q := by
  have hl := List.idxOf_lt_length_of_mem hn
  refine m_lindex (f.idxOf n) (z := .int (n : Nat)) h rfl (nV_flat f) ?_ ?_ ?_ q
  · unfold nV; rw [List.getElem?_map, List.getElem?_eq_getElem hl, List.getElem_idxOf hl]; rfl
  · show ((n : Int) == (n : Int)) = true
    exact beq_self_eq_true _
  · intro m z' hm hz
    unfold nV at hz
    rw [List.getElem?_map, List.getElem?_eq_getElem (by omega)] at hz
    cases hz
    show (((f[m]'(by omega) : Nat) : Int) == (n : Int)) = false
    have hne : f[m]'(by omega) ≠ n := fun e => by
      have := List.not_of_lt_findIdx (p := (· == n)) (xs := f) (i := m) (by exact hm)
      simp at this
      exact this e
    rw [beq_eq_false_iff_ne]
    omega
end
/-- a web is made: told apart from what was there -/
theorem use_webN {C CE : Addr} {B G : Hp} {L : HL} {Q : KQ} {E : XK} {a : Addr} {m : Nat} {M : List (Addr × Road)} (hl : Ls K B L a (rV M)) (hG : Le G B) (hM : RdM K G M) (hn : M.length < 64) (h1 : 1 ≤ m ∧ m ≤ 200) (hg : ∀ r ∈ M.map (·.2), GoodR m r) (hs : stepsF (M.map (·.2)) ≠ none)
    (q : ∀ x B' W, Le B B' → Le W B' → (∀ b o, W b = some o → B b = none ∨ G b = some o) → IsWeb K C W x m (M.map (·.2)) → Q (.ref x) B' L) : ∀ x dx, ∀ H, Sat B ((x, .ins C dx []) :: (dx, .own x) :: L) H → sp_init K C CE [.ref x, .int (m : Nat), .ref a] H (fun v H2 => v = .non ∧ up Q (.ref x) H2) E := by
  classical
  intro x dx H s
  have s1 := (sat_rmx s).drop
  have hf : Fine (.int (m : Nat)) (.list ((M.map (·.2)).map rdD)) m (M.map (·.2)) := ⟨rfl, h1, rfl, hg, hs⟩
  refine ⟨x, dx, _, _, .int (m : Nat), .list ((M.map (·.2)).map rdD), G, rfl, s.own _ List.mem_cons_self, fun b o e => s1.ext _ _ (hG _ _ e), .int _, .inl ⟨a, rV M, _, rfl, rfl, hl.at s1, dpa_of hM⟩, fun ds e => ?_, fun hn => absurd ⟨_, _, hf⟩ hn, fun m' rs' hf' H' sd t kvs M' he n1 n2 hne hx hsd ht hM' hk hsr => ?_⟩
  · injection e with e
    subst e
    refine ⟨by simpa using hn, fun d hd => ?_⟩
    obtain ⟨r, _, rfl⟩ := List.mem_map.mp hd
    exact rdD_short r
  · have em := hf'.em
    injection em with em
    have em : m = m' := by omega
    have er := hf'.er
    injection er with er
    have er := rdDs_inj er
    subst em er
    have hxL : x ∉ L.map (·.1) := by
      have nd := s.nd
      simp only [List.map_cons, List.nodup_cons, List.mem_cons, not_or] at nd
      exact nd.1.2
    have hown : ∀ p ∈ L, H p.1 = some p.2 := fun p hp => s.own p (.tail _ (.tail _ hp))
    have hne : ∀ {b : Addr}, H b = none → b ∉ L.map (·.1) := fun h hm => by
      obtain ⟨p, hp, rfl⟩ := List.mem_map.mp hm
      rw [hown p hp] at h; cases h
    have hBx : B x = none := s.nb _ List.mem_cons_self
    have hBn : ∀ {b : Addr}, H b = none → B b = none := fun {b} h => by
      cases e : B b with
      | none => rfl
      | some o => rw [s.ext _ _ e] at h; cases h
    have nL : ∀ b o, B b = some o → b ∉ L.map (·.1) := fun b o e hm => by
      obtain ⟨p, hp, rfl⟩ := List.mem_map.mp hm
      rw [s1.nb p hp] at e; cases e
    have lift : ∀ b o, B b = some o → H' b = some o := fun b o e => he _ _ (fun z => by rw [z, hBx] at e; cases e) (s.ext _ _ e)
    refine ⟨rfl, fun b => if b ∈ L.map (·.1) then none else H' b, L, ⟨fun b o e => ?_, fun p hp => ?_, fun p hp => if_pos (List.mem_map.mpr ⟨p, hp, rfl⟩), s1.nd⟩, q _ _ (fun b => if b = x ∨ b = sd ∨ b = t then H' b else G b) (fun b o e => ?_) (fun b o e => ?_) (fun b o e => ?_) ?_⟩
    · by_cases hb : b ∈ L.map (·.1)
      · rw [if_pos hb] at e; cases e
      · rw [if_neg hb] at e; exact e
    · exact he _ _ (fun z => hxL (z ▸ List.mem_map.mpr ⟨p, hp, rfl⟩)) (hown p hp)
    · rw [if_neg (nL b o e)]
      exact lift b o e
    · try dsimp only at e
      split at e
      · rename_i hb
        rcases hb with hb | hb | hb
        · rw [if_neg (hb ▸ hxL)]; exact e
        · rw [if_neg (hb ▸ hne n1)]; exact e
        · rw [if_neg (hb ▸ hne n2)]; exact e
      · rw [if_neg (nL b o (hG _ _ e))]
        exact lift b o (hG _ _ e)
    · try dsimp only at e
      split at e
      · rename_i hb
        left
        rcases hb with hb | hb | hb
        · rw [hb]; exact hBx
        · rw [hb]; exact hBn n1
        · rw [hb]; exact hBn n2
      · exact .inr e
    · have up : ∀ b o, G b = some o → (if b = x ∨ b = sd ∨ b = t then H' b else G b) = some o := fun b o e => by
        split
        · exact lift b o (hG _ _ e)
        · exact e
      exact ⟨dx, sd, t, kvs, M', (if_pos (.inl rfl)).trans hx, (if_pos (.inr (.inl rfl))).trans hsd, (if_pos (.inr (.inr rfl))).trans ht, hM'.le up, hk, hsr⟩
abbrev s_plain_of : Stmt := top 25
abbrev N_plain_of : List Str := ["roads", "reached", "left", "order", "road"]
theorem sc_plain_of : FnScope N_plain_of ["roads"] (defScope s_plain_of) := ⟨rfl, rfl, rfl, by decide +kernel, rfl, by decide +kernel, by decide +kernel⟩
def sp_plain_ofT (K : PySem.W.Frag) (C : Addr) : Sp := fun vs H Q _ => ∃ (a : Addr) (M : List (Addr × Road)) (m : Nat), vs = [.ref a] ∧ SqT K H a (rV M) ∧ RdM K H M ∧ (∀ z ∈ M, GoodR m z.2) ∧ ((1 ≤ m ∧ m ≤ 200) ∧ M.length < 64) ∧ (M.map (·.2)).Nodup ∧ ConsR (M.map (·.2)) ∧
  ∀ H' x k N, (∀ b o, H b = some o → H' b = some o) → IsPw K C (nwH H H') x (M.map (·.2)) k N → Q (.ref x) H'
theorem ok_plain_ofT {f C CE : Addr} {fd : FuncData} (F : Fun K "plain_of" "plain_of" s_plain_of f fd) (hm : mg "plain_of" = some (.ref f)) (T : Tx mg) (F_come_to : Fn P w K mg base 1 "come_to" sp_come_to) (F_steps_of : Fn P w K mg base 2 "steps_of" (sp_steps_of K)) (F_steps_ofT : Fn P w K mg base 2 "steps_of" (sp_steps_ofT K)) (F_trimmed : Fn P w K mg base 2 "trimmed" (sp_trimmed K)) (mk : Mkr P w K mg base 3 "Web" C (sp_init K C CE)) : Fn P w K mg base 5 "plain_of" (sp_plain_ofT K C) := by
  refine fn_ok F sc_plain_of hm (fun _ _ _ _ _ _ us hl => match us, hl with | [_], _ => rfl) ?_ fun cdv A outer s H vs Q E hr h tk po => ?_
  · rintro vs H Q E ⟨_, _, _, rfl, _⟩; rfl
  obtain ⟨a, M, m, rfl, ha, hM, hg, ⟨hm1, hM64⟩, hN, hC, hq⟩ := h
  have hgU : ∀ r ∈ M.map (·.2), GoodR m r := fun r hr => by obtain ⟨z, hz, rfl⟩ := List.mem_map.mp hr; exact hg z hz
  obtain ⟨kvs, hkv, hTk⟩ := cons_steps hC
  have hB := bel_of hTk hgU
  have hCome := come_pw hB hm1.1
  refine ⟨H, [], Sat.whole, ?_⟩
  refine k_cons ?_
  refine k_set 1 ?_ sc_plain_of.nd
  refine k_fn F_come_to (hr.mono (by decide)) ?_
  refine a_cons ?_
  refine k_fn F_steps_ofT (hr.mono (by decide)) ?_
  refine a_cons ?_
  refine k_n 0 ?_
  refine a_nil ?_
  refine use_steps_ofT (M := M) (.inl ha) (fun z hz => .inl (hM z hz)) ⟨fun z hz => (hg z hz).c, by omega⟩ (fun hn => by rw [hkv] at hn; cases hn) fun kvs2 hk2 d => ?_; rw [hkv] at hk2; cases hk2
  refine a_nil ?_
  refine use_come_to (kvs := kvs) (m := m) (.inr List.mem_cons_self) hTk.n hB ⟨hm1.1, by omega⟩ fun pr => ?_
  show kSs _ _ _ _ _ _
  refine k_norm (by simp only [L2.start, N_plain_of, List.map_cons, List.map_nil, List.length_cons, List.length_nil, Nat.reduceAdd, Nat.reduceSub, List.replicate_succ, List.replicate_zero, List.cons_append, List.nil_append, List.set_cons_succ, List.set_cons_zero]; exact rfl) ?_
  refine k_cons ?_
  refine k_set 2 ?_ sc_plain_of.nd
  refine k_fn F_trimmed (hr.mono (by decide)) ?_
  refine a_cons ?_
  refine k_le (k_lcfAt (j := 4) M (fun z => V.ref z.1) (fun z => decide (z.2.1 ∈ come kvs m)) (fun z => V.ref z.1) sc_plain_of.nd (blkOk_by (N := N_plain_of) (sc := defScope s_plain_of) (by decide +kernel)) ?_)
  refine k_n 0 ?_
  refine ⟨a, rfl, .inl ha, by omega, fun z hz D acc sb Hb Cb clb fpb => ?_, fun z hz _ D acc sb Hb Cb clb fpb => ?_, fun pk => ?_⟩
  · skip
    refine t_cmp ?_
    refine k_ix ?_
    refine k_n 4 ?_
    refine k_int ?_
    refine i_tv (.int (z.2.1 : Nat)) (xs := rdV z.2) (.inl (hM z hz)) ?_ rfl
    refine k_n 1 ?_
    refine o_inlst (xs := nV (come kvs m)) (.inr (by walk_at "mm")) rfl (nV_flat _) ?_; rw [inV_n]
    refine ⟨_, rfl, ?_⟩
    exact ⟨rfl, rfl, rfl⟩
  · skip
    refine k_n 4 ?_
    exact ⟨rfl, rfl, rfl⟩
  refine a_nil ?_
  refine use_trimmed (M := M.filter fun z => decide (z.2.1 ∈ come kvs m)) (.inr List.mem_cons_self) (fun z hz => hM z (List.mem_filter.mp hz).1) (by have := List.length_filter_le (fun z : Addr × Road => decide (z.2.1 ∈ come kvs m)) M; omega) fun pl => ?_
  have hSl : (M.filter fun z => decide (z.2.1 ∈ come kvs m)).length ≤ M.length := List.length_filter_le _ _
  have hSs : ∀ z ∈ M.filter (fun z => decide (z.2.1 ∈ come kvs m)), z ∈ M ∧ z.2.1 ∈ come kvs m := fun z hz => ⟨(List.mem_filter.mp hz).1, of_decide_eq_true (List.mem_filter.mp hz).2⟩
  have hSm : ∀ r, r ∈ (M.filter fun z => decide (z.2.1 ∈ come kvs m)).map (·.2) ↔ r ∈ M.map (·.2) ∧ Pw.Rs (stp kvs) r.1 := fun r => by
    have hcm := hCome.mem fun p c q e => (tab_is hTk).ol (fun r hr => (hgU r hr).c) e
    constructor
    · intro h
      obtain ⟨z, hz, rfl⟩ := List.mem_map.mp h
      exact ⟨List.mem_map.mpr ⟨z, (hSs z hz).1, rfl⟩, (hcm _).mp (hSs z hz).2⟩
    · rintro ⟨h, h2⟩
      obtain ⟨z, hz, rfl⟩ := List.mem_map.mp h
      exact List.mem_map.mpr ⟨z, List.mem_filter.mpr ⟨hz, decide_eq_true ((hcm _).mpr h2)⟩, rfl⟩
  have hSn : ((M.filter fun z => decide (z.2.1 ∈ come kvs m)).map (·.2)).Nodup := List.Pairwise.sublist (List.Sublist.map _ List.filter_sublist) hN
  have hTrim := Pw.trimR_is hSn
  rw [← trimF_pw] at hTrim
  have hTl : (trimF (M.filter fun z => decide (z.2.1 ∈ come kvs m))).length ≤ M.length := Nat.le_trans trimN_len hSl
  have hTs : ∀ z ∈ trimF (M.filter fun z => decide (z.2.1 ∈ come kvs m)), z ∈ M := fun z hz => (hSs z (trimN_sub z hz)).1
  generalize trimF (M.filter fun z => decide (z.2.1 ∈ come kvs m)) = W at hTrim hTl hTs
  generalize M.filter (fun z => decide (z.2.1 ∈ come kvs m)) = S0 at hSn hSm hTrim
  have hgW : ∀ r ∈ W.map (·.2), GoodR m r := fun r hr => by obtain ⟨z, hz, rfl⟩ := List.mem_map.mp hr; exact hg z (hTs z hz)
  have hCW : ConsR (W.map (·.2)) := consR_mem (fun r hr => by obtain ⟨z, hz, rfl⟩ := List.mem_map.mp hr; exact List.mem_map.mpr ⟨z, hTs z hz, rfl⟩) hC
  obtain ⟨kw, hkw, hTw⟩ := cons_steps hCW
  have hBw := bel_of hTw hgW
  have hComeW := come_pw hBw hm1.1
  have hMW : RdM K H W := fun z hz => hM z (hTs z hz)
  show kSs _ _ _ _ _ _
  refine k_norm (by simp only [L2.start, N_plain_of, List.map_cons, List.map_nil, List.length_cons, List.length_nil, Nat.reduceAdd, Nat.reduceSub, List.replicate_succ, List.replicate_zero, List.cons_append, List.nil_append, List.set_cons_succ, List.set_cons_zero]; exact rfl) ?_
  refine k_sub (L' := [(pl, .lst (rV W))]) (by repeat (first | exact List.Sublist.refl _ | apply List.Sublist.cons_cons | apply List.Sublist.cons)) ?_
  refine k_cons ?_
  refine k_set 3 ?_ sc_plain_of.nd
  refine k_fn F_come_to (hr.mono (by decide)) ?_
  refine a_cons ?_
  refine k_fn F_steps_of (hr.mono (by decide)) ?_
  refine a_cons ?_
  refine k_n 2 ?_
  refine a_nil ?_
  refine use_steps_of (M := W) (.inr List.mem_cons_self) (fun z hz => .inl (hMW z hz)) ⟨fun z hz => (hg z (hTs z hz)).c, by omega⟩ (fun hn => by rw [hkw] at hn; cases hn) fun kvs2 hk2 d => ?_; rw [hkw] at hk2; cases hk2
  refine a_nil ?_
  refine use_come_to (kvs := kw) (m := m) (.inr List.mem_cons_self) hTw.n hBw ⟨hm1.1, by omega⟩ fun po' => ?_
  have hordl : (come kw m).length ≤ m := by
    have := few_len (m := m) hComeW.nd fun x hx => by
      obtain ⟨n, e, _⟩ := hComeW.e
      rw [e] at hx
      exact Pw.comeF_sound (P := (· < m)) (fun p c q _ e => hBw _ _ e) (fun x hx => by rw [List.mem_singleton.mp hx]; omega) x hx
    exact this
  have hord1 : 1 ≤ (come kw m).length := by
    obtain ⟨z, e⟩ := hComeW.zero
    rw [e, List.length_cons]; omega
  generalize come kw m = ord at hComeW hordl hord1
  have hPl : Pw.Pl (M.map (·.2)) ord.length ((W.map (·.2)).map (Pw.num ord)) (stp kvs) (stp kw) (S0.map (·.2)) (W.map (·.2)) ord := ⟨hN, fun r hr => (hgU r hr).c, tab_is hTk, hSm, hSn, hTrim, tab_is hTw, hComeW, rfl, fun r => by rw [List.mem_map]; exact ⟨fun ⟨x, h1, h2⟩ => ⟨x, h1, h2.symm⟩, fun ⟨x, h1, h2⟩ => ⟨x, h1, h2.symm⟩⟩⟩
  show kSs _ _ _ _ _ _
  refine k_norm (by simp only [L2.start, N_plain_of, List.map_cons, List.map_nil, List.length_cons, List.length_nil, Nat.reduceAdd, Nat.reduceSub, List.replicate_succ, List.replicate_zero, List.cons_append, List.nil_append, List.set_cons_succ, List.set_cons_zero]; exact rfl) ?_
  refine k_sub (L' := [(po', .lst (nV ord)), (pl, .lst (rV W))]) (by repeat (first | exact List.Sublist.refl _ | apply List.Sublist.cons_cons | apply List.Sublist.cons)) ?_
  have hVl : (rV W).length = W.length := List.length_map _
  have hat : ∀ {i : Nat} {z : V}, (rV W)[i]? = some z → ∃ y, W[i]? = some y ∧ z = .ref y.1 := fun {i z} hz => by
    unfold rV at hz
    rw [List.getElem?_map] at hz
    cases h : W[i]? with
    | none => rw [h] at hz; cases hz
    | some y => rw [h] at hz; exact ⟨y, rfl, (Option.some.inj hz).symm⟩
  refine k_one ?_
  refine k_ret ?_
  refine k_makeS mk (hr.mono (by decide)) takes0 ?_
  refine a_cons ?_
  refine k_callB (id := "len") T.b_len ?_
  refine a_cons ?_
  refine k_n 3 ?_
  refine a_nil ?_
  refine c_lenl (xs := nV ord) (.inr (by walk_at "mm")) ?_; rw [show (nV ord).length = ord.length from List.length_map _]
  refine a_cons ?_
  refine k_le (k_lcv_l (j := 4) (fun i acc B' L' => Le H B' ∧ L' = [(po', .lst (nV ord)), (pl, .lst (rV W))] ∧ i ≤ W.length ∧ ∃ M' : List (Addr × Road), acc = rV M' ∧ M'.map (·.2) = ((W.take i).map (·.2)).map (Pw.num ord) ∧ RdM K (nwH H B') M') sc_plain_of.nd (blkOk_by (N := N_plain_of) (sc := defScope s_plain_of) (by decide +kernel)) ?_)
  refine k_n 2 ?_
  refine ⟨pl, rV W, rfl, by omega, ⟨fun _ _ z => z, rfl, Nat.zero_le _, [], rfl, rfl, fun _ z => (nomatch z)⟩, ?_, ?_, fun acc B1 L1 D hP => ?_⟩
  · rintro i acc B1 L1 ⟨hle, rfl, hi, M', rfl, hM', _⟩
    refine ⟨.inr (by walk_at "mm"), ?_⟩
    have := congrArg List.length hM'
    simp only [List.length_map, List.length_take] at this
    unfold rV
    rw [List.length_map]; omega
  · rintro i acc B1 L1 z hz ⟨hle, rfl, hi, M', rfl, hM', hMd⟩ D s0 H0 C0 cl0 fp0
    obtain ⟨y, hy, rfl⟩ := hat hz
    have hyl := (List.getElem?_eq_some_iff.mp hy).1
    have hyW := List.mem_of_getElem? hy
    have hyR : y.2 ∈ W.map (·.2) := List.mem_map.mpr ⟨y, hyW, rfl⟩
    refine e_fz1 ?_
    refine k_tup ?_
    refine a_cons ?_
    refine k_m PySem.F.plainAttrs_list PySem.F.slot_list_index PySem.F.type_list_index ?_
    refine k_n 3 ?_
    refine ⟨ty_l (xs := nV ord) (.inr (by walk_at "mm")), ?_⟩
    refine a_cons ?_
    refine k_ix ?_
    refine k_n 4 ?_
    refine k_int ?_
    refine i_tv (.int (y.2.1 : Nat)) (xs := rdV y.2) (.inl (ext_t hle (hMW y hyW))) ?_ rfl
    refine a_nil ?_
    refine m_nidx (.inr (by walk_at "mm")) (hPl.fst hyR) ?_
    refine a_cons ?_
    refine k_ix ?_
    refine k_n 4 ?_
    refine k_int ?_
    refine i_tv (.str (sOf [y.2.2.1])) (xs := rdV y.2) (.inl (ext_t hle (hMW y hyW))) ?_ rfl
    refine a_cons ?_
    refine k_m PySem.F.plainAttrs_list PySem.F.slot_list_index PySem.F.type_list_index ?_
    refine k_n 3 ?_
    refine ⟨ty_l (xs := nV ord) (.inr (by walk_at "mm")), ?_⟩
    refine a_cons ?_
    refine k_ix ?_
    refine k_n 4 ?_
    refine k_int ?_
    refine i_tv (.int (y.2.2.2 : Nat)) (xs := rdV y.2) (.inl (ext_t hle (hMW y hyW))) ?_ rfl
    refine a_nil ?_
    refine m_nidx (.inr (by walk_at "mm")) (hPl.lst hyR) ?_
    refine a_nil ?_
    refine ⟨by simp, fun pt => ?_⟩
    refine ⟨pt, _, _, rfl, fun B2 l2 n2 e2 => ?_⟩
    refine ⟨_, rfl, fun b o e => l2 _ _ (hle b o e), rfl, hyl, M' ++ [(pt, Pw.num ord y.2)], by unfold rV; rw [List.map_append]; rfl, ?_, fun x hx => ?_⟩
    · rw [List.map_append, hM', List.take_add_one, hy, List.map_append, List.map_append]; rfl
    · rcases List.mem_append.mp hx with hx | hx
      · exact ext_t (nw_mono l2) (hMd x hx)
      · rw [List.mem_singleton.mp hx]
        exact .inl (.inl (nw_of (by cases e9 : H pt with | none => rfl | some o => rw [hle _ _ e9] at n2; cases n2) e2))
  obtain ⟨hle, rfl, _, M', rfl, hM', hMd⟩ := hP
  rw [hVl, List.take_length] at hM'
  have hM'l : M'.length = W.length := by have := congrArg List.length hM'; simpa using this
  refine a_nil ?_
  refine use_webN (M := M') (.inr List.mem_cons_self) nw_le hMd (by omega) ⟨hord1, by omega⟩ (fun r hr => by rw [hM'] at hr; have := hPl.good hr; exact ⟨this.1, this.2.1, this.2.2⟩) (by rw [hM']; obtain ⟨k9, h9, _⟩ := cons_steps (is_cons hPl.cons); rw [h9]; exact fun z => (nomatch z)) fun x B2 W2 l2 lW nW hW => ?_
  rw [hM'] at hW
  exact fun H' s => hq H' x _ _ (fun b o e => s.ext _ _ (l2 _ _ (hle _ _ e))) ⟨hW.le (fun b o e => (nW b o e).elim (fun n => nw_of (by cases e9 : H b with | none => rfl | some o => rw [hle _ _ e9] at n; cases n) (s.ext _ _ (lW _ _ e))) fun g => nw_mono (fun b o e => s.ext _ _ (l2 _ _ e)) _ _ g), ⟨_, _, _, _, _, hPl⟩, hPl.nd, by rw [List.length_map, List.length_map, List.length_map]; exact hTl, ⟨hord1, by omega⟩, is_cons hPl.cons, fun r hr => by have := hPl.good hr; exact ⟨this.1, this.2.1, this.2.2⟩⟩
def St (s : Int) : Prop := 0 ≤ s ∧ s < 2147483647
abbrev s_law_next : Stmt := top 33
abbrev N_law_next : List Str := ["_law_state_here", "_law_many"]
theorem sc_law_next : FnScope N_law_next ["_law_state_here", "_law_many"] (defScope s_law_next) := ⟨rfl, rfl, rfl, by decide +kernel, rfl, by decide +kernel, by decide +kernel⟩
def sp_law_next : Sp := fun vs H Q _ => ∃ (p : Addr) (s m : Int), vs = [.ref p, .int m] ∧ H p = some (.lst [.int s]) ∧ St s ∧ (0 < m ∧ m < 2000000) ∧
  ∀ (H' : Hp) (s' d : Int), (∀ b o, b ≠ p → H b = some o → H' b = some o) → H' p = some (.lst [.int s']) → St s' → 0 ≤ d → d < m → Q (.int d) H'
theorem use_law_next {B : Hp} {L : HL} {Q : KQ} {E : XK} {p : Addr} {s m : Int} (hs : St s) (hp : (p, HO.lst [.int s]) ∈ L) (hm : 0 < m ∧ m < 2000000) (q : ∀ s' d, St s' → 0 ≤ d → d < m → ∃ L', Rep L p (.lst [.int s]) (.lst [.int s']) L' ∧ Q (.int d) B L') : ∀ H, Sat B L H → sp_law_next [.ref p, .int m] H (up Q) E :=
  fun H sat => ⟨p, s, m, rfl, sat.own _ hp, hs, hm, fun H' s' d e1 e2 h1 h2 h3 => by
    obtain ⟨L', r, h⟩ := q s' d h1 h2 h3
    exact ⟨B, L', sat.rep' r e1 e2, h⟩⟩
theorem ok_law_next {f : Addr} {fd : FuncData} (F : Fun K "_law_next" "_law_next" s_law_next f fd) (hm : mg "_law_next" = some (.ref f)) : Fn P w K mg base 1 "_law_next" sp_law_next := by
  refine fn_ok F sc_law_next hm (fun _ _ _ _ _ _ us hl => match us, hl with | [_, _], _ => rfl) ?_ fun cdv A outer s H vs Q E hr h tk po => ?_
  · rintro vs H Q E ⟨_, _, _, rfl, _⟩; rfl
  obtain ⟨p, s0, m, rfl, hp, hs, hmm, hq⟩ := h
  refine ⟨rmH H p, _, sat_rm hp, ?_⟩
  have ⟨hs1, hs2⟩ := hs
  refine k_cons ?_
  refine k_asg ?_
  refine k_bin ?_
  refine k_bin ?_
  refine k_bin ?_
  refine k_ix ?_
  refine k_n 0 ?_
  refine k_int ?_
  refine i_lv (.int s0) (by walk_at "ls") ?_ rfl
  refine k_int ?_
  walk_at "opMult"
  refine k_int ?_
  walk_at "opAdd"
  refine k_int ?_
  walk_at "opMod"
  refine g_setl ?_
  refine k_n 0 ?_
  refine k_int ?_
  refine ⟨_, [.int s0], 0, 0, _, rfl, rfl, rfl, by walk_at "rep", ?_⟩
  show kSs _ _ _ _ _ _
  refine k_one ?_
  refine k_ret ?_
  refine k_bin ?_
  refine k_bin ?_
  refine k_ix ?_
  refine k_n 0 ?_
  refine k_int ?_
  refine i_lv (.int ((s0 * 48271 + 11) % 2147483647)) (by walk_at "ls") ?_ rfl
  refine k_int ?_
  walk_at "opFloorDiv"
  refine k_n 1 ?_
  refine o_mod ?_ hmm.1
  intro H' s
  have hb := Int.emod_nonneg (s0 * 48271 + 11) (b := 2147483647) (by decide)
  have hb2 := Int.emod_lt_of_pos (s0 * 48271 + 11) (b := 2147483647) (by decide)
  exact hq H' _ _ (fun b o hne e => s.ext b o (by rw [rm_ne hne]; exact e)) (s.own _ List.mem_cons_self) ⟨hb, hb2⟩ (Int.emod_nonneg _ (by omega)) (Int.emod_lt_of_pos _ hmm.1)
abbrev s_law_state : Stmt := top 35
abbrev N_law_state : List Str := ["_law_cell_here", "_law_k", "_law_mixed"]
theorem sc_law_state : FnScope N_law_state ["_law_cell_here", "_law_k"] (defScope s_law_state) := ⟨rfl, rfl, rfl, by decide +kernel, rfl, by decide +kernel, by decide +kernel⟩
def sp_law_state : Sp := fun vs H Q _ => ∃ (c k : Int), vs = [.int c, .int k] ∧ (0 ≤ k ∧ k < 1000) ∧
  ∀ (H' : Hp) (p : Addr) (s : Int), (∀ b o, H b = some o → H' b = some o) → H p = none → H' p = some (.lst [.int s]) → St s → Q (.ref p) H'
theorem use_law_state {B : Hp} {L : HL} {Q : KQ} {E : XK} {c k : Int} (hk : 0 ≤ k ∧ k < 1000) (q : ∀ p s, St s → Q (.ref p) B ((p, .lst [.int s]) :: L)) : ∀ H, Sat B L H → sp_law_state [.int c, .int k] H (up Q) E :=
  fun H sat => ⟨c, k, rfl, hk, fun H' p s e h1 h2 hs => ⟨B, _, sat.new' h1 e h2, q p s hs⟩⟩
theorem ok_law_state {f : Addr} {fd : FuncData} (F : Fun K "_law_state" "_law_state" s_law_state f fd) (hm : mg "_law_state" = some (.ref f)) : Fn P w K mg base 1 "_law_state" sp_law_state := by
  refine fn_ok F sc_law_state hm (fun _ _ _ _ _ _ us hl => match us, hl with | [_, _], _ => rfl) ?_ fun cdv A outer s H vs Q E hr h tk po => ?_
  · rintro vs H Q E ⟨_, _, rfl, _⟩; rfl
  obtain ⟨c, k, rfl, hk, hq⟩ := h
  refine ⟨H, [], Sat.whole, ?_⟩
  refine k_cons ?_
  refine k_set 2 ?_ sc_law_state.nd
  refine k_bin ?_
  refine k_bin ?_
  refine k_bin ?_
  refine k_bin ?_
  refine k_n 0 ?_
  refine k_int ?_
  walk_at "opMult"
  refine k_bin ?_
  refine k_n 1 ?_
  refine k_int ?_
  walk_at "opMult"
  walk_at "opAdd"
  refine k_int ?_
  walk_at "opAdd"
  refine k_int ?_
  walk_at "opMod"
  show kSs _ _ _ _ _ _
  generalize hmx : ((c * 48271 + k * 104729 + 7919) % 2147483647) = mx
  have hb := Int.emod_nonneg (c * 48271 + k * 104729 + 7919) (b := 2147483647) (by decide)
  have hb2 := Int.emod_lt_of_pos (c * 48271 + k * 104729 + 7919) (b := 2147483647) (by decide)
  rw [hmx] at hb hb2
  refine k_one ?_
  refine k_ret ?_
  refine k_lst ?_
  refine a_cons ?_
  refine k_bin ?_
  refine k_int ?_
  refine k_bin ?_
  refine k_bin ?_
  refine k_bin ?_
  refine k_n 2 ?_
  refine k_n 2 ?_
  refine o_mul ?_ (.inl (by omega))
  refine k_bin ?_
  refine k_int ?_
  refine k_n 1 ?_
  walk_at "opMult"
  walk_at "opAdd"
  refine k_int ?_
  walk_at "opMod"
  walk_at "opAdd"
  refine a_nil ?_
  refine ⟨by first | decide | simp, fun p => ?_⟩
  intro H' s
  have hc := Int.emod_nonneg (mx * mx + 69621 * k) (b := 2147483629) (by decide)
  have hc2 := Int.emod_lt_of_pos (mx * mx + 69621 * k) (b := 2147483629) (by decide)
  exact hq H' p _ s.ext (s.nb _ List.mem_cons_self) (s.own _ List.mem_cons_self) ⟨by omega, by omega⟩
abbrev s_law_free : Stmt := top 37
abbrev N_law_free : List Str := ["_law_text", "_law_done", "_law_at"]
theorem sc_law_free : FnScope N_law_free ["_law_text"] (defScope s_law_free) := ⟨rfl, rfl, rfl, by decide +kernel, rfl, by decide +kernel, by decide +kernel⟩
def sp_law_free : Sp := fun vs H Q _ => ∃ l, vs = [.str (sOf l)] ∧ (Let l ∧ l.length ≤ 1000000) ∧ ∀ H', (∀ b o, H b = some o → H' b = some o) → Q (.str (sOf (red l))) H'
theorem use_law_free {B : Hp} {L : HL} {Q : KQ} {E : XK} {l : List Nat} (q : Q (.str (sOf (red l))) B L) (h : Let l ∧ l.length ≤ 1000000) : ∀ H, Sat B L H → sp_law_free [.str (sOf l)] H (up Q) E := fun H s => ⟨l, rfl, h, fun H' e => s.upq e q⟩
theorem ok_law_free {f : Addr} {fd : FuncData} (F : Fun K "_law_free" "_law_free" s_law_free f fd) (hm : mg "_law_free" = some (.ref f)) (T : Tx mg) : Fn P w K mg base 1 "_law_free" sp_law_free := by
  refine fn_ok F sc_law_free hm (fun _ _ _ _ _ _ us hl => match us, hl with | [_], _ => rfl) ?_ fun cdv A outer s H vs Q E hr h tk po => ?_
  · rintro vs H Q E ⟨c, rfl, _⟩; rfl
  obtain ⟨l, rfl, ⟨hl, hn⟩, hq⟩ := h
  refine ⟨H, [], Sat.whole, ?_⟩
  refine k_cons ?_
  refine k_set 1 ?_ sc_law_free.nd
  refine k_bl ?_
  refine k_cons ?_
  refine k_while (fun m σ B L => ∃ t d v, σ = [some (.str (sOf t)), some (.bl d), v] ∧ B = H ∧ L = [] ∧ red t = red l ∧ Let t ∧ t.length ≤ 1000000 ∧ (d = true → Wd t) ∧ m = 2 * t.length + (if d = true then 0 else 1)) (2 * l.length + 1) po ⟨l, false, _, rfl, rfl, rfl, rfl, hl, hn, (fun z => nomatch z), rfl⟩ ?_
  rintro m σ Bo L ⟨t, d, v, rfl, rfl, rfl, hred, hlt, hlen, hwd, rfl⟩
  refine t_not ?_
  refine t_val ?_
  refine k_n 1 ?_
  refine ⟨_, rfl, ?_⟩
  refine ⟨fun hk => ?_, fun hk => ?_⟩
  · have hd : d = false := by simpa using hk
    subst hd
    refine k_cons ?_
    refine k_set 1 ?_ sc_law_free.nd
    refine k_bl ?_
    refine k_one (k_for_r1 (fun i σ B L => ∃ t2 d2 v2, σ = [some (.str (sOf t2)), some (.bl d2), v2] ∧ B = Bo ∧ L = [] ∧ red t2 = red l ∧ Let t2 ∧ ((d2 = true ∧ t2 = t ∧ ∀ j x y, j < i → t[j]? = some x → t[j + 1]? = some y → y ≠ bk x) ∨ (d2 = false ∧ t2.length + 2 = t.length))) po T.b_range ?_)
    refine k_bin ?_
    refine k_callB (id := "len") T.b_len ?_
    refine a_cons ?_
    refine k_n 0 ?_
    refine a_nil ?_
    refine c_lens ?_ (by omega)
    refine k_int ?_
    walk_at "opSub"
    refine ⟨_, rfl, by omega, by omega, ⟨t, true, _, rfl, rfl, rfl, hred, hlt, .inl ⟨rfl, rfl, fun j x y hj => absurd hj (Nat.not_lt_zero _)⟩⟩, ?_, ?_⟩
    · rintro i σ B L hi ⟨t2, d2, v2, rfl, rfl, rfl, hr2, hl2, hc2⟩
      refine g_name 2 ?_ sc_law_free.nd
      refine k_one ?_
      refine k_if ?_
      rcases hc2 with ⟨rfl, rfl, hno⟩ | ⟨rfl, hlen2⟩
      · have hi1 : i + 1 < t2.length := by omega
        have hx : t2[i]? = some t2[i] := List.getElem?_eq_getElem (by omega)
        have hy : t2[i + 1]? = some t2[i + 1] := List.getElem?_eq_getElem hi1
        generalize t2[i] = x at hx
        generalize t2[i + 1] = y at hy
        have hxo := hl2 x (List.mem_of_getElem? hx)
        have hyo := hl2 y (List.mem_of_getElem? hy)
        have e1 : ((i : Int) + 1) = ((i + 1 : Nat) : Int) := by omega
        refine t_pure (v := decide (y = bk x)) ?_ ⟨fun hk => ?_, fun hk => ?_⟩
        · skip
          refine t_w ?_
          refine w_andP ?_
          refine t_val ?_
          refine k_n 1 ?_
          refine ⟨_, rfl, ?_⟩
          apply Exists.intro; refine ⟨fun hk => ?_, ?_⟩
          {
          refine w_andP ?_
          refine t_cmp ?_
          refine k_ix ?_
          refine k_n 0 ?_
          refine k_n 2 ?_
          refine i_sv x ?_ (by rw [atI_n]; exact hx) (by omega)
          refine k_ix ?_
          refine k_n 0 ?_
          refine k_bin ?_
          refine k_n 2 ?_
          refine k_int ?_
          walk_at "opAdd"
          refine i_sv y ?_ (by rw [e1, atI_n]; exact hy) (by omega)
          walk_at "opNotEq"
          refine ⟨_, rfl, ?_⟩
          apply Exists.intro; refine ⟨fun hk => ?_, ?_⟩
          {
          refine w_and1 ?_
          refine t_cmp ?_
          refine k_slower ?_
          refine k_ix ?_
          refine k_n 0 ?_
          refine k_n 2 ?_
          refine i_sv x ?_ (by rw [atI_n]; exact hx) (by omega)
          refine ⟨_, rfl, ?_⟩
          skip
          refine m_lower (lo_is hxo) ?_ (by show 1 ≤ _; decide)
          refine k_slower ?_
          refine k_ix ?_
          refine k_n 0 ?_
          refine k_bin ?_
          refine k_n 2 ?_
          refine k_int ?_
          walk_at "opAdd"
          refine i_sv y ?_ (by rw [e1, atI_n]; exact hy) (by omega)
          refine ⟨_, rfl, ?_⟩
          skip
          refine m_lower (lo_is hyo) ?_ (by show 1 ≤ _; decide)
          walk_at "opEq"
          refine ⟨_, rfl, ?_⟩
          exact ⟨rfl, rfl, by walk_at "sfx"⟩
          all_goals (try walk_at "side")
          }
          exact ⟨rfl, rfl, by walk_at "sfx"⟩
          all_goals (try walk_at "side")
          }
          refine ⟨?_, rfl, by walk_at "sfx"⟩
          rw [Bool.true_and]; exact pair_iff hxo hyo
        · have hyx : y = bk x := of_decide_eq_true hk
          have hsp := split_two hx hy
          refine k_cons ?_
          refine k_set 0 ?_ sc_law_free.nd
          refine k_bin ?_
          refine k_slice ?_
          refine k_n 0 ?_
          refine p_none ?_
          refine p_some ?_
          refine k_n 2 ?_
          refine ⟨_, rfl, ?_⟩
          refine sl_s ?_ (by omega)
          refine k_slice ?_
          refine k_n 0 ?_
          refine p_some ?_
          refine k_bin ?_
          refine k_n 2 ?_
          refine k_int ?_
          walk_at "opAdd"
          refine ⟨_, rfl, ?_⟩
          refine p_none ?_
          refine sl_s ?_ (by omega)
          walk_at "opAdd"
          refine k_one ?_
          refine k_set 1 ?_ sc_law_free.nd
          refine k_bl ?_
          · refine ⟨t2.take i ++ t2.drop (i + 2), false, some (.int (i : Int)), ?_, rfl, rfl, ?_, ?_, .inr ⟨rfl, ?_⟩⟩
            · have e2 : ((i : Int) + 2) = ((i + 2 : Nat) : Int) := by omega
              rw [cut_to, e2, cut_from]; rfl
            · rw [← hr2]
              conv => rhs; rw [hsp, hyx]
              exact (red_cut _ _ _).symm
            · exact let_app (fun c hc => hl2 c (List.mem_of_mem_take hc)) fun c hc => hl2 c (List.mem_of_mem_drop hc)
            · rw [List.length_append, List.length_take, List.length_drop]; omega
          · have e2 : ((i : Int) + 2) = ((i + 2 : Nat) : Int) := by omega
            rw [cut_to, e2, cut_from, List.length_take, List.length_drop]; omega
        · have hyx : ¬ y = bk x := of_decide_eq_false hk
          refine k_nil ?_
          refine ⟨t2, true, some (.int (i : Int)), rfl, rfl, rfl, hr2, hl2, .inl ⟨rfl, rfl, fun j x' y' hj h1 h2 => ?_⟩⟩
          rcases Nat.lt_succ_iff_lt_or_eq.mp hj with h | h
          · exact hno j x' y' h h1 h2
          · subst h
            rw [hx] at h1; rw [hy] at h2
            cases h1; cases h2
            exact hyx
      · refine t_pure (v := false) ?_ ⟨fun z => (nomatch z), fun _ => ?_⟩
        · refine t_w ?_
          refine w_and ?_
          refine t_val ?_
          refine k_n 1 ?_
          refine ⟨_, rfl, ?_⟩
          exact ⟨fun z => (by simp at z), fun _ => ⟨rfl, rfl, by walk_at "sfx"⟩⟩
        · refine k_nil ?_
          exact ⟨t2, false, some (.int (i : Int)), rfl, rfl, rfl, hr2, hl2, .inr ⟨rfl, hlen2⟩⟩
    · rintro σ B L ⟨t2, d2, v2, rfl, rfl, rfl, hr2, hl2, hc2⟩
      rcases hc2 with ⟨rfl, rfl, hno⟩ | ⟨rfl, hlen2⟩
      · refine ⟨2 * t2.length, by simp, t2, true, v2, rfl, rfl, rfl, hr2, hl2, hlen, fun _ => ?_, by simp⟩
        refine rd_iff.mpr fun n x y h1 h2 => hno n x y ?_ h1 h2
        have := (List.getElem?_eq_some_iff.mp h2).1
        omega
      · exact ⟨2 * t2.length + 1, by simp; omega, t2, false, v2, rfl, rfl, rfl, hr2, hl2, by omega, (fun z => nomatch z), by simp⟩
  · have hd : d = true := by simpa using hk
    subst hd
    show kSs _ _ _ _ _ _
    refine k_one ?_
    refine k_ret ?_
    refine k_n 0 ?_
    have e := red_of_rd (hwd rfl)
    rw [hred] at e
    rw [← e]
    exact fun H' s => hq H' s.ext
abbrev s_law_letters : Stmt := top 39
abbrev N_law_letters : List Str := ["_law_state_here", "_law_many", "_law_kinds", "_law_found", "_law_k"]
theorem sc_law_letters : FnScope N_law_letters ["_law_state_here", "_law_many", "_law_kinds"] (defScope s_law_letters) := ⟨rfl, rfl, rfl, by decide +kernel, rfl, by decide +kernel, by decide +kernel⟩
def sp_law_letters : Sp := fun vs H Q _ => ∃ (p : Addr) (s : Int) (n m : Nat), vs = [.ref p, .int n, .int m] ∧ H p = some (.lst [.int s]) ∧ St s ∧ (1 ≤ m ∧ m ≤ 6 ∧ n ≤ 1000) ∧
  ∀ (H' : Hp) (s' : Int) (l : List Nat), (∀ b o, b ≠ p → H b = some o → H' b = some o) → H' p = some (.lst [.int s']) → St s' → Let l → l.length = n → Q (.str (sOf l)) H'
theorem use_law_letters {B : Hp} {L : HL} {Q : KQ} {E : XK} {p : Addr} {s : Int} {m n : Nat} (hs : St s) (hp : (p, HO.lst [.int s]) ∈ L) (hm : 1 ≤ m ∧ m ≤ 6 ∧ n ≤ 1000) (q : ∀ s' l, St s' → Let l → l.length = n → ∃ L', Rep L p (.lst [.int s]) (.lst [.int s']) L' ∧ Q (.str (sOf l)) B L') : ∀ H, Sat B L H → sp_law_letters [.ref p, .int n, .int m] H (up Q) E :=
  fun H sat => ⟨p, s, n, m, rfl, sat.own _ hp, hs, hm, fun H' s' l e1 e2 h1 h2 h3 => by
    obtain ⟨L', r, h⟩ := q s' l h1 h2 h3
    exact ⟨B, L', sat.rep' r e1 e2, h⟩⟩
theorem ok_law_letters {f : Addr} {fd : FuncData} (F : Fun K "_law_letters" "_law_letters" s_law_letters f fd) (hm : mg "_law_letters" = some (.ref f)) (T : Tx mg) (F_law_next : Fn P w K mg base 1 "_law_next" sp_law_next) : Fn P w K mg base 2 "_law_letters" sp_law_letters := by
  refine fn_ok F sc_law_letters hm (fun _ _ _ _ _ _ us hl => match us, hl with | [_, _, _], _ => rfl) ?_ fun cdv A outer s H vs Q E hr h tk po => ?_
  · rintro vs H Q E ⟨_, _, _, _, rfl, _⟩; rfl
  obtain ⟨p, s0, n, m, rfl, hp, hs, hmn, hq⟩ := h
  refine ⟨rmH H p, _, sat_rm hp, ?_⟩
  refine k_cons ?_
  refine k_set 3 ?_ sc_law_letters.nd
  refine k_s [] ?_
  refine k_cons ?_
  refine k_for_r1 (fun i σ B L => ∃ v t s1, σ = [some (.ref p), some (.int n), some (.int m), some (.str (sOf t)), v] ∧ B = rmH H p ∧ L = [(p, .lst [.int s1])] ∧ St s1 ∧ Let t ∧ t.length = i) po T.b_range ?_
  refine k_n 1 ?_
  refine ⟨n, rfl, by omega, by omega, ⟨_, [], s0, rfl, rfl, rfl, hs, fun _ h => (by cases h), rfl⟩, ?_, ?_⟩
  · rintro i σ B L hi ⟨v, t, s2, rfl, rfl, rfl, hs2, hlt, hln⟩
    refine g_name 4 ?_ sc_law_letters.nd
    refine k_one ?_
    refine k_set 3 ?_ sc_law_letters.nd
    refine k_bin ?_
    refine k_n 3 ?_
    refine k_ix ?_
    refine k_s ordL ?_
    refine k_fn F_law_next (hr.mono (by decide)) ?_
    refine a_cons ?_
    refine k_n 0 ?_
    refine a_cons ?_
    refine k_bin ?_
    refine k_int ?_
    refine k_n 2 ?_
    walk_at "opMult"
    refine a_nil ?_
    refine use_law_next hs2 List.mem_cons_self (by omega) fun s3 d3 h31 h32 h33 => ⟨_, .here, ?_⟩
    skip
    skip
    have hd : d3.toNat < ordL.length := by show _ < 12; omega
    have hc1 : ordL[d3.toNat]? = some ordL[d3.toNat] := List.getElem?_eq_getElem hd
    have hc2 : ordL[d3.toNat] ∈ ordL := List.getElem_mem hd
    generalize ordL[d3.toNat] = c at hc1 hc2
    refine i_sv c ?_ ?_ (by decide)
    · refine o_adds ?_ (by simp; omega)
      refine ⟨some (.int (i : Int)), t ++ [c], s3, rfl, rfl, rfl, h31, let_app hlt ?_, by simp [hln]⟩
      intro x hx
      rw [List.mem_singleton.mp hx]; exact hc2
    · have e : d3 = ((d3.toNat : Nat) : Int) := by omega
      rw [e, atI_n]; exact hc1
  · rintro σ B L ⟨v, t, s2, rfl, rfl, rfl, hs2, hlt, hln⟩
    refine k_one ?_
    refine k_ret ?_
    refine k_n 3 ?_
    exact fun H' s => hq H' s2 _ (fun b o hne e => s.ext b o (by rw [rm_ne hne]; exact e)) (s.own _ List.mem_cons_self) hs2 hlt (by rw [hln]; omega)
theorem Sat_perm {B : Hp} {L L' : HL} {H : Hp} (s : Sat B L H) (h : L'.Perm L) : Sat B L' H := ⟨s.ext, fun q hq => s.own q (h.mem_iff.mp hq), fun q hq => s.nb q (h.mem_iff.mp hq), (h.map _).nodup_iff.mpr s.nd⟩
theorem k_perm {X : Cx} {ss : List Stmt} {σ : L2.St} {B : Hp} {L L' : HL} {D : KD} (h : L'.Perm L) (k : kSs X ss σ B L' D) : kSs X ss σ B L D := by
  obtain ⟨t, h1, h2⟩ := k
  exact ⟨t, h1, fun H s => h2 H (Sat_perm s h)⟩
theorem Sat_grow {B : Hp} {L : HL} {H : Hp} (s : Sat B L H) : ∃ B', Le B B' ∧ Sat B' L H ∧ ∀ b o, H b = some o → b ∉ L.map (·.1) → B' b = some o := by
  classical
  refine ⟨fun b => if b ∈ L.map (·.1) then none else H b, fun b o e => ?_, ⟨fun b o e => ?_, s.own, fun p hp => if_pos (List.mem_map.mpr ⟨p, hp, rfl⟩), s.nd⟩, fun b o e hb => (if_neg hb).trans e⟩
  · show (if b ∈ L.map (·.1) then none else H b) = some o
    rw [if_neg (fun hm => by obtain ⟨p, hp, rfl⟩ := List.mem_map.mp hm; rw [s.nb p hp] at e; cases e)]
    exact s.ext _ _ e
  · have e' : (if b ∈ L.map (·.1) then none else H b) = some o := e
    split at e'
    · cases e'
    · exact e'
theorem rep_addr {L L' : HL} {p : Addr} {o o' : HO} (r : Rep L p o o' L') : L'.map (·.1) = L.map (·.1) := by
  induction r with
  | here => rfl
  | there _ ih => rw [List.map_cons, List.map_cons, ih]
theorem not_in {B : Hp} {L : HL} {H : Hp} {b : Addr} (s : Sat B L H) (h : H b = none) : b ∉ L.map (·.1) := fun hm => by
  obtain ⟨p, hp, rfl⟩ := List.mem_map.mp hm
  rw [s.own p hp] at h; cases h
abbrev s_law_along : Stmt := top 41
abbrev N_law_along : List Str := ["_law_steps_here", "_law_word", "_law_at", "_law_letter"]
theorem sc_law_along : FnScope N_law_along ["_law_steps_here", "_law_word", "_law_at"] (defScope s_law_along) := ⟨rfl, rfl, rfl, by decide +kernel, rfl, by decide +kernel, by decide +kernel⟩
def sp_law_along : Sp := fun vs H Q _ => ∃ d kvs l o, vs = [.ref d, .str (sOf l), oN o] ∧ H d = some (.dT kvs) ∧ AllN kvs ∧ ∀ H', (∀ b o, H b = some o → H' b = some o) → Q (oN (wlk kvs l o)) H'
theorem use_law_along {B : Hp} {L : HL} {Q : KQ} {E : XK} {d : Addr} {kvs : Dct} {l : List Nat} {o : Option Nat} (hd : At B L d (.dT kvs)) (hA : AllN kvs) (q : Q (oN (wlk kvs l o)) B L) : ∀ H, Sat B L H → sp_law_along [.ref d, .str (sOf l), oN o] H (up Q) E := fun H s => ⟨d, kvs, l, o, rfl, hd.at s, hA, fun H' e => s.upq e q⟩
theorem ok_law_along {f : Addr} {fd : FuncData} (F : Fun K "_law_along" "_law_along" s_law_along f fd) (hm : mg "_law_along" = some (.ref f)) : Fn P w K mg base 1 "_law_along" sp_law_along := by
  refine fn_ok F sc_law_along hm (fun _ _ _ _ _ _ us hl => match us, hl with | [_, _, _], _ => rfl) ?_ fun cdv A outer s H vs Q E hr h tk po => ?_
  · rintro vs H Q E ⟨_, _, _, _, rfl, _⟩; rfl
  obtain ⟨d, kvs, l, o, rfl, hd, hA, hq⟩ := h
  refine ⟨H, [], Sat.whole, ?_⟩
  refine k_cons ?_
  refine k_for_s (fun i σ B L => ∃ v, σ = [some (.ref d), some (.str (sOf l)), some (oN (wlk kvs (l.take i) o)), v] ∧ H = B) po ?_
  refine k_n 1 ?_
  refine ⟨l, rfl, ⟨none, rfl, rfl⟩, ?_, ?_⟩
  · rintro i c σ B L hc ⟨v, rfl, rfl⟩
    refine g_name 3 ?_ sc_law_along.nd
    refine k_one ?_
    refine k_if ?_
    refine t_cmp ?_
    refine k_n 2 ?_
    refine k_non ?_
    walk_at "opIsNot"
    refine ⟨_, rfl, ?_⟩
    refine ⟨fun hn => ?_, fun hn => ?_⟩
    · obtain ⟨p, hp⟩ : ∃ p, wlk kvs (l.take i) o = some p := by
        cases h : wlk kvs (l.take i) o with
        | none => rw [h] at hn; simp [oN] at hn
        | some p => exact ⟨p, rfl⟩
      rw [hp]
      refine k_one ?_
      refine k_set 2 ?_ sc_law_along.nd
      refine k_getT hr.units ?_
      refine k_n 0 ?_
      refine ⟨d, kvs, rfl, .inl hd, ?_⟩
      refine k_tup ?_
      refine a_cons ?_
      refine k_n 2 ?_
      refine a_cons ?_
      refine k_n 3 ?_
      refine a_nil ?_
      refine ⟨by simp, fun pk => ?_⟩
      refine ⟨kvs, stK (p, c), pk, .inl hd, rfl, .inr List.mem_cons_self, ?_⟩
      rw [stp_val hA]
      refine ⟨some (.str (sOf [c])), ?_, rfl⟩
      rw [wlk_take hc, hp]; rfl
    · refine k_nil ?_
      refine ⟨some (.str (sOf [c])), ?_, rfl⟩
      have hz : wlk kvs (l.take i) o = none := by
        cases h : wlk kvs (l.take i) o with
        | none => rfl
        | some p => rw [h] at hn; simp [oN] at hn
      rw [wlk_take hc, hz]; rfl
  · rintro σ B L ⟨v, rfl, rfl⟩
    refine k_one ?_
    refine k_ret ?_
    refine k_n 2 ?_
    rw [List.take_length]
    exact fun H' s => hq H' s.ext
theorem road_new {rs : List Road} {r : Road} (hc : ConsR rs) (hn : rs.Nodup) (h1 : stp (lawF rs) (r.1, r.2.1) = none) : (rs ++ [r]).Nodup := by
  rw [List.nodup_append]
  refine ⟨hn, by simp, fun a ha b hb e => ?_⟩
  rw [List.mem_singleton] at hb
  subst hb e
  have : ((a.1, a.2.1), a.2.2) ∈ rs.flatMap arcs := List.mem_flatMap.mpr ⟨a, ha, List.mem_cons_self⟩
  rw [((lawF_tab hc).t _ _).mpr this] at h1
  cases h1
abbrev s_law_web : Stmt := top 42
abbrev N_law_web : List Str := ["_law_state_here", "_law_most", "_law_kinds", "_law_many", "_law_steps_here", "_law_roads", "_law_k", "_law_road"]
theorem sc_law_web : FnScope N_law_web ["_law_state_here", "_law_most", "_law_kinds"] (defScope s_law_web) := ⟨rfl, rfl, rfl, by decide +kernel, rfl, by decide +kernel, by decide +kernel⟩
/-- the roads told: tuples of their own, good, of one web -/
structure WebM (H : Hp) (m : Nat) (M : List (Addr × Road)) : Prop where
  t : ∀ z ∈ M, H z.1 = some (.tup (rdV z.2)) ∧ GoodR m z.2
  c : ConsR (M.map (·.2))
  d : (M.map (·.2)).Nodup
  n : M.length ≤ 31
def sp_law_web : Sp := fun vs H Q _ => ∃ (p : Addr) (s : Int) (most kinds : Nat), vs = [.ref p, .int (most : Nat), .int (kinds : Nat)] ∧ H p = some (.lst [.int s]) ∧ St s ∧ ((1 ≤ most ∧ most ≤ 14) ∧ 1 ≤ kinds ∧ kinds ≤ 6) ∧
  ∀ H' s' T pl (m : Nat) M, (∀ b o, b ≠ p → H b = some o → H' b = some o) → H' p = some (.lst [.int s']) → St s' → H T = none → H' T = some (.tup [.int (m : Nat), .ref pl]) → H pl = none → H' pl = some (.lst (rV M)) → (∀ z ∈ M, H z.1 = none) → WebM H' m M → (1 ≤ m ∧ m ≤ most) → Q (.ref T) H'
theorem use_law_web {B : Hp} {L : HL} {Q : KQ} {E : XK} {p : Addr} {s : Int} {most kinds : Nat} (hs : St s) (hp : (p, HO.lst [.int s]) ∈ L) (hm : (1 ≤ most ∧ most ≤ 14) ∧ 1 ≤ kinds ∧ kinds ≤ 6)
    (q : ∀ s' T pl (m : Nat) M B' L', Le B B' → Rep L p (.lst [.int s]) (.lst [.int s']) L' → St s' → B' T = some (.tup [.int (m : Nat), .ref pl]) → B' pl = some (.lst (rV M)) → WebM B' m M → (1 ≤ m ∧ m ≤ most) → Q (.ref T) B' L') : ∀ H, Sat B L H → sp_law_web [.ref p, .int (most : Nat), .int (kinds : Nat)] H (up Q) E :=
  fun H sat => ⟨p, s, most, kinds, rfl, sat.own _ hp, hs, hm, fun H' s' T pl m M e1 e2 hs' n1 t1 n2 t2 n3 hM hm2 => by
    obtain ⟨L', r, _⟩ := rep_of (.lst [.int s']) hp
    have s2 := sat.rep' r e1 e2
    obtain ⟨B', l, s3, g⟩ := Sat_grow s2
    have ni : ∀ {b}, H b = none → b ∉ L'.map (·.1) := fun h => by rw [rep_addr r]; exact not_in sat h
    exact ⟨B', L', s3, q s' T pl m M B' L' l r hs' (g _ _ t1 (ni n1)) (g _ _ t2 (ni n2)) ⟨fun z hz => ⟨g _ _ (hM.t z hz).1 (ni (n3 z hz)), (hM.t z hz).2⟩, hM.c, hM.d, hM.n⟩ hm2⟩⟩
/-- .. where nothing else is held by name -/
theorem use_law_web1 {B : Hp} {Q : KQ} {E : XK} {p : Addr} {s : Int} {most kinds : Nat} (hs : St s) (hm : (1 ≤ most ∧ most ≤ 14) ∧ 1 ≤ kinds ∧ kinds ≤ 6)
    (q : ∀ s' T pl (m : Nat) M B', Le B B' → St s' → B' T = some (.tup [.int (m : Nat), .ref pl]) → B' pl = some (.lst (rV M)) → WebM B' m M → (1 ≤ m ∧ m ≤ most) → Q (.ref T) B' [(p, .lst [.int s'])]) : ∀ H, Sat B [(p, .lst [.int s])] H → sp_law_web [.ref p, .int (most : Nat), .int (kinds : Nat)] H (up Q) E :=
  use_law_web hs List.mem_cons_self hm fun s' T pl m M B' L' l r hs' h1 h2 h3 h4 => by
    cases r with
    | here => exact q s' T pl m M B' l hs' h1 h2 h3 h4
    | there r => cases r
theorem ltl_at {d : Int} (h0 : 0 ≤ d) (h1 : d < 6) : ∃ c, atI ltL d = some c ∧ c ∈ ltL := by
  have hd : d.toNat < ltL.length := by show _ < 6; omega
  refine ⟨ltL[d.toNat], ?_, List.getElem_mem hd⟩
  have e : d = ((d.toNat : Nat) : Int) := by omega
  exact (congrArg (atI ltL) e).trans (by rw [atI_n]; exact List.getElem?_eq_getElem hd)
theorem ok_law_web {f : Addr} {fd : FuncData} (F : Fun K "_law_web" "_law_web" s_law_web f fd) (hm : mg "_law_web" = some (.ref f)) (T : Tx mg) (F_law_next : Fn P w K mg base 1 "_law_next" sp_law_next) (F_law_steps : Fn P w K mg base 1 "_law_steps" (sp_law_steps K)) : Fn P w K mg base 2 "_law_web" sp_law_web := by
  refine fn_ok F sc_law_web hm (fun _ _ _ _ _ _ us hl => match us, hl with | [_, _, _], _ => rfl) ?_ fun cdv A outer s H vs Q E hr h tk po => ?_
  · rintro vs H Q E ⟨_, _, _, _, rfl, _⟩; rfl
  obtain ⟨p, s0, most, kinds, rfl, hp, hs, ⟨⟨hm1, hm12⟩, hk1, hk6⟩, hq⟩ := h
  refine ⟨rmH H p, _, sat_rm hp, ?_⟩
  refine k_cons ?_
  refine k_set 3 ?_ sc_law_web.nd
  refine k_bin ?_
  refine k_int ?_
  refine k_fn F_law_next (hr.mono (by decide)) ?_
  refine a_cons ?_
  refine k_n 0 ?_
  refine a_cons ?_
  refine k_n 1 ?_
  refine a_nil ?_
  refine use_law_next hs (by walk_at "mm") (by omega) fun s1 d1 hs1 h11 h12 => ⟨_, by walk_at "rep", ?_⟩; obtain ⟨n1, rfl⟩ : ∃ n : Nat, d1 = n := ⟨d1.toNat, by omega⟩
  refine o_add ?_; rw [show (1 : Int) + (n1 : Int) = ((1 + n1 : Nat) : Int) by omega]
  have hm2 : 1 ≤ 1 + n1 ∧ 1 + n1 ≤ most := by omega
  generalize 1 + n1 = m at hm2
  show kSs _ _ _ _ _ _
  refine k_norm (by simp only [L2.start, N_law_web, List.map_cons, List.map_nil, List.length_cons, List.length_nil, Nat.reduceAdd, Nat.reduceSub, List.replicate_succ, List.replicate_zero, List.cons_append, List.nil_append, List.set_cons_succ, List.set_cons_zero]; exact rfl) ?_
  refine k_cons ?_
  refine k_set 4 ?_ sc_law_web.nd
  refine k_dT0 fun d0 => ?_
  show kSs _ _ _ _ _ _
  refine k_norm (by simp only [L2.start, N_law_web, List.map_cons, List.map_nil, List.length_cons, List.length_nil, Nat.reduceAdd, Nat.reduceSub, List.replicate_succ, List.replicate_zero, List.cons_append, List.nil_append, List.set_cons_succ, List.set_cons_zero]; exact rfl) ?_
  refine k_cons ?_
  refine k_set 5 ?_ sc_law_web.nd
  refine k_lst ?_
  refine a_nil ?_
  refine ⟨by simp, fun pl => ?_⟩
  show kSs _ _ _ _ _ _
  refine k_norm (by simp only [L2.start, N_law_web, List.map_cons, List.map_nil, List.length_cons, List.length_nil, Nat.reduceAdd, Nat.reduceSub, List.replicate_succ, List.replicate_zero, List.cons_append, List.nil_append, List.set_cons_succ, List.set_cons_zero]; exact rfl) ?_
  refine k_perm (L' := [(d0, .dT []), (pl, .lst []), (p, .lst [.int s1])]) (List.Perm.swap _ _ _) ?_
  refine k_cons ?_
  refine k_for_r1 (fun i σ B L => ∃ (v6 v7 : Option V) (s' : Int) (dd : Addr) (M : List (Addr × Road)), σ = [some (.ref p), some (.int (most : Nat)), some (.int (kinds : Nat)), some (.int (m : Nat)), some (.ref dd), some (.ref pl), v6, v7] ∧ Le (rmH H p) B ∧ St s' ∧ List.Sublist [(dd, HO.dT (lawF (M.map (·.2)))), (pl, .lst (rV M)), (p, .lst [.int s'])] L ∧ (∀ z ∈ M, rmH H p z.1 = none ∧ B z.1 = some (.tup (rdV z.2)) ∧ GoodR m z.2) ∧ ConsR (M.map (·.2)) ∧ (M.map (·.2)).Nodup ∧ M.length ≤ i) po T.b_range ?_
  refine k_fn F_law_next (hr.mono (by decide)) ?_
  refine a_cons ?_
  refine k_n 0 ?_
  refine a_cons ?_
  refine k_bin ?_
  refine k_bin ?_
  refine k_int ?_
  refine k_n 3 ?_
  refine o_mul ?_ (.inl (by omega))
  refine k_int ?_
  walk_at "opAdd"
  refine a_nil ?_
  refine use_law_next hs1 (by walk_at "mm") (by omega) fun s2 d2 hs2 h21 h22 => ⟨_, by walk_at "rep", ?_⟩
  refine ⟨_, rfl, by omega, by omega, ⟨none, none, s2, d0, [], rfl, fun _ _ z => z, hs2, List.Sublist.refl _, fun _ z => (nomatch z), fun _ _ _ z => (nomatch z), List.nodup_nil, Nat.le_refl _⟩, ?_, ?_⟩
  · rintro i σ B L hi ⟨v6, v7, s3, dd, M, rfl, hle, hs3, hsub, hM, hC, hN, hn⟩
    refine g_name 6 ?_ sc_law_web.nd
    refine k_norm (by simp only [L2.start, N_law_web, List.map_cons, List.map_nil, List.length_cons, List.length_nil, Nat.reduceAdd, Nat.reduceSub, List.replicate_succ, List.replicate_zero, List.cons_append, List.nil_append, List.set_cons_succ, List.set_cons_zero]; exact rfl) ?_
    refine k_sub hsub ?_
    refine k_cons ?_
    refine k_set 7 ?_ sc_law_web.nd
    refine k_tup ?_
    refine a_cons ?_
    refine k_fn F_law_next (hr.mono (by decide)) ?_
    refine a_cons ?_
    refine k_n 0 ?_
    refine a_cons ?_
    refine k_n 3 ?_
    refine a_nil ?_
    refine use_law_next hs3 (by walk_at "mm") (by omega) fun s4 d4 hs4 h41 h42 => ⟨_, by walk_at "rep", ?_⟩; obtain ⟨n4, rfl⟩ : ∃ n : Nat, d4 = n := ⟨d4.toNat, by omega⟩
    refine a_cons ?_
    refine k_ix ?_
    refine k_s ltL ?_
    refine k_fn F_law_next (hr.mono (by decide)) ?_
    refine a_cons ?_
    refine k_n 0 ?_
    refine a_cons ?_
    refine k_n 2 ?_
    refine a_nil ?_
    refine use_law_next hs4 (by walk_at "mm") (by omega) fun s5 d5 hs5 h51 h52 => ⟨_, by walk_at "rep", ?_⟩; obtain ⟨c, hc1, hc2⟩ := ltl_at h51 (by omega)
    refine i_sv c ?_ hc1 (by decide)
    refine a_cons ?_
    refine k_fn F_law_next (hr.mono (by decide)) ?_
    refine a_cons ?_
    refine k_n 0 ?_
    refine a_cons ?_
    refine k_n 3 ?_
    refine a_nil ?_
    refine use_law_next hs5 (by walk_at "mm") (by omega) fun s6 d6 hs6 h61 h62 => ⟨_, by walk_at "rep", ?_⟩; obtain ⟨n6, rfl⟩ : ∃ n : Nat, d6 = n := ⟨d6.toNat, by omega⟩
    refine a_nil ?_
    refine ⟨by simp, fun pr => ?_⟩
    show kSs _ _ _ _ _ _
    refine k_norm (by simp only [L2.start, N_law_web, List.map_cons, List.map_nil, List.length_cons, List.length_nil, Nat.reduceAdd, Nat.reduceSub, List.replicate_succ, List.replicate_zero, List.cons_append, List.nil_append, List.set_cons_succ, List.set_cons_zero]; exact rfl) ?_
    refine k_fz fun B1 l1 nb1 e1 => ?_
    have hle1 : Le (rmH H p) B1 := fun b o e => l1 _ _ (hle b o e)
    have hfr : ∀ {b : Addr}, B b = none → rmH H p b = none := fun {b} h => by
      cases e : rmH H p b with
      | none => rfl
      | some o => rw [hle b o e] at h; cases h
    have hM1 : ∀ z ∈ M, rmH H p z.1 = none ∧ B1 z.1 = some (.tup (rdV z.2)) ∧ GoodR m z.2 := fun z hz => ⟨(hM z hz).1, l1 _ _ (hM z hz).2.1, (hM z hz).2.2⟩
    have hr0 : rmH H p pr = none := hfr nb1
    refine k_cut (fun σ' B' L' => ∃ (s' : Int) (r : Road) (q : Addr), σ' = [some (.ref p), some (.int (most : Nat)), some (.int (kinds : Nat)), some (.int (m : Nat)), some (.ref dd), some (.ref pl), some (.int (i : Nat)), some (.ref q)] ∧ Le B1 B' ∧ St s' ∧ L' = [(dd, HO.dT (lawF (M.map (·.2)))), (pl, .lst (rV M)), (p, .lst [.int s'])] ∧ rmH H p q = none ∧ B' q = some (.tup (rdV r)) ∧ GoodR m r) ?_ ?_
    · refine k_if ?_
      refine t_w ?_
      refine w_and ?_
      refine t_cmp ?_
      refine k_n 6 ?_
      refine k_bin ?_
      refine k_n 3 ?_
      refine k_int ?_
      walk_at "opSub"
      walk_at "opLt"
      refine ⟨_, rfl, ?_⟩
      refine ⟨fun hk1 => ?_, fun hk1 => ?_⟩
      · have hk1' : i + 1 < m := by have := of_decide_eq_true hk1; omega
        refine w_and1 ?_
        refine t_cmp ?_
        refine k_fn F_law_next (hr.mono (by decide)) ?_
        refine a_cons ?_
        refine k_n 0 ?_
        refine a_cons ?_
        refine k_int ?_
        refine a_nil ?_
        refine use_law_next hs6 (by walk_at "mm") (by omega) fun s7 d7 hs7 h71 h72 => ⟨_, by walk_at "rep", ?_⟩
        refine k_int ?_
        walk_at "opGt"
        refine ⟨_, rfl, ?_⟩
        refine ⟨fun hk2 => ?_, fun hk2 => ?_⟩
        · refine k_one ?_
          refine k_set 7 ?_ sc_law_web.nd
          refine e_fz1 ?_
          refine e_fz1 ?_
          refine e_fz1 ?_
          refine k_ix ?_
          refine k_lst ?_
          refine a_cons ?_
          refine k_tup ?_
          refine a_cons ?_
          refine k_n 6 ?_
          refine a_cons ?_
          refine k_ix ?_
          refine k_n 7 ?_
          refine k_int ?_
          refine i_tv (.str (sOf [c])) (xs := rdV (n4, c, n6)) (.inl (.inl (.inl e1))) ?_ rfl
          refine a_cons ?_
          refine k_bin ?_
          refine k_n 6 ?_
          refine k_int ?_
          refine o_add ?_; rw [show (i : Int) + 1 = ((i + 1 : Nat) : Int) by omega]
          refine a_nil ?_
          refine ⟨by simp, fun q1 => ?_⟩
          refine a_cons ?_
          refine k_tup ?_
          refine a_cons ?_
          refine k_bin ?_
          refine k_n 6 ?_
          refine k_int ?_
          refine o_add ?_; rw [show (i : Int) + 1 = ((i + 1 : Nat) : Int) by omega]
          refine a_cons ?_
          refine k_ix ?_
          refine k_n 7 ?_
          refine k_int ?_
          refine i_tv (.str (sOf [c])) (xs := rdV (n4, c, n6)) (.inl (.inl (.inl e1))) ?_ rfl
          refine a_cons ?_
          refine k_n 6 ?_
          refine a_nil ?_
          refine ⟨by simp, fun q2 => ?_⟩
          refine a_nil ?_
          refine ⟨by simp, fun ql => ?_⟩
          refine k_fn F_law_next (hr.mono (by decide)) ?_
          refine a_cons ?_
          refine k_n 0 ?_
          refine a_cons ?_
          refine k_int ?_
          refine a_nil ?_
          refine use_law_next hs7 (by walk_at "mm") (by omega) fun s8 d8 hs8 h81 h82 => ⟨_, by walk_at "rep", ?_⟩
          skip
          have hd8 : d8 = 0 ∨ d8 = 1 := by omega
          rcases hd8 with rfl | rfl
          · refine i_lv (.ref q1) (xs := [.ref q1, .ref q2]) (.inr List.mem_cons_self) ?_ rfl
            refine ⟨_, _, _, rfl, fun C1 g1 m1 f1 => ⟨_, _, _, rfl, fun C2 g2 m2 f2 => ⟨_, _, _, rfl, fun C3 g3 m3 f3 => ?_⟩⟩⟩
            exact ⟨s8, (i, c, i + 1), q1, rfl, fun b o e => g3 _ _ (g2 _ _ (g1 _ _ e)), hs8, rfl, hfr (by cases e : B q1 with | none => rfl | some o => rw [g2 _ _ (g1 _ _ (l1 _ _ e))] at m3; cases m3), f3, ⟨by show i < m; omega, hc2, by show i + 1 < m; omega⟩⟩
          · refine i_lv (.ref q2) (xs := [.ref q1, .ref q2]) (.inr List.mem_cons_self) ?_ rfl
            refine ⟨_, _, _, rfl, fun C1 g1 m1 f1 => ⟨_, _, _, rfl, fun C2 g2 m2 f2 => ⟨_, _, _, rfl, fun C3 g3 m3 f3 => ?_⟩⟩⟩
            exact ⟨s8, (i + 1, c, i), q2, rfl, fun b o e => g3 _ _ (g2 _ _ (g1 _ _ e)), hs8, rfl, hfr (by cases e : B q2 with | none => rfl | some o => rw [g1 _ _ (l1 _ _ e)] at m2; cases m2), g3 _ _ f2, ⟨by show i + 1 < m; omega, hc2, by show i < m; omega⟩⟩
        · refine k_nil ?_
          exact ⟨s7, (n4, c, n6), pr, rfl, fun _ _ e => e, hs7, rfl, hr0, e1, ⟨by show n4 < m; omega, hc2, by show n6 < m; omega⟩⟩
      · refine ⟨fun z => (nomatch z), fun _ => ?_⟩
        refine k_nil ?_
        exact ⟨s6, (n4, c, n6), pr, rfl, fun _ _ e => e, hs6, rfl, hr0, e1, ⟨by show n4 < m; omega, hc2, by show n6 < m; omega⟩⟩
    · rintro σ' B2 L' ⟨s9, r, q, rfl, l2, hs9, rfl, hrq, hrB, hgr⟩
      have hM2 : ∀ z ∈ M, rmH H p z.1 = none ∧ B2 z.1 = some (.tup (rdV z.2)) ∧ GoodR m z.2 := fun z hz => ⟨(hM1 z hz).1, l2 _ _ (hM1 z hz).2.1, (hM1 z hz).2.2⟩
      have hle2 : Le (rmH H p) B2 := fun b o e => l2 _ _ (hle1 b o e)
      have hTab := lawF_tab hC
      refine k_one ?_
      refine k_if ?_
      refine t_w ?_
      refine w_andP ?_
      refine t_cmp ?_
      refine k_tup ?_
      refine a_cons ?_
      refine k_ix ?_
      refine k_n 7 ?_
      refine k_int ?_
      refine i_tv (.int (r.1 : Nat)) (xs := rdV r) (.inl (.inl (.inl hrB))) ?_ rfl
      refine a_cons ?_
      refine k_ix ?_
      refine k_n 7 ?_
      refine k_int ?_
      refine i_tv (.str (sOf [r.2.1])) (xs := rdV r) (.inl (.inl (.inl hrB))) ?_ rfl
      refine a_nil ?_
      refine ⟨by simp, fun k1 => ?_⟩
      refine k_n 4 ?_
      refine o_ninT (kvs := lawF (M.map (·.2))) (k := stK (r.1, r.2.1)) hr.units (.inr (by walk_at "mm")) (.inr (by walk_at "mm")) ?_
      refine ⟨_, rfl, ?_⟩
      apply Exists.intro; refine ⟨fun hk => ?_, ?_⟩
      {
      refine w_and1 ?_
      refine t_cmp ?_
      refine k_tup ?_
      refine a_cons ?_
      refine k_ix ?_
      refine k_n 7 ?_
      refine k_int ?_
      refine i_tv (.int (r.2.2 : Nat)) (xs := rdV r) (.inl (.inl (.inl hrB))) ?_ rfl
      refine a_cons ?_
      refine k_supper ?_
      refine k_ix ?_
      refine k_n 7 ?_
      refine k_int ?_
      refine i_tv (.str (sOf [r.2.1])) (xs := rdV r) (.inl (.inl (.inl hrB))) ?_ rfl
      refine ⟨_, rfl, ?_⟩
      skip
      refine m_upper (up_lt hgr.c) ?_ (Nat.le_of_ble_eq_true rfl)
      refine a_nil ?_
      refine ⟨by simp, fun k2 => ?_⟩
      refine k_n 4 ?_
      refine o_ninT (kvs := lawF (M.map (·.2))) (k := stK (r.2.2, bk r.2.1)) hr.units (.inr (by walk_at "mm")) (.inr (by walk_at "mm")) ?_
      refine ⟨_, rfl, ?_⟩
      exact ⟨rfl, rfl, by walk_at "sfx"⟩
      all_goals (try walk_at "side")
      }
      refine ⟨fun hk => ?_, fun hk => ?_⟩
      · rw [Bool.and_eq_true, Bool.not_eq_true', Bool.not_eq_true'] at hk
        have hC2 := consR_add hC hgr.c (stp_none hTab.n hk.1) (stp_none hTab.n hk.2)
        have hN2 : (M.map (·.2) ++ [r]).Nodup := road_new hC hN (stp_none hTab.n hk.1)
        have eM : (M ++ [(q, r)]).map (·.2) = M.map (·.2) ++ [r] := by simp
        have eV : rV M ++ [V.ref q] = rV (M ++ [(q, r)]) := by unfold rV; simp
        have hM3 : ∀ z ∈ M ++ [(q, r)], rmH H p z.1 = none ∧ B2 z.1 = some (.tup (rdV z.2)) ∧ GoodR m z.2 := fun z hz => (List.mem_append.mp hz).elim (hM2 z) fun e => by rw [List.mem_singleton.mp e]; exact ⟨hrq, hrB, hgr⟩
        refine k_cons ?_
        refine k_expr ?_
        refine k_m PySem.F.plainAttrs_list PySem.F.slot_list_append PySem.F.type_list_append ?_
        refine k_n 5 ?_
        refine ⟨ty_l (.inr (by walk_at "mm")), ?_⟩
        refine a_cons ?_
        refine k_n 7 ?_
        refine a_nil ?_
        refine m_append (xs := rV M) (by walk_at "rep") ?_ (by unfold rV; rw [List.length_map]; omega)
        rw [eV]
        show kSs _ _ _ _ _ _
        refine k_one ?_
        refine k_set 4 ?_ sc_law_web.nd
        refine k_fn F_law_steps (hr.mono (by decide)) ?_
        refine a_cons ?_
        refine k_n 5 ?_
        refine a_nil ?_
        refine use_law_steps (M := M ++ [(q, r)]) (.inr (by walk_at "mm")) (fun z hz => .inl (.inl (hM3 z hz).2.1)) ⟨fun z hz => (hM3 z hz).2.2.c, by simp; omega⟩ fun d9 => ?_
        refine ⟨_, _, s9, d9, M ++ [(q, r)], rfl, hle2, hs9, ?_, hM3, by rw [eM]; exact hC2, by rw [eM]; exact hN2, by simp; omega⟩
        exact List.Sublist.cons_cons _ (by repeat (first | exact List.Sublist.refl _ | apply List.Sublist.cons))
      · refine k_nil ?_
        refine ⟨_, _, s9, dd, M, rfl, hle2, hs9, ?_, hM2, hC, hN, by omega⟩
        repeat (first | exact List.Sublist.refl _ | apply List.Sublist.cons)
  · rintro σ B L ⟨v6, v7, s3, dd, M, rfl, hle, hs3, hsub, hM, hC, hN, hn⟩
    refine k_sub hsub ?_
    refine k_one ?_
    refine k_ret ?_
    refine k_tup ?_
    refine a_cons ?_
    refine k_n 3 ?_
    refine a_cons ?_
    refine k_n 5 ?_
    refine a_nil ?_
    refine ⟨by simp, fun pT => ?_⟩
    intro H' s
    have nd := s.nd
    simp only [List.map_cons, List.map_nil, List.nodup_cons, List.mem_cons, List.not_mem_nil, or_false, not_or] at nd
    have fr : ∀ {b : Addr}, b ≠ p → B b = none → H b = none := fun {b} hb h => by
      cases e : H b with
      | none => rfl
      | some o => rw [hle b o (by rw [rm_ne hb]; exact e)] at h; cases h
    have n1 := s.nb _ List.mem_cons_self
    have n3 := s.nb _ (List.mem_cons_of_mem _ (List.mem_cons_of_mem _ List.mem_cons_self))
    have n4 := s.nb _ (List.mem_cons_of_mem _ (List.mem_cons_of_mem _ (List.mem_cons_of_mem _ List.mem_cons_self)))
    refine hq H' s3 pT pl m M (fun b o hb e => s.ext b o (hle b o (by rw [rm_ne hb]; exact e))) (s.own _ (List.mem_cons_of_mem _ (List.mem_cons_of_mem _ (List.mem_cons_of_mem _ List.mem_cons_self)))) hs3 (fr nd.1.2.2 n1) (s.own _ List.mem_cons_self) (fr nd.2.2.1 n3) (s.own _ (List.mem_cons_of_mem _ (List.mem_cons_of_mem _ List.mem_cons_self))) (fun z hz => ?_) ⟨fun z hz => ⟨s.ext _ _ (hM z hz).2.1, (hM z hz).2.2⟩, hC, hN, by omega⟩ hm2
    have hzp : z.1 ≠ p := fun e => by have := (hM z hz).2.1; rw [e, n4] at this; cases this
    rw [← rm_ne (H := H) hzp]
    exact (hM z hz).1
abbrev s_Web_plain : Stmt := inClass (top 20) 6
abbrev N_Web_plain : List Str := ["self"]
theorem sc_Web_plain : FnScope N_Web_plain ["self"] (defScope s_Web_plain) := ⟨rfl, rfl, rfl, by decide +kernel, rfl, by decide +kernel, by decide +kernel⟩
structure GW (m : Nat) (rs : List Road) : Prop where
  m1 : 1 ≤ m ∧ m ≤ 200
  g : ∀ r ∈ rs, GoodR m r
  c : ConsR rs
  l : rs.length < 64
def sp_plain (K : PySem.W.Frag) (C : Addr) : Sp := fun vs H Q _ => ∃ x m rs G, vs = [.ref x] ∧ Le G H ∧ IsWeb K C G x m rs ∧ GW m rs ∧ ∀ H' y U k N, (∀ b o, H b = some o → H' b = some o) → (∀ r, r ∈ U ↔ r ∈ rs) → U.length ≤ rs.length → IsPw K C (nwH H H') y U k N → Q (.ref y) H'
theorem IsPw.grow {C : Addr} {B : Hp} {L : HL} {H H' : Hp} {x : Addr} {U : List Road} {k : Nat} {N : List Road} (s : Sat B L H) (e : ∀ b o, H b = some o → H' b = some o) (h : IsPw K C (nwH H H') x U k N) : ∃ B', Le B B' ∧ Sat B' L H' ∧ IsPw K C B' x U k N := by
  obtain ⟨B', l, s3, g⟩ := Sat_grow (s.keep e)
  exact ⟨B', l, s3, h.le fun b o q => g b o (nw_some q).2 (not_in s (nw_some q).1)⟩
theorem use_plain {C : Addr} {B : Hp} {L : HL} {Q : KQ} {E : XK} {x : Addr} {m : Nat} {rs : List Road} (h : IsWeb K C B x m rs) (hg : GW m rs) (q : ∀ y B' U k N, Le B B' → (∀ r, r ∈ U ↔ r ∈ rs) → U.length ≤ rs.length → IsPw K C B' y U k N → Q (.ref y) B' L) : ∀ H, Sat B L H → sp_plain K C [.ref x] H (up Q) E :=
  fun H s => ⟨x, m, rs, B, rfl, s.ext, h, hg, fun H' y U k N e hU hl hp => by
    obtain ⟨B', l, s3, hp'⟩ := hp.grow s e
    exact ⟨B', L, s3, q y B' U k N l hU hl hp'⟩⟩
theorem ok_plain {f C : Addr} {fd : FuncData} (F : Fun K "plain" "Web.plain" s_Web_plain f fd) (hm : Meth K C "plain" f) (cls : Cls K C) (n3 : NoAttr K C "kept") (F_plain_of : Fn P w K mg base 5 "plain_of" (sp_plain_ofT K C)) : Mt P w K mg base 6 C "plain" (sp_plain K C) := by
  refine mt_okM F sc_Web_plain hm cls (fun _ _ _ _ _ _ us hl => match us, hl with | [_], _ => rfl) ?_ fun cdv A outer s H vs Q E hr h tk po => ?_
  · rintro vs H Q E ⟨_, _, _, _, rfl, _⟩; rfl
  obtain ⟨x, m, rs, G, rfl, hG, ⟨dx, sd, t, kvs, M, hx, hsd, ht, hM, hk, hs⟩, hg, hq⟩ := h
  refine ⟨H, [], Sat.whole, ?_⟩
  have hx' := hG _ _ hx
  have hl : (M.map (·.2)).length ≤ rs.length := sub_len hs.nd fun r hr => (hs.mem r).mp hr
  have hl2 : M.length ≤ rs.length := by rw [List.length_map] at hl; exact hl
  have hgl := hg.l
  refine k_one ?_
  refine k_ret ?_
  refine k_fn F_plain_of (hr.mono (by decide)) ?_
  refine a_cons ?_
  refine k_fld cls n3 ?_
  refine k_n 0 ?_
  refine ⟨_, _, _, _, rfl, by walk_at "at", rfl, ?_⟩
  refine a_nil ?_
  refine fun H' s => ?_
  refine ⟨t, M, m, rfl, .inl (.inl (s.ext _ _ (hG _ _ ht))), fun z hz => ext_t (fun b o e => s.ext _ _ (hG b o e)) (hM z hz), fun z hz => hg.g _ ((hs.mem _).mp (List.mem_map.mpr ⟨z, hz, rfl⟩)), ⟨hg.m1, by omega⟩, hs.nd, consR_mem (fun r hr => (hs.mem r).mp hr) hg.c, fun H2 y k N e hp => ?_⟩
  refine ⟨H2, [], Sat.whole, fun H3 s3 => ?_⟩
  exact hq H3 y _ k N (fun b o e2 => s3.ext _ _ (e b o (s.ext _ _ e2))) hs.mem hl (hp.le fun b o q => nw_of (by cases e9 : H b with | none => rfl | some u => exact absurd (s.ext _ _ e9) (by rw [(nw_some q).1]; simp)) (s3.ext _ _ (nw_some q).2))
abbrev s_law_reached : Stmt := top 43
abbrev N_law_reached : List Str := ["_law_steps_here", "_law_roads", "_law_found", "_law_k", "_law_letter", "_law_there"]
theorem sc_law_reached : FnScope N_law_reached ["_law_steps_here", "_law_roads"] (defScope s_law_reached) := ⟨rfl, rfl, rfl, by decide +kernel, rfl, by decide +kernel, by decide +kernel⟩
theorem comeF_some {kvs : Dct} {n i p : Nat} {f : List Nat} (h : f[i]? = some p) : comeF kvs (n + 1) f i = comeF kvs n (vis kvs p ordL f) (i + 1) := by
  show (match f[i]? with | some p => comeF kvs n (vis kvs p ordL f) (i + 1) | none => f) = _
  rw [h]
theorem comeF_none {kvs : Dct} {n i : Nat} {f : List Nat} (h : f[i]? = none) : comeF kvs n f i = f := by
  cases n with
  | zero => rfl
  | succ n =>
    show (match f[i]? with | some p => comeF kvs n (vis kvs p ordL f) (i + 1) | none => f) = _
    rw [h]
def sp_law_reached (K : PySem.W.Frag) : Sp := fun vs H Q _ => ∃ (d a : Addr) (kvs : Dct) (m : Nat) (xs : List V), vs = [.ref d, .ref a] ∧ H d = some (.dT kvs) ∧ AllN kvs ∧ Bel kvs m ∧ (1 ≤ m ∧ m ≤ 1000) ∧ SqL K H a xs ∧ xs.length ≤ 1000 ∧ ∀ H' q, (∀ b o, H b = some o → H' b = some o) → H q = none → H' q = some (.lst (nV (comeF kvs (xs.length + 1) [0] 0))) → Q (.ref q) H'
theorem use_law_reached {B : Hp} {L : HL} {Q : KQ} {E : XK} {d a : Addr} {kvs : Dct} {m : Nat} {xs : List V} (hd : At B L d (.dT kvs)) (hA : AllN kvs) (hB : Bel kvs m) (hm : 1 ≤ m ∧ m ≤ 1000) (ha : Ls K B L a xs) (hn : xs.length ≤ 1000) (q : ∀ r, Q (.ref r) B ((r, .lst (nV (comeF kvs (xs.length + 1) [0] 0))) :: L)) : ∀ H, Sat B L H → sp_law_reached K [.ref d, .ref a] H (up Q) E :=
  fun H s => ⟨d, a, kvs, m, xs, rfl, hd.at s, hA, hB, hm, ha.at s, hn, fun H' r e h1 h2 => ⟨B, _, s.new' h1 e h2, q r⟩⟩
theorem ok_law_reached {f : Addr} {fd : FuncData} (F : Fun K "_law_reached" "_law_reached" s_law_reached f fd) (hm : mg "_law_reached" = some (.ref f)) (T : Tx mg) : Fn P w K mg base 1 "_law_reached" (sp_law_reached K) := by
  refine fn_ok F sc_law_reached hm (fun _ _ _ _ _ _ us hl => match us, hl with | [_, _], _ => rfl) ?_ fun cdv A outer s H vs Q E hr h tk po => ?_
  · rintro vs H Q E ⟨_, _, _, _, _, rfl, _⟩; rfl
  obtain ⟨d, a, kvs, m, xs, rfl, hd, hA, hB, ⟨hm1, hm2⟩, ha, hxn, hq⟩ := h
  refine ⟨H, [], Sat.whole, ?_⟩
  refine k_cons ?_
  refine k_set 2 ?_ sc_law_reached.nd
  refine k_lst ?_
  refine a_cons ?_
  refine k_int ?_
  refine a_nil ?_
  refine ⟨by simp, fun pf => ?_⟩
  show kSs _ _ _ _ _ _
  refine k_norm (by simp only [L2.start, N_law_reached, List.map_cons, List.map_nil, List.length_cons, List.length_nil, Nat.reduceAdd, Nat.reduceSub, List.replicate_succ, List.replicate_zero, List.cons_append, List.nil_append, List.set_cons_succ, List.set_cons_zero]; exact rfl) ?_
  refine k_cons ?_
  refine k_for_r1 (fun i σ B L => ∃ (f : List Nat) (v3 v4 v5 : Option V), σ = [some (.ref d), some (.ref a), some (.ref pf), v3, v4, v5] ∧ H = B ∧ (pf, HO.lst (nV f)) ∈ L ∧ Fnd m f ∧ comeF kvs (xs.length + 1 - i) f i = comeF kvs (xs.length + 1) [0] 0) po T.b_range ?_
  refine k_bin ?_
  refine k_callB (id := "len") T.b_len ?_
  refine a_cons ?_
  refine k_n 1 ?_
  refine a_nil ?_
  refine c_lenl (xs := xs) (.inl ha) ?_
  refine k_int ?_
  walk_at "opAdd"
  refine ⟨_, rfl, by omega, by omega, ⟨[0], none, none, none, rfl, rfl, List.mem_cons_self, ⟨by simp, fun p hp => by rw [List.mem_singleton.mp hp]; omega⟩, rfl⟩, ?_, ?_⟩
  · rintro i σ B L hi ⟨f, v3, v4, v5, rfl, rfl, hmf, hF, hcf⟩
    have hin : i < xs.length + 1 := by omega
    have hfm := few_len hF.n hF.b
    have hnl : (nV f).length = f.length := List.length_map _
    refine g_name 3 ?_ sc_law_reached.nd
    refine k_norm (by simp only [L2.start, N_law_reached, List.map_cons, List.map_nil, List.length_cons, List.length_nil, Nat.reduceAdd, Nat.reduceSub, List.replicate_succ, List.replicate_zero, List.cons_append, List.nil_append, List.set_cons_succ, List.set_cons_zero]; exact rfl) ?_
    refine k_sub (L' := [(pf, .lst (nV f))]) (List.singleton_sublist.mpr hmf) ?_
    refine k_one ?_
    refine k_if ?_
    refine t_cmp ?_
    refine k_n 3 ?_
    refine k_callB (id := "len") T.b_len ?_
    refine a_cons ?_
    refine k_n 2 ?_
    refine a_nil ?_
    refine c_lenl (xs := nV f) (.inr (by walk_at "mm")) ?_; rw [hnl]
    walk_at "opLt"
    refine ⟨_, rfl, ?_⟩
    refine ⟨fun hk => ?_, fun hk => ?_⟩
    · have hif : i < f.length := by have := of_decide_eq_true hk; omega
      have hfi : f[i]? = some f[i] := List.getElem?_eq_getElem hif
      generalize f[i] = p at hfi
      refine k_one ?_
      refine k_for_s (fun j σ B L => ∃ v4 v5, σ = [some (.ref d), some (.ref a), some (.ref pf), some (.int (i : Nat)), v4, v5] ∧ H = B ∧ (pf, HO.lst (nV (vis kvs p (ordL.take j) f))) ∈ L) po ?_
      refine k_s ordL ?_
      refine ⟨ordL, rfl, ⟨_, _, rfl, rfl, List.mem_cons_self⟩, ?_, ?_⟩
      · rintro j c σ B L hc ⟨w4, w5, rfl, rfl, hmg⟩
        have hvt := vis_take (kvs := kvs) (p := p) (f := f) hc
        obtain ⟨hG, z, hz⟩ := vis_fnd (p := p) hB (l := ordL.take j) hF
        generalize vis kvs p (ordL.take j) f = g at *
        have hgi : g[i]? = some p := by rw [hz, List.getElem?_append_left hif]; exact hfi
        have hgl := few_len hG.n hG.b
        refine g_name 4 ?_ sc_law_reached.nd
        refine k_norm (by simp only [L2.start, N_law_reached, List.map_cons, List.map_nil, List.length_cons, List.length_nil, Nat.reduceAdd, Nat.reduceSub, List.replicate_succ, List.replicate_zero, List.cons_append, List.nil_append, List.set_cons_succ, List.set_cons_zero]; exact rfl) ?_
        refine k_sub (L' := [(pf, .lst (nV g))]) (List.singleton_sublist.mpr hmg) ?_
        refine k_cons ?_
        refine k_set 5 ?_ sc_law_reached.nd
        refine k_getT hr.units ?_
        refine k_n 0 ?_
        refine ⟨d, kvs, rfl, .inl hd, ?_⟩
        refine k_tup ?_
        refine a_cons ?_
        refine k_ix ?_
        refine k_n 2 ?_
        refine k_n 3 ?_
        refine i_lv (.int (p : Nat)) (xs := nV g) (.inr (by walk_at "mm")) ?_ (by rw [atI_n]; unfold nV; rw [List.getElem?_map, hgi]; rfl)
        refine a_cons ?_
        refine k_n 4 ?_
        refine a_nil ?_
        refine ⟨by simp, fun pk => ?_⟩
        refine ⟨kvs, stK (p, c), pk, .inl hd, rfl, .inr List.mem_cons_self, ?_⟩
        rw [stp_val hA]
        show kSs _ _ _ _ _ _
        refine k_norm (by simp only [L2.start, N_law_reached, List.map_cons, List.map_nil, List.length_cons, List.length_nil, Nat.reduceAdd, Nat.reduceSub, List.replicate_succ, List.replicate_zero, List.cons_append, List.nil_append, List.set_cons_succ, List.set_cons_zero]; exact rfl) ?_
        refine k_one ?_
        refine k_if ?_
        cases hs : stp kvs (p, c) with
        | none =>
          refine t_w ?_
          refine w_andP ?_
          refine t_cmp ?_
          refine k_n 5 ?_
          refine k_non ?_
          walk_at "opIsNot"
          refine ⟨_, rfl, ?_⟩
          refine ⟨false, fun z => (by simp [oN] at z), ?_⟩
          refine ⟨fun z => (by simp [oN] at z), fun _ => ?_⟩
          refine k_nil ?_
          refine ⟨_, _, rfl, rfl, ?_⟩
          rw [hvt]
          unfold vis1
          rw [hs]
          exact .tail _ List.mem_cons_self
        | some q =>
          refine t_w ?_
          refine w_andP ?_
          refine t_cmp ?_
          refine k_n 5 ?_
          refine k_non ?_
          walk_at "opIsNot"
          refine ⟨_, rfl, ?_⟩
          apply Exists.intro; refine ⟨fun hk => ?_, ?_⟩
          {
          refine w_and1 ?_
          refine t_cmp ?_
          refine k_n 5 ?_
          refine k_n 2 ?_
          refine o_ninlst (xs := nV g) (.inr (by walk_at "mm")) rfl (nV_flat g) ?_; rw [show oN (some q) = V.int (q : Nat) from rfl, inV_n]
          refine ⟨_, rfl, ?_⟩
          exact ⟨rfl, rfl, by walk_at "sfx"⟩
          all_goals (try walk_at "side")
          }
          refine ⟨fun hk2 => ?_, fun hk2 => ?_⟩
          · have hqg : q ∉ g := by simpa [oN] using hk2
            refine k_one ?_
            refine k_expr ?_
            refine k_m PySem.F.plainAttrs_list PySem.F.slot_list_append PySem.F.type_list_append ?_
            refine k_n 2 ?_
            refine ⟨ty_l (.inr (by walk_at "mm")), ?_⟩
            refine a_cons ?_
            refine k_n 5 ?_
            refine a_nil ?_
            refine m_append (xs := nV g) (.there .here) ?_ (by unfold nV; rw [List.length_map]; omega)
            refine ⟨_, _, rfl, rfl, ?_⟩
            rw [hvt]
            unfold vis1
            rw [hs]
            dsimp only
            rw [if_neg hqg]
            have e : nV g ++ [V.int (q : Nat)] = nV (g ++ [q]) := by unfold nV; rw [List.map_append]; rfl
            rw [← e]
            exact .tail _ List.mem_cons_self
          · have hqg : q ∈ g := by simpa [oN] using hk2
            refine k_nil ?_
            refine ⟨_, _, rfl, rfl, ?_⟩
            rw [hvt]
            unfold vis1
            rw [hs]
            dsimp only
            rw [if_pos hqg]
            exact .tail _ List.mem_cons_self
      · rintro σ B L ⟨w4, w5, rfl, rfl, hmg⟩
        rw [List.take_length] at hmg
        obtain ⟨hG, z, hz⟩ := vis_fnd (p := p) hB (l := ordL) hF
        refine ⟨_, _, _, _, rfl, rfl, hmg, hG, ?_⟩
        rw [← hcf, show xs.length + 1 - i = (xs.length + 1 - (i + 1)) + 1 by omega, comeF_some hfi]
    · refine k_nil ?_
      have hif : f[i]? = none := List.getElem?_eq_none (by have := of_decide_eq_false hk; omega)
      refine ⟨f, _, _, _, rfl, rfl, by walk_at "mm", hF, ?_⟩
      rw [← hcf, comeF_none hif, comeF_none (List.getElem?_eq_none (by have := List.getElem?_eq_none_iff.mp hif; omega))]
  · rintro σ B L ⟨f, v3, v4, v5, rfl, rfl, hmf, hF, hcf⟩
    have e : f = comeF kvs (xs.length + 1) [0] 0 := by
      rw [← hcf, show xs.length + 1 - (((xs.length : Int) + 1).toNat) = 0 by omega]; rfl
    refine k_one ?_
    refine k_ret ?_
    refine k_n 2 ?_
    rw [← e] at hq
    exact fun H' s => hq H' pf s.ext (s.nb _ hmf) (s.own _ hmf)
/-! ### roads in order: plain -/
theorem rd_lt (r s : Road) : PySem.W.dataLt (rdD r) (rdD s) = if r.1 = s.1 then (if r.2.1 = s.2.1 then decide (r.2.2 < s.2.2) else decide ([r.2.1] < [s.2.1])) else decide (r.1 < s.1) := by
  have a1 : ∀ i j : Int, PySem.W.alike (.int i) (.int j) = true := fun i j => by unfold PySem.W.alike; rfl
  have a2 : ∀ x y : Str, PySem.W.alike (.str x) (.str y) = true := fun i j => by unfold PySem.W.alike; rfl
  have e1 : ∀ a b : Nat, (PyData.eqv (.int (a : Nat)) (.int (b : Nat)) = true) = (a = b) := fun a b => by
    show (((a : Int) == (b : Int)) = true) = _
    rw [beq_iff_eq, Int.natCast_inj]
  have e2 : ∀ a b : Nat, (PyData.eqv (.str (sOf [a])) (.str (sOf [b])) = true) = (a = b) := fun a b => by
    show ((sOf [a] == sOf [b]) = true) = _
    rw [beq_iff_eq]
    simp [sOf]
  have e3 : PyProof.Rows.lexLt PyProof.Rows.itemOrd (PySem.W.keyToksAll []) (PySem.W.keyToksAll []) = false := PyProof.Rows.lex_irrefl _
  unfold rdD
  rw [PySem.W.dataLt_tuple, PySem.W.dataLt_cons (a1 _ _), PySem.W.dataLt_cons (a2 _ _), PySem.W.dataLt_cons (a1 _ _), e3]
  simp only [e1, e2, PySem.W.dataLt_int, PySem.W.dataLt_str]
  by_cases h1 : r.1 = s.1
  · rw [if_pos h1, if_pos h1]
    by_cases h2 : r.2.1 = s.2.1
    · rw [if_pos h2, if_pos h2]
      by_cases h3 : r.2.2 = s.2.2
      · rw [if_pos h3, h3]; try simp
      · rw [if_neg h3]; try simp
    · rw [if_neg h2, if_neg h2]; try simp [sOf]
  · rw [if_neg h1, if_neg h1]; try simp
theorem rd_tot {r s : Road} (h1 : PySem.W.dataLt (rdD r) (rdD s) = false) (h2 : PySem.W.dataLt (rdD s) (rdD r) = false) : r = s := by
  rw [rd_lt] at h1 h2
  by_cases e1 : r.1 = s.1
  · rw [if_pos e1] at h1
    rw [if_pos e1.symm] at h2
    by_cases e2 : r.2.1 = s.2.1
    · rw [if_pos e2] at h1
      rw [if_pos e2.symm] at h2
      have := of_decide_eq_false h1
      have := of_decide_eq_false h2
      exact Prod.ext e1 (Prod.ext e2 (by omega))
    · rw [if_neg e2] at h1
      rw [if_neg (fun z => e2 z.symm)] at h2
      have g1 := of_decide_eq_false h1
      have g2 := of_decide_eq_false h2
      rw [List.cons_lt_cons_iff] at g1 g2
      have : ¬ r.2.1 < s.2.1 := fun z => g1 (.inl z)
      have : ¬ s.2.1 < r.2.1 := fun z => g2 (.inl z)
      omega
  · rw [if_neg e1] at h1
    rw [if_neg (fun z => e1 z.symm)] at h2
    have := of_decide_eq_false h1
    have := of_decide_eq_false h2
    omega
theorem srt_uniq {rs ss z1 z2 : List Road} (h1 : Srt rs z1) (h2 : Srt ss z2) (e : ∀ r, r ∈ rs ↔ r ∈ ss) : z1 = z2 :=
  List.Perm.eq_of_pairwise (le := fun y z => PySem.W.dataLt (rdD z) (rdD y) = false) (fun a b _ _ k1 k2 => rd_tot k2 k1) h1.ris h2.ris ((List.perm_ext_iff_of_nodup h1.nd h2.nd).mpr fun r => by rw [h1.mem, h2.mem, e])
/-- what a tuple of roads M reads as -/
def kfR (M : List (Addr × Road)) : V → PyData
  | .ref p => match M.find? (fun z => decide (z.1 = p)) with | some z => rdD z.2 | none => .none
  | _ => .none
theorem rdV_inj {r s : Road} (h : rdV r = rdV s) : r = s := by
  unfold rdV at h
  injection h with h1 h
  injection h with h2 h
  injection h with h3 _
  injection h1 with h1
  injection h3 with h3
  have e2 : [r.2.1] = [s.2.1] := sOf_inj.mp h2
  injection e2 with e2
  exact Prod.ext (by omega) (Prod.ext e2 (by omega))
theorem kfR_at {H : Hp} {M : List (Addr × Road)} (hM : ∀ z ∈ M, H z.1 = some (.tup (rdV z.2))) {z : Addr × Road} (hz : z ∈ M) : kfR M (.ref z.1) = rdD z.2 := by
  have hk : kfR M (.ref z.1) = (match M.find? (fun y => decide (y.1 = z.1)) with | some z => rdD z.2 | none => PyData.none) := rfl
  rw [hk]
  cases e : M.find? (fun y => decide (y.1 = z.1)) with
  | none => exact absurd (List.find?_eq_none.mp e z hz) (by simp)
  | some y =>
    have hy := List.mem_of_find?_eq_some e
    have hyz : y.1 = z.1 := by have := List.find?_some e; simpa using this
    have h1 := hM y hy
    rw [hyz, hM z hz] at h1
    injection h1 with h1
    injection h1 with h1
    show rdD y.2 = rdD z.2
    rw [rdV_inj h1]
theorem kfR_map {H : Hp} {M : List (Addr × Road)} (hM : ∀ z ∈ M, H z.1 = some (.tup (rdV z.2))) : (rV M).map (kfR M) = (M.map (·.2)).map rdD := by
  unfold rV
  rw [List.map_map, List.map_map]
  exact List.map_congr_left fun z hz => kfR_at hM hz
theorem rd_alikes (rs : List Road) : PySem.W.AllAlike (rs.map rdD) := fun d hd d' hd' => by
  obtain ⟨r, _, rfl⟩ := List.mem_map.mp hd
  obtain ⟨s, _, rfl⟩ := List.mem_map.mp hd'
  exact rdD_alike r s
theorem rd_sortable (rs : List Road) : PySem.W.Sortable (rs.map rdD) := .inl fun d hd => by
  obtain ⟨r, _, rfl⟩ := List.mem_map.mp hd
  exact ⟨_, _, rfl⟩
/-- a list of roads, sorted -/
theorem sort_rV {H : Hp} {M : List (Addr × Road)} (hM : ∀ z ∈ M, H z.1 = some (.tup (rdV z.2))) (hn : (M.map (·.2)).Nodup) : ∃ Ms : List (Addr × Road), (rV M).mergeSort (PySem.W.dataLe false (kfR M)) = rV Ms ∧ (∀ z ∈ Ms, z ∈ M) ∧ Srt (M.map (·.2)) (Ms.map (·.2)) := by
  have pm := List.mergeSort_perm M (PySem.W.dataLe false fun z : Addr × Road => rdD z.2)
  refine ⟨M.mergeSort (PySem.W.dataLe false fun z : Addr × Road => rdD z.2), ?_, fun z hz => pm.mem_iff.mp hz, (pm.map _).nodup_iff.mpr hn, fun r => (pm.map _).mem_iff, ?_⟩
  · refine (List.map_mergeSort (r := PySem.W.dataLe false fun z : Addr × Road => rdD z.2) (f := fun z => V.ref z.1) fun a ha b hb => ?_).symm
    rw [PySem.W.dataLe_eq, PySem.W.dataLe_eq]
    show cond false _ (!PySem.W.dataLt (rdD b.2) (rdD a.2)) = cond false _ (!PySem.W.dataLt (kfR M (.ref b.1)) (kfR M (.ref a.1)))
    rw [kfR_at hM ha, kfR_at hM hb]
  · rw [List.pairwise_map]
    refine (PySem.W.sort_pairwise (PySem.W.sortLe_total _ false _) M).imp fun {a b} h => ?_
    have h2 : (!PySem.W.dataLt (rdD b.2) (rdD a.2)) = true := h
    simpa using h2
theorem rd_depth (r : Road) : (rdD r).depth = 1 := by
  unfold rdD PyData.depth
  unfold PyData.depthAll
  unfold PyData.depthAll
  unfold PyData.depthAll
  unfold PyData.depthAll
  unfold PyData.depth
  rfl
theorem rds_depth : ∀ rs : List Road, PyData.depthAll (rs.map rdD) ≤ 1
  | [] => by show PyData.depthAll [] ≤ 1; unfold PyData.depthAll; omega
  | r :: rs => by
    show PyData.depthAll (rdD r :: rs.map rdD) ≤ 1
    unfold PyData.depthAll
    rw [rd_depth]
    have := rds_depth rs
    omega
theorem rd_lay {r : Road} (h : r.2.1 ∈ ltL) : PyData.canLay0 (rdD r) = true := by
  unfold rdD PyData.canLay0
  unfold PyData.canLayAll0
  unfold PyData.canLayAll0
  unfold PyData.canLayAll0
  unfold PyData.canLayAll0
  have hs : PyData.canLay0 (.str (sOf [r.2.1])) = true := by
    unfold PyData.canLay0
    unfold PyData.strOk
    have := let_small (l := [r.2.1]) (fun c hc => by rw [List.mem_singleton.mp hc]; exact lt_ord h)
    simpa [sOf] using this
  have hi : ∀ i : Int, PyData.canLay0 (.int i) = true := fun i => by unfold PyData.canLay0; rfl
  rw [hs, hi, hi]; rfl
theorem rds_lay : ∀ {rs : List Road}, (∀ r ∈ rs, r.2.1 ∈ ltL) → PyData.canLayAll0 (rs.map rdD) = true
  | [], _ => by show PyData.canLayAll0 [] = true; unfold PyData.canLayAll0; rfl
  | r :: rs, h => by
    show PyData.canLayAll0 (rdD r :: rs.map rdD) = true
    unfold PyData.canLayAll0
    rw [rd_lay (h r List.mem_cons_self), rds_lay fun s hs => h s (.tail _ hs)]; rfl
theorem cut_map {α β : Type} (f : α → β) (l : List α) (lo hi : Option Int) : cut (l.map f) lo hi = (cut l lo hi).map f := by
  unfold cut
  rw [List.length_map, List.map_take, List.map_drop]
theorem cut_mem {α : Type} {l : List α} {lo hi : Option Int} {x : α} (h : x ∈ cut l lo hi) : x ∈ l := List.mem_of_mem_drop (List.mem_of_mem_take h)
theorem cut_le {α : Type} (l : List α) (lo hi : Option Int) : (cut l lo hi).length ≤ l.length := by
  unfold cut
  rw [List.length_take, List.length_drop]
  omega
theorem srt_len {rs zs : List Road} (h : Srt rs zs) : zs.length ≤ rs.length := by
  have sub : ∀ {l m : List Road}, l.Nodup → (∀ x ∈ l, x ∈ m) → l.length ≤ m.length := by
    intro l
    induction l with
    | nil => intro m _ _; exact Nat.zero_le _
    | cons x l ih =>
      intro m hn hs
      rw [List.nodup_cons] at hn
      have hx := hs x List.mem_cons_self
      have h1 := ih (m := m.erase x) hn.2 fun y hy => (List.mem_erase_of_ne (fun e : y = x => hn.1 (by rw [← e]; exact hy))).mpr (hs y (.tail _ hy))
      rw [List.length_erase_of_mem hx] at h1
      have := List.length_pos_of_mem hx
      rw [List.length_cons]; omega
  exact sub h.nd fun x hx => (h.mem x).mp hx
theorem rds_shaped {rs : List Road} (h : ∀ r ∈ rs, r.2.1 ∈ ltL) : SeqAt.shaped (.list (rs.map rdD)) = true := by
  unfold SeqAt.shaped
  have e1 : PyData.canLay0 (.list (rs.map rdD)) = true := by unfold PyData.canLay0; exact rds_lay h
  have e2 : PyData.depth (.list (rs.map rdD)) ≤ 2 := by unfold PyData.depth; have := rds_depth rs; omega
  rw [e1, Bool.true_and, decide_eq_true_iff]
  exact Nat.le_trans e2 (by decide)
theorem rd_eqv (r : Road) : PyData.eqv (rdD r) (rdD r) = true := PySem.W.eqv_refl_alike _ (rdD_alike r r)
theorem rds_eqv : ∀ rs : List Road, PyData.eqvAll (rs.map rdD) (rs.map rdD) = true
  | [] => rfl
  | r :: rs => by
    show PyData.eqvAll (rdD r :: rs.map rdD) (rdD r :: rs.map rdD) = true
    unfold PyData.eqvAll
    rw [rd_eqv, rds_eqv rs]; rfl
section
variable {X : Cx} {B : Hp} {L : HL} {Q : KQ}
/-- two lists of the same roads compared -/
theorem o_neRd {p q : Addr} {M N : List (Addr × Road)} (hu : X.A.units + 64 < cLine) (h1 : Ls X.K B L p (rV M)) (h2 : Ls X.K B L q (rV N)) (hM : RdM X.K B M) (hN : RdM X.K B N) (hl : ∀ r ∈ M.map (·.2), r.2.1 ∈ ltL) (e : M.map (·.2) = N.map (·.2)) (hq : Q (.bl false) B L) : kO X (compareOp .NotEq) (.ref p) (.ref q) B L Q := by
  refine o_neD hu (d := .list ((M.map (·.2)).map rdD)) (e := .list ((N.map (·.2)).map rdD)) (dd_l h1 fun H s => dpa_of (hM.le s.ext)) (dd_l h2 fun H s => dpa_of (hN.le s.ext)) ?_ (rds_shaped hl) (rds_shaped (by rw [← e]; exact hl))
  rw [← e]
  show Q (.bl (!PyData.eqvAll ((M.map (·.2)).map rdD) ((M.map (·.2)).map rdD))) B L
  rw [rds_eqv]
  exact hq
end
abbrev s_law_plain : Stmt := top 44
abbrev N_law_plain : List Str := ["_law_roads", "_law_reached_here", "_law_left", "_law_again", "_law_order", "_law_ends", "_law_hanging", "_law_road", "_law_place"]
theorem sc_law_plain : FnScope N_law_plain ["_law_roads"] (defScope s_law_plain) := ⟨rfl, rfl, rfl, by decide +kernel, rfl, by decide +kernel, by decide +kernel⟩
theorem lawF_is {U : List Road} (h : ConsR U) : Pw.Is (stp (lawF U)) U := tab_is (lawF_tab h)
theorem reach_pw {U : List Road} (h : ConsR U) {n : Nat} (hn : U.length + 1 ≤ n) : Pw.Come (stp (lawF U)) (comeF (lawF U) n [0] 0) := by
  rw [comeF_pw]; exact .mkR (lawF_is h) hn
theorem nodup_map_filter {M : List (Addr × Road)} {f : Addr × Road → Bool} (h : (M.map (·.2)).Nodup) : ((M.filter f).map (·.2)).Nodup := List.Pairwise.sublist (List.Sublist.map _ List.filter_sublist) h
def hangF (M : List (Addr × Road)) : List Nat := (ends M).filter fun p => !decide (p = 0) && decide ((ends M).count p = 1)
theorem hang_stb {M : List (Addr × Road)} (h : hangF M = []) : Pw.Stb (M.map (·.2)) := by
  have key : ∀ p, p ∈ Pw.ends (M.map (·.2)) → Pw.Held (M.map (·.2)) p := fun p hp => by
    by_cases h0 : p = 0
    · exact .inl h0
    · right
      have h1 := List.count_pos_iff.mpr hp
      have h2 : (Pw.ends (M.map (·.2))).count p ≠ 1 := fun e => by
        have : p ∈ hangF M := List.mem_filter.mpr ⟨by rw [ends_pw]; exact hp, by rw [ends_pw]; simp [h0, e]⟩
        rw [h] at this; cases this
      omega
  exact fun r hr => ⟨key _ (List.mem_append_left _ (List.mem_map.mpr ⟨r, hr, rfl⟩)), key _ (List.mem_append_right _ (List.mem_map.mpr ⟨r, hr, rfl⟩))⟩
def rmvM (M : List (Addr × Road)) (p : Nat) : List (Addr × Road) := M.filter fun z => !decide (p ∈ [z.2.1, z.2.2.2])
theorem rmvM_pw (M : List (Addr × Road)) (p : Nat) : (rmvM M p).map (·.2) = Pw.rmv (M.map (·.2)) p := by
  unfold rmvM Pw.rmv
  rw [List.filter_map]
  congr 2
  funext z
  show (!decide (p ∈ [z.2.1, z.2.2.2])) = (!(z.2.1 == p) && !(z.2.2.2 == p))
  rw [Bool.eq_iff_iff]
  simp only [Bool.not_eq_true', decide_eq_false_iff_not, List.mem_cons, List.not_mem_nil, or_false, Bool.and_eq_true, beq_eq_false_iff_ne, ne_eq, not_or]
  exact ⟨fun ⟨a, b⟩ => ⟨fun e => a e.symm, fun e => b e.symm⟩, fun ⟨a, b⟩ => ⟨fun e => a e.symm, fun e => b e.symm⟩⟩
def sp_law_plain (K : PySem.W.Frag) : Sp := fun vs H Q _ => ∃ (a : Addr) (M : List (Addr × Road)) (m : Nat), vs = [.ref a] ∧ SqL K H a (rV M) ∧ RdM K H M ∧ (∀ z ∈ M, GoodR m z.2) ∧ ((1 ≤ m ∧ m ≤ 200) ∧ M.length ≤ 100) ∧ (M.map (·.2)).Nodup ∧ ConsR (M.map (·.2)) ∧
  ∀ H' (T pl : Addr) (k : Nat) N Ms, (∀ b o, H b = some o → H' b = some o) → H T = none → H pl = none → H' T = some (.tup [.int (k : Nat), .ref pl]) → H' pl = some (.lst (rV Ms)) → RdM K (nwH H H') Ms → PlW (M.map (·.2)) k N → Srt N (Ms.map (·.2)) → Q (.ref T) H'
theorem use_law_plain {B : Hp} {L : HL} {Q : KQ} {E : XK} {a : Addr} {M : List (Addr × Road)} {m : Nat} (hl : Ls K B L a (rV M)) (hM : RdM K B M) (hg : ∀ z ∈ M, GoodR m z.2) (hn : (1 ≤ m ∧ m ≤ 200) ∧ M.length ≤ 100) (hd : (M.map (·.2)).Nodup) (hc : ConsR (M.map (·.2)))
    (q : ∀ (T pl : Addr) (k : Nat) N Ms B', Le B B' → B' T = some (.tup [.int (k : Nat), .ref pl]) → B' pl = some (.lst (rV Ms)) → RdM K B' Ms → PlW (M.map (·.2)) k N → Srt N (Ms.map (·.2)) → Q (.ref T) B' L) : ∀ H, Sat B L H → sp_law_plain K [.ref a] H (up Q) E :=
  fun H s => ⟨a, M, m, rfl, hl.at s, hM.le s.ext, hg, hn, hd, hc, fun H' T pl k N Ms e n1 n2 h1 h2 h3 hp hs => by
    obtain ⟨B', l, s3, g⟩ := Sat_grow (s.keep e)
    exact ⟨B', L, s3, q T pl k N Ms B' l (g _ _ h1 (not_in s n1)) (g _ _ h2 (not_in s n2)) (h3.le fun b o q => g b o (nw_some q).2 (not_in s (nw_some q).1)) hp hs⟩⟩
theorem ok_law_plain {f : Addr} {fd : FuncData} (F : Fun K "_law_plain" "_law_plain" s_law_plain f fd) (hm : mg "_law_plain" = some (.ref f)) (T : Tx mg) (F_law_steps : Fn P w K mg base 1 "_law_steps" (sp_law_steps K)) (F_law_reached : Fn P w K mg base 1 "_law_reached" (sp_law_reached K)) : Fn P w K mg base 2 "_law_plain" (sp_law_plain K) := by
  refine fn_ok F sc_law_plain hm (fun _ _ _ _ _ _ us hl => match us, hl with | [_], _ => rfl) ?_ fun cdv A outer s H vs Q E hr h tk po => ?_
  · rintro vs H Q E ⟨_, _, _, rfl, _⟩; rfl
  obtain ⟨a, M0, m, rfl, ha, hM0, hg, ⟨hm1, hMn⟩, hN, hC, hq⟩ := h
  have hgU : ∀ r ∈ M0.map (·.2), GoodR m r := fun r hr => by obtain ⟨z, hz, rfl⟩ := List.mem_map.mp hr; exact hg z hz
  have hTk := lawF_tab hC
  have hB := bel_of hTk hgU
  have hV0 : (rV M0).length = M0.length := List.length_map _
  have hCome := reach_pw hC (n := (rV M0).length + 1) (by rw [hV0, List.length_map]; exact Nat.le_refl _)
  refine ⟨H, [], Sat.whole, ?_⟩
  refine k_cons ?_
  refine k_set 1 ?_ sc_law_plain.nd
  refine k_fn F_law_reached (hr.mono (by decide)) ?_
  refine a_cons ?_
  refine k_fn F_law_steps (hr.mono (by decide)) ?_
  refine a_cons ?_
  refine k_n 0 ?_
  refine a_nil ?_
  refine use_law_steps (M := M0) (.inl ha) hM0 ⟨fun z hz => (hg z hz).c, by omega⟩ fun d => ?_
  refine a_cons ?_
  refine k_n 0 ?_
  refine a_nil ?_
  refine use_law_reached (m := m) (.inr List.mem_cons_self) hTk.n hB ⟨hm1.1, by omega⟩ (.inl ha) (by omega) fun pr => ?_
  show kSs _ _ _ _ _ _
  refine k_norm (by simp only [L2.start, N_law_plain, List.map_cons, List.map_nil, List.length_cons, List.length_nil, Nat.reduceAdd, Nat.reduceSub, List.replicate_succ, List.replicate_zero, List.cons_append, List.nil_append, List.set_cons_succ, List.set_cons_zero]; exact rfl) ?_
  refine k_cons ?_
  refine k_sle 2 (k_lcfA (j := 7) M0 (fun z => V.ref z.1) (fun z => decide (z.2.1 ∈ comeF (lawF (M0.map (·.2))) ((rV M0).length + 1) [0] 0)) (fun z => V.ref z.1) sc_law_plain.nd (blkOk_by (N := N_law_plain) (sc := defScope s_law_plain) (by decide +kernel)) ?_)
  refine k_n 0 ?_
  refine ⟨a, rfl, .inl ha, by omega, fun z hz D acc sb Hb Cb clb fpb => ?_, fun z hz _ D acc sb Hb Cb clb fpb => ?_, fun pl0 => ?_⟩
  · skip
    refine t_cmp ?_
    refine k_ix ?_
    refine k_n 7 ?_
    refine k_int ?_
    refine i_tv (.int (z.2.1 : Nat)) (xs := rdV z.2) (.inl (hM0 z hz)) ?_ rfl
    refine k_n 1 ?_
    refine o_inlst (xs := nV (comeF (lawF (M0.map (·.2))) ((rV M0).length + 1) [0] 0)) (.inr (by walk_at "mm")) rfl (nV_flat _) ?_; rw [inV_n]
    refine ⟨_, rfl, ?_⟩
    exact ⟨rfl, rfl, rfl⟩
  · skip
    refine k_n 7 ?_
    exact ⟨rfl, rfl, rfl⟩
  have hSl : (M0.filter fun z => decide (z.2.1 ∈ comeF (lawF (M0.map (·.2))) ((rV M0).length + 1) [0] 0)).length ≤ M0.length := List.length_filter_le _ _
  have hSs : ∀ z ∈ M0.filter (fun z => decide (z.2.1 ∈ comeF (lawF (M0.map (·.2))) ((rV M0).length + 1) [0] 0)), z ∈ M0 := fun z hz => (List.mem_filter.mp hz).1
  have hSm : ∀ r, r ∈ (M0.filter fun z => decide (z.2.1 ∈ comeF (lawF (M0.map (·.2))) ((rV M0).length + 1) [0] 0)).map (·.2) ↔ r ∈ M0.map (·.2) ∧ Pw.Rs (stp (lawF (M0.map (·.2)))) r.1 := fun r => by
    have hcm := hCome.mem fun p c q e => (tab_is hTk).ol (fun r hr => (hgU r hr).c) e
    constructor
    · intro h
      obtain ⟨z, hz, rfl⟩ := List.mem_map.mp h
      exact ⟨List.mem_map.mpr ⟨z, hSs z hz, rfl⟩, (hcm _).mp (of_decide_eq_true (List.mem_filter.mp hz).2)⟩
    · rintro ⟨h, h2⟩
      obtain ⟨z, hz, rfl⟩ := List.mem_map.mp h
      exact List.mem_map.mpr ⟨z, List.mem_filter.mpr ⟨hz, decide_eq_true ((hcm _).mpr h2)⟩, rfl⟩
  have hSn : ((M0.filter fun z => decide (z.2.1 ∈ comeF (lawF (M0.map (·.2))) ((rV M0).length + 1) [0] 0)).map (·.2)).Nodup := nodup_map_filter hN
  have hrv : (M0.filter fun z => decide (z.2.1 ∈ comeF (lawF (M0.map (·.2))) ((rV M0).length + 1) [0] 0)).map (fun z => V.ref z.1) = rV (M0.filter fun z => decide (z.2.1 ∈ comeF (lawF (M0.map (·.2))) ((rV M0).length + 1) [0] 0)) := rfl
  rw [hrv]
  generalize M0.filter (fun z => decide (z.2.1 ∈ comeF (lawF (M0.map (·.2))) ((rV M0).length + 1) [0] 0)) = S0 at hSl hSs hSm hSn
  show kSs _ _ _ _ _ _
  refine k_norm (by simp only [L2.start, N_law_plain, List.map_cons, List.map_nil, List.length_cons, List.length_nil, Nat.reduceAdd, Nat.reduceSub, List.replicate_succ, List.replicate_zero, List.cons_append, List.nil_append, List.set_cons_succ, List.set_cons_zero]; exact rfl) ?_
  refine k_sub (L' := [(pl0, .lst (rV S0))]) (by repeat (first | exact List.Sublist.refl _ | apply List.Sublist.cons_cons | apply List.Sublist.cons)) ?_
  refine k_cons ?_
  refine k_set 3 ?_ sc_law_plain.nd
  refine k_bl ?_
  show kSs _ _ _ _ _ _
  refine k_norm (by simp only [L2.start, N_law_plain, List.map_cons, List.map_nil, List.length_cons, List.length_nil, Nat.reduceAdd, Nat.reduceSub, List.replicate_succ, List.replicate_zero, List.cons_append, List.nil_append, List.set_cons_succ, List.set_cons_zero]; exact rfl) ?_
  refine k_cons ?_
  refine k_while (fun μ σ B L => ∃ (M : List (Addr × Road)) (c : Bool) (pl : Addr) (v4 v5 v6 v7 v8 : Option V), σ = [some (.ref a), some (.ref pr), some (.ref pl), some (.bl c), v4, v5, v6, v7, v8] ∧ H = B ∧ (pl, HO.lst (rV M)) ∈ L ∧ (M.map (·.2)).Nodup ∧ (∀ z ∈ M, z ∈ S0) ∧ M.length ≤ S0.length ∧ (∀ T' : List Road, T'.Nodup → (∀ r ∈ T', r ∈ S0.map (·.2)) → Pw.Stb T' → ∀ r ∈ T', r ∈ M.map (·.2)) ∧ (c = false → Pw.Stb (M.map (·.2))) ∧ μ = if c = true then M.length + 1 else 0) (S0.length + 1) po ⟨S0, true, pl0, none, none, none, none, none, rfl, rfl, List.mem_cons_self, hSn, fun _ z => z, Nat.le_refl _, fun T' _ h2 _ => h2, fun z => (nomatch z), rfl⟩ ?_
  rintro μ σ B L ⟨M, c, pl, v4, v5, v6, v7, v8, rfl, rfl, hml, hMd, hMs, hMl, hMg, hMb, rfl⟩
  have hM : RdM K H M := fun z hz => hM0 z (hSs z (hMs z hz))
  have hVl : (rV M).length = M.length := List.length_map _
  have hat : ∀ {M : List (Addr × Road)} {i : Nat} {z : V}, (rV M)[i]? = some z → ∃ y, M[i]? = some y ∧ z = .ref y.1 := fun {M i z} hz => by
    unfold rV at hz
    rw [List.getElem?_map] at hz
    cases h : M[i]? with
    | none => rw [h] at hz; cases hz
    | some y => rw [h] at hz; exact ⟨y, rfl, (Option.some.inj hz).symm⟩
  refine t_val ?_
  refine k_n 3 ?_
  refine ⟨_, rfl, ?_⟩
  refine ⟨fun hk => ?_, fun hk => ?_⟩
  · subst hk
    refine k_sub (L' := [(pl, .lst (rV M))]) (List.singleton_sublist.mpr hml) ?_
    refine k_cons ?_
    refine k_set 5 ?_ sc_law_plain.nd
    refine k_bin ?_
    refine k_le (k_lcv_l (j := 7) (fun i acc B' L' => H = B' ∧ L' = [(pl, .lst (rV M))] ∧ acc = (M.take i).map (fun z => V.int (z.2.1 : Nat)) ∧ i ≤ M.length) sc_law_plain.nd (blkOk_by (N := N_law_plain) (sc := defScope s_law_plain) (by decide +kernel)) ?_)
    refine k_n 2 ?_
    refine ⟨pl, rV M, rfl, by omega, ⟨rfl, rfl, rfl, Nat.zero_le _⟩, ?_, ?_, fun acc B1 L1 D0 hP => ?_⟩
    · rintro i acc B1 L1 ⟨rfl, rfl, rfl, hi⟩
      exact ⟨.inr List.mem_cons_self, by rw [List.length_map, List.length_take]; omega⟩
    · rintro i acc B1 L1 z hz ⟨rfl, rfl, rfl, hi⟩ D s0 H0 C0 cl0 fp0
      obtain ⟨y, hy, rfl⟩ := hat hz
      have hyl := (List.getElem?_eq_some_iff.mp hy).1
      refine k_ix ?_
      refine k_n 7 ?_
      refine k_int ?_
      refine i_tv (.int (y.2.1 : Nat)) (xs := rdV y.2) (.inl (hM y (List.mem_of_getElem? hy))) ?_ rfl
      exact ⟨_, rfl, rfl, rfl, by rw [List.take_add_one, hy]; simp, hyl⟩
    obtain ⟨rfl, rfl, rfl, _⟩ := hP
    rw [hVl, List.take_length]
    refine k_le (k_lcv_l (j := 7) (fun i acc B' L' => H = B' ∧ L' = [(D0, .lst (M.map fun z => V.int (z.2.1 : Nat))), (pl, .lst (rV M))] ∧ acc = (M.take i).map (fun z => V.int (z.2.2.2 : Nat)) ∧ i ≤ M.length) sc_law_plain.nd (blkOk_by (N := N_law_plain) (sc := defScope s_law_plain) (by decide +kernel)) ?_)
    refine k_n 2 ?_
    refine ⟨pl, rV M, rfl, by omega, ⟨rfl, rfl, rfl, Nat.zero_le _⟩, ?_, ?_, fun acc B1 L1 D1 hP => ?_⟩
    · rintro i acc B1 L1 ⟨rfl, rfl, rfl, hi⟩
      exact ⟨.inr (by walk_at "mm"), by rw [List.length_map, List.length_take]; omega⟩
    · rintro i acc B1 L1 z hz ⟨rfl, rfl, rfl, hi⟩ D s0 H0 C0 cl0 fp0
      obtain ⟨y, hy, rfl⟩ := hat hz
      have hyl := (List.getElem?_eq_some_iff.mp hy).1
      refine k_ix ?_
      refine k_n 7 ?_
      refine k_int ?_
      refine i_tv (.int (y.2.2.2 : Nat)) (xs := rdV y.2) (.inl (hM y (List.mem_of_getElem? hy))) ?_ rfl
      exact ⟨_, rfl, rfl, rfl, by rw [List.take_add_one, hy]; simp, hyl⟩
    obtain ⟨rfl, rfl, rfl, _⟩ := hP
    rw [hVl, List.take_length]
    refine o_catl (.inr (by walk_at "mm")) (.inr List.mem_cons_self) (by rw [List.length_map, List.length_map]; omega) fun pe => ?_
    have ee : M.map (fun z => V.int (z.2.1 : Nat)) ++ M.map (fun z => V.int (z.2.2.2 : Nat)) = nV (ends M) := by unfold nV ends; rw [List.map_append, List.map_map, List.map_map]; rfl
    rw [ee]
    have hel : (ends M).length ≤ 1000 := by unfold ends; rw [List.length_append, List.length_map, List.length_map]; omega
    show kSs _ _ _ _ _ _
    refine k_norm (by simp only [L2.start, N_law_plain, List.map_cons, List.map_nil, List.length_cons, List.length_nil, Nat.reduceAdd, Nat.reduceSub, List.replicate_succ, List.replicate_zero, List.cons_append, List.nil_append, List.set_cons_succ, List.set_cons_zero]; exact rfl) ?_
    refine k_sub (L' := [(pe, .lst (nV (ends M))), (pl, .lst (rV M))]) (by repeat (first | exact List.Sublist.refl _ | apply List.Sublist.cons_cons | apply List.Sublist.cons)) ?_
    refine k_cons ?_
    refine k_set 6 ?_ sc_law_plain.nd
    refine k_le (k_lcfA (j := 8) (ends M) (fun n => V.int (n : Nat)) (fun p => !decide (p = 0) && decide ((ends M).count p = 1)) (fun n => V.int (n : Nat)) sc_law_plain.nd (blkOk_by (N := N_law_plain) (sc := defScope s_law_plain) (by decide +kernel)) ?_)
    refine k_n 5 ?_
    refine ⟨pe, rfl, .inr (by walk_at "mm"), by omega, fun z hz D acc sb Hb Cb clb fpb => ?_, fun z hz _ D acc sb Hb Cb clb fpb => ?_, fun ph => ?_⟩
    · skip
      refine t_w ?_
      refine w_andP ?_
      refine t_cmp ?_
      refine k_n 8 ?_
      refine k_int ?_
      walk_at "opNotEq"
      refine ⟨_, rfl, ?_⟩
      apply Exists.intro; refine ⟨fun hk => ?_, ?_⟩
      {
      refine w_and1 ?_
      refine t_cmp ?_
      refine k_m PySem.F.plainAttrs_list PySem.F.slot_list_count PySem.F.type_list_count ?_
      refine k_n 5 ?_
      refine ⟨ty_l (xs := nV (ends M)) (.inr (by walk_at "mm")), ?_⟩
      refine a_cons ?_
      refine k_n 8 ?_
      refine a_nil ?_
      refine m_lcount (ys := nV (ends M)) (.inr (by walk_at "mm")) rfl (nV_flat _) ?_; rw [countP_n]
      refine k_int ?_
      walk_at "opEq"
      refine ⟨_, rfl, ?_⟩
      exact ⟨rfl, rfl, by walk_at "sfx"⟩
      all_goals (try walk_at "side")
      }
      refine ⟨?_, rfl, rfl⟩
      have e1 : (((z : Nat) : Int) = 0) = (z = 0) := by rw [eq_iff_iff]; omega
      have e2 : ((((ends M).count z : Nat) : Int) = 1) = ((ends M).count z = 1) := by rw [eq_iff_iff]; omega
      simp only [e1, e2]
    · skip
      refine k_n 8 ?_
      exact ⟨rfl, rfl, rfl⟩
    have hhl : (hangF M).length ≤ 1000 := Nat.le_trans (List.length_filter_le _ _) hel
    have eh : ((ends M).filter fun p => !decide (p = 0) && decide ((ends M).count p = 1)).map (fun n => V.int (n : Nat)) = nV (hangF M) := rfl
    rw [eh]
    show kSs _ _ _ _ _ _
    refine k_norm (by simp only [L2.start, N_law_plain, List.map_cons, List.map_nil, List.length_cons, List.length_nil, Nat.reduceAdd, Nat.reduceSub, List.replicate_succ, List.replicate_zero, List.cons_append, List.nil_append, List.set_cons_succ, List.set_cons_zero]; exact rfl) ?_
    refine k_cons ?_
    refine k_set 3 ?_ sc_law_plain.nd
    refine k_cmp ?_
    refine k_n 6 ?_
    refine k_lst ?_
    refine a_nil ?_
    refine ⟨by simp, fun p0 => ?_⟩
    refine o_neE (xs := nV (hangF M)) (le64 hr.units) (.inr (by walk_at "mm")) (.inr (by walk_at "mm")) ?_
    have ec : (!decide (nV (hangF M) = [])) = !decide (hangF M = []) := by
      cases hangF M with
      | nil => rfl
      | cons a l => rfl
    rw [ec]
    show kSs _ _ _ _ _ _
    refine k_norm (by simp only [L2.start, N_law_plain, List.map_cons, List.map_nil, List.length_cons, List.length_nil, Nat.reduceAdd, Nat.reduceSub, List.replicate_succ, List.replicate_zero, List.cons_append, List.nil_append, List.set_cons_succ, List.set_cons_zero]; exact rfl) ?_
    refine k_one ?_
    refine k_if ?_
    refine t_val ?_
    refine k_n 3 ?_
    refine ⟨_, rfl, ?_⟩
    refine ⟨fun hk => ?_, fun hk => ?_⟩
    · obtain ⟨p, hl, ehl⟩ : ∃ p hl, hangF M = p :: hl := by
        cases e : hangF M with
        | nil => rw [e] at hk; simp at hk
        | cons p hl => exact ⟨p, hl, rfl⟩
      have hpm : p ∈ hangF M := by rw [ehl]; exact List.mem_cons_self
      have hp2 := (List.mem_filter.mp hpm).2
      rw [Bool.and_eq_true, Bool.not_eq_true', decide_eq_false_iff_not, decide_eq_true_iff, ends_pw] at hp2
      rw [hk]
      refine k_one ?_
      refine k_sle 2 (k_lcfA (j := 7) M (fun z => V.ref z.1) (fun z => !decide (p ∈ [z.2.1, z.2.2.2])) (fun z => V.ref z.1) sc_law_plain.nd (blkOk_by (N := N_law_plain) (sc := defScope s_law_plain) (by decide +kernel)) ?_)
      refine k_n 2 ?_
      refine ⟨pl, rfl, .inr (by walk_at "mm"), by omega, fun z hz D acc sb Hb Cb clb fpb => ?_, fun z hz _ D acc sb Hb Cb clb fpb => ?_, fun pk => ?_⟩
      · skip
        refine t_pure (v := !decide (p ∈ [z.2.1, z.2.2.2])) ?_ ⟨rfl, rfl, rfl⟩
        refine t_cmp ?_
        refine k_ix ?_
        refine k_n 6 ?_
        refine k_int ?_
        refine i_lv (.int (p : Nat)) (xs := nV (hangF M)) (.inr (by walk_at "mm")) ?_ (by rw [ehl]; exact (atI_n (l := nV (p :: hl)) (j := 0)).trans rfl)
        refine k_lst ?_
        refine a_cons ?_
        refine k_ix ?_
        refine k_n 7 ?_
        refine k_int ?_
        refine i_tv (.int (z.2.1 : Nat)) (xs := rdV z.2) (.inl (hM z hz)) ?_ rfl
        refine a_cons ?_
        refine k_ix ?_
        refine k_n 7 ?_
        refine k_int ?_
        refine i_tv (.int (z.2.2.2 : Nat)) (xs := rdV z.2) (.inl (hM z hz)) ?_ rfl
        refine a_nil ?_
        refine ⟨by simp, fun p2 => ?_⟩
        refine o_ninlst (xs := nV [z.2.1, z.2.2.2]) (.inr List.mem_cons_self) rfl (nV_flat _) ?_; rw [inV_n]
        refine ⟨_, rfl, ?_⟩
        exact ⟨rfl, rfl, by walk_at "sfx"⟩
      · skip
        refine k_n 7 ?_
        exact ⟨rfl, rfl, rfl⟩
      have er : (M.filter fun z => !decide (p ∈ [z.2.1, z.2.2.2])).map (fun z => V.ref z.1) = rV (rmvM M p) := rfl
      rw [er]
      have hlt := Pw.rmv_len hp2.2
      rw [← rmvM_pw, List.length_map, List.length_map] at hlt
      refine ⟨(rmvM M p).length + 1, by simp; omega, rmvM M p, true, pk, _, _, _, _, _, rfl, rfl, List.mem_cons_self, nodup_map_filter hMd, fun z hz => hMs z (List.mem_filter.mp hz).1, by omega, fun T' h1 h2 h3 => ?_, fun z => (nomatch z), rfl⟩
      rw [rmvM_pw]
      exact Pw.rmv_g hp2.1 hp2.2 h1 (hMg T' h1 h2 h3) h3
    · have ehl : hangF M = [] := by simpa using hk
      rw [hk]
      refine k_nil ?_
      exact ⟨0, by simp, M, false, pl, _, _, _, _, _, rfl, rfl, by walk_at "mm", hMd, hMs, hMl, hMg, fun _ => hang_stb ehl, rfl⟩
  · subst hk
    have hTrim : Pw.Trim (S0.map (·.2)) (M.map (·.2)) := ⟨hMd, fun r hr => by obtain ⟨z, hz, rfl⟩ := List.mem_map.mp hr; exact List.mem_map.mpr ⟨z, hMs z hz, rfl⟩, hMb rfl, hMg⟩
    have hM0s : ∀ z ∈ M, z ∈ M0 := fun z hz => hSs z (hMs z hz)
    have hCM : ConsR (M.map (·.2)) := consR_mem (fun r hr => by obtain ⟨z, hz, rfl⟩ := List.mem_map.mp hr; exact List.mem_map.mpr ⟨z, hM0s z hz, rfl⟩) hC
    have hgM : ∀ r ∈ M.map (·.2), GoodR m r := fun r hr => by obtain ⟨z, hz, rfl⟩ := List.mem_map.mp hr; exact hg z (hM0s z hz)
    have hTm := lawF_tab hCM
    have hComeM := reach_pw hCM (n := (rV M).length + 1) (by rw [hVl, List.length_map]; exact Nat.le_refl _)
    refine k_sub (L' := [(pl, .lst (rV M))]) (List.singleton_sublist.mpr hml) ?_
    refine k_cons ?_
    refine k_set 4 ?_ sc_law_plain.nd
    refine k_fn F_law_reached (hr.mono (by decide)) ?_
    refine a_cons ?_
    refine k_fn F_law_steps (hr.mono (by decide)) ?_
    refine a_cons ?_
    refine k_n 2 ?_
    refine a_nil ?_
    refine use_law_steps (M := M) (.inr (by walk_at "mm")) hM ⟨fun z hz => (hg z (hM0s z hz)).c, by omega⟩ fun d2 => ?_
    refine a_cons ?_
    refine k_n 2 ?_
    refine a_nil ?_
    refine use_law_reached (m := m) (.inr List.mem_cons_self) hTm.n (bel_of hTm hgM) ⟨hm1.1, by omega⟩ (xs := rV M) (.inr (by walk_at "mm")) (by omega) fun po' => ?_
    generalize comeF (lawF (M.map (·.2))) ((rV M).length + 1) [0] 0 = ord at hComeM
    have hPl : Pw.Pl (M0.map (·.2)) ord.length ((M.map (·.2)).map (Pw.num ord)) (stp (lawF (M0.map (·.2)))) (stp (lawF (M.map (·.2)))) (S0.map (·.2)) (M.map (·.2)) ord := ⟨hN, fun r hr => (hgU r hr).c, tab_is hTk, hSm, hSn, hTrim, tab_is hTm, hComeM, rfl, fun r => by rw [List.mem_map]; exact ⟨fun ⟨x, h1, h2⟩ => ⟨x, h1, h2.symm⟩, fun ⟨x, h1, h2⟩ => ⟨x, h1, h2.symm⟩⟩⟩
    show kSs _ _ _ _ _ _
    refine k_norm (by simp only [L2.start, N_law_plain, List.map_cons, List.map_nil, List.length_cons, List.length_nil, Nat.reduceAdd, Nat.reduceSub, List.replicate_succ, List.replicate_zero, List.cons_append, List.nil_append, List.set_cons_succ, List.set_cons_zero]; exact rfl) ?_
    refine k_sub (L' := [(po', .lst (nV ord)), (pl, .lst (rV M))]) (by repeat (first | exact List.Sublist.refl _ | apply List.Sublist.cons_cons | apply List.Sublist.cons)) ?_
    refine k_one ?_
    refine k_ret ?_
    refine k_tup ?_
    refine a_cons ?_
    refine k_callB (id := "len") T.b_len ?_
    refine a_cons ?_
    refine k_n 4 ?_
    refine a_nil ?_
    refine c_lenl (xs := nV ord) (.inr (by walk_at "mm")) ?_; rw [show (nV ord).length = ord.length from List.length_map _]
    refine a_cons ?_
    refine k_callB (id := "sorted") T.b_sorted ?_
    refine a_cons ?_
    refine k_le (k_lcv_l (j := 7) (fun i acc B' L' => Le H B' ∧ L' = [(po', .lst (nV ord)), (pl, .lst (rV M))] ∧ i ≤ M.length ∧ ∃ M' : List (Addr × Road), acc = rV M' ∧ M'.map (·.2) = ((M.take i).map (·.2)).map (Pw.num ord) ∧ ∀ z ∈ M', nwH H B' z.1 = some (.tup (rdV z.2))) sc_law_plain.nd (blkOk_by (N := N_law_plain) (sc := defScope s_law_plain) (by decide +kernel)) ?_)
    refine k_n 2 ?_
    refine ⟨pl, rV M, rfl, by omega, ⟨fun _ _ z => z, rfl, Nat.zero_le _, [], rfl, rfl, fun _ z => (nomatch z)⟩, ?_, ?_, fun acc B1 L1 D hP => ?_⟩
    · rintro i acc B1 L1 ⟨hle, rfl, hi, M', rfl, hM', _⟩
      refine ⟨.inr (by walk_at "mm"), ?_⟩
      have := congrArg List.length hM'
      simp only [List.length_map, List.length_take] at this
      unfold rV
      rw [List.length_map]; omega
    · rintro i acc B1 L1 z hz ⟨hle, rfl, hi, M', rfl, hM', hMd'⟩ D s0 H0 C0 cl0 fp0
      obtain ⟨y, hy, rfl⟩ := hat hz
      have hyl := (List.getElem?_eq_some_iff.mp hy).1
      have hyW := List.mem_of_getElem? hy
      have hyR : y.2 ∈ M.map (·.2) := List.mem_map.mpr ⟨y, hyW, rfl⟩
      refine e_fz1 ?_
      refine k_tup ?_
      refine a_cons ?_
      refine k_m PySem.F.plainAttrs_list PySem.F.slot_list_index PySem.F.type_list_index ?_
      refine k_n 4 ?_
      refine ⟨ty_l (xs := nV ord) (.inr (by walk_at "mm")), ?_⟩
      refine a_cons ?_
      refine k_ix ?_
      refine k_n 7 ?_
      refine k_int ?_
      refine i_tv (.int (y.2.1 : Nat)) (xs := rdV y.2) (.inl (ext_t hle (hM y hyW))) ?_ rfl
      refine a_nil ?_
      refine m_nidx (.inr (by walk_at "mm")) (hPl.fst hyR) ?_
      refine a_cons ?_
      refine k_ix ?_
      refine k_n 7 ?_
      refine k_int ?_
      refine i_tv (.str (sOf [y.2.2.1])) (xs := rdV y.2) (.inl (ext_t hle (hM y hyW))) ?_ rfl
      refine a_cons ?_
      refine k_m PySem.F.plainAttrs_list PySem.F.slot_list_index PySem.F.type_list_index ?_
      refine k_n 4 ?_
      refine ⟨ty_l (xs := nV ord) (.inr (by walk_at "mm")), ?_⟩
      refine a_cons ?_
      refine k_ix ?_
      refine k_n 7 ?_
      refine k_int ?_
      refine i_tv (.int (y.2.2.2 : Nat)) (xs := rdV y.2) (.inl (ext_t hle (hM y hyW))) ?_ rfl
      refine a_nil ?_
      refine m_nidx (.inr (by walk_at "mm")) (hPl.lst hyR) ?_
      refine a_nil ?_
      refine ⟨by simp, fun pt => ?_⟩
      refine ⟨pt, _, _, rfl, fun B2 l2 n2 e2 => ?_⟩
      refine ⟨_, rfl, fun b o e => l2 _ _ (hle b o e), rfl, hyl, M' ++ [(pt, Pw.num ord y.2)], by unfold rV; rw [List.map_append]; rfl, ?_, fun x hx => ?_⟩
      · rw [List.map_append, hM', List.take_add_one, hy, List.map_append, List.map_append]; rfl
      · rcases List.mem_append.mp hx with hx | hx
        · exact nw_mono l2 _ _ (hMd' x hx)
        · rw [List.mem_singleton.mp hx]
          exact nw_of (by cases e9 : H pt with | none => rfl | some o => rw [hle _ _ e9] at n2; cases n2) e2
    obtain ⟨hle, rfl, _, M', rfl, hM', hMd'⟩ := hP
    rw [hVl, List.take_length] at hM'
    have hMB : ∀ z ∈ M', B1 z.1 = some (.tup (rdV z.2)) := fun z hz => nw_le _ _ (hMd' z hz)
    have hMn' : (M'.map (·.2)).Nodup := by rw [hM']; exact hPl.nd
    refine a_nil ?_
    refine c_sortedD (ys := rV M') (kf := kfR M') (.inr List.mem_cons_self) (fun y hy => by obtain ⟨z, hz, rfl⟩ := List.mem_map.mp hy; rw [kfR_at hMB hz]; exact ⟨fun H' s' => dp_le s'.ext _ _ (.tup (.inl (.inl (hMB z hz))) (.cons (.int _) (.cons (.str _) (.cons (.int _) .nil)))), by rw [rd_depth]; decide⟩) (by rw [kfR_map hMB]; exact rd_alikes _) (by rw [kfR_map hMB]; exact rd_sortable _) (by have := hr.un; exact Nat.lt_of_le_of_lt (Nat.add_le_add_left (by decide) _) this) fun pu => ?_; obtain ⟨Ms, hs1', hs2', hs3'⟩ := sort_rV hMB hMn'; rw [hs1']
    refine a_nil ?_
    refine ⟨by simp, fun pT => ?_⟩
    intro H' s
    have n1 := s.nb _ List.mem_cons_self
    have n2 := s.nb _ (List.mem_cons_of_mem _ List.mem_cons_self)
    have fr : ∀ {b : Addr}, B1 b = none → H b = none := fun {b} h => by
      cases e : H b with
      | none => rfl
      | some o => rw [hle b o e] at h; cases h
    refine hq H' pT pu _ _ Ms (fun b o e => s.ext b o (hle b o e)) (fr n1) (fr n2) (s.own _ List.mem_cons_self) (s.own _ (List.mem_cons_of_mem _ List.mem_cons_self)) (fun z hz => .inl (.inl (nw_mono s.ext _ _ (hMd' z (hs2' z hz))))) ⟨_, _, _, _, _, hPl⟩ ?_
    rw [hM'] at hs3'
    exact hs3'
/-! ### the tree of a web -/
def entV (e : Pf.Ent) : List V := [.str (sOf e.c), .int (e.p : Nat)]
def tD (M : List (Addr × Pf.Ent)) : List (Key × V) := M.map fun z => (.inl (z.2.q : Nat), V.ref z.1)
def TrM (H : Hp) (M : List (Addr × Pf.Ent)) : Prop := ∀ z ∈ M, H z.1 = some (.tup (entV z.2))
theorem TrM.le {H H' : Hp} {M : List (Addr × Pf.Ent)} (h : TrM H M) (e : Le H H') : TrM H' M := fun z hz => e _ _ (h z hz)
def qs (M : List (Addr × Pf.Ent)) : List Nat := M.map fun z => z.2.q
theorem qs_eq (M : List (Addr × Pf.Ent)) : qs M = (M.map (·.2)).map Pf.Ent.q := by unfold qs; rw [List.map_map]; rfl
theorem tD_none : ∀ {M : List (Addr × Pf.Ent)} {p : Nat}, p ∉ qs M → valV (tD M) (.inl (p : Nat) : Key) = none
  | [], _, _ => by unfold tD; exact valV_nil
  | z :: M, p, h => by
    have h1 : ¬ (.inl (z.2.q : Nat) : Key) = .inl (p : Nat) := fun e => h (by
      injection e with e
      have : z.2.q = p := by omega
      rw [← this]; exact List.mem_cons_self)
    show valV ((.inl (z.2.q : Nat), V.ref z.1) :: tD M) _ = none
    rw [valV_neg h1]
    exact tD_none fun k => h (.tail _ k)
theorem tD_some : ∀ {M : List (Addr × Pf.Ent)}, (qs M).Nodup → ∀ z ∈ M, valV (tD M) (.inl (z.2.q : Nat) : Key) = some (.ref z.1)
  | [], _, _, h => by cases h
  | y :: M, hn, z, h => by
    have hn' : y.2.q ∉ qs M ∧ (qs M).Nodup := List.nodup_cons.mp hn
    show valV ((.inl (y.2.q : Nat), V.ref y.1) :: tD M) _ = _
    rcases List.mem_cons.mp h with e | h
    · subst e; exact valV_pos rfl
    · have h1 : ¬ (.inl (y.2.q : Nat) : Key) = .inl (z.2.q : Nat) := fun e => hn'.1 (by
        injection e with e
        have : y.2.q = z.2.q := by omega
        rw [this]; exact List.mem_map.mpr ⟨z, h, rfl⟩)
      rw [valV_neg h1]
      exact tD_some hn'.2 z h
theorem tD_mem {M : List (Addr × Pf.Ent)} (hn : (qs M).Nodup) (p : Nat) : (valV (tD M) (.inl (p : Nat) : Key)).isSome = decide (p ∈ qs M) := by
  by_cases h : p ∈ qs M
  · rw [decide_eq_true h]
    obtain ⟨z, hz, rfl⟩ := List.mem_map.mp h
    rw [tD_some hn z hz]; rfl
  · rw [decide_eq_false h, tD_none h]; rfl
theorem tD_len (M : List (Addr × Pf.Ent)) : (tD M).length = M.length := List.length_map _
theorem treeF_step {st : Pw.Sf} {M : List (Addr × Pf.Ent)} {n i : Nat} {e : Pf.Ent} (h : (M.map (·.2))[i]? = some e) : Pf.treeF st (n + 1) (M.map (·.2)) i = Pf.treeF st n (Pf.vE st e Pw.OL (M.map (·.2))) (i + 1) := Pf.treeF_some h
abbrev s_tree_of : Stmt := top 27
abbrev N_tree_of : List Str := ["web", "found", "waiting", "at", "place", "letter", "there"]
theorem sc_tree_of : FnScope N_tree_of ["web"] (defScope s_tree_of) := ⟨rfl, rfl, rfl, by decide +kernel, rfl, by decide +kernel, by decide +kernel⟩
def sp_tree_of (K : PySem.W.Frag) (C : Addr) : Sp := fun vs H Q _ => ∃ x m rs kvs, vs = [.ref x] ∧ IsWeb K C H x m rs ∧ stepsF rs = some kvs ∧ Bel kvs m ∧ (1 ≤ m ∧ m ≤ 1000) ∧ ∀ H' d M, (∀ b o, H b = some o → H' b = some o) → H d = none → H' d = some (.dK (tD M)) → TrM (nwH H H') M → M.map (·.2) = Pf.tree (stp kvs) m → Q (.ref d) H'
theorem use_tree_of {C : Addr} {B : Hp} {L : HL} {Q : KQ} {E : XK} {x : Addr} {m : Nat} {rs : List Road} {kvs : Dct} (h : IsWeb K C B x m rs) (hk : stepsF rs = some kvs) (hB : Bel kvs m) (hm : 1 ≤ m ∧ m ≤ 1000) (q : ∀ d M B', Le B B' → B' d = some (.dK (tD M)) → TrM B' M → M.map (·.2) = Pf.tree (stp kvs) m → Q (.ref d) B' L) : ∀ H, Sat B L H → sp_tree_of K C [.ref x] H (up Q) E :=
  fun H s => ⟨x, m, rs, kvs, rfl, h.le s.ext, hk, hB, hm, fun H' d M e n1 h1 h2 h3 => by
    obtain ⟨B', l, s3, g⟩ := Sat_grow (s.keep e)
    exact ⟨B', L, s3, q d M B' l (g _ _ h1 (not_in s n1)) (h2.le fun b o q => g b o (nw_some q).2 (not_in s (nw_some q).1)) h3⟩⟩
theorem ok_tree_of {f C : Addr} {fd : FuncData} (F : Fun K "tree_of" "tree_of" s_tree_of f fd) (hm : mg "tree_of" = some (.ref f)) (T : Tx mg) (M_step : Mt P w K mg base 1 C "step" (sp_step K C)) : Fn P w K mg base 2 "tree_of" (sp_tree_of K C) := by
  refine fn_ok F sc_tree_of hm (fun _ _ _ _ _ _ us hl => match us, hl with | [_], _ => rfl) ?_ fun cdv A outer s H vs Q E hr h tk po => ?_
  · rintro vs H Q E ⟨_, _, _, _, rfl, _⟩; rfl
  obtain ⟨x, m, rs, kvs, rfl, hW, hk, hB, ⟨hm1, hm2⟩, hq⟩ := h
  have ⟨dx, sd, tt, kvsx, Mx, hx, _⟩ := hW
  refine ⟨H, [], Sat.whole, ?_⟩
  refine k_cons ?_
  refine k_set 1 ?_ sc_tree_of.nd
  refine k_dK1 fun pd => ?_
  refine k_int ?_
  refine ⟨.inl 0, rfl, ?_⟩
  refine k_tup ?_
  refine a_cons ?_
  refine k_s [] ?_
  refine a_cons ?_
  refine k_int ?_
  refine a_nil ?_
  refine ⟨by simp, fun pt => ?_⟩
  refine ⟨_, .there .here, ?_⟩
  show kSs _ _ _ _ _ _
  refine k_norm (by simp only [L2.start, N_tree_of, List.map_cons, List.map_nil, List.length_cons, List.length_nil, Nat.reduceAdd, Nat.reduceSub, List.replicate_succ, List.replicate_zero, List.cons_append, List.nil_append, List.set_cons_succ, List.set_cons_zero]; exact rfl) ?_
  refine k_fz fun B0 l0 n0 e0 => ?_
  refine k_cons ?_
  refine k_set 2 ?_ sc_tree_of.nd
  refine k_lst ?_
  refine a_cons ?_
  refine k_int ?_
  refine a_nil ?_
  refine ⟨by simp, fun pw => ?_⟩
  show kSs _ _ _ _ _ _
  refine k_norm (by simp only [L2.start, N_tree_of, List.map_cons, List.map_nil, List.length_cons, List.length_nil, Nat.reduceAdd, Nat.reduceSub, List.replicate_succ, List.replicate_zero, List.cons_append, List.nil_append, List.set_cons_succ, List.set_cons_zero]; exact rfl) ?_
  refine k_cons ?_
  refine k_set 3 ?_ sc_tree_of.nd
  refine k_int ?_
  show kSs _ _ _ _ _ _
  refine k_norm (by simp only [L2.start, N_tree_of, List.map_cons, List.map_nil, List.length_cons, List.length_nil, Nat.reduceAdd, Nat.reduceSub, List.replicate_succ, List.replicate_zero, List.cons_append, List.nil_append, List.set_cons_succ, List.set_cons_zero]; exact rfl) ?_
  refine k_cons ?_
  have hq0 : ∀ {M : List (Addr × Pf.Ent)}, Pf.Ok (stp kvs) (M.map (·.2)) → (∀ z ∈ M, z.2.q < m) → M.length ≤ m ∧ (qs M).Nodup := fun {M} hO hl => by
    have hn : (qs M).Nodup := by rw [qs_eq]; exact hO.nd
    have := few_len hn fun p hp => by obtain ⟨z, hz, rfl⟩ := List.mem_map.mp hp; exact hl z hz
    exact ⟨by unfold qs at this; rw [List.length_map] at this; exact this, hn⟩
  refine k_while (fun μ σ B L => ∃ (M : List (Addr × Pf.Ent)) (i : Nat) (v4 v5 v6 : Option V), σ = [some (.ref x), some (.ref pd), some (.ref pw), some (.int (i : Nat)), v4, v5, v6] ∧ Le H B ∧ L = [(pw, .lst (nV (qs M))), (pd, .dK (tD M))] ∧ TrM (nwH H B) M ∧ Pf.Ok (stp kvs) (M.map (·.2)) ∧ (∀ z ∈ M, z.2.q < m) ∧ Pf.treeF (stp kvs) (m - i) (M.map (·.2)) i = Pf.tree (stp kvs) m ∧ i ≤ M.length ∧ μ = m - i) m po ⟨[(pt, Pf.root)], 0, none, none, none, rfl, l0, rfl, fun z hz => by rw [List.mem_singleton.mp hz]; exact nw_of n0 e0, Pf.ok_root _, fun z hz => by rw [List.mem_singleton.mp hz]; exact hm1, rfl, Nat.zero_le _, rfl⟩ ?_
  rintro μ σ B L ⟨M, i, v4, v5, v6, rfl, hle, rfl, hMt, hO, hMl, hcf, hil, rfl⟩
  obtain ⟨hMm, hMn⟩ := hq0 hO hMl
  have hnl : (nV (qs M)).length = M.length := by unfold nV qs; rw [List.length_map, List.length_map]
  refine t_cmp ?_
  refine k_n 3 ?_
  refine k_callB (id := "len") T.b_len ?_
  refine a_cons ?_
  refine k_n 2 ?_
  refine a_nil ?_
  refine c_lenl (xs := nV (qs M)) (.inr (by walk_at "mm")) ?_; rw [hnl]
  walk_at "opLt"
  refine ⟨_, rfl, ?_⟩
  refine ⟨fun hk1 => ?_, fun hk1 => ?_⟩
  · have hi : i < M.length := by have := of_decide_eq_true hk1; omega
    have hzi : M[i]? = some M[i] := List.getElem?_eq_getElem hi
    generalize M[i] = z0 at hzi
    have hei : (M.map (·.2))[i]? = some z0.2 := by rw [List.getElem?_map, hzi]; rfl
    have hmi : m - i = (m - (i + 1)) + 1 := by omega
    rw [hmi, treeF_step hei] at hcf
    have hz0 : z0.2 ∈ M.map (·.2) := List.mem_of_getElem? hei
    refine k_cons ?_
    refine k_set 4 ?_ sc_tree_of.nd
    refine k_ix ?_
    refine k_n 2 ?_
    refine k_n 3 ?_
    refine i_lv (.int (z0.2.q : Nat)) (xs := nV (qs M)) (.inr (by walk_at "mm")) ?_ (by rw [atI_n]; unfold nV qs; rw [List.getElem?_map, List.getElem?_map, hzi]; rfl)
    refine k_cons ?_
    refine k_aug_add 3 ?_ sc_tree_of.nd
    refine k_int ?_
    refine ⟨_, rfl, ?_⟩
    rw [show ((i : Int) + 1) = ((i + 1 : Nat) : Int) by omega]
    show kSs _ _ _ _ _ _
    refine k_norm (by simp only [L2.start, N_tree_of, List.map_cons, List.map_nil, List.length_cons, List.length_nil, Nat.reduceAdd, Nat.reduceSub, List.replicate_succ, List.replicate_zero, List.cons_append, List.nil_append, List.set_cons_succ, List.set_cons_zero]; exact rfl) ?_
    refine k_one ?_
    refine k_for_s (fun j σ B L => ∃ (M' : List (Addr × Pf.Ent)) (v5 v6 : Option V), σ = [some (.ref x), some (.ref pd), some (.ref pw), some (.int (i + 1 : Nat)), some (.int (z0.2.q : Nat)), v5, v6] ∧ Le H B ∧ L = [(pw, .lst (nV (qs M'))), (pd, .dK (tD M'))] ∧ TrM (nwH H B) M' ∧ Pf.Ok (stp kvs) (M'.map (·.2)) ∧ (∀ z ∈ M', z.2.q < m) ∧ M'.map (·.2) = Pf.vE (stp kvs) z0.2 (ordL.take j) (M.map (·.2)) ∧ i < M'.length) po ?_
    refine k_gsE T.g_ORDER ?_
    refine ⟨ordL, rfl, ⟨M, _, _, rfl, hle, rfl, hMt, hO, hMl, rfl, hi⟩, ?_, ?_⟩
    · rintro j c σ B L hc ⟨M', w5, w6, rfl, hle', rfl, hMt', hO', hMl', hM', hil'⟩
      obtain ⟨hMm', hMn'⟩ := hq0 hO' hMl'
      have hvt := Pf.vE_take (st := stp kvs) (e := z0.2) (E := M.map (·.2)) hc
      have hz0' : z0.2 ∈ M'.map (·.2) := by
        obtain ⟨z, hz⟩ := Pf.vE_pre (stp kvs) z0.2 (ordL.take j) (M.map (·.2))
        rw [hM', hz]; exact List.mem_append_left _ hz0
      rw [← hM'] at hvt
      have hOv := Pf.v1_ok hO' hz0' (List.mem_of_getElem? hc)
      refine g_name 5 ?_ sc_tree_of.nd
      refine k_norm (by simp only [L2.start, N_tree_of, List.map_cons, List.map_nil, List.length_cons, List.length_nil, Nat.reduceAdd, Nat.reduceSub, List.replicate_succ, List.replicate_zero, List.cons_append, List.nil_append, List.set_cons_succ, List.set_cons_zero]; exact rfl) ?_
      refine k_cons ?_
      refine k_set 6 ?_ sc_tree_of.nd
      refine k_meth M_step (hr.mono (by decide)) takes0 ?_
      refine k_n 0 ?_
      refine ⟨_, _, _, rfl, .inl (hle' _ _ hx), rfl, ?_⟩
      refine a_cons ?_
      refine k_n 4 ?_
      refine a_cons ?_
      refine k_n 5 ?_
      refine a_nil ?_
      refine use_step (hW.le hle') hk ?_
      show kSs _ _ _ _ _ _
      refine k_norm (by simp only [L2.start, N_tree_of, List.map_cons, List.map_nil, List.length_cons, List.length_nil, Nat.reduceAdd, Nat.reduceSub, List.replicate_succ, List.replicate_zero, List.cons_append, List.nil_append, List.set_cons_succ, List.set_cons_zero]; exact rfl) ?_
      refine k_one ?_
      refine k_if ?_
      cases hs : stp kvs (z0.2.q, c) with
      | none =>
        refine t_w ?_
        refine w_andP ?_
        refine t_cmp ?_
        refine k_n 6 ?_
        refine k_non ?_
        walk_at "opIsNot"
        refine ⟨_, rfl, ?_⟩
        refine ⟨false, fun z => (by simp [oN] at z), ?_⟩
        refine ⟨fun z => (by simp [oN] at z), fun _ => ?_⟩
        refine k_nil ?_
        refine ⟨M', _, _, rfl, hle', rfl, hMt', hO', hMl', ?_, hil'⟩
        rw [hvt]
        unfold Pf.v1
        rw [hs]
      | some q =>
        refine t_w ?_
        refine w_andP ?_
        refine t_cmp ?_
        refine k_n 6 ?_
        refine k_non ?_
        walk_at "opIsNot"
        refine ⟨_, rfl, ?_⟩
        apply Exists.intro; refine ⟨fun hk => ?_, ?_⟩
        {
        refine w_and1 ?_
        refine t_cmp ?_
        refine k_n 6 ?_
        refine k_n 1 ?_
        refine o_ninK (k := .inl (q : Nat)) hr.units (.inr (by walk_at "mm")) ?_; rw [tD_mem hMn']
        refine ⟨_, rfl, ?_⟩
        exact ⟨rfl, rfl, by walk_at "sfx"⟩
        all_goals (try walk_at "side")
        }
        have hmq : q ∈ qs M' ↔ q ∈ (M'.map (·.2)).map Pf.Ent.q := by rw [qs_eq]
        refine ⟨fun hk2 => ?_, fun hk2 => ?_⟩
        · have hqg : q ∉ qs M' := by have h9 := hk2; revert h9; simp [oN]
          have hv1 : Pf.v1 (stp kvs) z0.2 (M'.map (·.2)) c = M'.map (·.2) ++ [⟨q, [c], z0.2.q, z0.2.w ++ [c]⟩] := by
            unfold Pf.v1
            rw [hs]
            dsimp only
            rw [if_neg (fun z => hqg (hmq.mpr z))]
          refine k_cons ?_
          refine k_asg ?_
          refine k_tup ?_
          refine a_cons ?_
          refine k_n 5 ?_
          refine a_cons ?_
          refine k_n 4 ?_
          refine a_nil ?_
          refine ⟨by simp, fun pn => ?_⟩
          refine g_setd (Nat.lt_of_le_of_lt (Nat.add_le_add_left (by decide) _) hr.units) ?_
          refine k_n 1 ?_
          refine k_n 6 ?_
          refine ⟨pd, tD M', .inl (q : Nat), _, rfl, rfl, .there (.there .here), by rw [tD_len]; omega, ?_⟩
          rw [putK_new (tD_none hqg)]
          show kSs _ _ _ _ _ _
          refine k_fz fun B2 l2 n2 e2 => ?_
          refine k_one ?_
          refine k_expr ?_
          refine k_m PySem.F.plainAttrs_list PySem.F.slot_list_append PySem.F.type_list_append ?_
          refine k_n 2 ?_
          refine ⟨ty_l (.inr (by walk_at "mm")), ?_⟩
          refine a_cons ?_
          refine k_n 6 ?_
          refine a_nil ?_
          refine m_append (xs := nV (qs M')) .here ?_ (by unfold nV qs; rw [List.length_map, List.length_map]; omega)
          have eM : (M' ++ [(pn, (⟨q, [c], z0.2.q, z0.2.w ++ [c]⟩ : Pf.Ent))]).map (·.2) = Pf.v1 (stp kvs) z0.2 (M'.map (·.2)) c := by rw [hv1, List.map_append]; rfl
          refine ⟨M' ++ [(pn, ⟨q, [c], z0.2.q, z0.2.w ++ [c]⟩)], _, _, rfl, fun b o e => l2 _ _ (hle' _ _ e), ?_, fun z hz => ?_, ?_, fun z hz => ?_, ?_, ?_⟩
          · have e1 : nV (qs M') ++ [oN (some q)] = nV (qs (M' ++ [(pn, ⟨q, [c], z0.2.q, z0.2.w ++ [c]⟩)])) := by unfold nV qs; rw [List.map_append, List.map_append]; rfl
            have e3 : tD M' ++ [((.inl (q : Nat) : Key), V.ref pn)] = tD (M' ++ [(pn, ⟨q, [c], z0.2.q, z0.2.w ++ [c]⟩)]) := by unfold tD; rw [List.map_append]; rfl
            rw [← e1, ← e3]
          · rcases List.mem_append.mp hz with hz | hz
            · exact nw_mono l2 _ _ (hMt' z hz)
            · rw [List.mem_singleton.mp hz]
              exact nw_of (by cases e9 : H pn with | none => rfl | some o => rw [hle' _ _ e9] at n2; cases n2) e2
          · rw [eM]; exact hOv
          · rcases List.mem_append.mp hz with hz | hz
            · exact hMl' z hz
            · rw [List.mem_singleton.mp hz]; exact hB _ _ hs
          · rw [eM, hvt]
          · rw [List.length_append]; omega
        · have hqg : q ∈ qs M' := by have h9 := hk2; revert h9; simp [oN]
          refine k_nil ?_
          refine ⟨M', _, _, rfl, hle', rfl, hMt', hO', hMl', ?_, hil'⟩
          rw [hvt]
          unfold Pf.v1
          rw [hs]
          dsimp only
          rw [if_pos (hmq.mp hqg)]
    · rintro σ B L ⟨M', w5, w6, rfl, hle', rfl, hMt', hO', hMl', hM', hil'⟩
      rw [List.take_length] at hM'
      have hmi2 : i < m := by omega
      refine ⟨m - (i + 1), by omega, M', i + 1, _, _, _, rfl, hle', rfl, hMt', hO', hMl', ?_, hil', rfl⟩
      rw [hM']
      exact hcf
  · have hi : M.length ≤ i := by have := of_decide_eq_false hk1; omega
    have hnone : (M.map (·.2))[i]? = none := List.getElem?_eq_none (by rw [List.length_map]; exact hi)
    rw [Pf.treeF_none hnone] at hcf
    refine k_one ?_
    refine k_ret ?_
    refine k_n 1 ?_
    intro H' s
    have n1 : B pd = none := s.nb (pd, .dK (tD M)) (by walk_at "mm")
    exact hq H' pd M (fun b o e => s.ext b o (hle b o e)) (by cases e : H pd with | none => rfl | some o => rw [hle _ _ e] at n1; cases n1) (s.own (pd, .dK (tD M)) (by walk_at "mm")) (hMt.le (nw_mono s.ext)) hcf
/-! ### a web's plain one, with its steps -/
structure PlS (rs : List Road) (k : Nat) (N : List Road) (st : Pw.Sf) : Prop where
  u : ∃ U, (∀ r, r ∈ U ↔ r ∈ rs) ∧ PlW U k N
  i : Pw.Is st N
  n : N.Nodup
  g : ∀ r ∈ N, GoodR k r
  kk : 1 ≤ k ∧ k ≤ 200
theorem PlW.uniq {U U' N N' : List Road} {k k' : Nat} (h : PlW U k N) (h' : PlW U' k' N') (e : ∀ r, r ∈ U ↔ r ∈ U') : k = k' ∧ ∀ r, r ∈ N ↔ r ∈ N' := by
  obtain ⟨_, _, _, _, _, h⟩ := h
  obtain ⟨_, _, _, _, _, h'⟩ := h'
  have := h.uniq h' e
  exact ⟨this.1, this.2.2.2⟩
theorem PlS.uniq {rs rs' N N' : List Road} {k k' : Nat} {st st' : Pw.Sf} (h : PlS rs k N st) (h' : PlS rs' k' N' st') (e : ∀ r, r ∈ rs ↔ r ∈ rs') : k = k' ∧ st = st' ∧ ∀ r, r ∈ N ↔ r ∈ N' := by
  obtain ⟨U, h1, h2⟩ := h.u
  obtain ⟨U', h1', h2'⟩ := h'.u
  have := h2.uniq h2' fun r => by rw [h1, h1', e]
  exact ⟨this.1, h.i.uniq h'.i this.2, this.2⟩
theorem PlS.self {rs N : List Road} {k : Nat} {st : Pw.Sf} (h : PlS rs k N st) : PlS N k N st := by
  obtain ⟨U, _, _, _, _, _, _, h2⟩ := h.u
  exact ⟨⟨N, fun _ => Iff.rfl, _, _, _, _, _, h2.again h.n h.i⟩, h.i, h.n, h.g, h.kk⟩
theorem PlS.bnd {rs N : List Road} {k : Nat} {st : Pw.Sf} (h : PlS rs k N st) : ∀ a p, st a = some p → p < k := fun a p e => by
  obtain ⟨r, hr, d⟩ := Pw.mem_arcs.mp ((h.i a p).mp e)
  rcases d with ⟨_, rfl⟩ | ⟨_, rfl⟩
  · exact (h.g r hr).l
  · exact (h.g r hr).f
theorem PlS.order {rs N : List Road} {k : Nat} {st : Pw.Sf} (h : PlS rs k N st) : (Pf.tree st k).map Pf.Ent.q = List.range k := by
  obtain ⟨U, _, _, _, _, _, ord, h2⟩ := h.u
  rw [Pf.tree_come]
  have h3 := (h2.again h.n h.i).o
  rw [← h2.k] at h3
  exact (Pw.Come.mk' h.bnd h.kk.1 (Nat.le_refl _)).uniq h3
theorem PlS.len {rs N : List Road} {k : Nat} {st : Pw.Sf} (h : PlS rs k N st) : (Pf.tree st k).length = k := by
  have := congrArg List.length h.order
  simpa using this
theorem PlS.inE {rs N : List Road} {k p : Nat} {st : Pw.Sf} (h : PlS rs k N st) (hp : p < k) : p ∈ (Pf.tree st k).map Pf.Ent.q := by rw [h.order]; exact List.mem_range.mpr hp
def wy (st : Pw.Sf) (k p : Nat) : List Nat := (Pf.ent (Pf.tree st k) p).w
theorem PlS.wy {rs N : List Road} {k p : Nat} {st : Pw.Sf} (h : PlS rs k N st) (hp : p < k) : Let (wy st k p) ∧ (wy st k p).length < k ∧ Pw.wlk st (wy st k p) (some 0) = some p := by
  obtain ⟨h1, h2⟩ := Pf.ent_at (h.inE hp)
  obtain ⟨h3, h4, h5⟩ := (Pf.tree_ok st k).leads h1
  rw [h2] at h3
  rw [h.len] at h4
  exact ⟨h5, h4, h3⟩
theorem of_pw {K : PySem.W.Frag} {C : Addr} {H : Hp} {y : Addr} {U rs N : List Road} {k : Nat} {kn : Dct} (h : IsPw K C H y U k N) (e : ∀ r, r ∈ U ↔ r ∈ rs) (ht : Tab kn (N.flatMap arcs)) : PlS rs k N (stp kn) := ⟨⟨U, e, h.p⟩, tab_is ht, h.n, h.g, h.kk⟩
def tL (ws : List (List Nat)) : List V := ws.map fun l => .str (sOf l)
def wayL (st : Pw.Sf) (k : Nat) : List (List Nat) := (List.range k).map fun p => wy st k p
theorem wayL_at {st : Pw.Sf} {k p : Nat} (hp : p < k) : (tL (wayL st k))[p]? = some (.str (sOf (wy st k p))) := by
  unfold tL wayL
  rw [List.getElem?_map, List.getElem?_map, List.getElem?_range hp]; rfl
def outB (st : Pw.Sf) (k : Nat) (r : Road) : Bool := !Pf.treeB (Pf.tree st k) r
def fewW (st : Pw.Sf) (k : Nat) (r : Road) : List Nat := red (wy st k r.1 ++ [r.2.1] ++ inv (wy st k r.2.2))
def fewL (st : Pw.Sf) (k : Nat) (N : List Road) : List (List Nat) := (N.filter (outB st k)).map (fewW st k)
abbrev s_way_to : Stmt := top 28
abbrev N_way_to : List Str := ["tree", "place", "found", "letter"]
theorem sc_way_to : FnScope N_way_to ["tree", "place"] (defScope s_way_to) := ⟨rfl, rfl, rfl, by decide +kernel, rfl, by decide +kernel, by decide +kernel⟩
def sp_way_to : Sp := fun vs H Q _ => ∃ (d : Addr) (p : Nat) (M : List (Addr × Pf.Ent)) (st : Pw.Sf), vs = [.ref d, .int (p : Nat)] ∧ H d = some (.dK (tD M)) ∧ TrM H M ∧ Pf.Ok st (M.map (·.2)) ∧ p ∈ qs M ∧ M.length ≤ 1000 ∧ ∀ H', (∀ b o, H b = some o → H' b = some o) → Q (.str (sOf (Pf.ent (M.map (·.2)) p).w)) H'
theorem use_way_to {B : Hp} {L : HL} {Q : KQ} {E : XK} {d : Addr} {p : Nat} {M : List (Addr × Pf.Ent)} {st : Pw.Sf} (hd : At B L d (.dK (tD M))) (hM : TrM B M) (hO : Pf.Ok st (M.map (·.2))) (hp : p ∈ qs M) (hn : M.length ≤ 1000) (q : Q (.str (sOf (Pf.ent (M.map (·.2)) p).w)) B L) : ∀ H, Sat B L H → sp_way_to [.ref d, .int (p : Nat)] H (up Q) E :=
  fun H s => ⟨d, p, M, st, rfl, hd.at s, hM.le s.ext, hO, hp, hn, fun H' e => s.upq e q⟩
theorem ok_way_to {f : Addr} {fd : FuncData} (F : Fun K "way_to" "way_to" s_way_to f fd) (hm : mg "way_to" = some (.ref f)) : Fn P w K mg base 1 "way_to" sp_way_to := by
  refine fn_ok F sc_way_to hm (fun _ _ _ _ _ _ us hl => match us, hl with | [_, _], _ => rfl) ?_ fun cdv A outer s H vs Q E hr h tk po => ?_
  · rintro vs H Q E ⟨_, _, _, _, rfl, _⟩; rfl
  obtain ⟨d, p, M, st, rfl, hd, hM, hO, hp, hn, hq⟩ := h
  refine ⟨H, [], Sat.whole, ?_⟩
  have hqn : (qs M).Nodup := by rw [qs_eq]; exact hO.nd
  obtain ⟨hp1, hp2⟩ := Pf.ent_at (E := M.map (·.2)) (by rw [← qs_eq]; exact hp)
  generalize hT : (Pf.ent (M.map (·.2)) p).w = target at hq
  refine k_cons ?_
  refine k_set 2 ?_ sc_way_to.nd
  refine k_s [] ?_
  show kSs _ _ _ _ _ _
  refine k_norm (by simp only [L2.start, N_way_to, List.map_cons, List.map_nil, List.length_cons, List.length_nil, Nat.reduceAdd, Nat.reduceSub, List.replicate_succ, List.replicate_zero, List.cons_append, List.nil_append, List.set_cons_succ, List.set_cons_zero]; exact rfl) ?_
  refine k_cons ?_
  refine k_while (fun μ σ B L => ∃ (e : Pf.Ent) (acc : List Nat) (v3 : Option V), σ = [some (.ref d), some (.int (e.q : Nat)), some (.str (sOf acc)), v3] ∧ B = H ∧ L = [] ∧ e ∈ M.map (·.2) ∧ e.w ++ acc = target ∧ acc.length + e.w.length ≤ 1000 ∧ μ = e.w.length) (Pf.ent (M.map (·.2)) p).w.length po ⟨_, [], none, by rw [hp2], rfl, rfl, hp1, by rw [List.append_nil]; exact hT, by have := (hO.leads hp1).2.1; rw [List.length_map] at this; simp only [List.length_nil]; omega, rfl⟩ ?_
  rintro μ σ B L ⟨e, acc, v3, rfl, rfl, rfl, he, hacc, hal, rfl⟩
  refine t_cmp ?_
  refine k_n 1 ?_
  refine k_int ?_
  walk_at "opNotEq"
  refine ⟨_, rfl, ?_⟩
  refine ⟨fun hk => ?_, fun hk => ?_⟩
  · have hq0 : e.q ≠ 0 := fun z => by rw [z] at hk; simp at hk
    rcases hO.cases he with e1 | ⟨j, x, c, _, _, hx, _, h3, h4, h5, h6, h7⟩
    · exact absurd (by rw [e1]; rfl) hq0
    · obtain ⟨ze, hze, ee⟩ := List.mem_map.mp he
      refine k_cons ?_
      refine k_asg ?_
      refine k_dget (Nat.lt_of_le_of_lt (Nat.add_le_add_left (by decide) _) hr.units) ?_
      refine k_n 0 ?_
      refine k_n 1 ?_
      refine ⟨d, tD M, .inl (e.q : Nat), .ref ze.1, rfl, .inl hd, rfl, by have h9 := tD_some hqn ze hze; rw [ee] at h9; exact h9, ?_⟩
      refine g_tup (xs := entV e) (.inl (.inl (.inl (by rw [← ee]; exact hM ze hze)))) rfl ?_
      refine gs_cons ?_
      refine g_name 3 ?_ sc_way_to.nd
      refine gs_cons ?_
      refine g_name 1 ?_ sc_way_to.nd
      refine gs_nil ?_
      rw [h4]
      show kSs _ _ _ _ _ _
      refine k_norm (by simp only [L2.start, N_way_to, List.map_cons, List.map_nil, List.length_cons, List.length_nil, Nat.reduceAdd, Nat.reduceSub, List.replicate_succ, List.replicate_zero, List.cons_append, List.nil_append, List.set_cons_succ, List.set_cons_zero]; exact rfl) ?_
      refine k_one ?_
      refine k_set 2 ?_ sc_way_to.nd
      refine k_bin ?_
      refine k_n 3 ?_
      refine k_n 2 ?_
      refine o_adds ?_ (by rw [List.length_singleton]; omega)
      refine ⟨x.w.length, by rw [h6, List.length_append]; simp, x, [c] ++ acc, _, by rw [h3]; rfl, rfl, rfl, hx, ?_, ?_, rfl⟩
      · rw [← hacc, h6, List.append_assoc]
      · rw [h6, List.length_append] at hal
        rw [List.length_append]; simp at hal ⊢; omega
  · have hq0 : e.q = 0 := by
      have h9 : decide ((e.q : Int) = 0) = true := by simpa using hk
      have := of_decide_eq_true h9; omega
    have e1 : e = Pf.root := hO.eq he hO.root_mem hq0
    refine k_one ?_
    refine k_ret ?_
    refine k_n 2 ?_
    rw [e1] at hacc
    have e2 : acc = target := hacc
    rw [← e2] at hq
    exact fun H' s => hq H' s.ext
abbrev s_ways : Stmt := top 29
abbrev N_ways : List Str := ["web", "plain", "tree", "place"]
theorem sc_ways : FnScope N_ways ["web"] (defScope s_ways) := ⟨rfl, rfl, rfl, by decide +kernel, rfl, by decide +kernel, by decide +kernel⟩
def sp_ways (K : PySem.W.Frag) (C : Addr) : Sp := fun vs H Q _ => ∃ x m rs G, vs = [.ref x] ∧ Le G H ∧ IsWeb K C G x m rs ∧ GW m rs ∧ ∀ H' p k N st, (∀ b o, H b = some o → H' b = some o) → H p = none → H' p = some (.lst (tL (wayL st k))) → PlS rs k N st → Q (.ref p) H'
theorem use_ways {C : Addr} {B : Hp} {L : HL} {Q : KQ} {E : XK} {x : Addr} {m : Nat} {rs : List Road} (h : IsWeb K C B x m rs) (hg : GW m rs) (q : ∀ p k N st, PlS rs k N st → Q (.ref p) B ((p, .lst (tL (wayL st k))) :: L)) : ∀ H, Sat B L H → sp_ways K C [.ref x] H (up Q) E :=
  fun H s => ⟨x, m, rs, B, rfl, s.ext, h, hg, fun H' p k N st e n1 h1 hp => ⟨B, _, s.new' n1 e h1, q p k N st hp⟩⟩
theorem ok_ways {f C : Addr} {fd : FuncData} (F : Fun K "ways" "ways" s_ways f fd) (hm : mg "ways" = some (.ref f)) (T : Tx mg) (M_plain : Mt P w K mg base 6 C "plain" (sp_plain K C)) (M_many : Mt P w K mg base 1 C "many" (sp_many K C)) (F_tree_of : Fn P w K mg base 2 "tree_of" (sp_tree_of K C)) (F_way_to : Fn P w K mg base 1 "way_to" sp_way_to) : Fn P w K mg base 7 "ways" (sp_ways K C) := by
  refine fn_ok F sc_ways hm (fun _ _ _ _ _ _ us hl => match us, hl with | [_], _ => rfl) ?_ fun cdv A outer s H vs Q E hr h tk po => ?_
  · rintro vs H Q E ⟨_, _, _, _, rfl, _⟩; rfl
  obtain ⟨x, m, rs, G, rfl, hG, hW, hg, hq⟩ := h
  refine ⟨H, [], Sat.whole, ?_⟩
  have hWH := hW.le hG
  have ⟨dx, sd, tt, kvsx, Mx, hx, _⟩ := hWH
  refine k_cons ?_
  refine k_set 1 ?_ sc_ways.nd
  refine k_meth0 M_plain (hr.mono (by decide)) takes0 ?_
  refine k_n 0 ?_
  refine ⟨_, _, _, rfl, .inl hx, rfl, ?_⟩
  skip
  refine use_plain hWH hg fun y B1 U k N l1 hU hUl hPw => ?_
  have ⟨dy, sdy, ty, kvy, My, hy, _⟩ := hPw.w
  obtain ⟨kn, hkn, hTn⟩ := cons_steps hPw.c
  have hPS := of_pw hPw hU hTn
  have hkk := hPw.kk
  show kSs _ _ _ _ _ _
  refine k_norm (by simp only [L2.start, N_ways, List.map_cons, List.map_nil, List.length_cons, List.length_nil, Nat.reduceAdd, Nat.reduceSub, List.replicate_succ, List.replicate_zero, List.cons_append, List.nil_append, List.set_cons_succ, List.set_cons_zero]; exact rfl) ?_
  refine k_cons ?_
  refine k_set 2 ?_ sc_ways.nd
  refine k_fn F_tree_of (hr.mono (by decide)) ?_
  refine a_cons ?_
  refine k_n 1 ?_
  refine a_nil ?_
  refine use_tree_of hPw.w hkn (bel_of hTn hPw.g) ⟨hPw.kk.1, by omega⟩ fun d M B2 l2 hd hM hE => ?_
  show kSs _ _ _ _ _ _
  refine k_norm (by simp only [L2.start, N_ways, List.map_cons, List.map_nil, List.length_cons, List.length_nil, Nat.reduceAdd, Nat.reduceSub, List.replicate_succ, List.replicate_zero, List.cons_append, List.nil_append, List.set_cons_succ, List.set_cons_zero]; exact rfl) ?_
  have hEl : M.length = k := by have := congrArg List.length hE; rw [List.length_map, hPS.len] at this; exact this
  have hy2 := l2 _ _ hy
  have hO : Pf.Ok (stp kn) (M.map (·.2)) := by rw [hE]; exact Pf.tree_ok _ _
  refine k_one ?_
  refine k_ret ?_
  refine k_le (k_lcv_r1 (j := 3) (fun i acc B L => B = B2 ∧ L = [] ∧ i ≤ k ∧ acc = tL ((List.range i).map fun p => wy (stp kn) k p)) sc_ways.nd (blkOk_by (N := N_ways) (sc := defScope s_ways) (by decide +kernel)) T.b_range ?_)
  refine k_meth0 M_many (hr.mono (by decide)) takes0 ?_
  refine k_n 1 ?_
  refine ⟨_, _, _, rfl, .inl hy2, rfl, ?_⟩
  skip
  refine use_many (hPw.w.le l2) ?_
  refine ⟨k, rfl, by omega, ⟨rfl, rfl, Nat.zero_le _, rfl⟩, ?_, fun acc B L D hP => ?_⟩
  · rintro i acc B L hi ⟨rfl, rfl, _, rfl⟩
    refine ⟨by unfold tL; simp, fun D s0 H0 C0 cl0 fp0 => ?_⟩
    refine k_fn F_way_to (hr.mono (by decide)) ?_
    refine a_cons ?_
    refine k_n 2 ?_
    refine a_cons ?_
    refine k_n 3 ?_
    refine a_nil ?_
    refine use_way_to (M := M) (.inl hd) hM hO (by rw [qs_eq, hE]; exact hPS.inE hi) (by omega) ?_
    refine ⟨[], rfl, rfl, rfl, hi, ?_⟩
    rw [hE]
    unfold tL
    rw [List.range_succ, List.map_append, List.map_append]; rfl
  obtain ⟨rfl, rfl, _, rfl⟩ := hP
  intro H' s
  have n1 := s.nb _ List.mem_cons_self
  have hle : Le H B := fun b o e => l2 _ _ (l1 _ _ e)
  exact hq H' D k N (stp kn) (fun b o e => s.ext _ _ (hle _ _ e)) (by cases e : H D with | none => rfl | some o => rw [hle _ _ e] at n1; cases n1) (s.own _ List.mem_cons_self) hPS
abbrev s_put_together : Stmt := top 13
abbrev N_put_together : List Str := ["letters", "found", "letter"]
theorem sc_put_together : FnScope N_put_together ["letters"] (defScope s_put_together) := ⟨rfl, rfl, rfl, by decide +kernel, rfl, by decide +kernel, by decide +kernel⟩
def sp_put_together : Sp := fun vs H Q _ => ∃ l, vs = [.str (sOf l)] ∧ (Let l ∧ l.length ≤ 1000000) ∧ ∀ H', (∀ b o, H b = some o → H' b = some o) → Q (.str (sOf (red l))) H'
theorem use_put_together {B : Hp} {L : HL} {Q : KQ} {E : XK} {l : List Nat} (q : Q (.str (sOf (red l))) B L) (h : Let l ∧ l.length ≤ 1000000) : ∀ H, Sat B L H → sp_put_together [.str (sOf l)] H (up Q) E := fun H s => ⟨l, rfl, h, fun H' e => s.upq e q⟩
theorem ok_put_together {f : Addr} {fd : FuncData} (F : Fun K "put_together" "put_together" s_put_together f fd) (hm : mg "put_together" = some (.ref f)) (T : Tx mg) (F_back_of : Fn P w K mg base 1 "back_of" sp_back_of) : Fn P w K mg base 2 "put_together" sp_put_together := by
  refine fn_ok F sc_put_together hm (fun _ _ _ _ _ _ us hl => match us, hl with | [_], _ => rfl) ?_ fun cdv A outer s H vs Q E hr h tk po => ?_
  · rintro vs H Q E ⟨c, rfl, _⟩; rfl
  obtain ⟨l, rfl, ⟨hl, hn⟩, hq⟩ := h
  refine ⟨H, [], Sat.whole, ?_⟩
  refine k_cons ?_
  refine k_set 1 ?_ sc_put_together.nd
  refine k_lst ?_
  refine a_nil ?_
  refine ⟨by first | decide | simp, fun p => ?_⟩
  refine k_cons ?_
  refine k_for_s (fun i σ B L => ∃ v, σ = [some (.str (sOf l)), some (.ref p), v] ∧ B = H ∧ L = [(p, .lst (stk (act (l.take i) [])))]) po ?_
  refine k_n 0 ?_
  refine ⟨l, rfl, ⟨_, rfl, rfl, rfl⟩, ?_, ?_⟩
  · rintro i c σ B L hi ⟨v, rfl, rfl, rfl⟩
    have hc : c ∈ ordL := hl c (List.mem_of_getElem? hi)
    have hil := (List.getElem?_eq_some_iff.mp hi).1
    have hal := act_len (l.take i) []
    have hst := act_take hi
    rw [List.length_take] at hal
    refine g_name 2 ?_ sc_put_together.nd
    refine k_one ?_
    refine k_if ?_
    cases hs : act (l.take i) [] with
    | nil =>
      rw [hs] at hst
      refine t_pure (v := false) ?_ ⟨fun z => (nomatch z), fun _ => ?_⟩
      · refine t_w ?_
        refine w_and ?_
        refine t_cmp ?_
        refine k_n 1 ?_
        refine k_lst ?_
        refine a_nil ?_
        refine ⟨by first | decide | simp, fun p => ?_⟩
        refine o_ness (a := []) (b := []) hr.units (by walk_at "ls") (by walk_at "ls") ?_ (by simp) (by simp)
        refine ⟨_, rfl, ?_⟩
        exact ⟨fun z => (by simp at z), fun _ => ⟨rfl, rfl, by walk_at "sfx"⟩⟩
      · skip
        refine k_one ?_
        refine k_expr ?_
        refine k_m PySem.F.plainAttrs_list PySem.F.slot_list_append PySem.F.type_list_append ?_
        refine k_n 1 ?_
        refine ⟨ty_l (by walk_at "ls"), ?_⟩
        refine a_cons ?_
        refine k_n 2 ?_
        refine a_nil ?_
        refine m_append (by walk_at "rep") ?_ (by simp [stk])
        refine ⟨_, rfl, rfl, ?_⟩
        rw [hst]; rfl
    | cons x s =>
      rw [hs, push_cons] at hst
      have hxo : x ∈ ordL := by
        have h1 : x ∈ red (l.take i) := by unfold red; rw [List.mem_reverse, hs]; simp
        exact hl x (List.mem_of_mem_take (red_mem h1))
      refine t_pure (v := decide (x = bk c)) ?_ ⟨fun hk => ?_, fun hk => ?_⟩
      · refine t_w ?_
        refine w_and ?_
        refine t_cmp ?_
        refine k_n 1 ?_
        refine k_lst ?_
        refine a_nil ?_
        refine ⟨by first | decide | simp, fun p => ?_⟩
        refine o_ness (a := (x :: s).reverse.map fun c => [c]) (b := []) hr.units (by rw [← map_one]; walk_at "ls") (by walk_at "ls") ?_ ?_ (by simp)
        refine ⟨_, rfl, ?_⟩
        · refine ⟨fun _ => ?_, fun z => (by simp at z)⟩
          refine w_and1 ?_
          refine t_cmp ?_
          refine k_ix ?_
          refine k_n 1 ?_
          refine k_neg ?_
          refine k_int ?_
          refine ⟨_, rfl, ?_⟩
          refine i_lv (one x) (by walk_at "ls") ?_ ?_
          refine k_fn F_back_of (hr.mono (by decide)) ?_
          refine a_cons ?_
          refine k_n 2 ?_
          refine a_nil ?_
          refine use_back_of ?_ hc
          walk_at "opEq"
          refine ⟨_, rfl, ?_⟩
          · exact ⟨by simp, rfl, by walk_at "sfx"⟩
          · rw [stk_push]; exact at_last _ _
        · intro l' hl' c' hc'
          rw [List.mem_map] at hl'
          obtain ⟨d, hd, rfl⟩ := hl'
          rw [List.mem_singleton.mp hc']
          have h2 : d ∈ act (l.take i) [] := by rw [hs]; exact List.mem_reverse.mp hd
          have h3 : d ∈ red (l.take i) := by unfold red; rw [List.mem_reverse]; exact h2
          exact let_small hl d (List.mem_of_mem_take (red_mem h3))
      · have hx : x = bk c := of_decide_eq_true hk
        rw [if_pos hx] at hst
        refine k_one ?_
        refine k_expr ?_
        refine k_m0 PySem.F.plainAttrs_list PySem.F.slot_list_pop PySem.F.type_list_pop ?_
        refine k_n 1 ?_
        refine ⟨ty_l (by walk_at "ls"), ?_⟩
        refine m_pop (xs := stk (x :: s)) (v := one x) (by rw [stk_push]; exact get_last _ _) (by walk_at "rep") ?_
        skip
        refine ⟨_, rfl, rfl, ?_⟩
        rw [hst, stk_pop]
      · have hx : ¬ x = bk c := of_decide_eq_false hk
        rw [if_neg hx] at hst
        refine k_one ?_
        refine k_expr ?_
        refine k_m PySem.F.plainAttrs_list PySem.F.slot_list_append PySem.F.type_list_append ?_
        refine k_n 1 ?_
        refine ⟨ty_l (by walk_at "ls"), ?_⟩
        refine a_cons ?_
        refine k_n 2 ?_
        refine a_nil ?_
        refine m_append (by walk_at "rep") ?_ ?_
        · refine ⟨_, rfl, rfl, ?_⟩
          rw [hst, stk_push (x :: s) c]
        · rw [stk_len]
          rw [hs] at hal
          simp only [List.length_nil] at hal
          omega
  · rintro σ B L ⟨v, rfl, rfl, rfl⟩
    rw [List.take_length]
    refine k_one ?_
    refine k_ret ?_
    refine k_join ?_
    refine k_s [] ?_
    refine ⟨_, rfl, ?_⟩
    skip
    refine k_n 1 ?_
    skip
    refine m_join0 (ls := (red l).map fun c => [c]) ?_ ?_ ?_
    · rw [← map_one]; exact Or.inr (List.Mem.head _)
    · rw [flat_one]
      exact fun H' s => hq H' s.ext
    · rw [flat_one]
      have := red_len l
      omega
abbrev s_back : Stmt := top 14
abbrev N_back : List Str := ["word", "letter"]
theorem sc_back : FnScope N_back ["word"] (defScope s_back) := ⟨rfl, rfl, rfl, by decide +kernel, rfl, by decide +kernel, by decide +kernel⟩
def sp_back : Sp := fun vs H Q _ => ∃ l, vs = [.str (sOf l)] ∧ (Let l ∧ l.length ≤ 1000000) ∧ ∀ H', (∀ b o, H b = some o → H' b = some o) → Q (.str (sOf (inv l))) H'
theorem use_back {B : Hp} {L : HL} {Q : KQ} {E : XK} {l : List Nat} (q : Q (.str (sOf (inv l))) B L) (h : Let l) (hn : l.length ≤ 1000000) : ∀ H, Sat B L H → sp_back [.str (sOf l)] H (up Q) E := fun H s => ⟨l, rfl, ⟨h, hn⟩, fun H' e => s.upq e q⟩
theorem ok_back {f : Addr} {fd : FuncData} (F : Fun K "back" "back" s_back f fd) (hm : mg "back" = some (.ref f)) (T : Tx mg) (F_back_of : Fn P w K mg base 1 "back_of" sp_back_of) : Fn P w K mg base 2 "back" sp_back := by
  refine fn_ok F sc_back hm (fun _ _ _ _ _ _ us hl => match us, hl with | [_], _ => rfl) ?_ fun cdv A outer s H vs Q E hr h tk po => ?_
  · rintro vs H Q E ⟨l, rfl, _⟩; rfl
  obtain ⟨l, rfl, ⟨hl, hn⟩, hq⟩ := h
  refine ⟨H, [], Sat.whole, ?_⟩
  refine k_one ?_
  refine k_ret ?_
  refine k_join ?_
  refine k_s [] ?_
  refine ⟨_, rfl, ?_⟩
  skip
  refine k_le (k_lcm_rs (j := 1) (fun c => .str (sOf [bk c])) sc_back.nd (blkOk_by (N := N_back) (sc := defScope s_back) (by decide +kernel)) T.b_reversed ?_)
  refine k_n 0 ?_
  refine ⟨l, rfl, by omega, fun c hc D acc sb Hb Cb clb fpb => ?_, fun D => ?_⟩
  ·
    refine k_fn F_back_of (hr.mono (by decide)) ?_
    refine a_cons ?_
    refine k_n 1 ?_
    refine a_nil ?_
    refine use_back_of ?_ (hl c hc)
    exact ⟨rfl, rfl, rfl⟩
  skip
  refine m_join0 (ls := (inv l).map fun c => [c]) ?_ ?_ ?_
  · rw [← map_one]
    have e : l.reverse.map (fun c => V.str (sOf [bk c])) = (inv l).map one := by unfold inv; rw [← List.map_reverse, List.map_map]; rfl
    rw [← e]; exact Or.inr (List.Mem.head _)
  · rw [flat_one]
    exact fun H' s => hq H' s.ext
  · rw [flat_one, inv_len]; omega
/-! ### others, fewest -/
def tiD (l : List Nat) (i : Nat) : PyData := .tuple [.str (sOf l), .int (i : Nat)]
theorem ti_eqv (l m : List Nat) (i j : Nat) : PyData.eqv (tiD l i) (tiD m j) = decide (l = m ∧ i = j) := by
  show ((sOf l == sOf m) && (((i : Int) == (j : Int)) && true)) = _
  rw [Bool.and_true, Bool.eq_iff_iff]
  simp only [Bool.and_eq_true, beq_iff_eq, decide_eq_true_eq]
  exact and_congr ⟨fun h => sOf_inj.mp (congrArg V.str h), fun h => by rw [h]⟩ (by omega)
theorem ti_shaped {l : List Nat} (h : Let l) (i : Nat) : SeqAt.shaped (tiD l i) = true := by
  unfold SeqAt.shaped
  have e1 : PyData.canLay0 (tiD l i) = true := by
    unfold tiD PyData.canLay0
    unfold PyData.canLayAll0
    unfold PyData.canLayAll0
    unfold PyData.canLayAll0
    have hs : PyData.canLay0 (.str (sOf l)) = true := by
      unfold PyData.canLay0
      unfold PyData.strOk
      have := let_small h
      simpa [sOf] using this
    have hi : ∀ i : Int, PyData.canLay0 (.int i) = true := fun i => by unfold PyData.canLay0; rfl
    rw [hs, hi]; rfl
  have e2 : PyData.depth (tiD l i) ≤ 1 := by
    unfold tiD PyData.depth
    unfold PyData.depthAll
    unfold PyData.depthAll
    unfold PyData.depthAll
    unfold PyData.depth
    decide
  rw [e1, Bool.true_and, decide_eq_true_iff]
  exact Nat.le_trans e2 (by decide)
section
variable {X : Cx} {B : Hp} {L : HL} {Q : KQ}
/-- (text, number) != (text, number) -/
theorem o_neTI {p q : Addr} {l m : List Nat} {i j : Nat} (hu : X.A.units + 64 < cLine) (h1 : Tp X.K B L p [.str (sOf l), .int (i : Nat)]) (h2 : Tp X.K B L q [.str (sOf m), .int (j : Nat)]) (hl : Let l) (hm : Let m) (hq : Q (.bl (!decide (l = m ∧ i = j))) B L) : kO X (compareOp .NotEq) (.ref p) (.ref q) B L Q :=
  o_neD hu (d := tiD l i) (e := tiD m j) (dd_t h1 (da_cons dd_s (da_cons dd_i da_nil))) (dd_t h2 (da_cons dd_s (da_cons dd_i da_nil))) (by rw [ti_eqv]; exact hq) (ti_shaped hl i) (ti_shaped hm j)
end
theorem ent_let {st : Pw.Sf} {E : List Pf.Ent} (h : Pf.Ok st E) {e : Pf.Ent} (he : e ∈ E) : Let e.c := by
  rcases h.cases he with e1 | ⟨_, _, c, _, _, _, _, _, h4, h5, _⟩
  · rw [e1]; exact fun _ z => (nomatch z)
  · rw [h4]
    intro x hx
    rw [List.mem_singleton.mp hx]; exact h5
abbrev s_others : Stmt := top 30
abbrev N_others : List Str := ["plain", "tree", "found", "first", "letter", "last"]
theorem sc_others : FnScope N_others ["plain"] (defScope s_others) := ⟨rfl, rfl, rfl, by decide +kernel, rfl, by decide +kernel, by decide +kernel⟩
def sp_others (K : PySem.W.Frag) (C : Addr) : Sp := fun vs H Q _ => ∃ x k N kn rs G, vs = [.ref x] ∧ Le G H ∧ IsWeb K C G x k N ∧ stepsF N = some kn ∧ PlS rs k N (stp kn) ∧ N.length ≤ 1000 ∧ ∀ H' p Ns M, (∀ b o, H b = some o → H' b = some o) → H p = none → H' p = some (.lst (rV M)) → RdM K (nwH H H') M → Srt N Ns → M.map (·.2) = Ns.filter (outB (stp kn) k) → Q (.ref p) H'
theorem use_others {C : Addr} {B : Hp} {L : HL} {Q : KQ} {E : XK} {x : Addr} {k : Nat} {N rs : List Road} {kn : Dct} (h : IsWeb K C B x k N) (hk : stepsF N = some kn) (hp : PlS rs k N (stp kn)) (hl : N.length ≤ 1000) (q : ∀ p Ns M B', Le B B' → B' p = some (.lst (rV M)) → RdM K B' M → Srt N Ns → M.map (·.2) = Ns.filter (outB (stp kn) k) → Q (.ref p) B' L) : ∀ H, Sat B L H → sp_others K C [.ref x] H (up Q) E :=
  fun H s => ⟨x, k, N, kn, rs, B, rfl, s.ext, h, hk, hp, hl, fun H' p Ns M e n1 h1 h2 h3 h4 => by
    obtain ⟨B', l, s3, g⟩ := Sat_grow (s.keep e)
    exact ⟨B', L, s3, q p Ns M B' l (g _ _ h1 (not_in s n1)) (h2.le fun b o q => g b o (nw_some q).2 (not_in s (nw_some q).1)) h3 h4⟩⟩
theorem ok_others {f C : Addr} {fd : FuncData} (F : Fun K "others" "others" s_others f fd) (hm : mg "others" = some (.ref f)) (T : Tx mg) (M_roads : Mt P w K mg base 1 C "roads" (sp_roads K C)) (F_tree_of : Fn P w K mg base 2 "tree_of" (sp_tree_of K C)) (F_back_of : Fn P w K mg base 1 "back_of" sp_back_of) : Fn P w K mg base 3 "others" (sp_others K C) := by
  refine fn_ok F sc_others hm (fun _ _ _ _ _ _ us hl => match us, hl with | [_], _ => rfl) ?_ fun cdv A outer s H vs Q E hr h tk po => ?_
  · rintro vs H Q E ⟨_, _, _, _, _, _, rfl, _⟩; rfl
  obtain ⟨x, k, N, kn, rs, G, rfl, hG, hW, hkn, hPS, hNl, hq⟩ := h
  refine ⟨H, [], Sat.whole, ?_⟩
  have hWH := hW.le hG
  have hkk := hPS.kk
  have hTn : Tab kn (N.flatMap arcs) := ⟨steps_all hkn, fun a p => hPS.i a p⟩
  have ⟨dx, sd, tt, kvsx, Mx, hx, _⟩ := hWH
  refine k_cons ?_
  refine k_set 1 ?_ sc_others.nd
  refine k_fn F_tree_of (hr.mono (by decide)) ?_
  refine a_cons ?_
  refine k_n 0 ?_
  refine a_nil ?_
  refine use_tree_of hWH hkn (bel_of hTn hPS.g) ⟨hkk.1, by omega⟩ fun d M B2 l2 hd hM hE => ?_
  show kSs _ _ _ _ _ _
  refine k_norm (by simp only [L2.start, N_others, List.map_cons, List.map_nil, List.length_cons, List.length_nil, Nat.reduceAdd, Nat.reduceSub, List.replicate_succ, List.replicate_zero, List.cons_append, List.nil_append, List.set_cons_succ, List.set_cons_zero]; exact rfl) ?_
  have hO : Pf.Ok (stp kn) (M.map (·.2)) := by rw [hE]; exact Pf.tree_ok _ _
  have hqn : (qs M).Nodup := by rw [qs_eq]; exact hO.nd
  have hx2 := l2 _ _ hx
  have hent : ∀ p, p < k → ∃ z ∈ M, z.2 = Pf.ent (Pf.tree (stp kn) k) p ∧ z.2.q = p := fun p hp => by
    obtain ⟨h1, h2⟩ := Pf.ent_at (hPS.inE hp)
    rw [← hE] at h1
    obtain ⟨z, hz, e⟩ := List.mem_map.mp h1
    exact ⟨z, hz, by rw [e, hE], by rw [e, hE]; exact h2⟩
  refine k_cons ?_
  refine k_set 2 ?_ sc_others.nd
  refine k_lst ?_
  refine a_nil ?_
  refine ⟨by simp, fun pf => ?_⟩
  show kSs _ _ _ _ _ _
  refine k_norm (by simp only [L2.start, N_others, List.map_cons, List.map_nil, List.length_cons, List.length_nil, Nat.reduceAdd, Nat.reduceSub, List.replicate_succ, List.replicate_zero, List.cons_append, List.nil_append, List.set_cons_succ, List.set_cons_zero]; exact rfl) ?_
  refine k_cons ?_
  refine k_for_l2 po ?_
  refine k_meth0 M_roads (hr.mono (by decide)) takes0 ?_
  refine k_n 0 ?_
  refine ⟨_, _, _, rfl, .inl hx2, rfl, ?_⟩
  skip
  refine use_roads (hWH.le l2) fun pr Mr hMrr hSr => ?_
  have hMrl : Mr.length ≤ 1000 := by have := srt_len hSr; rw [List.length_map] at this; omega
  refine ⟨pr, rV Mr, fun i σ B L => ∃ (v3 v4 v5 : Option V) (Mo : List (Addr × Road)), σ = [some (.ref x), some (.ref d), some (.ref pf), v3, v4, v5] ∧ Le B2 B ∧ L = [(pr, .lst (rV Mr)), (pf, .lst (rV Mo))] ∧ RdM K (nwH H B) Mo ∧ Mo.map (·.2) = ((Mr.map (·.2)).take i).filter (outB (stp kn) k) ∧ Mo.length ≤ i, rfl, .inr List.mem_cons_self, ⟨_, _, _, [], rfl, fun _ _ z => z, rfl, fun _ z => (nomatch z), rfl, Nat.le_refl _⟩, ?_, ?_, ?_⟩
  · rintro i σ B L _ ⟨_, _, _, Mo, _, _, rfl, _⟩
    exact .inr List.mem_cons_self
  · rintro i v σ B L hv ⟨v3, v4, v5, Mo, rfl, hle, rfl, hMo, hMe, hMl⟩
    obtain ⟨z, hz, rfl⟩ : ∃ z, Mr[i]? = some z ∧ v = .ref z.1 := by unfold rV at hv; rw [List.getElem?_map] at hv; cases h : Mr[i]? with | none => rw [h] at hv; cases hv | some z => rw [h] at hv; exact ⟨z, rfl, (Option.some.inj hv).symm⟩
    have hil := (List.getElem?_eq_some_iff.mp hz).1
    have hzm := List.mem_of_getElem? hz
    have hzi : (Mr.map (·.2))[i]? = some z.2 := by rw [List.getElem?_map, hz]; rfl
    have hzN : z.2 ∈ N := (hSr.mem _).mp (List.mem_of_getElem? hzi)
    have hzg := hPS.g _ hzN
    obtain ⟨a, ha, ea, qa⟩ := hent _ hzg.f
    obtain ⟨b, hb, eb, qb⟩ := hent _ hzg.l
    have hla := ent_let hO (List.mem_map.mpr ⟨a, ha, rfl⟩)
    have hlb := ent_let hO (List.mem_map.mpr ⟨b, hb, rfl⟩)
    have hMB := hM.le hle
    have hlc : Let [z.2.2.1] := fun c hc => by rw [List.mem_singleton.mp hc]; exact lt_ord hzg.c
    have hlk : Let [bk z.2.2.1] := fun c hc => by rw [List.mem_singleton.mp hc]; exact let_bk (lt_ord hzg.c)
    refine g_tup (xs := rdV z.2) (.inl (ext_t hle (hMrr z hzm))) rfl ?_
    refine gs_cons ?_
    refine g_name 3 ?_ sc_others.nd
    refine gs_cons ?_
    refine g_name 4 ?_ sc_others.nd
    refine gs_cons ?_
    refine g_name 5 ?_ sc_others.nd
    refine gs_nil ?_
    show kSs _ _ _ _ _ _
    refine k_norm (by simp only [L2.start, N_others, List.map_cons, List.map_nil, List.length_cons, List.length_nil, Nat.reduceAdd, Nat.reduceSub, List.replicate_succ, List.replicate_zero, List.cons_append, List.nil_append, List.set_cons_succ, List.set_cons_zero]; exact rfl) ?_
    refine k_one ?_
    refine k_if ?_
    have hdB : At B [(pr, .lst (rV Mr)), (pf, .lst (rV Mo))] d (.dK (tD M)) := .inl (hle _ _ hd)
    refine t_w ?_
    refine w_andP ?_
    refine t_cmp ?_
    refine k_dget (Nat.lt_of_le_of_lt (Nat.add_le_add_left (by decide) _) hr.units) ?_
    refine k_n 1 ?_
    refine k_n 5 ?_
    refine ⟨d, tD M, .inl (z.2.2.2 : Nat), .ref b.1, rfl, .inl (hle _ _ hd), rfl, by have h9 := tD_some hqn b hb; rw [qb] at h9; exact h9, ?_⟩
    refine k_tup ?_
    refine a_cons ?_
    refine k_n 4 ?_
    refine a_cons ?_
    refine k_n 3 ?_
    refine a_nil ?_
    refine ⟨by simp, fun p1 => ?_⟩
    refine o_neTI (l := b.2.c) (i := b.2.p) (m := [z.2.2.1]) (j := z.2.1) hr.units (.inl (.inl (.inl (hMB b hb)))) (.inr (by walk_at "mm")) hlb hlc ?_
    refine ⟨_, rfl, ?_⟩
    apply Exists.intro; refine ⟨fun hk => ?_, ?_⟩
    {
    refine w_and1 ?_
    refine t_cmp ?_
    refine k_dget (Nat.lt_of_le_of_lt (Nat.add_le_add_left (by decide) _) hr.units) ?_
    refine k_n 1 ?_
    refine k_n 3 ?_
    refine ⟨d, tD M, .inl (z.2.1 : Nat), .ref a.1, rfl, .inl (hle _ _ hd), rfl, by have h9 := tD_some hqn a ha; rw [qa] at h9; exact h9, ?_⟩
    refine k_tup ?_
    refine a_cons ?_
    refine k_fn F_back_of (hr.mono (by decide)) ?_
    refine a_cons ?_
    refine k_n 4 ?_
    refine a_nil ?_
    refine use_back_of ?_ (lt_ord hzg.c)
    refine a_cons ?_
    refine k_n 5 ?_
    refine a_nil ?_
    refine ⟨by simp, fun p2 => ?_⟩
    refine o_neTI (l := a.2.c) (i := a.2.p) (m := [bk z.2.2.1]) (j := z.2.2.2) hr.units (.inl (.inl (.inl (hMB a ha)))) (.inr (by walk_at "mm")) hla hlk ?_
    refine ⟨_, rfl, ?_⟩
    exact ⟨rfl, rfl, by walk_at "sfx"⟩
    all_goals (try walk_at "side")
    }
    have eo : (!decide (b.2.c = [z.2.2.1] ∧ b.2.p = z.2.1) && !decide (a.2.c = [bk z.2.2.1] ∧ a.2.p = z.2.2.2)) = outB (stp kn) k z.2 := by
      unfold outB Pf.treeB
      rw [← ea, ← eb, Bool.not_or]
    rw [eo]
    refine ⟨fun hk => ?_, fun hk => ?_⟩
    · refine k_sub (L' := [(pr, .lst (rV Mr)), (pf, .lst (rV Mo))]) (by repeat (first | exact List.Sublist.refl _ | apply List.Sublist.cons)) ?_
      refine k_one ?_
      refine k_expr ?_
      refine e_fz1 ?_
      refine k_m PySem.F.plainAttrs_list PySem.F.slot_list_append PySem.F.type_list_append ?_
      refine k_n 2 ?_
      refine ⟨ty_l (xs := rV Mo) (.inr (by walk_at "mm")), ?_⟩
      refine a_cons ?_
      refine k_tup ?_
      refine a_cons ?_
      refine k_n 3 ?_
      refine a_cons ?_
      refine k_n 4 ?_
      refine a_cons ?_
      refine k_n 5 ?_
      refine a_nil ?_
      refine ⟨by simp, fun pt => ?_⟩
      refine a_nil ?_
      refine m_append (xs := rV Mo) (by walk_at "rep") ?_ (by unfold rV; rw [List.length_map]; omega)
      refine ⟨pt, _, _, rfl, fun B3 l3 n3 e3 => ?_⟩
      refine ⟨_, _, _, Mo ++ [(pt, z.2)], rfl, fun b o e => l3 _ _ (hle _ _ e), by unfold rV; rw [List.map_append]; rfl, fun y hy => ?_, ?_, by rw [List.length_append]; simp; omega⟩
      · rcases List.mem_append.mp hy with hy | hy
        · exact ext_t (nw_mono l3) (hMo y hy)
        · rw [List.mem_singleton.mp hy]
          exact .inl (.inl (nw_of (by cases e9 : H pt with | none => rfl | some o => rw [hle _ _ (l2 _ _ e9)] at n3; cases n3) e3))
      · rw [List.map_append, hMe, List.take_add_one, hzi, List.filter_append]
        congr 1
        show [z.2] = List.filter _ [z.2]
        rw [List.filter_cons, if_pos hk]; rfl
    · refine k_sub (L' := [(pr, .lst (rV Mr)), (pf, .lst (rV Mo))]) (by repeat (first | exact List.Sublist.refl _ | apply List.Sublist.cons)) ?_
      refine k_nil ?_
      refine ⟨_, _, _, Mo, rfl, hle, rfl, hMo, ?_, by omega⟩
      rw [hMe, List.take_add_one, hzi, List.filter_append]
      have e0 : List.filter (outB (stp kn) k) (some z.2).toList = [] := by
        show List.filter _ [z.2] = []
        rw [List.filter_cons, if_neg (by rw [hk]; decide)]; rfl
      rw [e0, List.append_nil]
  · rintro σ B L ⟨v3, v4, v5, Mo, rfl, hle, rfl, hMo, hMe, hMl⟩
    refine k_one ?_
    refine k_ret ?_
    refine k_n 2 ?_
    intro H' s
    have n1 : B pf = none := s.nb (pf, .lst (rV Mo)) (by walk_at "mm")
    refine hq H' pf _ Mo (fun b o e => s.ext _ _ (hle _ _ (l2 _ _ e))) (by cases e : H pf with | none => rfl | some o => rw [hle _ _ (l2 _ _ e)] at n1; cases n1) (s.own (pf, .lst (rV Mo)) (by walk_at "mm")) (hMo.le (nw_mono s.ext)) hSr ?_
    rw [hMe, List.take_of_length_le (by rw [List.length_map]; unfold rV; rw [List.length_map]; exact Nat.le_refl _)]
abbrev s_fewest : Stmt := top 31
abbrev N_fewest : List Str := ["web", "plain", "way", "first", "letter", "last"]
theorem sc_fewest : FnScope N_fewest ["web"] (defScope s_fewest) := ⟨rfl, rfl, rfl, by decide +kernel, rfl, by decide +kernel, by decide +kernel⟩
def sp_fewest (K : PySem.W.Frag) (C : Addr) : Sp := fun vs H Q _ => ∃ x m rs G, vs = [.ref x] ∧ Le G H ∧ IsWeb K C G x m rs ∧ GW m rs ∧ ∀ H' p k N Ns st, (∀ b o, H b = some o → H' b = some o) → H p = none → H' p = some (.lst (tL (fewL st k Ns))) → PlS rs k N st → Srt N Ns → Q (.ref p) H'
theorem use_fewest {C : Addr} {B : Hp} {L : HL} {Q : KQ} {E : XK} {x : Addr} {m : Nat} {rs : List Road} (h : IsWeb K C B x m rs) (hg : GW m rs) (q : ∀ p k N Ns st, PlS rs k N st → Srt N Ns → Q (.ref p) B ((p, .lst (tL (fewL st k Ns))) :: L)) : ∀ H, Sat B L H → sp_fewest K C [.ref x] H (up Q) E :=
  fun H s => ⟨x, m, rs, B, rfl, s.ext, h, hg, fun H' p k N Ns st e n1 h1 hp hs => ⟨B, _, s.new' n1 e h1, q p k N Ns st hp hs⟩⟩
theorem ok_fewest {f C : Addr} {fd : FuncData} (F : Fun K "fewest" "fewest" s_fewest f fd) (hm : mg "fewest" = some (.ref f)) (T : Tx mg) (M_plain : Mt P w K mg base 6 C "plain" (sp_plain K C)) (F_ways : Fn P w K mg base 7 "ways" (sp_ways K C)) (F_others : Fn P w K mg base 3 "others" (sp_others K C)) (F_put_together : Fn P w K mg base 2 "put_together" sp_put_together) (F_back : Fn P w K mg base 2 "back" sp_back) : Fn P w K mg base 8 "fewest" (sp_fewest K C) := by
  refine fn_ok F sc_fewest hm (fun _ _ _ _ _ _ us hl => match us, hl with | [_], _ => rfl) ?_ fun cdv A outer s H vs Q E hr h tk po => ?_
  · rintro vs H Q E ⟨_, _, _, _, rfl, _⟩; rfl
  obtain ⟨x, m, rs, G, rfl, hG, hW, hg, hq⟩ := h
  refine ⟨H, [], Sat.whole, ?_⟩
  have hWH := hW.le hG
  have hgl := hg.l
  have ⟨dx, sd, tt, kvsx, Mx, hx, _⟩ := hWH
  refine k_cons ?_
  refine k_set 1 ?_ sc_fewest.nd
  refine k_meth0 M_plain (hr.mono (by decide)) takes0 ?_
  refine k_n 0 ?_
  refine ⟨_, _, _, rfl, .inl hx, rfl, ?_⟩
  skip
  refine use_plain hWH hg fun y B1 U k N l1 hU hUl hPw => ?_
  obtain ⟨kn, hkn, hTn⟩ := cons_steps hPw.c
  have hPS := of_pw hPw hU hTn
  have hkk := hPw.kk
  have hNl : N.length < 64 := by have := hPw.l; omega
  have hgw : GW k N := ⟨hkk, hPw.g, hPw.c, hNl⟩
  show kSs _ _ _ _ _ _
  refine k_norm (by simp only [L2.start, N_fewest, List.map_cons, List.map_nil, List.length_cons, List.length_nil, Nat.reduceAdd, Nat.reduceSub, List.replicate_succ, List.replicate_zero, List.cons_append, List.nil_append, List.set_cons_succ, List.set_cons_zero]; exact rfl) ?_
  refine k_cons ?_
  refine k_set 2 ?_ sc_fewest.nd
  refine k_fn F_ways (hr.mono (by decide)) ?_
  refine a_cons ?_
  refine k_n 1 ?_
  refine a_nil ?_
  refine use_ways hPw.w hgw fun pw k' N' st' hPS' => ?_
  obtain ⟨ek, es, _⟩ := hPS'.uniq hPS.self (fun _ => Iff.rfl)
  subst ek es
  show kSs _ _ _ _ _ _
  refine k_norm (by simp only [L2.start, N_fewest, List.map_cons, List.map_nil, List.length_cons, List.length_nil, Nat.reduceAdd, Nat.reduceSub, List.replicate_succ, List.replicate_zero, List.cons_append, List.nil_append, List.set_cons_succ, List.set_cons_zero]; exact rfl) ?_
  have hwl : (tL (wayL (stp kn) k')).length = k' := by unfold tL wayL; simp
  refine k_one ?_
  refine k_ret ?_
  refine k_le (k_lcv_l3 (i := 3) (j := 4) (k := 5) (fun z : Addr × Road => V.ref z.1) (fun z => rdV z.2) sc_fewest.nd (blkOk_by (N := N_fewest) (sc := defScope s_fewest) (by decide +kernel)) ?_)
  refine k_fn F_others (hr.mono (by decide)) ?_
  refine a_cons ?_
  refine k_n 1 ?_
  refine a_nil ?_
  refine use_others hPw.w hkn hPS (by omega) fun po' Ns M B2 l2 hpo hMr hSr hMe => ?_
  have hMl : M.length < 64 := by have h1 := congrArg List.length hMe; have h2 := List.length_filter_le (outB (stp kn) k') Ns; have h3 := srt_len hSr; rw [List.length_map] at h1; omega
  refine ⟨po', M, fun i acc B L => B = B2 ∧ L = [(pw, .lst (tL (wayL (stp kn) k')))] ∧ acc = tL (((M.map (·.2)).take i).map (fewW (stp kn) k')) ∧ i ≤ M.length, rfl, by omega, ⟨rfl, rfl, rfl, Nat.zero_le _⟩, ?_, ?_, fun acc B L D hP => ?_⟩
  · rintro i acc B L ⟨rfl, rfl, rfl, hi⟩
    refine ⟨.inl (.inl (.inl hpo)), ?_⟩
    unfold tL
    rw [List.length_map, List.length_map, List.length_take, List.length_map]; omega
  · rintro i acc B L z hz ⟨rfl, rfl, rfl, hi⟩
    refine ⟨_, _, _, _, rfl, .inl (hMr z (List.mem_of_getElem? hz)), rfl, fun D s0 H0 C0 cl0 fp0 => ?_⟩
    have hzi : (M.map (·.2))[i]? = some z.2 := by rw [List.getElem?_map, hz]; rfl
    have hzN : z.2 ∈ N := by
      have h1 := List.mem_of_getElem? hzi
      rw [hMe] at h1
      exact (hSr.mem _).mp (List.mem_filter.mp h1).1
    have hzg := hPS.g _ hzN
    obtain ⟨w1, w2, _⟩ := hPS.wy hzg.f
    obtain ⟨w3, w4, _⟩ := hPS.wy hzg.l
    have hlc : Let [z.2.2.1] := fun c hc => by rw [List.mem_singleton.mp hc]; exact lt_ord hzg.c
    have hil := (List.getElem?_eq_some_iff.mp hz).1
    refine k_fn F_put_together (hr.mono (by decide)) ?_
    refine a_cons ?_
    refine k_bin ?_
    refine k_bin ?_
    refine k_ix ?_
    refine k_n 2 ?_
    refine k_n 3 ?_
    refine i_lv (.str (sOf (wy (stp kn) k' z.2.1))) (xs := tL (wayL (stp kn) k')) (.inr (by walk_at "mm")) ?_ (by rw [atI_n]; exact wayL_at hzg.f)
    refine k_n 4 ?_
    refine o_adds ?_ (by rw [List.length_singleton]; omega)
    refine k_fn F_back (hr.mono (by decide)) ?_
    refine a_cons ?_
    refine k_ix ?_
    refine k_n 2 ?_
    refine k_n 5 ?_
    refine i_lv (.str (sOf (wy (stp kn) k' z.2.2.2))) (xs := tL (wayL (stp kn) k')) (.inr (by walk_at "mm")) ?_ (by rw [atI_n]; exact wayL_at hzg.l)
    refine a_nil ?_
    refine use_back ?_ w3 (by omega)
    refine o_adds ?_ (by rw [List.length_append, List.length_singleton, inv_len]; omega)
    refine a_nil ?_
    refine use_put_together ?_ ⟨let_app (let_app w1 hlc) (let_inv w3), by rw [List.length_append, List.length_append, List.length_singleton, inv_len]; omega⟩
    refine ⟨_, rfl, rfl, rfl, ?_, hil⟩
    rw [List.take_add_one, hzi]
    unfold tL
    rw [List.map_append, List.map_append]; rfl
  obtain ⟨rfl, rfl, rfl, _⟩ := hP
  rw [List.take_of_length_le (by rw [List.length_map]; exact Nat.le_refl _), hMe]
  intro H' s
  have n1 := s.nb _ List.mem_cons_self
  have hle : Le H B := fun b o e => l2 _ _ (l1 _ _ e)
  exact hq H' D k' N Ns (stp kn) (fun b o e => s.ext _ _ (hle _ _ e)) (by cases e : H D with | none => rfl | some o => rw [hle _ _ e] at n1; cases n1) (s.own _ List.mem_cons_self) hPS hSr
def bkX : Str := sOf [97, 98, 99, 100, 101, 102, 65, 66, 67, 68, 69, 70]
def bkY : Str := sOf [65, 66, 67, 68, 69, 70, 97, 98, 99, 100, 101, 102]
theorem pairs_at {c : Nat} (h : c ∈ ordL) : valV (mergeK [] (KvZ.zipK bkX bkY)) (.inr (sOf [c]) : Key) = some (.str (sOf [bk c])) := by
  simp only [ordL, List.mem_cons, List.not_mem_nil, or_false] at h
  rcases h with h | h | h | h | h | h | h | h | h | h | h | h <;> subst h <;> decide +kernel
abbrev s_law_back : Stmt := top 36
abbrev N_law_back : List Str := ["_law_word", "_law_pairs", "_law_letter"]
theorem sc_law_back : FnScope N_law_back ["_law_word"] (defScope s_law_back) := ⟨rfl, rfl, rfl, by decide +kernel, rfl, by decide +kernel, by decide +kernel⟩
def sp_law_back : Sp := fun vs H Q _ => ∃ l, vs = [.str (sOf l)] ∧ (Let l ∧ l.length ≤ 1000000) ∧ ∀ H', (∀ b o, H b = some o → H' b = some o) → Q (.str (sOf (inv l))) H'
theorem use_law_back {B : Hp} {L : HL} {Q : KQ} {E : XK} {l : List Nat} (q : Q (.str (sOf (inv l))) B L) (h : Let l) (hn : l.length ≤ 1000000) : ∀ H, Sat B L H → sp_law_back [.str (sOf l)] H (up Q) E := fun H s => ⟨l, rfl, ⟨h, hn⟩, fun H' e => s.upq e q⟩
theorem ok_law_back {f : Addr} {fd : FuncData} (F : Fun K "_law_back" "_law_back" s_law_back f fd) (hm : mg "_law_back" = some (.ref f)) (T : Tx mg) : Fn P w K mg base 1 "_law_back" sp_law_back := by
  refine fn_ok F sc_law_back hm (fun _ _ _ _ _ _ us hl => match us, hl with | [_], _ => rfl) ?_ fun cdv A outer s H vs Q E hr h tk po => ?_
  · rintro vs H Q E ⟨l, rfl, _⟩; rfl
  obtain ⟨l, rfl, ⟨hl, hn⟩, hq⟩ := h
  refine ⟨H, [], Sat.whole, ?_⟩
  refine k_cons ?_
  refine k_set 1 ?_ sc_law_back.nd
  refine k_dzip T.b_dict T.b_zip ?_
  refine a_cons ?_
  refine k_s [97, 98, 99, 100, 101, 102, 65, 66, 67, 68, 69, 70] ?_
  refine a_cons ?_
  refine k_s [65, 66, 67, 68, 69, 70, 97, 98, 99, 100, 101, 102] ?_
  refine a_nil ?_
  refine ⟨bkX, bkY, rfl, rfl, by decide, fun d => ?_⟩
  show kSs _ _ _ _ _ _
  have hun := hr.units
  refine k_one ?_
  refine k_ret ?_
  refine k_join ?_
  refine k_s [] ?_
  refine ⟨_, rfl, ?_⟩
  skip
  refine k_le (k_lcm_s (j := 2) (fun c => .str (sOf [bk c])) sc_law_back.nd (blkOk_by (N := N_law_back) (sc := defScope s_law_back) (by decide +kernel)) ?_)
  refine k_revs ?_
  refine k_n 0 ?_
  refine ⟨l, rfl, by omega, ?_⟩
  refine ⟨l.reverse, rfl, by rw [List.length_reverse]; omega, fun c hc D acc sb Hb Cb clb fpb => ?_, fun D => ?_⟩
  ·
    have hco := hl c (List.mem_reverse.mp hc)
    refine k_dget (Nat.lt_of_le_of_lt (Nat.add_le_add_left (by decide : 1 ≤ 64) _) hun) ?_
    refine k_n 1 ?_
    refine k_n 2 ?_
    refine ⟨d, _, .inr (sOf [c]), _, rfl, .inr (.tail _ (.head _)), rfl, pairs_at hco, ?_⟩
    exact ⟨rfl, rfl, rfl⟩
  skip
  refine m_join0 (ls := (inv l).map fun c => [c]) ?_ ?_ ?_
  · rw [← map_one]
    have e : l.reverse.map (fun c => V.str (sOf [bk c])) = (inv l).map one := by unfold inv; rw [← List.map_reverse, List.map_map]; rfl
    rw [← e]; exact Or.inr (List.Mem.head _)
  · rw [flat_one]
    exact fun H' s => hq H' s.ext
  · rw [flat_one, inv_len]; omega
/-! ### the law's ways -/
def fD (E : List Pf.Ent) : List (Key × V) := E.map fun e => (.inl (e.q : Nat), V.str (sOf e.w))
theorem fD_none : ∀ {E : List Pf.Ent} {p : Nat}, p ∉ E.map Pf.Ent.q → valV (fD E) (.inl (p : Nat) : Key) = none
  | [], _, _ => by unfold fD; exact valV_nil
  | e :: E, p, h => by
    have h1 : ¬ (.inl (e.q : Nat) : Key) = .inl (p : Nat) := fun z => h (by
      injection z with z
      have : e.q = p := by omega
      rw [← this]; exact List.mem_cons_self)
    show valV ((.inl (e.q : Nat), V.str (sOf e.w)) :: fD E) _ = none
    rw [valV_neg h1]
    exact fD_none fun k => h (.tail _ k)
theorem fD_some : ∀ {E : List Pf.Ent}, (E.map Pf.Ent.q).Nodup → ∀ e ∈ E, valV (fD E) (.inl (e.q : Nat) : Key) = some (.str (sOf e.w))
  | [], _, _, h => by cases h
  | y :: E, hn, e, h => by
    have hn' : y.q ∉ E.map Pf.Ent.q ∧ (E.map Pf.Ent.q).Nodup := List.nodup_cons.mp hn
    show valV ((.inl (y.q : Nat), V.str (sOf y.w)) :: fD E) _ = _
    rcases List.mem_cons.mp h with z | h
    · subst z; exact valV_pos rfl
    · have h1 : ¬ (.inl (y.q : Nat) : Key) = .inl (e.q : Nat) := fun z => hn'.1 (by
        injection z with z
        have : y.q = e.q := by omega
        rw [this]; exact List.mem_map.mpr ⟨e, h, rfl⟩)
      rw [valV_neg h1]
      exact fD_some hn'.2 e h
theorem fD_mem {E : List Pf.Ent} (hn : (E.map Pf.Ent.q).Nodup) (p : Nat) : (valV (fD E) (.inl (p : Nat) : Key)).isSome = decide (p ∈ E.map Pf.Ent.q) := by
  by_cases h : p ∈ E.map Pf.Ent.q
  · rw [decide_eq_true h]
    obtain ⟨e, he, rfl⟩ := List.mem_map.mp h
    rw [fD_some hn e he]; rfl
  · rw [decide_eq_false h, fD_none h]; rfl
def lenV (e : Pf.Ent) : List V := [.int (e.q : Nat), .str (sOf e.w)]
def lV (Z : List (Addr × Pf.Ent)) : List V := Z.map fun z => V.ref z.1
def LrM (H : Hp) (Z : List (Addr × Pf.Ent)) : Prop := ∀ z ∈ Z, H z.1 = some (.tup (lenV z.2))
theorem LrM.le {H H' : Hp} {Z : List (Addr × Pf.Ent)} (h : LrM H Z) (e : Le H H') : LrM H' Z := fun z hz => e _ _ (h z hz)
abbrev s_law_ways : Stmt := top 45
abbrev N_law_ways : List Str := ["_law_many", "_law_roads", "_law_steps_here", "_law_found", "_law_last", "_law_more", "_law_place", "_law_way", "_law_letter", "_law_there"]
theorem sc_law_ways : FnScope N_law_ways ["_law_many", "_law_roads"] (defScope s_law_ways) := ⟨rfl, rfl, rfl, by decide +kernel, rfl, by decide +kernel, by decide +kernel⟩
def sp_law_ways (K : PySem.W.Frag) : Sp := fun vs H Q _ => ∃ (a : Addr) (M : List (Addr × Road)) (k : Nat), vs = [.int (k : Nat), .ref a] ∧ SqL K H a (rV M) ∧ RdM K H M ∧ ((∀ z ∈ M, z.2.2.1 ∈ ltL) ∧ M.length ≤ 1000) ∧ ConsR (M.map (·.2)) ∧ Bel (lawF (M.map (·.2))) k ∧ (1 ≤ k ∧ k ≤ 1000) ∧ (∀ p, p < k → p ∈ (Pf.tree (stp (lawF (M.map (·.2)))) k).map Pf.Ent.q) ∧
  ∀ H' p, (∀ b o, H b = some o → H' b = some o) → H p = none → H' p = some (.lst (tL (wayL (stp (lawF (M.map (·.2)))) k))) → Q (.ref p) H'
theorem use_law_ways {B : Hp} {L : HL} {Q : KQ} {E : XK} {a : Addr} {M : List (Addr × Road)} {k : Nat} (hl : Ls K B L a (rV M)) (hM : RdM K B M) (h : (∀ z ∈ M, z.2.2.1 ∈ ltL) ∧ M.length ≤ 1000) (hc : ConsR (M.map (·.2))) (hB : Bel (lawF (M.map (·.2))) k) (hk : 1 ≤ k ∧ k ≤ 1000) (hp : ∀ p, p < k → p ∈ (Pf.tree (stp (lawF (M.map (·.2)))) k).map Pf.Ent.q)
    (q : ∀ p, Q (.ref p) B ((p, .lst (tL (wayL (stp (lawF (M.map (·.2)))) k))) :: L)) : ∀ H, Sat B L H → sp_law_ways K [.int (k : Nat), .ref a] H (up Q) E :=
  fun H s => ⟨a, M, k, rfl, hl.at s, hM.le s.ext, h, hc, hB, hk, hp, fun H' p e n1 h1 => ⟨B, _, s.new' n1 e h1, q p⟩⟩
theorem ok_law_ways {f : Addr} {fd : FuncData} (F : Fun K "_law_ways" "_law_ways" s_law_ways f fd) (hm : mg "_law_ways" = some (.ref f)) (T : Tx mg) (F_law_steps : Fn P w K mg base 1 "_law_steps" (sp_law_steps K)) : Fn P w K mg base 2 "_law_ways" (sp_law_ways K) := by
  refine fn_ok F sc_law_ways hm (fun _ _ _ _ _ _ us hl => match us, hl with | [_, _], _ => rfl) ?_ fun cdv A outer s H vs Q E hr h tk po => ?_
  · rintro vs H Q E ⟨_, _, _, rfl, _⟩; rfl
  obtain ⟨a, M, k, rfl, ha, hM, hMc, hC, hB, ⟨hk1, hk2⟩, hpk, hq⟩ := h
  have hTk := lawF_tab hC
  refine ⟨H, [], Sat.whole, ?_⟩
  refine k_cons ?_
  refine k_set 2 ?_ sc_law_ways.nd
  refine k_fn F_law_steps (hr.mono (by decide)) ?_
  refine a_cons ?_
  refine k_n 1 ?_
  refine a_nil ?_
  refine use_law_steps (M := M) (.inl ha) hM hMc fun d => ?_
  generalize lawF (M.map (·.2)) = kvs at *
  show kSs _ _ _ _ _ _
  refine k_norm (by simp only [L2.start, N_law_ways, List.map_cons, List.map_nil, List.length_cons, List.length_nil, Nat.reduceAdd, Nat.reduceSub, List.replicate_succ, List.replicate_zero, List.cons_append, List.nil_append, List.set_cons_succ, List.set_cons_zero]; exact rfl) ?_
  refine k_fz fun B0 l0 n0 e0 => ?_
  refine k_cons ?_
  refine k_set 3 ?_ sc_law_ways.nd
  refine k_dK1 fun pd => ?_
  refine k_int ?_
  refine ⟨.inl 0, rfl, ?_⟩
  refine k_s [] ?_
  refine ⟨_, .here, ?_⟩
  show kSs _ _ _ _ _ _
  refine k_norm (by simp only [L2.start, N_law_ways, List.map_cons, List.map_nil, List.length_cons, List.length_nil, Nat.reduceAdd, Nat.reduceSub, List.replicate_succ, List.replicate_zero, List.cons_append, List.nil_append, List.set_cons_succ, List.set_cons_zero]; exact rfl) ?_
  refine k_cons ?_
  refine k_set 4 ?_ sc_law_ways.nd
  refine k_lst ?_
  refine a_cons ?_
  refine e_fz1 ?_; refine k_tup ?_
  refine a_cons ?_
  refine k_int ?_
  refine a_cons ?_
  refine k_s [] ?_
  refine a_nil ?_
  refine ⟨by simp, fun pt => ⟨_, _, _, rfl, fun B1 l1 n1 e1 => ?_⟩⟩
  refine a_nil ?_
  refine ⟨by simp, fun pl0 => ?_⟩
  show kSs _ _ _ _ _ _
  refine k_norm (by simp only [L2.start, N_law_ways, List.map_cons, List.map_nil, List.length_cons, List.length_nil, Nat.reduceAdd, Nat.reduceSub, List.replicate_succ, List.replicate_zero, List.cons_append, List.nil_append, List.set_cons_succ, List.set_cons_zero]; exact rfl) ?_
  have hq0 : ∀ {E : List Pf.Ent}, Pf.Ok (stp kvs) E → (∀ e ∈ E, e.q < k) → E.length ≤ k := fun {E} hO hl => by
    have := few_len hO.nd fun p hp => by obtain ⟨z, hz, rfl⟩ := List.mem_map.mp hp; exact hl z hz
    rwa [List.length_map] at this
  refine k_cons ?_
  refine k_while (fun μ σ B L => ∃ (E : List Pf.Ent) (i : Nat) (Z : List (Addr × Pf.Ent)) (pl : Addr) (v5 v6 v7 v8 v9 : Option V), σ = [some (.int (k : Nat)), some (.ref a), some (.ref d), some (.ref pd), some (.ref pl), v5, v6, v7, v8, v9] ∧ Le B0 B ∧ List.Sublist [(pl, .lst (lV Z)), (pd, .dK (fD E))] L ∧ LrM B Z ∧ Z.map (·.2) = E.drop i ∧ Pf.Ok (stp kvs) E ∧ (∀ e ∈ E, e.q < k) ∧ Pf.treeF (stp kvs) (k - i) E i = Pf.tree (stp kvs) k ∧ i ≤ E.length ∧ μ = k - i) k po ⟨[Pf.root], 0, [(pt, Pf.root)], pl0, none, none, none, none, none, rfl, l1, List.Sublist.refl _, fun z hz => by rw [List.mem_singleton.mp hz]; exact e1, rfl, Pf.ok_root _, fun e he => by rw [List.mem_singleton.mp he]; exact hk1, rfl, Nat.zero_le _, rfl⟩ ?_
  rintro μ σ B L ⟨E, i, Z, pl, v5, v6, v7, v8, v9, rfl, hle, hsub, hZ, hZe, hO, hEl, hcf, hil, rfl⟩
  have hEm := hq0 hO hEl
  have hZl : Z.length = E.length - i := by have := congrArg List.length hZe; rw [List.length_map, List.length_drop] at this; exact this
  refine t_sub hsub ?_
  refine t_cmp ?_
  refine k_n 4 ?_
  refine k_lst ?_
  refine a_nil ?_
  refine ⟨by simp, fun p0 => ?_⟩
  refine o_neE (xs := lV Z) (le64 hr.units) (.inr (by walk_at "mm")) (.inr (by walk_at "mm")) ?_
  refine ⟨_, rfl, ?_⟩
  have ec : (!decide (lV Z = [])) = !decide (Z = []) := by
    cases Z with
    | nil => rfl
    | cons a l => rfl
  rw [ec]
  refine ⟨fun hk9 => ?_, fun hk9 => ?_⟩
  · have hZn : Z ≠ [] := by simpa using hk9
    have hiE : i < E.length := by
      have := List.length_pos_iff.mpr hZn
      omega
    refine k_sub (L' := [(pl, .lst (lV Z)), (pd, .dK (fD E))]) (List.sublist_cons_self _ _) ?_
    refine k_cons ?_
    refine k_set 5 ?_ sc_law_ways.nd
    refine k_lst ?_
    refine a_nil ?_
    refine ⟨by simp, fun pm => ?_⟩
    show kSs _ _ _ _ _ _
    refine k_norm (by simp only [L2.start, N_law_ways, List.map_cons, List.map_nil, List.length_cons, List.length_nil, Nat.reduceAdd, Nat.reduceSub, List.replicate_succ, List.replicate_zero, List.cons_append, List.nil_append, List.set_cons_succ, List.set_cons_zero]; exact rfl) ?_
    refine k_cons ?_
    refine k_for_l (fun j σ B L => ∃ (E' : List Pf.Ent) (Zm : List (Addr × Pf.Ent)) (v6 v7 v8 v9 : Option V), σ = [some (.int (k : Nat)), some (.ref a), some (.ref d), some (.ref pd), some (.ref pl), some (.ref pm), v6, v7, v8, v9] ∧ Le B0 B ∧ L = [(pm, .lst (lV Zm)), (pl, .lst (lV Z)), (pd, .dK (fD E'))] ∧ LrM B Z ∧ LrM B Zm ∧ (∃ z, E' = E ++ z ∧ Zm.map (·.2) = z) ∧ Pf.Ok (stp kvs) E' ∧ (∀ e ∈ E', e.q < k) ∧ Pf.treeF (stp kvs) (k - (i + j)) E' (i + j) = Pf.tree (stp kvs) k) po ?_
    refine k_n 4 ?_
    refine ⟨pl, lV Z, rfl, .inr (by walk_at "mm"), ⟨E, [], _, _, _, _, rfl, hle, rfl, hZ, fun _ z => (nomatch z), ⟨[], by simp, rfl⟩, hO, hEl, hcf⟩, ?_, ?_, ?_⟩
    · rintro j σ B L _ ⟨E', Zm, _, _, _, _, _, _, rfl, _⟩
      exact .inr (by walk_at "mm")
    · rintro j v σ B L hv ⟨E', Zm, w6, w7, w8, w9, rfl, hle', rfl, hZB, hZm, ⟨ze, hze, hze2⟩, hO', hEl', hcf'⟩
      obtain ⟨z, hz, rfl⟩ : ∃ z, Z[j]? = some z ∧ v = .ref z.1 := by unfold lV at hv; rw [List.getElem?_map] at hv; cases h : Z[j]? with | none => rw [h] at hv; cases hv | some z => rw [h] at hv; exact ⟨z, rfl, (Option.some.inj hv).symm⟩
      have hzm := List.mem_of_getElem? hz
      have hzE : E[i + j]? = some z.2 := by
        have h1 : (Z.map (·.2))[j]? = some z.2 := by rw [List.getElem?_map, hz]; rfl
        rw [hZe, List.getElem?_drop] at h1
        exact h1
      have hijl := (List.getElem?_eq_some_iff.mp hzE).1
      have hzE' : E'[i + j]? = some z.2 := by rw [hze, List.getElem?_append_left hijl]; exact hzE
      have hzE2 := List.mem_of_getElem? hzE'
      have hzl := (hO'.leads hzE2).2.1
      have hEm' := hq0 hO' hEl'
      have hzw := (hO'.leads hzE2).2.2
      rw [show k - (i + j) = (k - (i + (j + 1))) + 1 by omega, Pf.treeF_some hzE'] at hcf'
      refine g_tup (xs := lenV z.2) (.inl (.inl (.inl (hZB z hzm)))) rfl ?_
      refine gs_cons ?_
      refine g_name 6 ?_ sc_law_ways.nd
      refine gs_cons ?_
      refine g_name 7 ?_ sc_law_ways.nd
      refine gs_nil ?_
      show kSs _ _ _ _ _ _
      refine k_norm (by simp only [L2.start, N_law_ways, List.map_cons, List.map_nil, List.length_cons, List.length_nil, Nat.reduceAdd, Nat.reduceSub, List.replicate_succ, List.replicate_zero, List.cons_append, List.nil_append, List.set_cons_succ, List.set_cons_zero]; exact rfl) ?_
      refine k_one ?_
      refine k_for_s (fun t σ B L => ∃ (E2 : List Pf.Ent) (Zm : List (Addr × Pf.Ent)) (v8 v9 : Option V), σ = [some (.int (k : Nat)), some (.ref a), some (.ref d), some (.ref pd), some (.ref pl), some (.ref pm), some (.int (z.2.q : Nat)), some (.str (sOf z.2.w)), v8, v9] ∧ Le B0 B ∧ L = [(pm, .lst (lV Zm)), (pl, .lst (lV Z)), (pd, .dK (fD E2))] ∧ LrM B Z ∧ LrM B Zm ∧ (∃ z, E2 = E ++ z ∧ Zm.map (·.2) = z) ∧ Pf.Ok (stp kvs) E2 ∧ (∀ e ∈ E2, e.q < k) ∧ E2 = Pf.vE (stp kvs) z.2 (ordL.take t) E') po ?_
      refine k_s ordL ?_
      refine ⟨ordL, rfl, ⟨E', Zm, _, _, rfl, hle', rfl, hZB, hZm, ⟨ze, hze, hze2⟩, hO', hEl', rfl⟩, ?_, ?_⟩
      · rintro t c σ B L hc ⟨E2, Zm2, w8, w9, rfl, hle2, rfl, hZB2, hZm2, ⟨ze2, hze3, hze4⟩, hO2, hEl2, hE2⟩
        have hEm2 := hq0 hO2 hEl2
        have hvt := Pf.vE_take (st := stp kvs) (e := z.2) (E := E') hc
        rw [← hE2] at hvt
        have hzE3 : z.2 ∈ E2 := by
          obtain ⟨y, hy⟩ := Pf.vE_pre (stp kvs) z.2 (ordL.take t) E'
          rw [hE2, hy]; exact List.mem_append_left _ hzE2
        have hOv := Pf.v1_ok hO2 hzE3 (List.mem_of_getElem? hc)
        have hlo : Let [c] := fun x hx => by rw [List.mem_singleton.mp hx]; exact List.mem_of_getElem? hc
        have hZml : Zm2.length ≤ k := by have := congrArg List.length hze4; rw [List.length_map] at this; rw [hze3, List.length_append] at hEm2; omega
        refine g_name 8 ?_ sc_law_ways.nd
        refine k_norm (by simp only [L2.start, N_law_ways, List.map_cons, List.map_nil, List.length_cons, List.length_nil, Nat.reduceAdd, Nat.reduceSub, List.replicate_succ, List.replicate_zero, List.cons_append, List.nil_append, List.set_cons_succ, List.set_cons_zero]; exact rfl) ?_
        refine k_cons ?_
        refine k_set 9 ?_ sc_law_ways.nd
        refine k_getT hr.units ?_
        refine k_n 2 ?_
        refine ⟨d, kvs, rfl, .inl (hle2 _ _ e0), ?_⟩
        refine k_tup ?_
        refine a_cons ?_
        refine k_n 6 ?_
        refine a_cons ?_
        refine k_n 8 ?_
        refine a_nil ?_
        refine ⟨by simp, fun pk => ?_⟩
        refine ⟨kvs, stK (z.2.q, c), pk, .inl (hle2 _ _ e0), rfl, .inr List.mem_cons_self, ?_⟩
        rw [stp_val hTk.n]
        show kSs _ _ _ _ _ _
        refine k_norm (by simp only [L2.start, N_law_ways, List.map_cons, List.map_nil, List.length_cons, List.length_nil, Nat.reduceAdd, Nat.reduceSub, List.replicate_succ, List.replicate_zero, List.cons_append, List.nil_append, List.set_cons_succ, List.set_cons_zero]; exact rfl) ?_
        refine k_sub (L' := [(pm, .lst (lV Zm2)), (pl, .lst (lV Z)), (pd, .dK (fD E2))]) (List.sublist_cons_self _ _) ?_
        refine k_one ?_
        refine k_if ?_
        cases hs : stp kvs (z.2.q, c) with
        | none =>
          refine t_w ?_
          refine w_andP ?_
          refine t_cmp ?_
          refine k_n 9 ?_
          refine k_non ?_
          walk_at "opIsNot"
          refine ⟨_, rfl, ?_⟩
          refine ⟨false, fun z => (by simp [oN] at z), ?_⟩
          refine ⟨fun z => (by simp [oN] at z), fun _ => ?_⟩
          refine k_nil ?_
          refine ⟨E2, Zm2, _, _, rfl, hle2, rfl, hZB2, hZm2, ⟨ze2, hze3, hze4⟩, hO2, hEl2, ?_⟩
          rw [hvt]
          unfold Pf.v1
          rw [hs]
        | some q =>
          refine t_w ?_
          refine w_andP ?_
          refine t_cmp ?_
          refine k_n 9 ?_
          refine k_non ?_
          walk_at "opIsNot"
          refine ⟨_, rfl, ?_⟩
          apply Exists.intro; refine ⟨fun hk => ?_, ?_⟩
          {
          refine w_and1 ?_
          refine t_cmp ?_
          refine k_n 9 ?_
          refine k_n 3 ?_
          refine o_ninK (k := .inl (q : Nat)) hr.units (.inr (by walk_at "mm")) ?_; rw [fD_mem hO2.nd]
          refine ⟨_, rfl, ?_⟩
          exact ⟨rfl, rfl, by walk_at "sfx"⟩
          all_goals (try walk_at "side")
          }
          refine ⟨fun hk2 => ?_, fun hk2 => ?_⟩
          · have hqg : q ∉ E2.map Pf.Ent.q := by have h9 := hk2; revert h9; simp [oN]
            have hv1 : Pf.v1 (stp kvs) z.2 E2 c = E2 ++ [⟨q, [c], z.2.q, z.2.w ++ [c]⟩] := by
              unfold Pf.v1
              rw [hs]
              dsimp only
              rw [if_neg hqg]
            have hwl : z.2.w.length + ([c] : List Nat).length ≤ 16777216 := by rw [List.length_singleton]; omega
            refine k_cons ?_
            refine k_asg ?_
            refine k_bin ?_
            refine k_n 7 ?_
            refine k_n 8 ?_
            refine o_adds ?_ hwl
            refine g_setd (Nat.lt_of_le_of_lt (Nat.add_le_add_left (by decide) _) hr.units) ?_
            refine k_n 3 ?_
            refine k_n 9 ?_
            refine ⟨pd, fD E2, .inl (q : Nat), _, rfl, rfl, .there (.there .here), by unfold fD; rw [List.length_map]; omega, ?_⟩
            rw [putK_new (fD_none hqg)]
            show kSs _ _ _ _ _ _
            refine k_one ?_
            refine k_expr ?_
            refine e_fz1 ?_
            refine k_m PySem.F.plainAttrs_list PySem.F.slot_list_append PySem.F.type_list_append ?_
            refine k_n 5 ?_
            refine ⟨ty_l (xs := lV Zm2) (.inr (by walk_at "mm")), ?_⟩
            refine a_cons ?_
            refine k_tup ?_
            refine a_cons ?_
            refine k_n 9 ?_
            refine a_cons ?_
            refine k_bin ?_
            refine k_n 7 ?_
            refine k_n 8 ?_
            refine o_adds ?_ hwl
            refine a_nil ?_
            refine ⟨by simp, fun pn => ?_⟩
            refine a_nil ?_
            refine m_append (xs := lV Zm2) (by walk_at "rep") ?_ (by unfold lV; rw [List.length_map]; omega)
            refine ⟨pn, _, _, rfl, fun B3 l3 n3 e3 => ?_⟩
            refine ⟨E2 ++ [⟨q, [c], z.2.q, z.2.w ++ [c]⟩], Zm2 ++ [(pn, ⟨q, [c], z.2.q, z.2.w ++ [c]⟩)], _, _, rfl, fun b o e => l3 _ _ (hle2 _ _ e), ?_, hZB2.le l3, fun y hy => ?_, ⟨ze2 ++ [⟨q, [c], z.2.q, z.2.w ++ [c]⟩], by rw [hze3, List.append_assoc], by rw [List.map_append, hze4]; rfl⟩, by rw [← hv1]; exact hOv, fun y hy => ?_, by rw [hvt, hv1]⟩
            · unfold lV fD
              rw [List.map_append, List.map_append]; rfl
            · rcases List.mem_append.mp hy with hy | hy
              · exact l3 _ _ (hZm2 y hy)
              · rw [List.mem_singleton.mp hy]; exact e3
            · rcases List.mem_append.mp hy with hy | hy
              · exact hEl2 y hy
              · rw [List.mem_singleton.mp hy]; exact hB _ _ hs
          · have hqg : q ∈ E2.map Pf.Ent.q := by have h9 := hk2; revert h9; simp [oN]
            refine k_nil ?_
            refine ⟨E2, Zm2, _, _, rfl, hle2, rfl, hZB2, hZm2, ⟨ze2, hze3, hze4⟩, hO2, hEl2, ?_⟩
            rw [hvt]
            unfold Pf.v1
            rw [hs]
            dsimp only
            rw [if_pos hqg]
      · rintro σ B L ⟨E2, Zm2, w8, w9, rfl, hle2, rfl, hZB2, hZm2, hze2, hO2, hEl2, hE2⟩
        rw [List.take_length] at hE2
        refine ⟨E2, Zm2, _, _, _, _, rfl, hle2, rfl, hZB2, hZm2, hze2, hO2, hEl2, ?_⟩
        rw [hE2]
        exact hcf'
    · rintro σ B L ⟨E', Zm, w6, w7, w8, w9, rfl, hle', rfl, hZB, hZm, ⟨ze, hze, hze2⟩, hO', hEl', hcf'⟩
      have e9 : (lV Z).length = E.length - i := by unfold lV; rw [List.length_map, hZl]
      rw [e9, show i + (E.length - i) = E.length by omega] at hcf'
      refine k_one ?_
      refine k_set 4 ?_ sc_law_ways.nd
      refine k_n 5 ?_
      refine ⟨k - E.length, by omega, E', E.length, Zm, pm, _, _, _, _, _, rfl, hle', by repeat (first | exact List.Sublist.refl _ | apply List.Sublist.cons_cons | apply List.Sublist.cons), hZm, by rw [hze2, hze, List.drop_left], hO', hEl', hcf', by rw [hze, List.length_append]; omega, rfl⟩
  · have hZn : Z = [] := by simpa using hk9
    have hiE : E.length ≤ i := by rw [hZn] at hZl; simp at hZl; omega
    rw [Pf.treeF_none (List.getElem?_eq_none hiE)] at hcf
    refine k_sub (L' := [(pd, .dK (fD E))]) (by repeat (first | exact List.Sublist.refl _ | apply List.Sublist.cons)) ?_
    refine k_one ?_
    refine k_ret ?_
    refine k_le (k_lcv_r1 (j := 6) (fun i acc B' L => B' = B ∧ L = [(pd, .dK (fD E))] ∧ i ≤ k ∧ acc = tL ((List.range i).map fun p => wy (stp kvs) k p)) sc_law_ways.nd (blkOk_by (N := N_law_ways) (sc := defScope s_law_ways) (by decide +kernel)) T.b_range ?_)
    refine k_n 0 ?_
    refine ⟨k, rfl, by omega, ⟨rfl, rfl, Nat.zero_le _, rfl⟩, ?_, fun acc B' L D hP => ?_⟩
    · rintro i acc B' L hi ⟨rfl, rfl, _, rfl⟩
      refine ⟨by unfold tL; simp, fun D s0 H0 C0 cl0 fp0 => ?_⟩
      refine k_dget (Nat.lt_of_le_of_lt (Nat.add_le_add_left (by decide) _) hr.units) ?_
      refine k_n 3 ?_
      refine k_n 6 ?_
      refine ⟨pd, fD E, .inl (i : Nat), .str (sOf (wy (stp kvs) k i)), rfl, .inr (by walk_at "mm"), rfl, ?_, ?_⟩
      · obtain ⟨h1, h2⟩ := Pf.ent_at (hpk i hi)
        have h3 := fD_some hO.nd (Pf.ent (Pf.tree (stp kvs) k) i) (by rw [hcf]; exact h1)
        rw [h2] at h3
        exact h3
      refine ⟨[(pd, .dK (fD E))], rfl, rfl, rfl, hi, ?_⟩
      unfold tL
      rw [List.range_succ, List.map_append, List.map_append]; rfl
    obtain ⟨rfl, rfl, _, rfl⟩ := hP
    intro H' s
    have n1 := s.nb _ List.mem_cons_self
    have hle9 : Le H B' := fun b o e => hle _ _ (l0 _ _ e)
    exact hq H' D (fun b o e => s.ext _ _ (hle9 _ _ e)) (by cases e : H D with | none => rfl | some o => rw [hle9 _ _ e] at n1; cases n1) (s.own _ List.mem_cons_self)
abbrev s_law_fewest : Stmt := top 46
abbrev N_law_fewest : List Str := ["_law_many", "_law_roads", "_law_ways_due", "_law_found", "_law_first", "_law_letter", "_law_last"]
theorem sc_law_fewest : FnScope N_law_fewest ["_law_many", "_law_roads"] (defScope s_law_fewest) := ⟨rfl, rfl, rfl, by decide +kernel, rfl, by decide +kernel, by decide +kernel⟩
def fewL2 (st : Pw.Sf) (k : Nat) (N : List Road) : List (List Nat) := (N.filter fun r => !Pf.wayB (Pf.tree st k) r).map (fewW st k)
def sp_law_fewest (K : PySem.W.Frag) : Sp := fun vs H Q _ => ∃ (a : Addr) (M : List (Addr × Road)) (k : Nat), vs = [.int (k : Nat), .ref a] ∧ SqL K H a (rV M) ∧ RdM K H M ∧ (∀ z ∈ M, GoodR k z.2) ∧ M.length ≤ 1000 ∧ ConsR (M.map (·.2)) ∧ (1 ≤ k ∧ k ≤ 1000) ∧ (∀ p, p < k → p ∈ (Pf.tree (stp (lawF (M.map (·.2)))) k).map Pf.Ent.q) ∧
  ∀ H' p, (∀ b o, H b = some o → H' b = some o) → H p = none → H' p = some (.lst (tL (fewL2 (stp (lawF (M.map (·.2)))) k (M.map (·.2))))) → Q (.ref p) H'
theorem use_law_fewest {B : Hp} {L : HL} {Q : KQ} {E : XK} {a : Addr} {M : List (Addr × Road)} {k : Nat} (hl : Ls K B L a (rV M)) (hM : RdM K B M) (hg : ∀ z ∈ M, GoodR k z.2) (hn : M.length ≤ 1000) (hc : ConsR (M.map (·.2))) (hk : 1 ≤ k ∧ k ≤ 1000) (hp : ∀ p, p < k → p ∈ (Pf.tree (stp (lawF (M.map (·.2)))) k).map Pf.Ent.q)
    (q : ∀ p, Q (.ref p) B ((p, .lst (tL (fewL2 (stp (lawF (M.map (·.2)))) k (M.map (·.2))))) :: L)) : ∀ H, Sat B L H → sp_law_fewest K [.int (k : Nat), .ref a] H (up Q) E :=
  fun H s => ⟨a, M, k, rfl, hl.at s, hM.le s.ext, hg, hn, hc, hk, hp, fun H' p e n1 h1 => ⟨B, _, s.new' n1 e h1, q p⟩⟩
theorem wy_of {st : Pw.Sf} {k p : Nat} (h : p ∈ (Pf.tree st k).map Pf.Ent.q) (hl : (Pf.tree st k).length ≤ 1000) : Let (wy st k p) ∧ (wy st k p).length ≤ 1000 := by
  obtain ⟨h1, h2⟩ := Pf.ent_at h
  obtain ⟨h3, h4, h5⟩ := (Pf.tree_ok st k).leads h1
  exact ⟨h5, by unfold wy; omega⟩
theorem ok_law_fewest {f : Addr} {fd : FuncData} (F : Fun K "_law_fewest" "_law_fewest" s_law_fewest f fd) (hm : mg "_law_fewest" = some (.ref f)) (T : Tx mg) (F_law_ways : Fn P w K mg base 2 "_law_ways" (sp_law_ways K)) (F_law_free : Fn P w K mg base 1 "_law_free" sp_law_free) (F_law_back : Fn P w K mg base 1 "_law_back" sp_law_back) : Fn P w K mg base 3 "_law_fewest" (sp_law_fewest K) := by
  refine fn_ok F sc_law_fewest hm (fun _ _ _ _ _ _ us hl => match us, hl with | [_, _], _ => rfl) ?_ fun cdv A outer s H vs Q E hr h tk po => ?_
  · rintro vs H Q E ⟨_, _, _, rfl, _⟩; rfl
  obtain ⟨a, M, k, rfl, ha, hM, hg, hMl, hC, ⟨hk1, hk2⟩, hpk, hq⟩ := h
  have hTk := lawF_tab hC
  have hgU : ∀ r ∈ M.map (·.2), GoodR k r := fun r hr => by obtain ⟨z, hz, rfl⟩ := List.mem_map.mp hr; exact hg z hz
  have hB := bel_of hTk hgU
  have htl : (Pf.tree (stp (lawF (M.map (·.2)))) k).length ≤ 1000 := Nat.le_trans (Pf.tree_len (m := k) hB hk1) hk2
  refine ⟨H, [], Sat.whole, ?_⟩
  refine k_cons ?_
  refine k_set 2 ?_ sc_law_fewest.nd
  refine k_fn F_law_ways (hr.mono (by decide)) ?_
  refine a_cons ?_
  refine k_n 0 ?_
  refine a_cons ?_
  refine k_n 1 ?_
  refine a_nil ?_
  refine use_law_ways (M := M) (.inl ha) hM ⟨fun z hz => (hg z hz).c, hMl⟩ hC hB ⟨hk1, hk2⟩ hpk fun pw => ?_
  generalize stp (lawF (M.map (·.2))) = st at *
  show kSs _ _ _ _ _ _
  refine k_norm (by simp only [L2.start, N_law_fewest, List.map_cons, List.map_nil, List.length_cons, List.length_nil, Nat.reduceAdd, Nat.reduceSub, List.replicate_succ, List.replicate_zero, List.cons_append, List.nil_append, List.set_cons_succ, List.set_cons_zero]; exact rfl) ?_
  refine k_cons ?_
  refine k_set 3 ?_ sc_law_fewest.nd
  refine k_lst ?_
  refine a_nil ?_
  refine ⟨by simp, fun pf => ?_⟩
  show kSs _ _ _ _ _ _
  refine k_norm (by simp only [L2.start, N_law_fewest, List.map_cons, List.map_nil, List.length_cons, List.length_nil, Nat.reduceAdd, Nat.reduceSub, List.replicate_succ, List.replicate_zero, List.cons_append, List.nil_append, List.set_cons_succ, List.set_cons_zero]; exact rfl) ?_
  refine k_cons ?_
  refine k_for_l (fun i σ B L => ∃ (v4 v5 v6 : Option V), σ = [some (.int (k : Nat)), some (.ref a), some (.ref pw), some (.ref pf), v4, v5, v6] ∧ H = B ∧ L = [(pf, .lst (tL (fewL2 st k ((M.map (·.2)).take i)))), (pw, .lst (tL (wayL st k)))]) po ?_
  refine k_n 1 ?_
  refine ⟨a, rV M, rfl, .inl ha, ⟨_, _, _, rfl, rfl, rfl⟩, ?_, ?_, ?_⟩
  · rintro i σ B L _ ⟨_, _, _, _, rfl, _⟩
    exact .inl ha
  · rintro i v σ B L hv ⟨v4, v5, v6, rfl, rfl, rfl⟩
    obtain ⟨z, hz, rfl⟩ : ∃ z, M[i]? = some z ∧ v = .ref z.1 := by unfold rV at hv; rw [List.getElem?_map] at hv; cases h : M[i]? with | none => rw [h] at hv; cases hv | some z => rw [h] at hv; exact ⟨z, rfl, (Option.some.inj hv).symm⟩
    have hil := (List.getElem?_eq_some_iff.mp hz).1
    have hzm := List.mem_of_getElem? hz
    have hzi : (M.map (·.2))[i]? = some z.2 := by rw [List.getElem?_map, hz]; rfl
    have hzg := hg z hzm
    obtain ⟨w1, w2⟩ := wy_of (hpk _ hzg.f) htl
    obtain ⟨w3, w4⟩ := wy_of (hpk _ hzg.l) htl
    have hlc : Let [z.2.2.1] := fun c hc => by rw [List.mem_singleton.mp hc]; exact lt_ord hzg.c
    have hfl : (fewL2 st k ((M.map (·.2)).take i)).length ≤ 1000 := by unfold fewL2; rw [List.length_map]; exact Nat.le_trans (List.length_filter_le _ _) (by rw [List.length_take]; omega)
    refine g_tup (xs := rdV z.2) (.inl (hM z hzm)) rfl ?_
    refine gs_cons ?_
    refine g_name 4 ?_ sc_law_fewest.nd
    refine gs_cons ?_
    refine g_name 5 ?_ sc_law_fewest.nd
    refine gs_cons ?_
    refine g_name 6 ?_ sc_law_fewest.nd
    refine gs_nil ?_
    show kSs _ _ _ _ _ _
    refine k_norm (by simp only [L2.start, N_law_fewest, List.map_cons, List.map_nil, List.length_cons, List.length_nil, Nat.reduceAdd, Nat.reduceSub, List.replicate_succ, List.replicate_zero, List.cons_append, List.nil_append, List.set_cons_succ, List.set_cons_zero]; exact rfl) ?_
    refine k_one ?_
    refine k_if ?_
    refine t_w ?_
    refine w_andP ?_
    refine t_cmp ?_
    refine k_ix ?_
    refine k_n 2 ?_
    refine k_n 6 ?_
    refine i_lv (.str (sOf (wy st k z.2.2.2))) (xs := tL (wayL st k)) (.inr (by walk_at "mm")) ?_ (by rw [atI_n]; exact wayL_at hzg.l)
    refine k_bin ?_
    refine k_ix ?_
    refine k_n 2 ?_
    refine k_n 4 ?_
    refine i_lv (.str (sOf (wy st k z.2.1))) (xs := tL (wayL st k)) (.inr (by walk_at "mm")) ?_ (by rw [atI_n]; exact wayL_at hzg.f)
    refine k_n 5 ?_
    refine o_adds ?_ (by rw [List.length_singleton]; omega)
    walk_at "opNotEq"
    refine ⟨_, rfl, ?_⟩
    apply Exists.intro; refine ⟨fun hk => ?_, ?_⟩
    {
    refine w_and1 ?_
    refine t_cmp ?_
    refine k_ix ?_
    refine k_n 2 ?_
    refine k_n 4 ?_
    refine i_lv (.str (sOf (wy st k z.2.1))) (xs := tL (wayL st k)) (.inr (by walk_at "mm")) ?_ (by rw [atI_n]; exact wayL_at hzg.f)
    refine k_bin ?_
    refine k_ix ?_
    refine k_n 2 ?_
    refine k_n 6 ?_
    refine i_lv (.str (sOf (wy st k z.2.2.2))) (xs := tL (wayL st k)) (.inr (by walk_at "mm")) ?_ (by rw [atI_n]; exact wayL_at hzg.l)
    refine k_supper ?_
    refine k_n 5 ?_
    refine ⟨_, rfl, ?_⟩
    skip
    refine m_upper (up_lt hzg.c) ?_ (Nat.le_of_ble_eq_true rfl)
    refine o_adds ?_ (by rw [List.length_singleton]; omega)
    walk_at "opNotEq"
    refine ⟨_, rfl, ?_⟩
    exact ⟨rfl, rfl, by walk_at "sfx"⟩
    all_goals (try walk_at "side")
    }
    have eo : (!decide (wy st k z.2.2.2 = wy st k z.2.1 ++ [z.2.2.1]) && !decide (wy st k z.2.1 = wy st k z.2.2.2 ++ [bk z.2.2.1])) = !Pf.wayB (Pf.tree st k) z.2 := by
      unfold Pf.wayB
      rw [Bool.not_or]; rfl
    rw [eo]
    have hstep : fewL2 st k ((M.map (·.2)).take (i + 1)) = fewL2 st k ((M.map (·.2)).take i) ++ if (!Pf.wayB (Pf.tree st k) z.2) = true then [fewW st k z.2] else [] := by
      unfold fewL2
      rw [List.take_add_one, hzi, List.filter_append, List.map_append]
      congr 1
      show List.map _ (List.filter _ [z.2]) = _
      rw [List.filter_cons]
      split <;> rfl
    refine ⟨fun hk => ?_, fun hk => ?_⟩
    · rw [if_pos hk] at hstep
      refine k_one ?_
      refine k_expr ?_
      refine k_m PySem.F.plainAttrs_list PySem.F.slot_list_append PySem.F.type_list_append ?_
      refine k_n 3 ?_
      refine ⟨ty_l (xs := tL (fewL2 st k ((M.map (·.2)).take i))) (.inr (by walk_at "mm")), ?_⟩
      refine a_cons ?_
      refine k_fn F_law_free (hr.mono (by decide)) ?_
      refine a_cons ?_
      refine k_bin ?_
      refine k_bin ?_
      refine k_ix ?_
      refine k_n 2 ?_
      refine k_n 4 ?_
      refine i_lv (.str (sOf (wy st k z.2.1))) (xs := tL (wayL st k)) (.inr (by walk_at "mm")) ?_ (by rw [atI_n]; exact wayL_at hzg.f)
      refine k_n 5 ?_
      refine o_adds ?_ (by rw [List.length_singleton]; omega)
      refine k_fn F_law_back (hr.mono (by decide)) ?_
      refine a_cons ?_
      refine k_ix ?_
      refine k_n 2 ?_
      refine k_n 6 ?_
      refine i_lv (.str (sOf (wy st k z.2.2.2))) (xs := tL (wayL st k)) (.inr (by walk_at "mm")) ?_ (by rw [atI_n]; exact wayL_at hzg.l)
      refine a_nil ?_
      refine use_law_back ?_ w3 (by omega)
      refine o_adds ?_ (by rw [List.length_append, List.length_singleton, inv_len]; omega)
      refine a_nil ?_
      refine use_law_free ?_ ⟨let_app (let_app w1 hlc) (let_inv w3), by rw [List.length_append, List.length_append, List.length_singleton, inv_len]; omega⟩
      refine a_nil ?_
      refine m_append (xs := tL (fewL2 st k ((M.map (·.2)).take i))) .here ?_ (by unfold tL; rw [List.length_map]; omega)
      refine ⟨_, _, _, rfl, rfl, ?_⟩
      rw [hstep]
      unfold tL
      rw [List.map_append]; rfl
    · rw [if_neg (by rw [hk]; decide), List.append_nil] at hstep
      refine k_nil ?_
      exact ⟨_, _, _, rfl, rfl, by rw [hstep]⟩
  · rintro σ B L ⟨v4, v5, v6, rfl, rfl, rfl⟩
    refine k_one ?_
    refine k_ret ?_
    refine k_n 3 ?_
    have e9 : (M.map (·.2)).take (rV M).length = M.map (·.2) := List.take_of_length_le (by unfold rV; rw [List.length_map, List.length_map]; exact Nat.le_refl _)
    rw [e9]
    exact fun H' s => hq H' pf s.ext (s.nb _ List.mem_cons_self) (s.own _ List.mem_cons_self)
theorem wd_isW {l : List Nat} (h : Let l) (hn : l.length ≤ 60) : isW (red l) = true := (isW_iff _).mpr ⟨Nat.le_trans (red_len l) hn, let_red h, rd_red l⟩
theorem PlW.bel {U V N : List Road} {k : Nat} {kv kn : Dct} (h : PlW U k N) (e : ∀ r, r ∈ U ↔ r ∈ V) (hv : Tab kv (V.flatMap arcs)) (hn : Tab kn (N.flatMap arcs)) {l : List Nat} (hw : isW l = true) : wlk kn l (some 0) = some 0 ↔ wlk kv l (some 0) = some 0 := by
  obtain ⟨_, _, _, _, _, h⟩ := h
  have e1 := h.i.uniq (tab_is hv) e
  have := h.belongs (tab_is hn) (rd_iff.mp ((isW_iff l).mp hw).2.2)
  rw [e1] at this
  exact this
theorem PlW.empty {U N : List Road} {k : Nat} (h : PlW U k N) (e : ∀ r, r ∈ U → False) : k = 1 ∧ N = [] := by
  obtain ⟨st, stT, S, T, ord, h⟩ := h
  have hT : ∀ r, r ∈ T → False := fun r hr => e r (h.tu r hr)
  have hN : N = [] := List.eq_nil_iff_forall_not_mem.mpr fun r hr => by
    obtain ⟨x, hx, _⟩ := (h.n r).mp hr
    exact hT x hx
  have hT0 : T = [] := List.eq_nil_iff_forall_not_mem.mpr fun r hr => hT r hr
  refine ⟨?_, hN⟩
  obtain ⟨n, e1, _⟩ := h.o.e
  have h2 := Pw.come_few h.it (n := n) (f := [0]) (i := 0) ⟨[], List.nodup_nil, fun _ z => (nomatch z), Nat.le_refl _⟩
  rw [← e1, hT0] at h2
  obtain ⟨z, e2⟩ := h.o.zero
  have : 1 ≤ ord.length := by rw [e2, List.length_cons]; omega
  rw [h.k]
  simp at h2
  omega
theorem cons_nil : ConsR [] := fun _ _ _ z => (nomatch z)
theorem PlW.mem {U N N' : List Road} {k : Nat} (h : PlW U k N) (e : ∀ r, r ∈ N ↔ r ∈ N') : PlW U k N' := by
  obtain ⟨st, stT, S, T, ord, h⟩ := h
  exact ⟨st, stT, S, T, ord, h.un, h.lt, h.i, h.l, h.sn, h.t, h.it, h.o, h.k, fun r => (e r).symm.trans (h.n r)⟩
theorem PlW.few {U N : List Road} {k m : Nat} (h : PlW U k N) (hg : ∀ r ∈ U, GoodR m r) (hm : 1 ≤ m) : 1 ≤ k ∧ k ≤ m := by
  obtain ⟨st, stT, S, T, ord, h⟩ := h
  obtain ⟨z, e⟩ := h.o.zero
  have hR : ∀ x, Pw.Rs stT x → x < m := fun x k => by
    induction k with
    | z => omega
    | s _ e2 _ =>
      obtain ⟨r, hr, d⟩ := Pw.mem_arcs.mp ((h.it _ _).mp e2)
      rcases d with ⟨_, rfl⟩ | ⟨_, rfl⟩
      · exact (hg r (h.tu r hr)).l
      · exact (hg r (h.tu r hr)).f
  have := few_len h.o.nd fun x hx => hR x ((h.mem x).mp hx)
  rw [h.k]
  exact ⟨by rw [e, List.length_cons]; omega, this⟩
/-- the law's plain web -/
theorem plS_law {U N Ns : List Road} {k m : Nat} (h : PlW U k N) (hs : Srt N Ns) (hg : ∀ r ∈ U, GoodR m r) (hm : 1 ≤ m ∧ m ≤ 200) : ConsR Ns ∧ PlS U k Ns (stp (lawF Ns)) := by
  have h' := h.mem fun r => (hs.mem r).symm
  have hk := h.few hg hm.1
  obtain ⟨st, stT, S, T, ord, h2⟩ := h'
  have hc := is_cons h2.cons
  exact ⟨hc, ⟨U, fun _ => Iff.rfl, _, _, _, _, _, h2⟩, tab_is (lawF_tab hc), hs.nd, fun r hr => ⟨(h2.good hr).1, (h2.good hr).2.1, (h2.good hr).2.2⟩, hk.1, by omega⟩
theorem fewL_eq {rs N : List Road} {k : Nat} {st : Pw.Sf} (h : PlS rs k N st) : fewL st k N = fewL2 st k N := by
  unfold fewL fewL2
  congr 1
  refine List.filter_congr fun r hr => ?_
  unfold outB
  rw [Pf.tree_way (Pf.tree_ok st k) (h.inE (h.g r hr).f) (h.inE (h.g r hr).l)]
theorem part_len {α : Type} (f : α → Bool) : ∀ l : List α, l.length = (l.filter f).length + (l.filter fun x => !f x).length
  | [] => rfl
  | a :: l => by
    rw [List.length_cons, part_len f l, List.filter_cons, List.filter_cons]
    cases f a
    · simp; omega
    · simp; omega
theorem fewL_len {rs N : List Road} {k : Nat} {st : Pw.Sf} (h : PlS rs k N st) : ((fewL st k N).length : Int) = (N.length : Int) - (k : Nat) + 1 := by
  have h1 := Pf.tree_count (Pf.tree_ok st k) h.n (fun r hr => (h.g r hr).c) h.i fun r hr => ⟨h.inE (h.g r hr).f, h.inE (h.g r hr).l⟩
  rw [h.len] at h1
  have h2 := part_len (Pf.treeB (Pf.tree st k)) N
  have h3 : (fewL st k N).length = (N.filter fun x => !Pf.treeB (Pf.tree st k) x).length := by unfold fewL; rw [List.length_map]; rfl
  rw [h3]
  omega
theorem wayL_small {rs N : List Road} {k : Nat} {st : Pw.Sf} (h : PlS rs k N st) : ∀ l ∈ wayL st k, ∀ c ∈ l, c < 1114112 := fun l hl => by
  obtain ⟨p, hp, rfl⟩ := List.mem_map.mp hl
  exact let_small (h.wy (List.mem_range.mp hp)).1
theorem few_word {rs N : List Road} {k : Nat} {st : Pw.Sf} (h : PlS rs k N st) {l : List Nat} (hl : l ∈ fewL st k N) : Let l ∧ l.length ≤ 2 * k ∧ red l = l ∧ Pw.wlk st l (some 0) = some 0 := by
  obtain ⟨r, hr, rfl⟩ := List.mem_map.mp hl
  have hrN := (List.mem_filter.mp hr).1
  have hg := h.g r hrN
  obtain ⟨w1, w2, _⟩ := h.wy hg.f
  obtain ⟨w3, w4, _⟩ := h.wy hg.l
  have hlc : Let [r.2.1] := fun c hc => by rw [List.mem_singleton.mp hc]; exact lt_ord hg.c
  obtain ⟨a1, a2⟩ := Pf.ent_at (h.inE hg.f)
  obtain ⟨b1, b2⟩ := Pf.ent_at (h.inE hg.l)
  refine ⟨let_red (let_app (let_app w1 hlc) (let_inv w3)), ?_, ?_, ?_⟩
  · refine Nat.le_trans (red_len _) ?_
    rw [List.length_append, List.length_append, inv_len]
    simp; omega
  · exact red_of_rd (rd_red _)
  · exact Pf.few_leads (Pf.rev_of h.i) (Pf.tree_ok st k) a1 b1 (by rw [a2, b2]; exact h.i.fwd hrN)
theorem fewL_small {rs N : List Road} {k : Nat} {st : Pw.Sf} (h : PlS rs k N st) : ∀ l ∈ fewL st k N, ∀ c ∈ l, c < 1114112 := fun l hl => let_small (few_word h hl).1
theorem cut_lst {α : Type} (xs : List α) (v : α) : cut (xs ++ [v]) none (some (-1)) = xs := by
  unfold cut
  rw [HT.sIx_none]
  have e : HT.sIx (xs ++ [v]).length (xs ++ [v]).length (some (-1)) = xs.length := by
    rw [List.length_append, List.length_singleton]
    unfold HT.sIx
    simp
    omega
  rw [e]
  simp
theorem way_one {st : Pw.Sf} : wayL st 1 = [[]] := by
  have h := Pf.tree_ok st 1
  have := Pf.ent_of h h.root_mem
  show [(Pf.ent (Pf.tree st 1) 0).w] = [[]]
  have e : Pf.ent (Pf.tree st 1) 0 = Pf.root := this
  rw [e]; rfl
theorem tL_len (ws : List (List Nat)) : (tL ws).length = ws.length := List.length_map _
theorem tL_snoc (ws : List (List Nat)) (l : List Nat) : tL ws ++ [V.str (sOf l)] = tL (ws ++ [l]) := by unfold tL; rw [List.map_append]; rfl
theorem ways_of {rs Ns : List Road} {k : Nat} {st : Pw.Sf} (h : PlS rs k Ns st) : ∃ WY, (∀ k' N' st', PlS rs k' N' st' → wayL st' k' = WY) ∧ wayL st k = WY ∧ (∀ l ∈ WY, ∀ c ∈ l, c < 1114112) ∧ WY.length ≤ 200 := by
  refine ⟨wayL st k, fun k' N' st' h' => ?_, rfl, wayL_small h, ?_⟩
  · obtain ⟨e1, e2, _⟩ := h.uniq h' (fun _ => Iff.rfl)
    rw [e1, e2]
  · unfold wayL
    rw [List.length_map, List.length_range]
    exact h.kk.2
theorem fews_of {rs N2 Ns : List Road} {k : Nat} {st : Pw.Sf} {kv : Dct} (h : PlS rs k Ns st) (hs : Srt N2 Ns) (hk : k ≤ 30) (hb : ∀ l, isW l = true → Pw.wlk st l (some 0) = some 0 → wlk kv l (some 0) = some 0) : ∃ FW, (∀ k' N' Ns' st', PlS rs k' N' st' → Srt N' Ns' → fewL st' k' Ns' = FW) ∧ fewL2 st k Ns = FW ∧ (∀ l ∈ FW, ∀ c ∈ l, c < 1114112) ∧ ((FW.length : Int) = (Ns.length : Int) - (k : Nat) + 1) ∧ ∀ l ∈ FW, Let l ∧ l.length ≤ 60 ∧ red l = l ∧ isW l = true ∧ wlk kv l (some 0) = some 0 := by
  refine ⟨fewL st k Ns, fun k' N' Ns' st' h' hs' => ?_, (fewL_eq h).symm, fewL_small h, fewL_len h, fun l hl => ?_⟩
  · obtain ⟨e1, e2, e3⟩ := h.uniq h' (fun _ => Iff.rfl)
    rw [e1, e2, srt_uniq hs' hs fun r => ((e3 r).symm.trans (hs.mem r))]
  · obtain ⟨hll, hlen, hred, hwl⟩ := few_word h hl
    have hisw : isW l = true := by rw [← hred]; exact wd_isW hll (by omega)
    exact ⟨hll, by omega, hred, hisw, hb l hisw hwl⟩
abbrev s_law : Stmt := top 47
abbrev N_law : List Str := ["_law_script", "_law_k", "_law_state_here", "_law_web_here", "_law_found", "_law_words", "_law_word", "_law_many", "_law_roads", "_law_size", "_law_left"]
theorem sc_law : FnScope N_law ["_law_script"] (defScope s_law) := ⟨rfl, rfl, rfl, by decide +kernel, rfl, by decide +kernel, by decide +kernel⟩
def spLaw (K : PySem.W.Frag) : Sp := fun vs H Q _ => ∃ (a : Addr) (ns : List Int), vs = [.ref a] ∧ SqL K H a (ns.map V.int) ∧ ns.length ≤ 63 ∧ ∀ H', Q (.bl true) H'
theorem ok_law {f C CE CW : Addr} {fd : FuncData} (F : Fun K "law" "law" s_law f fd) (hm : mg "law" = some (.ref f)) (T : Tx mg) (F_law_state : Fn P w K mg base 1 "_law_state" sp_law_state) (F_law_next : Fn P w K mg base 1 "_law_next" sp_law_next) (F_law_free : Fn P w K mg base 1 "_law_free" sp_law_free) (F_law_web : Fn P w K mg base 2 "_law_web" sp_law_web) (F_law_plain : Fn P w K mg base 2 "_law_plain" (sp_law_plain K)) (F_law_ways : Fn P w K mg base 2 "_law_ways" (sp_law_ways K)) (F_law_fewest : Fn P w K mg base 3 "_law_fewest" (sp_law_fewest K)) (F_belongs : Fn P w K mg base 5 "belongs" (sp_belongs K C CW)) (F_ways : Fn P w K mg base 7 "ways" (sp_ways K C)) (F_fewest : Fn P w K mg base 8 "fewest" (sp_fewest K C)) (mk : Mkr P w K mg base 3 "Web" C (sp_init K C CE)) : FnOk P w K mg base (L2.CX P w) 9 f fd ["_law_script"] (spLaw K) := by
  refine fn_okF F sc_law ?_ fun cdv A outer s0 H vs Q E hr h tk po => ?_
  · rintro vs H Q E ⟨_, _, rfl, _⟩; rfl
  obtain ⟨a0, ns, rfl, ha, hn, hq⟩ := h
  refine ⟨H, [], Sat.whole, ?_⟩
  refine k_cons ?_
  refine k_for_r1 (fun i σ B L => ∃ v1 v2 v3 v4 v5 v6 v7 v8 v9 v10, σ = [some (.ref a0), v1, v2, v3, v4, v5, v6, v7, v8, v9, v10] ∧ Le H B) po T.b_range ?_
  refine k_callB (id := "min") T.b_min ?_
  refine a_cons ?_
  refine k_callB (id := "len") T.b_len ?_
  refine a_cons ?_
  refine k_n 0 ?_
  refine a_nil ?_
  refine c_lenl (.inl ha) ?_
  refine a_cons ?_
  refine k_int ?_
  refine a_nil ?_
  walk_at "c_min"
  refine ⟨_, rfl, by rw [List.length_map]; split <;> omega, by rw [List.length_map]; split <;> omega, ⟨_, _, _, _, _, _, _, _, _, _, rfl, fun _ _ z => z⟩, ?_, ?_⟩
  · rintro i σ B L hi ⟨v1, v2, v3, v4, v5, v6, v7, v8, v9, v10, rfl, hle⟩
    have hil : i < ns.length ∧ i < 63 := by
      rw [List.length_map] at hi
      split at hi <;> omega
    refine g_name 1 ?_ sc_law.nd
    refine k_norm (by simp only [L2.start, N_law, List.map_cons, List.map_nil, List.length_cons, List.length_nil, Nat.reduceAdd, Nat.reduceSub, List.replicate_succ, List.replicate_zero, List.cons_append, List.nil_append, List.set_cons_succ, List.set_cons_zero]; exact rfl) ?_
    refine k_sub (L' := []) (List.nil_sublist _) ?_
    refine k_cons ?_
    refine k_set 2 ?_ sc_law.nd
    refine k_fn F_law_state (hr.mono (by decide)) ?_
    refine a_cons ?_
    refine k_ix ?_
    refine k_n 0 ?_
    refine k_n 1 ?_
    refine i_lv (.int ns[i]) (.inl (ext_l hle ha)) ?_ (by rw [atI_n, List.getElem?_map, List.getElem?_eq_getElem hil.1]; rfl)
    refine a_cons ?_
    refine k_n 1 ?_
    refine a_nil ?_
    refine use_law_state (by omega) fun ps s0 hs0 => ?_
    show kSs _ _ _ _ _ _
    refine k_norm (by simp only [L2.start, N_law, List.map_cons, List.map_nil, List.length_cons, List.length_nil, Nat.reduceAdd, Nat.reduceSub, List.replicate_succ, List.replicate_zero, List.cons_append, List.nil_append, List.set_cons_succ, List.set_cons_zero]; exact rfl) ?_
    refine k_cons ?_
    refine k_asg ?_
    refine k_fn F_law_web (hr.mono (by decide)) ?_
    refine a_cons ?_
    refine k_n 2 ?_
    refine a_cons ?_
    refine k_int ?_
    refine a_cons ?_
    refine k_bin ?_
    refine k_int ?_
    refine k_fn F_law_next (hr.mono (by decide)) ?_
    refine a_cons ?_
    refine k_n 2 ?_
    refine a_cons ?_
    refine k_int ?_
    refine a_nil ?_
    refine use_law_next hs0 (by walk_at "mm") (by decide) fun s1 d1 hs1 h11 h12 => ⟨_, by walk_at "rep", ?_⟩; obtain ⟨k1, rfl⟩ : ∃ n : Nat, d1 = n := ⟨d1.toNat, by omega⟩
    refine o_add ?_; rw [show (1 : Int) + (k1 : Int) = ((1 + k1 : Nat) : Int) by omega]; have hkk : 1 ≤ 1 + k1 ∧ 1 + k1 ≤ 6 := (by omega); generalize 1 + k1 = kinds at hkk
    refine a_nil ?_
    refine use_law_web1 (most := 14) hs1 ⟨by decide, by omega⟩ fun s2 pT pl m M B1 l1 hs2 hT hpl hM hm12 => ?_
    refine g_tup (xs := [.int (m : Nat), .ref pl]) (.inl (.inl (.inl hT))) rfl ?_
    refine gs_cons ?_
    refine g_name 7 ?_ sc_law.nd
    refine gs_cons ?_
    refine g_name 8 ?_ sc_law.nd
    refine gs_nil ?_
    have hle1 : Le H B1 := fun b o e => l1 _ _ (hle b o e)
    have hMn := hM.n
    have hMr : RdM K B1 M := fun z hz => .inl (.inl (hM.t z hz).1)
    have hgood : ∀ r ∈ M.map (·.2), GoodR m r := fun r hr => by obtain ⟨z, hz, rfl⟩ := List.mem_map.mp hr; exact (hM.t z hz).2
    obtain ⟨kvs, hkv, hTk⟩ := cons_steps hM.c
    have hgw : GW m (M.map (·.2)) := ⟨⟨hm12.1, by omega⟩, hgood, hM.c, by rw [List.length_map]; omega⟩
    show kSs _ _ _ _ _ _
    refine k_norm (by simp only [L2.start, N_law, List.map_cons, List.map_nil, List.length_cons, List.length_nil, Nat.reduceAdd, Nat.reduceSub, List.replicate_succ, List.replicate_zero, List.cons_append, List.nil_append, List.set_cons_succ, List.set_cons_zero]; exact rfl) ?_
    refine k_sub (L' := []) (List.nil_sublist _) ?_
    refine k_cons ?_
    refine k_set 3 ?_ sc_law.nd
    refine k_makeS mk (hr.mono (by decide)) takes0 ?_
    refine a_cons ?_
    refine k_n 7 ?_
    refine a_cons ?_
    refine k_n 8 ?_
    refine a_nil ?_
    refine use_web (M := M) (.inl (.inl (.inl hpl))) hMr (by omega) ⟨hm12.1, by omega⟩ hgood (by rw [hkv]; exact fun z => (nomatch z)) fun px B2 l2 hW => ?_
    show kSs _ _ _ _ _ _
    refine k_norm (by simp only [L2.start, N_law, List.map_cons, List.map_nil, List.length_cons, List.length_nil, Nat.reduceAdd, Nat.reduceSub, List.replicate_succ, List.replicate_zero, List.cons_append, List.nil_append, List.set_cons_succ, List.set_cons_zero]; exact rfl) ?_
    have hM2 : WebM B2 m M := ⟨fun z hz => ⟨l2 _ _ (hM.t z hz).1, (hM.t z hz).2⟩, hM.c, hM.d, hM.n⟩
    have hMr2 : RdM K B2 M := hMr.le l2
    have hpl2 := l2 _ _ hpl
    refine k_cons ?_
    refine k_asg ?_
    refine k_fn F_law_plain (hr.mono (by decide)) ?_
    refine a_cons ?_
    refine k_n 8 ?_
    refine a_nil ?_
    refine use_law_plain (M := M) (m := m) (.inl (.inl (.inl hpl2))) hMr2 (fun z hz => (hM.t z hz).2) ⟨⟨hm12.1, by omega⟩, by omega⟩ hM.d hM.c fun T2 pl2 k2 N2 Ms B4 l4 hT2 hpl4 hMs hPl2 hSr2 => ?_
    refine g_tup (xs := [.int (k2 : Nat), .ref pl2]) (.inl (.inl (.inl hT2))) rfl ?_
    refine gs_cons ?_
    refine g_name 9 ?_ sc_law.nd
    refine gs_cons ?_
    refine g_name 10 ?_ sc_law.nd
    refine gs_nil ?_
    show kSs _ _ _ _ _ _
    refine k_norm (by simp only [L2.start, N_law, List.map_cons, List.map_nil, List.length_cons, List.length_nil, Nat.reduceAdd, Nat.reduceSub, List.replicate_succ, List.replicate_zero, List.cons_append, List.nil_append, List.set_cons_succ, List.set_cons_zero]; exact rfl) ?_
    have hW4 := hW.le l4
    obtain ⟨hCs, hPS⟩ := plS_law hPl2 hSr2 hgood ⟨hm12.1, by omega⟩
    have hk2 := hPl2.few hgood hm12.1
    have hgM : ∀ z ∈ Ms, GoodR k2 z.2 := fun z hz => hPS.g _ (List.mem_map.mpr ⟨z, hz, rfl⟩)
    have hMsl : Ms.length ≤ 31 := by
      obtain ⟨_, _, _, T9, ord9, h9⟩ := hPl2.mem fun r => (hSr2.mem r).symm
      have h8 := sub_len hSr2.nd (m := T9.map (Pw.num ord9)) fun r hr => by obtain ⟨x, h1, h2⟩ := (h9.n r).mp hr; exact List.mem_map.mpr ⟨x, h1, h2.symm⟩
      have h7 := sub_len h9.t.n (m := M.map (·.2)) fun r hr => h9.tu r hr
      rw [List.length_map, List.length_map] at h8
      rw [List.length_map] at h7
      omega
    have hinE : ∀ p, p < k2 → p ∈ (Pf.tree (stp (lawF (Ms.map (·.2)))) k2).map Pf.Ent.q := fun p hp => hPS.inE hp
    obtain ⟨WY, hWY, hWYl, hWYs, hWYn⟩ := ways_of hPS
    obtain ⟨FW, hFW, hFWl, hFWs, hFWn, hFWw⟩ := fews_of hPS hSr2 (by omega) (kv := kvs) fun l hw hl => ((hPl2.mem fun r => (hSr2.mem r).symm).bel (fun _ => Iff.rfl) hTk (lawF_tab hCs) hw).mp hl
    rw [List.length_map] at hFWn
    refine k_cons ?_
    refine k_set 4 ?_ sc_law.nd
    refine k_fn F_ways (hr.mono (by decide)) ?_
    refine a_cons ?_
    refine k_n 3 ?_
    refine a_nil ?_
    refine use_ways hW4 hgw fun pf k5 N5 st5 hP5 => ?_; rw [hWY _ _ _ hP5]
    show kSs _ _ _ _ _ _
    refine k_norm (by simp only [L2.start, N_law, List.map_cons, List.map_nil, List.length_cons, List.length_nil, Nat.reduceAdd, Nat.reduceSub, List.replicate_succ, List.replicate_zero, List.cons_append, List.nil_append, List.set_cons_succ, List.set_cons_zero]; exact rfl) ?_
    refine k_cons ?_
    refine k_if ?_
    refine t_w ?_
    refine w_orP ?_
    refine t_not ?_
    refine t_val ?_
    refine k_callB (id := "isinstance") T.b_isinstance ?_
    refine a_cons ?_
    refine k_n 4 ?_
    refine a_cons ?_
    refine k_ty (T := "list") T.b_list ?_
    refine a_nil ?_
    refine c_isL (k := true) (xs := tL WY) (.inr (by walk_at "mm")) ?_
    refine ⟨_, rfl, ?_⟩
    apply Exists.intro; refine ⟨fun hk => ?_, ?_⟩
    {
    refine w_or1 ?_
    refine t_cmp ?_
    refine k_n 4 ?_
    refine k_fn F_law_ways (hr.mono (by decide)) ?_
    refine a_cons ?_
    refine k_n 9 ?_
    refine a_cons ?_
    refine k_n 10 ?_
    refine a_nil ?_
    refine use_law_ways (M := Ms) (.inl (.inl (.inl hpl4))) hMs ⟨fun z hz => (hgM z hz).c, by omega⟩ hCs hPS.bnd ⟨hk2.1, by omega⟩ hinE fun pv => ?_; rw [hWYl]
    refine o_ness (a := WY) (b := WY) hr.units (.inr (by walk_at "mm")) (.inr (by walk_at "mm")) ?_ hWYs hWYs
    refine ⟨_, rfl, ?_⟩
    exact ⟨rfl, rfl, by walk_at "sfx"⟩
    all_goals (try walk_at "side")
    }
    refine ⟨fun z => (by simp at z), fun _ => ?_⟩
    refine k_nil ?_
    refine k_sub (L' := [(pf, .lst (tL WY))]) (by repeat (first | exact List.Sublist.refl _ | apply List.Sublist.cons)) ?_
    refine k_cons ?_
    refine k_set 5 ?_ sc_law.nd
    refine k_fn F_fewest (hr.mono (by decide)) ?_
    refine a_cons ?_
    refine k_n 3 ?_
    refine a_nil ?_
    refine use_fewest hW4 hgw fun pw k6 N6 Ns6 st6 hP6 hS6 => ?_; rw [hFW _ _ _ _ hP6 hS6]
    show kSs _ _ _ _ _ _
    refine k_norm (by simp only [L2.start, N_law, List.map_cons, List.map_nil, List.length_cons, List.length_nil, Nat.reduceAdd, Nat.reduceSub, List.replicate_succ, List.replicate_zero, List.cons_append, List.nil_append, List.set_cons_succ, List.set_cons_zero]; exact rfl) ?_
    refine k_cons ?_
    refine k_if ?_
    refine t_w ?_
    refine w_orP ?_
    refine t_not ?_
    refine t_val ?_
    refine k_callB (id := "isinstance") T.b_isinstance ?_
    refine a_cons ?_
    refine k_n 5 ?_
    refine a_cons ?_
    refine k_ty (T := "list") T.b_list ?_
    refine a_nil ?_
    refine c_isL (k := true) (xs := tL FW) (.inr (by walk_at "mm")) ?_
    refine ⟨_, rfl, ?_⟩
    apply Exists.intro; refine ⟨fun hk => ?_, ?_⟩
    {
    refine w_orP ?_
    refine t_cmp ?_
    refine k_n 5 ?_
    refine k_fn F_law_fewest (hr.mono (by decide)) ?_
    refine a_cons ?_
    refine k_n 9 ?_
    refine a_cons ?_
    refine k_n 10 ?_
    refine a_nil ?_
    refine use_law_fewest (M := Ms) (.inl (.inl (.inl hpl4))) hMs hgM (by omega) hCs ⟨hk2.1, by omega⟩ hinE fun pv => ?_; rw [hFWl]
    refine o_ness (a := FW) (b := FW) hr.units (.inr (by walk_at "mm")) (.inr (by walk_at "mm")) ?_ hFWs hFWs
    refine ⟨_, rfl, ?_⟩
    apply Exists.intro; refine ⟨fun hk => ?_, ?_⟩
    {
    refine w_or1 ?_
    refine t_cmp ?_
    refine k_callB (id := "len") T.b_len ?_
    refine a_cons ?_
    refine k_n 5 ?_
    refine a_nil ?_
    refine c_lenl (xs := tL FW) (.inr (by walk_at "mm")) ?_; rw [tL_len, hFWn]
    refine k_bin ?_
    refine k_bin ?_
    refine k_callB (id := "len") T.b_len ?_
    refine a_cons ?_
    refine k_n 10 ?_
    refine a_nil ?_
    refine c_lenl (xs := rV Ms) (.inl (.inl (.inl hpl4))) ?_; rw [show (rV Ms).length = Ms.length from List.length_map _]
    refine k_n 9 ?_
    walk_at "opSub"
    refine k_int ?_
    walk_at "opAdd"
    walk_at "opNotEq"
    refine ⟨_, rfl, ?_⟩
    exact ⟨rfl, rfl, by walk_at "sfx"⟩
    all_goals (try walk_at "side")
    }
    exact ⟨rfl, rfl, by walk_at "sfx"⟩
    all_goals (try walk_at "side")
    }
    refine ⟨fun z => (by simp at z), fun _ => ?_⟩
    refine k_nil ?_
    refine k_sub (L' := [(pw, .lst (tL FW)), (pf, .lst (tL WY))]) (by repeat (first | exact List.Sublist.refl _ | apply List.Sublist.cons)) ?_
    refine k_cons ?_
    refine k_for_l (fun j σ B L => ∃ w6, σ = [some (.ref a0), some (.int (i : Nat)), some (.ref ps), some (.ref px), some (.ref pf), some (.ref pw), w6, some (.int (m : Nat)), some (.ref pl), some (.int (k2 : Nat)), some (.ref pl2)] ∧ B = B4 ∧ L = [(pw, .lst (tL FW)), (pf, .lst (tL WY))]) po ?_
    refine k_n 5 ?_
    refine ⟨pw, tL FW, rfl, .inr List.mem_cons_self, ⟨_, rfl, rfl, rfl⟩, ?_, ?_, ?_⟩
    · rintro j σ B' L _ ⟨_, _, _, rfl⟩
      exact .inr List.mem_cons_self
    · rintro j v σ B' L hv ⟨w6, rfl, rfl, rfl⟩
      obtain ⟨l, hl, rfl⟩ : ∃ l, l ∈ FW ∧ v = .str (sOf l) := by
        unfold tL at hv
        rw [List.getElem?_map] at hv
        cases h9 : FW[j]? with
        | none => rw [h9] at hv; cases hv
        | some l => rw [h9] at hv; exact ⟨l, List.mem_of_getElem? h9, (Option.some.inj hv).symm⟩
      obtain ⟨hll, hlen, hred, hisw, hbel⟩ := hFWw l hl
      refine g_name 6 ?_ sc_law.nd
      refine k_norm (by simp only [L2.start, N_law, List.map_cons, List.map_nil, List.length_cons, List.length_nil, Nat.reduceAdd, Nat.reduceSub, List.replicate_succ, List.replicate_zero, List.cons_append, List.nil_append, List.set_cons_succ, List.set_cons_zero]; exact rfl) ?_
      refine k_one ?_
      refine k_if ?_
      refine t_w ?_
      refine w_orP ?_
      refine t_cmp ?_
      refine k_fn F_law_free (hr.mono (by decide)) ?_
      refine a_cons ?_
      refine k_n 6 ?_
      refine a_nil ?_
      refine use_law_free ?_ ⟨hll, by omega⟩; rw [hred]
      refine k_n 6 ?_
      walk_at "opNotEq"
      refine ⟨_, rfl, ?_⟩
      apply Exists.intro; refine ⟨fun hk => ?_, ?_⟩
      {
      refine w_or1 ?_
      refine t_not ?_
      refine t_val ?_
      refine k_fn F_belongs (hr.mono (by decide)) ?_
      refine a_cons ?_
      refine k_n 3 ?_
      refine a_cons ?_
      refine k_n 6 ?_
      refine a_nil ?_
      refine use_belongs hW4 hm12.1 hkv hisw ?_; rw [hbel]
      refine ⟨_, rfl, ?_⟩
      exact ⟨rfl, rfl, by walk_at "sfx"⟩
      all_goals (try walk_at "side")
      }
      refine ⟨fun z => (by simp at z), fun _ => ?_⟩
      refine k_nil ?_
      exact ⟨_, rfl, rfl, rfl⟩
    · rintro σ B' L ⟨w6, rfl, rfl, rfl⟩
      refine k_cons ?_
      refine k_expr ?_
      refine k_m PySem.F.plainAttrs_list PySem.F.slot_list_append PySem.F.type_list_append ?_
      refine k_n 4 ?_
      refine ⟨ty_l (xs := tL WY) (.inr (by walk_at "mm")), ?_⟩
      refine a_cons ?_
      refine k_s [97] ?_
      refine a_nil ?_
      refine m_append (xs := tL WY) (by walk_at "rep") ?_ (by rw [tL_len]; omega)
      rw [tL_snoc]
      show kSs _ _ _ _ _ _
      refine k_cons ?_
      refine k_expr ?_
      refine k_m PySem.F.plainAttrs_list PySem.F.slot_list_append PySem.F.type_list_append ?_
      refine k_n 5 ?_
      refine ⟨ty_l (xs := tL FW) (.inr (by walk_at "mm")), ?_⟩
      refine a_cons ?_
      refine k_s [97] ?_
      refine a_nil ?_
      refine m_append (xs := tL FW) (by walk_at "rep") ?_ (by rw [tL_len]; omega)
      rw [tL_snoc]
      show kSs _ _ _ _ _ _
      refine k_one ?_
      refine k_if ?_
      refine t_w ?_
      refine w_orP ?_
      refine t_cmp ?_
      refine k_fn F_ways (hr.mono (by decide)) ?_
      refine a_cons ?_
      refine k_n 3 ?_
      refine a_nil ?_
      refine use_ways hW4 hgw fun pf9 k9 N9 st9 hP9 => ?_; rw [hWY _ _ _ hP9]
      refine k_slice ?_
      refine k_n 4 ?_
      refine p_none ?_
      refine p_some ?_
      refine k_neg ?_
      refine k_int ?_
      refine ⟨_, rfl, ?_⟩
      refine ⟨_, rfl, ?_⟩
      refine sl_l (xs := tL (WY ++ [[97]])) (.inr (by walk_at "mm")) fun pc => ?_; rw [← tL_snoc, cut_lst]
      refine o_ness (a := WY) (b := WY) hr.units (.inr (by walk_at "mm")) (.inr (by walk_at "mm")) ?_ hWYs hWYs
      refine ⟨_, rfl, ?_⟩
      apply Exists.intro; refine ⟨fun hk => ?_, ?_⟩
      {
      refine w_or1 ?_
      refine t_cmp ?_
      refine k_fn F_fewest (hr.mono (by decide)) ?_
      refine a_cons ?_
      refine k_n 3 ?_
      refine a_nil ?_
      refine use_fewest hW4 hgw fun pw9 k9 N9 Ns9 st9 hP9 hS9 => ?_; rw [hFW _ _ _ _ hP9 hS9]
      refine k_slice ?_
      refine k_n 5 ?_
      refine p_none ?_
      refine p_some ?_
      refine k_neg ?_
      refine k_int ?_
      refine ⟨_, rfl, ?_⟩
      refine ⟨_, rfl, ?_⟩
      refine sl_l (xs := tL (FW ++ [[97]])) (.inr (by walk_at "mm")) fun pc2 => ?_; rw [← tL_snoc, cut_lst]
      refine o_ness (a := FW) (b := FW) hr.units (.inr (by walk_at "mm")) (.inr (by walk_at "mm")) ?_ hFWs hFWs
      refine ⟨_, rfl, ?_⟩
      exact ⟨rfl, rfl, by walk_at "sfx"⟩
      all_goals (try walk_at "side")
      }
      refine ⟨fun z => (by simp at z), fun _ => ?_⟩
      refine k_nil ?_
      exact ⟨_, _, _, _, _, _, _, _, _, _, rfl, fun b o e => l4 _ _ (l2 _ _ (hle1 _ _ e))⟩
  · rintro σ B L ⟨v1, v2, v3, v4, v5, v6, v7, v8, v9, v10, rfl, hle⟩
    refine k_sub (L' := []) (List.nil_sublist _) ?_
    refine k_one ?_
    refine k_ret ?_
    refine k_and ?_
    refine k_cmp ?_
    refine k_fn F_fewest (hr.mono (by decide)) ?_
    refine a_cons ?_
    refine k_makeS mk (hr.mono (by decide)) takes0 ?_
    refine a_cons ?_
    refine k_int ?_
    refine a_cons ?_
    refine k_lst ?_
    refine a_nil ?_
    refine ⟨by simp, fun p0 => ?_⟩
    refine a_nil ?_
    refine use_web (M := []) (m := 1) (.inr List.mem_cons_self) (fun _ z => (nomatch z)) (by decide) (by decide) (fun _ z => (nomatch z)) (by obtain ⟨k9, h9, _⟩ := cons_steps cons_nil; exact fun z => (nomatch (h9.symm.trans z))) fun px B2 l2 hW => ?_
    refine a_nil ?_
    refine use_fewest hW ⟨by decide, fun _ z => (nomatch z), cons_nil, by decide⟩ fun pw k N Ns st hPS hSr => ?_; obtain ⟨U9, hU9, hP9⟩ := hPS.u; obtain ⟨ek, eN⟩ := hP9.empty fun r hr => (by have := (hU9 r).mp hr; cases this); subst eN; have eNs : Ns = [] := (List.eq_nil_iff_forall_not_mem.mpr fun r hr => (by have := (hSr.mem r).mp hr; cases this)); subst eNs
    refine k_lst ?_
    refine a_nil ?_
    refine ⟨by simp, fun p1 => ?_⟩
    refine o_eqss (a := []) (b := []) hr.units (.inr (by walk_at "mm")) (.inr (by walk_at "mm")) ?_ (fun _ z => (nomatch z)) (fun _ z => (nomatch z))
    refine ⟨true, rfl, fun _ => ?_, fun z => (nomatch z)⟩
    refine k_and1 ?_
    refine k_cmp ?_
    refine k_fn F_ways (hr.mono (by decide)) ?_
    refine a_cons ?_
    refine k_makeS mk (hr.mono (by decide)) takes0 ?_
    refine a_cons ?_
    refine k_int ?_
    refine a_cons ?_
    refine k_lst ?_
    refine a_nil ?_
    refine ⟨by simp, fun p2 => ?_⟩
    refine a_nil ?_
    refine use_web (M := []) (m := 1) (.inr List.mem_cons_self) (fun _ z => (nomatch z)) (by decide) (by decide) (fun _ z => (nomatch z)) (by obtain ⟨k9, h9, _⟩ := cons_steps cons_nil; exact fun z => (nomatch (h9.symm.trans z))) fun px2 B3 l3 hW3 => ?_
    refine a_nil ?_
    refine use_ways hW3 ⟨by decide, fun _ z => (nomatch z), cons_nil, by decide⟩ fun pw2 k N st hPS2 => ?_; obtain ⟨U8, hU8, hP8⟩ := hPS2.u; obtain ⟨ek2, _⟩ := hP8.empty fun r hr => (by have := (hU8 r).mp hr; cases this); subst ek2; rw [way_one]
    refine k_lst ?_
    refine a_cons ?_
    refine k_s [] ?_
    refine a_nil ?_
    refine ⟨by simp, fun p3 => ?_⟩
    refine o_eqss (a := [[]]) (b := [[]]) hr.units (.inr (by walk_at "mm")) (.inr (by walk_at "mm")) ?_ (fun _ h _ z => (by rw [List.mem_singleton.mp h] at z; cases z)) (fun _ h _ z => (by rw [List.mem_singleton.mp h] at z; cases z))
    exact fun H' s => hq H'
end
abbrev dMthD (C m q : Str) (st : Stmt) (dfl : List He.Dv) : He.DefD := ⟨(C, some m), m, q, defArgs st, defBody st, defScope st, dfl, []⟩
theorem d_mthD {K : PySem.W.Frag} {fa : List He.Fa} {fn : List He.DefD} {C m q : Str} {st : Stmt} {dfl : List He.Dv} (c : He.SaysD fa fn K) (i : Nat) (h : fn[i]? = some (dMthD C m q st dfl)) : ∃ fd, FunD K m q (defArgs st) (defBody st) (defScope st) (dfl.map (He.Dv.v K)) [] (He.ma K (He.ga K C) m) fd := c.def_ i h
def hfa0 : List He.Fa := [.glo "back_of", .glo "are_letters", .glo "is_word", .glo "need_word", .glo "put_together", .glo "back", .glo "is_whole", .glo "is_road", .glo "steps_of", .mkr "Web", .meth "Web" "many", .meth "Web" "roads", .meth "Web" "step", .meth "Web" "along", .meth "Web" "leads", .meth "Web" "plain", .glo "belongs", .glo "trimmed", .glo "is_held", .glo "come_to", .glo "plain_of", .glo "tree_of", .glo "way_to", .glo "ways", .glo "others", .glo "fewest", .glo "_law_next", .glo "_law_state", .glo "_law_back", .glo "_law_free"]
def hfa1 : List He.Fa := [.glo "_law_letters", .glo "_law_steps", .glo "_law_along", .glo "_law_web", .glo "_law_reached", .glo "_law_plain", .glo "_law_ways", .glo "_law_fewest", .glo "law", .str "LETTERS" (sOf ltL), .str "ORDER" (sOf ordL), .int "MOST_LETTERS" 60, .int "MOST_PLACES" 200, .free "ValueError", .free "list", .free "dict", .free "range", .free "isinstance", .free "str", .free "all", .free "any", .free "int", .free "tuple", .free "len", .free "zip", .free "sorted", .free "min", .free "bool", .free "reversed", .free "set"]
def hfa2 : List He.Fa := [.free "enumerate", .glo "Web", .cls "Web", .noat "Web" "size", .noat "Web" "steps", .noat "Web" "kept", .glo "NoWeb", .exc "NoWeb", .glo "NoWord", .exc "NoWord", .glo "NoPlace", .exc "NoPlace"]
def hfa : List He.Fa := hfa0 ++ hfa1 ++ hfa2
def hfn0 : List He.DefD := [dTop "back_of" s_back_of, dTop "are_letters" s_are_letters, dTop "is_word" s_is_word, dTop "need_word" s_need_word, dTop "put_together" s_put_together, dTop "back" s_back, dTop "is_whole" s_is_whole, dTop "is_road" s_is_road, dTop "steps_of" s_steps_of, dMth "Web" "__init__" "Web.__init__" s_Web_init, dMth "Web" "many" "Web.many" s_Web_many, dMth "Web" "roads" "Web.roads" s_Web_roads, dMth "Web" "step" "Web.step" s_Web_step, dMth "Web" "along" "Web.along" s_Web_along, dMthD "Web" "leads" "Web.leads" s_Web_leads [.int 0], dMth "Web" "plain" "Web.plain" s_Web_plain, dTop "belongs" s_belongs, dTop "trimmed" s_trimmed, dTop "is_held" s_is_held, dTop "come_to" s_come_to, dTop "plain_of" s_plain_of, dTop "tree_of" s_tree_of, dTop "way_to" s_way_to, dTop "ways" s_ways, dTop "others" s_others, dTop "fewest" s_fewest, dTop "_law_next" s_law_next, dTop "_law_state" s_law_state, dTop "_law_back" s_law_back, dTop "_law_free" s_law_free]
def hfn1 : List He.DefD := [dTop "_law_letters" s_law_letters, dTop "_law_steps" s_law_steps, dTop "_law_along" s_law_along, dTop "_law_web" s_law_web, dTop "_law_reached" s_law_reached, dTop "_law_plain" s_law_plain, dTop "_law_ways" s_law_ways, dTop "_law_fewest" s_law_fewest, dTop "law" s_law]
def hfn : List He.DefD := hfn0 ++ hfn1
def hnm0 : List Str := ["WordError", "NoWord", "NoWeb", "NoPlace", "LETTERS", "ORDER", "MOST_LETTERS", "back_of", "are_letters", "is_word", "need_word", "put_together", "back", "is_whole", "MOST_PLACES", "is_road", "steps_of", "Web", "belongs", "trimmed", "is_held", "come_to", "plain_of", "tree_of", "way_to", "ways", "others", "fewest", "_law_next", "_law_cell"]
def hnm1 : List Str := ["_law_state", "_law_back", "_law_free", "_law_key", "_law_letters", "_law_steps", "_law_along", "_law_web", "_law_reached", "_law_plain", "_law_ways", "_law_fewest"]
def hnm : List Str := hnm0 ++ hnm1
def hex (K : PySem.W.Frag) : Bool := true
abbrev hR : PySem.W.OpenRow := PySem.W.OpenLaw.row PySem.Challenge.rw_backwords_k51_fewest_words
abbrev hk : PySem.W.Hook := He.hookX 7 hfa hfn [] [] hex
def hob (s : PySem.W.SharedT) : He.AlX := He.obsX 7 hfa hfn [] [] hex (HandSHeadRun.getT s)
theorem hob_eq (s : PySem.W.SharedT) : hob s = hk.obs s.abs := He.obsX_eq (HandSHeadRun.getT_eq s)
abbrev hq : Program := PySem.W.view hR.prog [47]
theorem hrun (w : World) : HandSHeadRun.RunEq hR hq hk hob 20000 hnm w := by
  intro os
  kernel_rfl
theorem facts {P : Program} {w : World} {K : PySem.W.Frag} {h : Heap} {mg : Str → Option Value} {f : Addr} (X : K.In h) (G : h.Ns mainGlobals mg) (hlf : mg ("law" : Str) = some (.ref f)) (c : He.SaysX hfa hfn [] [] hex w h K) :
    ∃ fd : FuncData, (∀ (s : Shared) (v : Value), BindsTo s fd ⟨[v], []⟩ [("_law_script", v)]) ∧ ∀ base : Heap, K.In base → base.Ns mainGlobals mg → FnOk P w K mg base (L2.CX P w) 9 f fd ["_law_script"] (spLaw K) := by
  have cd := c.t.d
  obtain ⟨fd0, G_back_of⟩ := d_top (x := "back_of") (st := s_back_of) cd 0 rfl
  have m_back_of := He.glo_ok X G (cd.fact 0 (f := .glo "back_of") rfl)
  have D_back_of := fun_d G_back_of
  obtain ⟨fd1, G_are_letters⟩ := d_top (x := "are_letters") (st := s_are_letters) cd 1 rfl
  have m_are_letters := He.glo_ok X G (cd.fact 1 (f := .glo "are_letters") rfl)
  have D_are_letters := fun_d G_are_letters
  obtain ⟨fd2, G_is_word⟩ := d_top (x := "is_word") (st := s_is_word) cd 2 rfl
  have m_is_word := He.glo_ok X G (cd.fact 2 (f := .glo "is_word") rfl)
  have D_is_word := fun_d G_is_word
  obtain ⟨fd3, G_need_word⟩ := d_top (x := "need_word") (st := s_need_word) cd 3 rfl
  have m_need_word := He.glo_ok X G (cd.fact 3 (f := .glo "need_word") rfl)
  have D_need_word := fun_d G_need_word
  obtain ⟨fd4, G_put_together⟩ := d_top (x := "put_together") (st := s_put_together) cd 4 rfl
  have m_put_together := He.glo_ok X G (cd.fact 4 (f := .glo "put_together") rfl)
  have D_put_together := fun_d G_put_together
  obtain ⟨fd5, G_back⟩ := d_top (x := "back") (st := s_back) cd 5 rfl
  have m_back := He.glo_ok X G (cd.fact 5 (f := .glo "back") rfl)
  have D_back := fun_d G_back
  obtain ⟨fd6, G_is_whole⟩ := d_top (x := "is_whole") (st := s_is_whole) cd 6 rfl
  have m_is_whole := He.glo_ok X G (cd.fact 6 (f := .glo "is_whole") rfl)
  have D_is_whole := fun_d G_is_whole
  obtain ⟨fd7, G_is_road⟩ := d_top (x := "is_road") (st := s_is_road) cd 7 rfl
  have m_is_road := He.glo_ok X G (cd.fact 7 (f := .glo "is_road") rfl)
  have D_is_road := fun_d G_is_road
  obtain ⟨fd8, G_steps_of⟩ := d_top (x := "steps_of") (st := s_steps_of) cd 8 rfl
  have m_steps_of := He.glo_ok X G (cd.fact 8 (f := .glo "steps_of") rfl)
  have D_steps_of := fun_d G_steps_of
  obtain ⟨fd9, G_Web_init⟩ := d_mth (C := "Web") (m := "__init__") (q := "Web.__init__") (st := s_Web_init) cd 9 rfl
  have m_Web_init := He.mkr_ok (cd.fact 9 (f := .mkr "Web") rfl)
  have D_Web_init := fun_d G_Web_init
  obtain ⟨fd10, G_Web_many⟩ := d_mth (C := "Web") (m := "many") (q := "Web.many") (st := s_Web_many) cd 10 rfl
  have m_Web_many := He.meth_ok (cd.fact 10 (f := .meth "Web" "many") rfl)
  have D_Web_many := fun_d G_Web_many
  obtain ⟨fd11, G_Web_roads⟩ := d_mth (C := "Web") (m := "roads") (q := "Web.roads") (st := s_Web_roads) cd 11 rfl
  have m_Web_roads := He.meth_ok (cd.fact 11 (f := .meth "Web" "roads") rfl)
  have D_Web_roads := fun_d G_Web_roads
  obtain ⟨fd12, G_Web_step⟩ := d_mth (C := "Web") (m := "step") (q := "Web.step") (st := s_Web_step) cd 12 rfl
  have m_Web_step := He.meth_ok (cd.fact 12 (f := .meth "Web" "step") rfl)
  have D_Web_step := fun_d G_Web_step
  obtain ⟨fd13, G_Web_along⟩ := d_mth (C := "Web") (m := "along") (q := "Web.along") (st := s_Web_along) cd 13 rfl
  have m_Web_along := He.meth_ok (cd.fact 13 (f := .meth "Web" "along") rfl)
  have D_Web_along := fun_d G_Web_along
  obtain ⟨fd14, G_Web_leads⟩ := d_mthD (dfl := [.int 0]) (C := "Web") (m := "leads") (q := "Web.leads") (st := s_Web_leads) cd 14 rfl
  have m_Web_leads := He.meth_ok (cd.fact 14 (f := .meth "Web" "leads") rfl)
  have D_Web_leads := G_Web_leads
  obtain ⟨fd15, G_Web_plain⟩ := d_mth (C := "Web") (m := "plain") (q := "Web.plain") (st := s_Web_plain) cd 15 rfl
  have m_Web_plain := He.meth_ok (cd.fact 15 (f := .meth "Web" "plain") rfl)
  have D_Web_plain := fun_d G_Web_plain
  obtain ⟨fd16, G_belongs⟩ := d_top (x := "belongs") (st := s_belongs) cd 16 rfl
  have m_belongs := He.glo_ok X G (cd.fact 16 (f := .glo "belongs") rfl)
  have D_belongs := fun_d G_belongs
  obtain ⟨fd17, G_trimmed⟩ := d_top (x := "trimmed") (st := s_trimmed) cd 17 rfl
  have m_trimmed := He.glo_ok X G (cd.fact 17 (f := .glo "trimmed") rfl)
  have D_trimmed := fun_d G_trimmed
  obtain ⟨fd18, G_is_held⟩ := d_top (x := "is_held") (st := s_is_held) cd 18 rfl
  have m_is_held := He.glo_ok X G (cd.fact 18 (f := .glo "is_held") rfl)
  have D_is_held := fun_d G_is_held
  obtain ⟨fd19, G_come_to⟩ := d_top (x := "come_to") (st := s_come_to) cd 19 rfl
  have m_come_to := He.glo_ok X G (cd.fact 19 (f := .glo "come_to") rfl)
  have D_come_to := fun_d G_come_to
  obtain ⟨fd20, G_plain_of⟩ := d_top (x := "plain_of") (st := s_plain_of) cd 20 rfl
  have m_plain_of := He.glo_ok X G (cd.fact 20 (f := .glo "plain_of") rfl)
  have D_plain_of := fun_d G_plain_of
  obtain ⟨fd21, G_tree_of⟩ := d_top (x := "tree_of") (st := s_tree_of) cd 21 rfl
  have m_tree_of := He.glo_ok X G (cd.fact 21 (f := .glo "tree_of") rfl)
  have D_tree_of := fun_d G_tree_of
  obtain ⟨fd22, G_way_to⟩ := d_top (x := "way_to") (st := s_way_to) cd 22 rfl
  have m_way_to := He.glo_ok X G (cd.fact 22 (f := .glo "way_to") rfl)
  have D_way_to := fun_d G_way_to
  obtain ⟨fd23, G_ways⟩ := d_top (x := "ways") (st := s_ways) cd 23 rfl
  have m_ways := He.glo_ok X G (cd.fact 23 (f := .glo "ways") rfl)
  have D_ways := fun_d G_ways
  obtain ⟨fd24, G_others⟩ := d_top (x := "others") (st := s_others) cd 24 rfl
  have m_others := He.glo_ok X G (cd.fact 24 (f := .glo "others") rfl)
  have D_others := fun_d G_others
  obtain ⟨fd25, G_fewest⟩ := d_top (x := "fewest") (st := s_fewest) cd 25 rfl
  have m_fewest := He.glo_ok X G (cd.fact 25 (f := .glo "fewest") rfl)
  have D_fewest := fun_d G_fewest
  obtain ⟨fd26, G_law_next⟩ := d_top (x := "_law_next") (st := s_law_next) cd 26 rfl
  have m_law_next := He.glo_ok X G (cd.fact 26 (f := .glo "_law_next") rfl)
  have D_law_next := fun_d G_law_next
  obtain ⟨fd27, G_law_state⟩ := d_top (x := "_law_state") (st := s_law_state) cd 27 rfl
  have m_law_state := He.glo_ok X G (cd.fact 27 (f := .glo "_law_state") rfl)
  have D_law_state := fun_d G_law_state
  obtain ⟨fd28, G_law_back⟩ := d_top (x := "_law_back") (st := s_law_back) cd 28 rfl
  have m_law_back := He.glo_ok X G (cd.fact 28 (f := .glo "_law_back") rfl)
  have D_law_back := fun_d G_law_back
  obtain ⟨fd29, G_law_free⟩ := d_top (x := "_law_free") (st := s_law_free) cd 29 rfl
  have m_law_free := He.glo_ok X G (cd.fact 29 (f := .glo "_law_free") rfl)
  have D_law_free := fun_d G_law_free
  obtain ⟨fd30, G_law_letters⟩ := d_top (x := "_law_letters") (st := s_law_letters) cd 30 rfl
  have m_law_letters := He.glo_ok X G (cd.fact 30 (f := .glo "_law_letters") rfl)
  have D_law_letters := fun_d G_law_letters
  obtain ⟨fd31, G_law_steps⟩ := d_top (x := "_law_steps") (st := s_law_steps) cd 31 rfl
  have m_law_steps := He.glo_ok X G (cd.fact 31 (f := .glo "_law_steps") rfl)
  have D_law_steps := fun_d G_law_steps
  obtain ⟨fd32, G_law_along⟩ := d_top (x := "_law_along") (st := s_law_along) cd 32 rfl
  have m_law_along := He.glo_ok X G (cd.fact 32 (f := .glo "_law_along") rfl)
  have D_law_along := fun_d G_law_along
  obtain ⟨fd33, G_law_web⟩ := d_top (x := "_law_web") (st := s_law_web) cd 33 rfl
  have m_law_web := He.glo_ok X G (cd.fact 33 (f := .glo "_law_web") rfl)
  have D_law_web := fun_d G_law_web
  obtain ⟨fd34, G_law_reached⟩ := d_top (x := "_law_reached") (st := s_law_reached) cd 34 rfl
  have m_law_reached := He.glo_ok X G (cd.fact 34 (f := .glo "_law_reached") rfl)
  have D_law_reached := fun_d G_law_reached
  obtain ⟨fd35, G_law_plain⟩ := d_top (x := "_law_plain") (st := s_law_plain) cd 35 rfl
  have m_law_plain := He.glo_ok X G (cd.fact 35 (f := .glo "_law_plain") rfl)
  have D_law_plain := fun_d G_law_plain
  obtain ⟨fd36, G_law_ways⟩ := d_top (x := "_law_ways") (st := s_law_ways) cd 36 rfl
  have m_law_ways := He.glo_ok X G (cd.fact 36 (f := .glo "_law_ways") rfl)
  have D_law_ways := fun_d G_law_ways
  obtain ⟨fd37, G_law_fewest⟩ := d_top (x := "_law_fewest") (st := s_law_fewest) cd 37 rfl
  have m_law_fewest := He.glo_ok X G (cd.fact 37 (f := .glo "_law_fewest") rfl)
  have D_law_fewest := fun_d G_law_fewest
  obtain ⟨fd38, G_law⟩ := d_top (x := "law") (st := s_law) cd 38 rfl
  have m_law := He.glo_ok X G (cd.fact 38 (f := .glo "law") rfl)
  have D_law := fun_d G_law
  have g_back_of := He.glo_ok X G (cd.fact 0 (f := .glo "back_of") rfl)
  have g_are_letters := He.glo_ok X G (cd.fact 1 (f := .glo "are_letters") rfl)
  have g_is_word := He.glo_ok X G (cd.fact 2 (f := .glo "is_word") rfl)
  have g_need_word := He.glo_ok X G (cd.fact 3 (f := .glo "need_word") rfl)
  have g_put_together := He.glo_ok X G (cd.fact 4 (f := .glo "put_together") rfl)
  have g_back := He.glo_ok X G (cd.fact 5 (f := .glo "back") rfl)
  have g_is_whole := He.glo_ok X G (cd.fact 6 (f := .glo "is_whole") rfl)
  have g_is_road := He.glo_ok X G (cd.fact 7 (f := .glo "is_road") rfl)
  have g_steps_of := He.glo_ok X G (cd.fact 8 (f := .glo "steps_of") rfl)
  have g_belongs := He.glo_ok X G (cd.fact 16 (f := .glo "belongs") rfl)
  have g_trimmed := He.glo_ok X G (cd.fact 17 (f := .glo "trimmed") rfl)
  have g_is_held := He.glo_ok X G (cd.fact 18 (f := .glo "is_held") rfl)
  have g_come_to := He.glo_ok X G (cd.fact 19 (f := .glo "come_to") rfl)
  have g_plain_of := He.glo_ok X G (cd.fact 20 (f := .glo "plain_of") rfl)
  have g_tree_of := He.glo_ok X G (cd.fact 21 (f := .glo "tree_of") rfl)
  have g_way_to := He.glo_ok X G (cd.fact 22 (f := .glo "way_to") rfl)
  have g_ways := He.glo_ok X G (cd.fact 23 (f := .glo "ways") rfl)
  have g_others := He.glo_ok X G (cd.fact 24 (f := .glo "others") rfl)
  have g_fewest := He.glo_ok X G (cd.fact 25 (f := .glo "fewest") rfl)
  have g__law_next := He.glo_ok X G (cd.fact 26 (f := .glo "_law_next") rfl)
  have g__law_state := He.glo_ok X G (cd.fact 27 (f := .glo "_law_state") rfl)
  have g__law_back := He.glo_ok X G (cd.fact 28 (f := .glo "_law_back") rfl)
  have g__law_free := He.glo_ok X G (cd.fact 29 (f := .glo "_law_free") rfl)
  have g__law_letters := He.glo_ok X G (cd.fact 30 (f := .glo "_law_letters") rfl)
  have g__law_steps := He.glo_ok X G (cd.fact 31 (f := .glo "_law_steps") rfl)
  have g__law_along := He.glo_ok X G (cd.fact 32 (f := .glo "_law_along") rfl)
  have g__law_web := He.glo_ok X G (cd.fact 33 (f := .glo "_law_web") rfl)
  have g__law_reached := He.glo_ok X G (cd.fact 34 (f := .glo "_law_reached") rfl)
  have g__law_plain := He.glo_ok X G (cd.fact 35 (f := .glo "_law_plain") rfl)
  have g__law_ways := He.glo_ok X G (cd.fact 36 (f := .glo "_law_ways") rfl)
  have g__law_fewest := He.glo_ok X G (cd.fact 37 (f := .glo "_law_fewest") rfl)
  have g_law := He.glo_ok X G (cd.fact 38 (f := .glo "law") rfl)
  have g_Web := He.glo_ok X G (cd.fact 61 (f := .glo "Web") rfl)
  have cls_Web := He.cls_ok (cd.fact 62 (f := .cls "Web") rfl)
  have c0_Web := cd.fact 62 (f := .cls "Web") rfl
  have no_Web_size := He.noat_ok (cd.fact 63 (f := .noat "Web" "size") rfl)
  have no_Web_steps := He.noat_ok (cd.fact 64 (f := .noat "Web" "steps") rfl)
  have no_Web_kept := He.noat_ok (cd.fact 65 (f := .noat "Web" "kept") rfl)
  have g_NoWeb := He.glo_ok X G (cd.fact 66 (f := .glo "NoWeb") rfl)
  have e_NoWeb := exk_of X G (cd.fact 66 (f := .glo "NoWeb") rfl) (cd.fact 67 (f := .exc "NoWeb") rfl)
  have g_NoWord := He.glo_ok X G (cd.fact 68 (f := .glo "NoWord") rfl)
  have e_NoWord := exk_of X G (cd.fact 68 (f := .glo "NoWord") rfl) (cd.fact 69 (f := .exc "NoWord") rfl)
  have g_NoPlace := He.glo_ok X G (cd.fact 70 (f := .glo "NoPlace") rfl)
  have e_NoPlace := exk_of X G (cd.fact 70 (f := .glo "NoPlace") rfl) (cd.fact 71 (f := .exc "NoPlace") rfl)
  have T : Tx mg := ⟨He.str_ok X G (cd.fact 39 (f := .str "LETTERS" (sOf ltL)) rfl), He.str_ok X G (cd.fact 40 (f := .str "ORDER" (sOf ordL)) rfl), He.int_ok X G (cd.fact 41 (f := .int "MOST_LETTERS" 60) rfl), He.int_ok X G (cd.fact 42 (f := .int "MOST_PLACES" 200) rfl), He.free_ok X G (cd.fact 43 (f := .free "ValueError") rfl), He.free_ok X G (cd.fact 44 (f := .free "list") rfl), He.free_ok X G (cd.fact 45 (f := .free "dict") rfl), He.free_ok X G (cd.fact 46 (f := .free "range") rfl), He.free_ok X G (cd.fact 47 (f := .free "isinstance") rfl), He.free_ok X G (cd.fact 48 (f := .free "str") rfl), He.free_ok X G (cd.fact 49 (f := .free "all") rfl), He.free_ok X G (cd.fact 50 (f := .free "any") rfl), He.free_ok X G (cd.fact 51 (f := .free "int") rfl), He.free_ok X G (cd.fact 52 (f := .free "tuple") rfl), He.free_ok X G (cd.fact 53 (f := .free "len") rfl), He.free_ok X G (cd.fact 54 (f := .free "zip") rfl), He.free_ok X G (cd.fact 55 (f := .free "sorted") rfl), He.free_ok X G (cd.fact 56 (f := .free "min") rfl), He.free_ok X G (cd.fact 57 (f := .free "bool") rfl), He.free_ok X G (cd.fact 58 (f := .free "reversed") rfl), He.free_ok X G (cd.fact 59 (f := .free "set") rfl), He.free_ok X G (cd.fact 60 (f := .free "enumerate") rfl)⟩
  have e := hlf.symm.trans m_law
  cases e
  have b := FunD.bindsA (ps := ["_law_script"]) G_law fun _ _ _ _ _ _ us hl => match us, hl with | [_], _ => rfl
  refine ⟨_, fun s v => b s [v] rfl, fun base _ _ => ?_⟩
  have F1 := ok_back_of (P := P) (w := w) (base := base) D_back_of m_back_of T
  have F2 := ok_are_letters (P := P) (w := w) (base := base) D_are_letters m_are_letters T
  have F3 := ok_is_word D_is_word m_is_word T F2 F1
  have F4 := ok_need_word D_need_word m_need_word T F3 e_NoWord
  have F5 := ok_is_whole (P := P) (w := w) (base := base) D_is_whole m_is_whole T
  have F6 := ok_is_road D_is_road m_is_road T F5
  have F7 := ok_steps_of D_steps_of m_steps_of T F1
  have F7T := ok_steps_ofT D_steps_of m_steps_of T F1
  have F8 := ok_init D_Web_init T cls_Web no_Web_size no_Web_steps no_Web_kept e_NoWeb F5 F6 F7
  have mk := mk_okM D_Web_init F8 m_Web_init g_Web fun _ _ _ _ _ _ us hl => match us, hl with | [_, _, _], _ => rfl
  have M1 := ok_many (P := P) (w := w) (mg := mg) (base := base) D_Web_many m_Web_many cls_Web no_Web_size
  have M2 := ok_roads (P := P) (w := w) (base := base) D_Web_roads m_Web_roads cls_Web no_Web_kept T
  have M3 := ok_step (P := P) (w := w) (mg := mg) (base := base) D_Web_step m_Web_step cls_Web no_Web_steps
  have M4 := ok_along D_Web_along m_Web_along cls_Web M3
  have F9 := ok_leads D_Web_leads cls_Web no_Web_size T e_NoPlace F4 F5 M4
  have ⟨M5, M6⟩ := mt_leads D_Web_leads m_Web_leads cls_Web F9
  have F10 := ok_belongs D_belongs m_belongs M6
  have F11 := ok_come_to (P := P) (w := w) (base := base) D_come_to m_come_to T
  have F12 := ok_is_held (P := P) (w := w) (base := base) D_is_held m_is_held
  have F13 := ok_trimmed D_trimmed m_trimmed T F12
  have F14 := ok_plain_ofT D_plain_of m_plain_of T F11 F7 F7T F13 mk
  have M7 := ok_plain D_Web_plain m_Web_plain cls_Web no_Web_kept F14
  have L1 := ok_law_next (P := P) (w := w) (base := base) D_law_next m_law_next
  have L2 := ok_law_state (P := P) (w := w) (base := base) D_law_state m_law_state
  have L3 := ok_law_free (P := P) (w := w) (base := base) D_law_free m_law_free T
  have L4 := ok_law_letters D_law_letters m_law_letters T L1
  have L5 := ok_law_steps (P := P) (w := w) (base := base) D_law_steps m_law_steps
  have L6 := ok_law_reached (P := P) (w := w) (base := base) D_law_reached m_law_reached T
  have L7 := ok_law_web D_law_web m_law_web T L1 L5
  have L8 := ok_law_plain D_law_plain m_law_plain T L5 L6
  have F15 := ok_put_together D_put_together m_put_together T F1
  have F16 := ok_back D_back m_back T F1
  have F17 := ok_tree_of D_tree_of m_tree_of T M3
  have F18 := ok_way_to (P := P) (w := w) (base := base) D_way_to m_way_to
  have F19 := ok_ways D_ways m_ways T M7 M1 F17 F18
  have F20 := ok_others D_others m_others T M2 F17 F1
  have F21 := ok_fewest D_fewest m_fewest T M7 F19 F20 F15 F16
  have L9 := ok_law_back (P := P) (w := w) (base := base) D_law_back m_law_back T
  have L10 := ok_law_ways D_law_ways m_law_ways T L5
  have L11 := ok_law_fewest D_law_fewest m_law_fewest T L10 L3 L9
  exact ok_law D_law m_law T L2 L1 L3 L7 L8 L10 L11 F10 F19 F21 mk
end K51
open PySem PySem.W PySem.Calls PyProof.Rows
theorem PySem.Challenge.cw_backwords_k51_fewest_words_holds : PySem.Challenge.rw_backwords_k51_fewest_words.Holds := by
  w_on; o_law
  refine HandSHeadRun.head_any (r := OpenLaw.row PySem.Challenge.rw_backwords_k51_fewest_words) (q := K51.hq) (H := K51.hk) (ob := K51.hob) (M := 20000) (loose := K51.hnm) (d := HandSHeadRun.topDef (OpenLaw.row PySem.Challenge.rw_backwords_k51_fewest_words).prog 47) (kwd := []) K51.hob_eq
    (by kernel_rfl) (fun s => by kernel_rfl) K51.hrun (by kernel_rfl) (by kernel_rfl) (by kernel_rfl) (by rfl) (by first | assumption | decide +kernel) (by decide +kernel) ⟨rfl, rfl, rfl, rfl, rfl, by decide +kernel⟩ ?hw ?hc
  case hw => w_witness2
  case hc =>
    refine Kv.walk_end (l := PySem.Challenge.rw_backwords_k51_fewest_words) (n := 63) (k := 9) (x := "_law_script") rfl (by decide) (by kernel_rfl) ⟨rfl, by decide, by decide⟩ ?F
    intro w mg fa h Y G hmg0
    obtain ⟨K, KX, c⟩ := Y
    have hmg : mg ("law" : PySem.Str) = some (.ref fa) := by
      have e : (HandSHeadRun.topDef (OpenLaw.row PySem.Challenge.rw_backwords_k51_fewest_words).prog 47).name = ("law" : PySem.Str) := by kernel_rfl
      rw [← e]
      exact hmg0
    obtain ⟨fd, hb, hF⟩ := K51.facts (P := (PySem.Challenge.rw_backwords_k51_fewest_words).prog) (w := w) KX G hmg c
    exact ⟨K, fd, K51.spLaw K, KX, hb, fun H a ns hl _ hS => ⟨a, ns, rfl, hS, hl, fun _ => rfl⟩, hF⟩

