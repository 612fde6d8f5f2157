import PyProof.Rows.All
import Wide.All
import OpenK.AllK
import Wide.FinOn
import HandS.ForMost
import HandS.Exc
import HandS.TryOnly
import HandS.ExcOwn
import HandS.WordsExc
import HandS.Walk
import HandS.IsInst
import HandS.StrMore
import HandS.RevTup
import HandS.ExcIs
import KE.KDictZip
import KE.GoesMore
import HandS.TupLe
import KE.DataCmp
import HandS.NoneIn
import KE.SortKeyed
import KE.SortData
import HandS.SortKw
import HandS.Keys
import HandS.CallLocal
import HandS.Flow
import HandS.Dict
import KE.DataFind
import PyProof.ListStr
import HandS.More
import HandS.Small
import HandS.Style
import HandS.TupSets
import HandS.Conv
import HandS.SetKeys
import HandS.CallSlots
import HandS.Defaults
import PyProof.CallFns
import KE.KStateDown
import HandS.Head0
import HandS.Head1
import HandS.Head2
import HandS.HeadEnd
import HandS.HeadHook1
import HandS.HeadHook2
import HandS.HeadHook3
import HandS.HeadHook4
import HandS.Remove
import HandS.Iter
import HandS.Lambda
import HandS.EndTab
import HandS.HeadWalk
import HandS.WordsDict
import PyProof.EnumMake
import PyProof.Draws
import HandS.TupLen
import HandS.TupAny
import PyProof.ReprRoads
import PyProof.FitsInt
import PyProof.Rows.ReprOcc
import HandS.Codes
import PyProof.ReprLen
import PyProof.StrLawsRepr
import HandS.FStrTup
import HandS.HotCalls
import PySem.Challenge.RW_backwords_k85_sendings_changed_anywhere
set_option Elab.async false
set_option linter.all false
set_option maxRecDepth 100000
set_option maxHeartbeats 0
namespace Kv
open PySem PySem.Spec PyProof.Rows L2

abbrev HL := List (Addr × HO)
/-- the heap H holds the base B and the named objects L -/
structure Sat (B : Hp) (L : HL) (H : Hp) : Prop where
  ext : ∀ a o, B a = some o → H a = some o
  own : ∀ p ∈ L, H p.1 = some p.2
  nb : ∀ p ∈ L, B p.1 = none
  nd : (L.map (·.1)).Nodup
abbrev KQ := V → Hp → HL → Prop
abbrev KB := Bool → Hp → HL → Prop
abbrev KA := List V → Hp → HL → Prop
abbrev KN := L2.St → Hp → HL → Prop
def up (Q : KQ) : VK := fun v H => ∃ B L, Sat B L H ∧ Q v B L
def upB (Q : KB) : Bool → Hp → Prop := fun v H => ∃ B L, Sat B L H ∧ Q v B L
def upA (Q : KA) : List V → Hp → Prop := fun v H => ∃ B L, Sat B L H ∧ Q v B L
def upN (Q : KN) : L2.St → Hp → Prop := fun v H => ∃ B L, Sat B L H ∧ Q v B L
structure KD where
  nx : KN
  rt : KQ
  bk : KN := fun _ _ _ => False
  ct : KN := fun _ _ _ => False
def KD.dn (D : KD) : Ends := { nx := upN D.nx, rt := up D.rt, bk := upN D.bk, ct := upN D.ct }

section
variable (X : Cx)
def kE (e : Expr) (σ : L2.St) (B : Hp) (L : HL) (Q : KQ) : Prop :=
  ∃ te, PE X e te ∧ ∀ H, Sat B L H → te σ H (up Q)
def kT (e : Expr) (σ : L2.St) (B : Hp) (L : HL) (Q : KB) : Prop :=
  ∃ te, PT X e te ∧ ∀ H, Sat B L H → te σ H (upB Q)
def kW (e : Expr) (σ : L2.St) (B : Hp) (L : HL) (Q : KB) : Prop :=
  ∃ te, PW X e te ∧ ∀ H, Sat B L H → te σ H (upB Q)
def kA (es : List Expr) (σ : L2.St) (B : Hp) (L : HL) (Q : KA) : Prop :=
  ∃ te, PA X es te ∧ ∀ H, Sat B L H → te σ H (upA Q)
def kS (st : Stmt) (σ : L2.St) (B : Hp) (L : HL) (D : KD) : Prop :=
  ∃ t, PS X st t ∧ ∀ H, Sat B L H → t D.dn σ H
def kSs (st : List Stmt) (σ : L2.St) (B : Hp) (L : HL) (D : KD) : Prop :=
  ∃ t, PSs X st t ∧ ∀ H, Sat B L H → t D.dn σ H
def kG (tg : Expr) (v : V) (σ : L2.St) (B : Hp) (L : HL) (Q : KN) : Prop :=
  ∃ t, PG X tg t ∧ ∀ H, Sat B L H → t v σ H (upN Q)
def kGs (ts : List Expr) (vs : List V) (σ : L2.St) (B : Hp) (L : HL) (Q : KN) : Prop :=
  ∃ t, PGs X ts t ∧ ∀ H, Sat B L H → t vs σ H (upN Q)
/-- the canonical readings -/
def cE (e : Expr) : TE := fun σ H Q => ∃ B L Q', Sat B L H ∧ kE X e σ B L Q' ∧ ∀ v H', up Q' v H' → Q v H'
def cT (e : Expr) : TT := fun σ H Q => ∃ B L Q', Sat B L H ∧ kT X e σ B L Q' ∧ ∀ v H', upB Q' v H' → Q v H'
def cW (e : Expr) : TT := fun σ H Q => ∃ B L Q', Sat B L H ∧ kW X e σ B L Q' ∧ ∀ v H', upB Q' v H' → Q v H'
def cA (e : List Expr) : TA := fun σ H Q => ∃ B L Q', Sat B L H ∧ kA X e σ B L Q' ∧ ∀ v H', upA Q' v H' → Q v H'
def cS (st : Stmt) : TS := fun E σ H => ∃ B L D, Sat B L H ∧ kS X st σ B L D ∧ (∀ σ' H', upN D.nx σ' H' → E.nx σ' H') ∧ (∀ v H', up D.rt v H' → E.rt v H') ∧ (∀ σ' H', upN D.bk σ' H' → E.bk σ' H') ∧ (∀ σ' H', upN D.ct σ' H' → E.ct σ' H')
def cSs (st : List Stmt) : TS := fun E σ H => ∃ B L D, Sat B L H ∧ kSs X st σ B L D ∧ (∀ σ' H', upN D.nx σ' H' → E.nx σ' H') ∧ (∀ v H', up D.rt v H' → E.rt v H') ∧ (∀ σ' H', upN D.bk σ' H' → E.bk σ' H') ∧ (∀ σ' H', upN D.ct σ' H' → E.ct σ' H')
def cG (tg : Expr) : TG := fun v σ H Q => ∃ B L Q', Sat B L H ∧ kG X tg v σ B L Q' ∧ ∀ σ' H', upN Q' σ' H' → Q σ' H'
def cGs (tg : List Expr) : TGs := fun v σ H Q => ∃ B L Q', Sat B L H ∧ kGs X tg v σ B L Q' ∧ ∀ σ' H', upN Q' σ' H' → Q σ' H'
end
section
variable {X : Cx} {σ : L2.St} {B : Hp} {L : HL}
theorem pe_c {e : Expr} : PE X e (cE X e) := ⟨fun pins s σ H Q I ⟨B, L, Q', sat, ⟨te, h, q⟩, m⟩ =>
  thn (h.run pins s σ H _ I (q H sat)) fun _ _ ⟨v, H', I', r, z⟩ => ⟨v, H', I', r, m v H' z⟩⟩
theorem pt_c {e : Expr} : PT X e (cT X e) := ⟨fun pins s σ H Q I ⟨B, L, Q', sat, ⟨te, h, q⟩, m⟩ =>
  thn (h.run pins s σ H _ I (q H sat)) fun _ _ ⟨H', I', z⟩ => ⟨H', I', m _ H' z⟩⟩
theorem pw_c {e : Expr} : PW X e (cW X e) := ⟨fun wh pins s σ H Q I ⟨B, L, Q', sat, ⟨te, h, q⟩, m⟩ =>
  thn (h.run wh pins s σ H _ I (q H sat)) fun _ _ ⟨H', I', z⟩ => ⟨H', I', m _ H' z⟩⟩
theorem pa_c {e : List Expr} : PA X e (cA X e) := ⟨fun pos pins s σ H Q I ⟨B, L, Q', sat, ⟨te, h, q⟩, m⟩ =>
  thn (h.run pos pins s σ H _ I (q H sat)) fun _ _ ⟨v, H', I', r, z⟩ => ⟨v, H', I', r, m v H' z⟩⟩
theorem sp_mono {pins : List (Addr × Obj)} {E E' : Ends} (h1 : ∀ σ' H', E.nx σ' H' → E'.nx σ' H') (h2 : ∀ v H', E.rt v H' → E'.rt v H') (h3 : ∀ σ' H', E.bk σ' H' → E'.bk σ' H') (h4 : ∀ σ' H', E.ct σ' H' → E'.ct σ' H') {f : Flow} {s' : Shared} (h : SP X pins E f s') : SP X pins E' f s' := by
  cases f with
  | next => obtain ⟨σ', H', I, q⟩ := h; exact ⟨σ', H', I, h1 _ _ q⟩
  | brk => obtain ⟨σ', H', I, q⟩ := h; exact ⟨σ', H', I, h3 _ _ q⟩
  | cont => obtain ⟨σ', H', I, q⟩ := h; exact ⟨σ', H', I, h4 _ _ q⟩
  | ret u => obtain ⟨v, σ', H', I, r, q⟩ := h; exact ⟨v, σ', H', I, r, h2 _ _ q⟩
theorem ps_c {st : Stmt} : PS X st (cS X st) := ⟨fun pins s σ H E I ⟨B, L, D, sat, ⟨te, h, q⟩, m1, m2, m3, m4⟩ =>
  thn (h.run pins s σ H D.dn I (q H sat)) fun _ _ z => sp_mono m1 m2 m3 m4 z⟩
theorem pss_c {st : List Stmt} : PSs X st (cSs X st) := ⟨fun pins s σ H E I ⟨B, L, D, sat, ⟨te, h, q⟩, m1, m2, m3, m4⟩ =>
  thn (h.run pins s σ H D.dn I (q H sat)) fun _ _ z => sp_mono m1 m2 m3 m4 z⟩
theorem pg_c {tg : Expr} : PG X tg (cG X tg) := ⟨fun pins s σ H v u Q I r ⟨B, L, Q', sat, ⟨te, h, q⟩, m⟩ =>
  thn (h.run pins s σ H v u _ I r (q H sat)) fun _ _ ⟨σ', H', I', z⟩ => ⟨σ', H', I', m σ' H' z⟩⟩
theorem pgs_c {tg : List Expr} : PGs X tg (cGs X tg) := ⟨fun pins s σ H v u Q I r ⟨B, L, Q', sat, ⟨te, h, q⟩, m⟩ =>
  thn (h.run pins s σ H v u _ I r (q H sat)) fun _ _ ⟨σ', H', I', z⟩ => ⟨σ', H', I', m σ' H' z⟩⟩

/-- from a canonical reading's place to the judgement -/
theorem toE {e : Expr} {H : Hp} {Q' : KQ} {Q : VK} (sat : Sat B L H) (h : kE X e σ B L Q') (m : ∀ v H' B' L', Sat B' L' H' → Q' v B' L' → Q v H') : cE X e σ H Q :=
  ⟨B, L, Q', sat, h, fun v H' ⟨B', L', s, q⟩ => m v H' B' L' s q⟩
theorem toT {e : Expr} {H : Hp} {Q' : KB} {Q : Bool → Hp → Prop} (sat : Sat B L H) (h : kT X e σ B L Q') (m : ∀ v H' B' L', Sat B' L' H' → Q' v B' L' → Q v H') : cT X e σ H Q :=
  ⟨B, L, Q', sat, h, fun v H' ⟨B', L', s, q⟩ => m v H' B' L' s q⟩
theorem toW {e : Expr} {H : Hp} {Q' : KB} {Q : Bool → Hp → Prop} (sat : Sat B L H) (h : kW X e σ B L Q') (m : ∀ v H' B' L', Sat B' L' H' → Q' v B' L' → Q v H') : cW X e σ H Q :=
  ⟨B, L, Q', sat, h, fun v H' ⟨B', L', s, q⟩ => m v H' B' L' s q⟩
theorem toA {e : List Expr} {H : Hp} {Q' : KA} {Q : List V → Hp → Prop} (sat : Sat B L H) (h : kA X e σ B L Q') (m : ∀ v H' B' L', Sat B' L' H' → Q' v B' L' → Q v H') : cA X e σ H Q :=
  ⟨B, L, Q', sat, h, fun v H' ⟨B', L', s, q⟩ => m v H' B' L' s q⟩
theorem toG {tg : Expr} {v : V} {H : Hp} {Q' : KN} {Q : L2.St → Hp → Prop} (sat : Sat B L H) (h : kG X tg v σ B L Q') (m : ∀ σ' H' B' L', Sat B' L' H' → Q' σ' B' L' → Q σ' H') : cG X tg v σ H Q :=
  ⟨B, L, Q', sat, h, fun v H' ⟨B', L', s, q⟩ => m v H' B' L' s q⟩
theorem toGs {tg : List Expr} {v : List V} {H : Hp} {Q' : KN} {Q : L2.St → Hp → Prop} (sat : Sat B L H) (h : kGs X tg v σ B L Q') (m : ∀ σ' H' B' L', Sat B' L' H' → Q' σ' B' L' → Q σ' H') : cGs X tg v σ H Q :=
  ⟨B, L, Q', sat, h, fun v H' ⟨B', L', s, q⟩ => m v H' B' L' s q⟩
theorem toS {st : Stmt} {H : Hp} {D : KD} {E : Ends} (sat : Sat B L H) (h : kS X st σ B L D) (m1 : ∀ σ' H' B' L', Sat B' L' H' → D.nx σ' B' L' → E.nx σ' H') (m2 : ∀ v H', up D.rt v H' → E.rt v H') (m3 : ∀ σ' H', upN D.bk σ' H' → E.bk σ' H') (m4 : ∀ σ' H', upN D.ct σ' H' → E.ct σ' H') : cS X st E σ H :=
  ⟨B, L, D, sat, h, fun v H' ⟨B', L', s, q⟩ => m1 v H' B' L' s q, m2, m3, m4⟩
theorem toSs {st : List Stmt} {H : Hp} {D : KD} {E : Ends} (sat : Sat B L H) (h : kSs X st σ B L D) (m1 : ∀ σ' H', upN D.nx σ' H' → E.nx σ' H') (m2 : ∀ v H', up D.rt v H' → E.rt v H') (m3 : ∀ σ' H', upN D.bk σ' H' → E.bk σ' H') (m4 : ∀ σ' H', upN D.ct σ' H' → E.ct σ' H') : cSs X st E σ H :=
  ⟨B, L, D, sat, h, m1, m2, m3, m4⟩
theorem toSs0 {st : List Stmt} {H : Hp} {D : KD} (sat : Sat B L H) (h : kSs X st σ B L D) : cSs X st D.dn σ H :=
  ⟨B, L, D, sat, h, fun _ _ q => q, fun _ _ q => q, fun _ _ q => q, fun _ _ q => q⟩

/-! ### blocks, simple statements -/
variable {D : KD} {st : Stmt} {rest : List Stmt} {pos : Pos} {e a b c : Expr} {Q : KQ}
theorem k_nil (q : D.nx σ B L) : kSs X [] σ B L D := ⟨_, pss_nil, fun H sat => ⟨B, L, sat, q⟩⟩
theorem k_cons (h : kS X st σ B L { D with nx := fun σ' B' L' => kSs X rest σ' B' L' D }) : kSs X (st :: rest) σ B L D :=
  ⟨_, pss_cons ps_c pss_c, fun H sat => toS sat h (fun _ _ _ _ s q => toSs0 s q) (fun _ _ q => q) (fun _ _ q => q) (fun _ _ q => q)⟩
theorem k_one (h : kS X st σ B L D) : kSs X [st] σ B L D := ⟨_, pss_one ps_c, fun H sat => toS sat h (fun _ _ _ _ s q => ⟨_, _, s, q⟩) (fun _ _ q => q) (fun _ _ q => q) (fun _ _ q => q)⟩
theorem k_ret (h : kE X e σ B L D.rt) : kS X (.Return (some e) pos) σ B L D := ⟨_, ps_ret pe_c, fun H sat => toE sat h fun _ _ _ _ s q => ⟨_, _, s, q⟩⟩
theorem k_expr (h : kE X e σ B L fun _ B' L' => D.nx σ B' L') (hs : swapsWith e none pos.line X.env = pure false := by rfl) : kS X (.Expr e pos) σ B L D :=
  ⟨_, ps_expr pe_c hs, fun H sat => toE sat h fun _ _ _ _ s q => ⟨_, _, s, q⟩⟩
theorem k_pass (h : D.nx σ B L) : kS X (.Pass pos) σ B L D := ⟨_, ps_pass, fun H sat => ⟨_, _, sat, h⟩⟩
theorem k_break (h : D.bk σ B L) : kS X (.Break pos) σ B L D := ⟨_, ps_break, fun H sat => ⟨_, _, sat, h⟩⟩
theorem k_continue (h : D.ct σ B L) : kS X (.Continue pos) σ B L D := ⟨_, ps_continue, fun H sat => ⟨_, _, sat, h⟩⟩
theorem k_if {t u : List Stmt} (h : kT X c σ B L fun k B' L' => (k = true → kSs X t σ B' L' D) ∧ (k = false → kSs X u σ B' L' D)) : kS X (.If c t u pos) σ B L D :=
  ⟨_, ps_if pt_c pss_c pss_c, fun H sat => toT sat h fun k H' B' L' s q => by
    cases k with
    | true => exact toSs0 s (q.1 rfl)
    | false => exact toSs0 s (q.2 rfl)⟩
theorem k_set (i : Nat) {x : Str} {pos' : Pos} (h : kE X e σ B L fun v B' L' => D.nx (σ.set i (some v)) B' L') (hN : X.N.Nodup) (hi : X.N[i]? = some x := by rfl) (hx : Loc X.env.scope x := by first | exact Or.inl rfl | exact Or.inr rfl) (hs : swapsWith e (some (.Name x pos')) pos.line X.env = pure false := by rfl)
    (hf : X.fn x = true ∨ X.env.scope.names.lookup x = some .local := by first | exact .inl rfl | exact .inr rfl | assumption) : kS X (.Assign [.Name x pos'] e pos) σ B L D :=
  ⟨_, ps_set hN hi hx pe_c hs hf, fun H sat => toE sat h fun _ _ _ _ s q => ⟨_, _, s, q⟩⟩
theorem k_asg {tg : Expr} (h : kE X e σ B L fun v B' L' => kG X tg v σ B' L' D.nx) (hs : swapsWithSole [tg] e pos.line X.env = pure false := by rfl) (hw : swappedStores [tg] e X.env = pure none := by rfl)
    (h1 : (assignEach [tg] X.env).map (·.2) = [assign tg X.env] := by rfl) : kS X (.Assign [tg] e pos) σ B L D :=
  ⟨_, ps_asg pe_c pg_c hs hw h1, fun H sat => toE sat h fun _ _ _ _ s q => toG s q fun _ _ _ _ s q => ⟨_, _, s, q⟩⟩
theorem g_name (i : Nat) {x : Str} {v : V} {Q : KN} (q : Q (σ.set i (some v)) B L) (hN : X.N.Nodup) (hi : X.N[i]? = some x := by rfl) (hx : Loc X.env.scope x := by first | exact Or.inl rfl | exact Or.inr rfl)
    (hf : X.fn x = true ∨ X.env.scope.names.lookup x = some .local := by first | exact .inl rfl | exact .inr rfl | assumption) : kG X (.Name x pos) v σ B L Q :=
  ⟨_, pg_name hN hi hx hf, fun H sat => ⟨_, _, sat, q⟩⟩
theorem gs_nil {Q : KN} (q : Q σ B L) : kGs X [] [] σ B L Q := ⟨_, pgs_nil, fun H sat => ⟨rfl, _, _, sat, q⟩⟩
theorem gs_cons {t : Expr} {ts : List Expr} {v : V} {vs : List V} {Q : KN} (h : kG X t v σ B L fun σ' B' L' => kGs X ts vs σ' B' L' Q) (hs : (assignEach (t :: ts) X.env).map (·.2) = assign t X.env :: (assignEach ts X.env).map (·.2) := by rfl) : kGs X (t :: ts) (v :: vs) σ B L Q :=
  ⟨_, pgs_cons pg_c pgs_c hs, fun H sat => ⟨_, _, rfl, toG sat h fun _ _ _ _ s q => toGs s q fun _ _ _ _ s q => ⟨_, _, s, q⟩⟩⟩

/-! ### names and constants -/
theorem k_n (i : Nat) {x : Str} {v : V} (q : Q v B L) (hi : X.N[i]? = some x := by rfl) (hs : σ[i]? = some (some v) := by rfl) (hv : Vis X.env.scope x := by first | exact Or.inl rfl | exact Or.inr (Or.inl rfl) | exact Or.inr (Or.inr rfl)) (hd : (x == ("__debug__" : Str)) = false := by decide)
    (hcd : (x == ("__classdict__" : Str)) = false := by decide) : kE X (.Name x pos) σ B L Q := ⟨_, pe_var hi hv hd hcd, fun H sat => ⟨v, hs, _, _, sat, q⟩⟩
theorem k_int {i j} (q : Q (.int i) B L) : kE X (.Constant (.int i) j pos) σ B L Q := ⟨_, pe_int, fun H sat => ⟨_, _, sat, q⟩⟩
theorem k_bl {i j} (q : Q (.bl i) B L) : kE X (.Constant (.bool i) j pos) σ B L Q := ⟨_, pe_bl, fun H sat => ⟨_, _, sat, q⟩⟩
theorem k_non {j} (q : Q .non B L) : kE X (.Constant .none j pos) σ B L Q := ⟨_, pe_non, fun H sat => ⟨_, _, sat, q⟩⟩
theorem k_str {i j} (q : Q (.str i) B L) : kE X (.Constant (.str i) j pos) σ B L Q := ⟨_, pe_str, fun H sat => ⟨_, _, sat, q⟩⟩
/-- a module's name -/
theorem k_g {x : Str} {v : V} {u : Value} (hm : X.mg x = some u) (r : RelV v u) (q : Q v B L) (hg : Gl X x := by rfl) (hd : (x == ("__debug__" : Str)) = false := by decide) : kE X (.Name x pos) σ B L Q := ⟨_, pe_glob hg hm r hd, fun H sat => ⟨_, _, sat, q⟩⟩

/-! ### operators by values -/
def kO (X : Cx) (f : Value → Value → Sem Value) (x y : V) (B : Hp) (L : HL) (Q : KQ) : Prop := ∃ r, OpR X f r ∧ ∀ H, Sat B L H → r x y H (up Q)
def cO (X : Cx) (f : Value → Value → Sem Value) : R2 := fun x y H Q => ∃ B L Q', Sat B L H ∧ kO X f x y B L Q' ∧ ∀ v H', up Q' v H' → Q v H'
theorem or_c {f : Value → Value → Sem Value} : OpR X f (cO X f) := fun pins s σ H x y v u Q I rx ry ⟨B, L, Q', sat, ⟨r, h, q⟩, m⟩ =>
  thn (h pins s σ H x y v u _ I rx ry (q H sat)) fun _ _ ⟨v, H', I', r, z⟩ => ⟨v, H', I', r, m v H' z⟩
theorem toO {f : Value → Value → Sem Value} {x y : V} {H : Hp} {Q' : KQ} {Q : VK} (sat : Sat B L H) (h : kO X f x y B L Q') (m : ∀ v H' B' L', Sat B' L' H' → Q' v B' L' → Q v H') : cO X f x y H Q :=
  ⟨B, L, Q', sat, h, fun v H' ⟨B', L', s, q⟩ => m v H' B' L' s q⟩
theorem k_bin {op : Operator} (h : kE X a σ B L fun x B1 L1 => kE X b σ B1 L1 fun y B2 L2 => kO X (binaryOp op) x y B2 L2 Q) : kE X (.BinOp a op b pos) σ B L Q :=
  ⟨_, pe_op or_c pe_c pe_c, fun H sat => toE sat h fun _ _ _ _ s q => toE s q fun _ _ _ _ s q => toO s q fun _ _ _ _ s q => ⟨_, _, s, q⟩⟩
theorem k_cmp {op : CmpOp} (h : kE X a σ B L fun x B1 L1 => kE X b σ B1 L1 fun y B2 L2 => kO X (compareOp op) x y B2 L2 Q) (hm : behindInMarks op b = false := by first | rfl | exact nomark _) : kE X (.Compare a [op] [b] pos) σ B L Q :=
  ⟨_, pe_cmpR or_c pe_c pe_c hm, fun H sat => toE sat h fun _ _ _ _ s q => toE s q fun _ _ _ _ s q => toO s q fun _ _ _ _ s q => ⟨_, _, s, q⟩⟩
theorem t_cmp {op : CmpOp} {Q : KB} (h : kE X a σ B L fun x B1 L1 => kE X b σ B1 L1 fun y B2 L2 => kO X (compareOp op) x y B2 L2 fun z B3 L3 => ∃ k, z = .bl k ∧ Q k B3 L3) (hm : behindInMarks op b = false := by first | rfl | exact nomark _) : kT X (.Compare a [op] [b] pos) σ B L Q :=
  ⟨_, pt_cmpR or_c pe_c pe_c hm, fun H sat => toE sat h fun _ _ _ _ s q => toE s q fun _ _ _ _ s q => toO s q fun _ _ _ _ s ⟨k, e, q⟩ => ⟨k, e, _, _, s, q⟩⟩
/-- a test whose value is True or False -/
theorem t_val {Q : KB} (h : kE X e σ B L fun x B1 L1 => ∃ k, x = .bl k ∧ Q k B1 L1) (he : ∀ whole, isTrue e X.env whole = (do let v ← whole; standAt e.pos; holding [v] (truthy v)) := by intro _; rfl) : kT X e σ B L Q :=
  ⟨_, pt_val pe_c he, fun H sat => toE sat h fun _ _ _ _ s ⟨k, e, q⟩ => ⟨k, e, _, _, s, q⟩⟩
theorem t_not {Q : KB} (h : kT X a σ B L fun k B1 L1 => Q (!k) B1 L1) : kT X (.UnaryOp .Not a pos) σ B L Q := ⟨_, pt_not pt_c, fun H sat => toT sat h fun _ _ _ _ s q => ⟨_, _, s, q⟩⟩
theorem t_w {Q : KB} (h : kW X e σ B L Q) : kT X e σ B L Q := by
  obtain ⟨t, p, q⟩ := h
  exact ⟨t, p.pt, q⟩
theorem w_and {Q : KB} {es : List Expr} (h : kT X a σ B L fun k B1 L1 => (k = true → kW X (.BoolOp .And (b :: es) pos) σ B1 L1 Q) ∧ (k = false → Q false B1 L1)) : kW X (.BoolOp .And (a :: b :: es) pos) σ B L Q :=
  ⟨_, pw_and pt_c pw_c, fun H sat => toT sat h fun k H' _ _ s q => by
    cases k with
    | true => exact iteT (toW s (q.1 rfl) fun _ _ _ _ s q => ⟨_, _, s, q⟩)
    | false => exact iteF ⟨_, _, s, q.2 rfl⟩⟩
theorem w_and1 {Q : KB} (h : kT X a σ B L Q) : kW X (.BoolOp .And [a] pos) σ B L Q := ⟨_, pw_and1 pt_c, fun H sat => toT sat h fun _ _ _ _ s q => ⟨_, _, s, q⟩⟩
theorem w_or {Q : KB} {es : List Expr} (h : kT X a σ B L fun k B1 L1 => (k = false → kW X (.BoolOp .Or (b :: es) pos) σ B1 L1 Q) ∧ (k = true → Q true B1 L1)) : kW X (.BoolOp .Or (a :: b :: es) pos) σ B L Q :=
  ⟨_, pw_or pt_c pw_c, fun H sat => toT sat h fun k H' _ _ s q => by
    cases k with
    | false => exact iteF (toW s (q.1 rfl) fun _ _ _ _ s q => ⟨_, _, s, q⟩)
    | true => exact iteT ⟨_, _, s, q.2 rfl⟩⟩
theorem w_or1 {Q : KB} (h : kT X a σ B L Q) : kW X (.BoolOp .Or [a] pos) σ B L Q := ⟨_, pw_or1 pt_c, fun H sat => toT sat h fun _ _ _ _ s q => ⟨_, _, s, q⟩⟩
theorem k_and {es : List Expr} (h : kE X a σ B L fun x B1 L1 => ∃ k, x = .bl k ∧ (k = true → kE X (.BoolOp .And (b :: es) pos) σ B1 L1 Q) ∧ (k = false → Q (.bl false) B1 L1)) : kE X (.BoolOp .And (a :: b :: es) pos) σ B L Q :=
  ⟨_, pe_and pe_c pe_c, fun H sat => toE sat h fun x H' _ _ s ⟨k, e, q1, q2⟩ => ⟨k, e, by
    cases k with
    | true => exact iteT (toE s (q1 rfl) fun _ _ _ _ s q => ⟨_, _, s, q⟩)
    | false => exact iteF ⟨_, _, s, q2 rfl⟩⟩⟩
theorem k_or {es : List Expr} (h : kE X a σ B L fun x B1 L1 => ∃ k, x = .bl k ∧ (k = false → kE X (.BoolOp .Or (b :: es) pos) σ B1 L1 Q) ∧ (k = true → Q (.bl true) B1 L1)) : kE X (.BoolOp .Or (a :: b :: es) pos) σ B L Q :=
  ⟨_, pe_or pe_c pe_c, fun H sat => toE sat h fun x H' _ _ s ⟨k, e, q1, q2⟩ => ⟨k, e, by
    cases k with
    | false => exact iteF (toE s (q1 rfl) fun _ _ _ _ s q => ⟨_, _, s, q⟩)
    | true => exact iteT ⟨_, _, s, q2 rfl⟩⟩⟩
theorem k_and1 (h : kE X a σ B L Q) : kE X (.BoolOp .And [a] pos) σ B L Q := ⟨_, pe_one pe_c, fun H sat => toE sat h fun _ _ _ _ s q => ⟨_, _, s, q⟩⟩
theorem k_or1 (h : kE X a σ B L Q) : kE X (.BoolOp .Or [a] pos) σ B L Q := ⟨_, pe_one pe_c, fun H sat => toE sat h fun _ _ _ _ s q => ⟨_, _, s, q⟩⟩
theorem k_not (h : kE X a σ B L fun x B1 L1 => ∃ k, x = .bl k ∧ Q (.bl (!k)) B1 L1) : kE X (.UnaryOp .Not a pos) σ B L Q := ⟨_, pe_not pe_c, fun H sat => toE sat h fun _ _ _ _ s ⟨k, e, q⟩ => ⟨k, e, _, _, s, q⟩⟩
theorem k_ife (h : kT X c σ B L fun k B1 L1 => (k = true → kE X a σ B1 L1 Q) ∧ (k = false → kE X b σ B1 L1 Q)) : kE X (.IfExp c a b pos) σ B L Q :=
  ⟨_, pe_ifExp pt_c pe_c pe_c, fun H sat => toT sat h fun k H' _ _ s q => by
    cases k with
    | true => exact iteT (toE s (q.1 rfl) fun _ _ _ _ s q => ⟨_, _, s, q⟩)
    | false => exact iteF (toE s (q.2 rfl) fun _ _ _ _ s q => ⟨_, _, s, q⟩)⟩
end
end Kv

namespace Kv
open PySem PySem.Spec PyProof.Rows L2

/-- a text by its codes -/
abbrev sOf (l : List Nat) : Str := ⟨l.toArray⟩
theorem sOf_len (l : List Nat) : (sOf l).length = l.length := by simp [Str.length]
theorem sOf_inj {a b : List Nat} : V.str (sOf a) = V.str (sOf b) ↔ a = b := by simp [sOf]
theorem sOf_app (a b : List Nat) : sOf a ++ sOf b = sOf (a ++ b) := by
  show Str.append _ _ = _
  simp [Str.append, sOf]
theorem sOf_size (l : List Nat) : (sOf l).cps.size = l.length := by simp [sOf]
theorem small {n : Nat} (h : n ≤ 16777216) : n ≤ sizeLine := by rw [sizeLine_eq]; exact h
theorem small' {n : Nat} (h : n < 16777216) : n < sizeLine := by rw [sizeLine_eq]; exact h

section
variable {X : Cx} {σ : L2.St} {B : Hp} {L : HL} {Q : KQ} {D : KD} {pos p2 : Pos} {e a b c : Expr} {es : List Expr}
theorem Sat.keep {H H' : Hp} (s : Sat B L H) (e : ∀ b o, H b = some o → H' b = some o) : Sat B L H' := ⟨fun a o h => e a o (s.ext a o h), fun p hp => e _ _ (s.own p hp), s.nb, s.nd⟩
/-- behind a call that keeps all -/
theorem Sat.upq {H H' : Hp} {v : V} (s : Sat B L H) (e : ∀ b o, H b = some o → H' b = some o) (q : Q v B L) : up Q v H' := ⟨B, L, s.keep e, q⟩
theorem Sat.free {H : Hp} {p : Addr} (s : Sat B L H) (h : H p = none) : B p = none := by
  cases e : B p with
  | none => rfl
  | some o => rw [s.ext p o e] at h; cases h
theorem Sat.notin {H : Hp} {p : Addr} (s : Sat B L H) (h : H p = none) : p ∉ L.map (·.1) := fun hm => by
  obtain ⟨q, hq, e⟩ := List.mem_map.mp hm
  have := s.own q hq
  rw [e, h] at this
  cases this
/-- a new object -/
theorem Sat.new {H : Hp} {p : Addr} {o : HO} (s : Sat B L H) (h : H p = none) : Sat B ((p, o) :: L) (upd H p o) := by
  refine ⟨fun a u e => ?_, fun q hq => ?_, fun q hq => ?_, ?_⟩
  · rw [upd_ne (ne_of_none (s.ext a u e) h)]; exact s.ext a u e
  · rcases List.mem_cons.mp hq with e | hq
    · rw [e]; exact upd_same
    · rw [upd_ne (ne_of_none (s.own q hq) h)]; exact s.own q hq
  · rcases List.mem_cons.mp hq with e | hq
    · rw [e]; exact s.free h
    · exact s.nb q hq
  · exact List.nodup_cons.mpr ⟨s.notin h, s.nd⟩
/-- the same, the rest of the heap grown as well -/
theorem Sat.new' {H H' : Hp} {p : Addr} {o : HO} (s : Sat B L H) (h : H p = none) (e : ∀ b o, H b = some o → H' b = some o) (h' : H' p = some o) : Sat B ((p, o) :: L) H' :=
  ⟨fun a u q => e a u (s.ext a u q), fun q hq => by
    rcases List.mem_cons.mp hq with z | hq
    · rw [z]; exact h'
    · exact e _ _ (s.own q hq), fun q hq => by
    rcases List.mem_cons.mp hq with z | hq
    · rw [z]; exact s.free h
    · exact s.nb q hq, List.nodup_cons.mpr ⟨s.notin h, s.nd⟩⟩
/-- a store to an object of ours -/
theorem Sat.set {H : Hp} {p : Addr} {o o' : HO} {L1 L2 : HL} (s : Sat B (L1 ++ (p, o) :: L2) H) : Sat B (L1 ++ (p, o') :: L2) (upd H p o') := by
  have nd := s.nd
  rw [List.map_append, List.map_cons] at nd
  have hd : ∀ q ∈ L1 ++ L2, q.1 ≠ p := by
    intro q hq e
    have h1 := List.nodup_append.mp nd
    rcases List.mem_append.mp hq with h | h
    · exact h1.2.2 q.1 (List.mem_map.mpr ⟨q, h, rfl⟩) p (by simp) e
    · exact (List.nodup_cons.mp h1.2.1).1 (e ▸ List.mem_map.mpr ⟨q, h, rfl⟩)
  refine ⟨fun a u e => ?_, fun q hq => ?_, fun q hq => ?_, by rw [List.map_append, List.map_cons]; exact nd⟩
  · have hp := s.nb (p, o) (by simp)
    rw [upd_ne (fun z => by rw [z, hp] at e; cases e)]; exact s.ext a u e
  · rcases List.mem_append.mp hq with h | h
    · rw [upd_ne (hd q (List.mem_append_left _ h))]; exact s.own q (List.mem_append_left _ h)
    · rcases List.mem_cons.mp h with z | h
      · rw [z]; exact upd_same
      · rw [upd_ne (hd q (List.mem_append_right _ h))]; exact s.own q (List.mem_append_right _ (List.mem_cons_of_mem _ h))
  · rcases List.mem_append.mp hq with h | h
    · exact s.nb q (List.mem_append_left _ h)
    · rcases List.mem_cons.mp h with z | h
      · rw [z]; exact s.nb (p, o) (by simp)
      · exact s.nb q (List.mem_append_right _ (List.mem_cons_of_mem _ h))
/-- forget an object of ours -/
theorem Sat.drop {H : Hp} {p : Addr × HO} (s : Sat B (p :: L) H) : Sat B L H := ⟨s.ext, fun q hq => s.own q (List.mem_cons_of_mem _ hq), fun q hq => s.nb q (List.mem_cons_of_mem _ hq), (List.nodup_cons.mp s.nd).2⟩
theorem Sat.whole {H : Hp} : Sat H [] H := ⟨fun _ _ h => h, fun _ h => (by cases h), fun _ h => (by cases h), List.nodup_nil⟩
/-- the whole heap is the base -/
theorem Sat.base {H : Hp} (s : Sat B L H) : ∃ B', (∀ a o, B a = some o → B' a = some o) ∧ (∀ p ∈ L, B' p.1 = some p.2) ∧ Sat B' [] H := ⟨H, s.ext, s.own, Sat.whole⟩

/-- a list, a tuple that is read: of the base, or ours -/
def Ls (K : PySem.W.Frag) (B : Hp) (L : HL) (a : Addr) (xs : List V) : Prop := SqL K B a xs ∨ (a, HO.lst xs) ∈ L
def Tp (K : PySem.W.Frag) (B : Hp) (L : HL) (a : Addr) (xs : List V) : Prop := SqT K B a xs ∨ (a, HO.tup xs) ∈ L
theorem ext_l {K : PySem.W.Frag} {H H' : Hp} {a : Addr} {xs : List V} (e : ∀ b o, H b = some o → H' b = some o) (h : SqL K H a xs) : SqL K H' a xs := by
  rcases h with (h | ⟨o, h⟩) | h
  · exact .inl (.inl (e _ _ h))
  · exact .inl (.inr ⟨o, e _ _ h⟩)
  · exact .inr h
theorem ext_t {K : PySem.W.Frag} {H H' : Hp} {a : Addr} {xs : List V} (e : ∀ b o, H b = some o → H' b = some o) (h : SqT K H a xs) : SqT K H' a xs := by
  rcases h with (h | ⟨o, h⟩) | h
  · exact .inl (.inl (e _ _ h))
  · exact .inl (.inr ⟨o, e _ _ h⟩)
  · exact .inr h
theorem Ls.at {K : PySem.W.Frag} {H : Hp} {p : Addr} {xs : List V} (h : Ls K B L p xs) (s : Sat B L H) : SqL K H p xs := by
  rcases h with h | h
  · exact ext_l s.ext h
  · exact .inl (.inl (s.own _ h))
theorem Tp.at {K : PySem.W.Frag} {H : Hp} {p : Addr} {xs : List V} (h : Tp K B L p xs) (s : Sat B L H) : SqT K H p xs := by
  rcases h with h | h
  · exact ext_t s.ext h
  · exact .inl (.inl (s.own _ h))

/-! ### values' operators -/
theorem o_of {f : Value → Value → Sem Value} {x y : V} {r : R2} (h : OpR X f r) (q : ∀ H, Sat B L H → r x y H (up Q)) : kO X f x y B L Q := ⟨r, h, q⟩
theorem o_add {i j : Int} (q : Q (.int (i + j)) B L) : kO X (binaryOp .Add) (.int i) (.int j) B L Q := ⟨_, op_add, fun H s => ⟨i, j, rfl, rfl, _, _, s, q⟩⟩
theorem o_sub {i j : Int} (q : Q (.int (i - j)) B L) : kO X (binaryOp .Sub) (.int i) (.int j) B L Q := ⟨_, op_sub, fun H s => ⟨i, j, rfl, rfl, _, _, s, q⟩⟩
theorem o_mul {i j : Int} (q : Q (.int (i * j)) B L) (h : CMul i j) : kO X (binaryOp .Mult) (.int i) (.int j) B L Q := ⟨_, op_mul, fun H s => ⟨i, j, rfl, rfl, h, _, _, s, q⟩⟩
theorem o_mod {i j : Int} (q : Q (.int (i % j)) B L) (h : 0 < j) : kO X (binaryOp .Mod) (.int i) (.int j) B L Q := ⟨_, op_mod, fun H s => ⟨i, j, rfl, rfl, h, _, _, s, q⟩⟩
theorem o_fdiv {i j : Int} (q : Q (.int (i / j)) B L) (h : 0 < j ∧ j < 1073741824) : kO X (binaryOp .FloorDiv) (.int i) (.int j) B L Q := ⟨_, op_fdiv, fun H s => ⟨i, j, rfl, rfl, h, _, _, s, q⟩⟩
theorem o_pow {i j : Int} (q : Q (.int (i ^ j.toNat)) B L) (h : CPow i j) : kO X (binaryOp .Pow) (.int i) (.int j) B L Q := ⟨_, op_pow, fun H s => ⟨i, j, rfl, rfl, h, _, _, s, q⟩⟩
theorem o_adds {i j : List Nat} (q : Q (.str (sOf (i ++ j))) B L) (h : i.length + j.length ≤ 16777216) : kO X (binaryOp .Add) (.str (sOf i)) (.str (sOf j)) B L Q :=
  ⟨_, op_add_str, fun H s => ⟨_, _, rfl, rfl, by rw [sOf_len, sOf_len]; exact small h, by rw [sOf_app]; exact ⟨_, _, s, q⟩⟩⟩
theorem o_lt {i j : Int} (q : Q (.bl (decide (i < j))) B L) : kO X (compareOp .Lt) (.int i) (.int j) B L Q := ⟨_, op_lt, fun H s => ⟨i, j, rfl, rfl, _, _, s, q⟩⟩
theorem o_le {i j : Int} (q : Q (.bl (decide (i ≤ j))) B L) : kO X (compareOp .LtE) (.int i) (.int j) B L Q := ⟨_, op_le, fun H s => ⟨i, j, rfl, rfl, _, _, s, q⟩⟩
theorem o_gt {i j : Int} (q : Q (.bl (decide (j < i))) B L) : kO X (compareOp .Gt) (.int i) (.int j) B L Q := ⟨_, op_gt, fun H s => ⟨i, j, rfl, rfl, _, _, s, q⟩⟩
theorem o_ge {i j : Int} (q : Q (.bl (decide (j ≤ i))) B L) : kO X (compareOp .GtE) (.int i) (.int j) B L Q := ⟨_, op_ge, fun H s => ⟨i, j, rfl, rfl, _, _, s, q⟩⟩
theorem o_eqi {i j : Int} (q : Q (.bl (decide (i = j))) B L) : kO X (compareOp .Eq) (.int i) (.int j) B L Q := ⟨_, op_eq, fun H s => ⟨rfl, _, _, s, by
  have e : decide (V.int i = V.int j) = decide (i = j) := by simp
  rw [e]; exact q⟩⟩
theorem o_nei {i j : Int} (q : Q (.bl (!decide (i = j))) B L) : kO X (compareOp .NotEq) (.int i) (.int j) B L Q := ⟨_, op_ne, fun H s => ⟨rfl, _, _, s, by
  have e : decide (V.int i = V.int j) = decide (i = j) := by simp
  rw [e]; exact q⟩⟩
theorem o_eqs {i j : List Nat} (q : Q (.bl (decide (i = j))) B L) : kO X (compareOp .Eq) (.str (sOf i)) (.str (sOf j)) B L Q := ⟨_, op_eq, fun H s => ⟨rfl, _, _, s, by
  have e : decide (V.str (sOf i) = V.str (sOf j)) = decide (i = j) := by simp
  rw [e]; exact q⟩⟩
theorem o_nes {i j : List Nat} (q : Q (.bl (!decide (i = j))) B L) : kO X (compareOp .NotEq) (.str (sOf i)) (.str (sOf j)) B L Q := ⟨_, op_ne, fun H s => ⟨rfl, _, _, s, by
  have e : decide (V.str (sOf i) = V.str (sOf j)) = decide (i = j) := by simp
  rw [e]; exact q⟩⟩
theorem o_eqb {i j : Bool} (q : Q (.bl (decide (i = j))) B L) : kO X (compareOp .Eq) (.bl i) (.bl j) B L Q := ⟨_, op_eq, fun H s => ⟨rfl, _, _, s, by
  have e : decide (V.bl i = V.bl j) = decide (i = j) := by simp
  rw [e]; exact q⟩⟩
theorem o_neb {i j : Bool} (q : Q (.bl (!decide (i = j))) B L) : kO X (compareOp .NotEq) (.bl i) (.bl j) B L Q := ⟨_, op_ne, fun H s => ⟨rfl, _, _, s, by
  have e : decide (V.bl i = V.bl j) = decide (i = j) := by simp
  rw [e]; exact q⟩⟩
/-- one sign in a text -/
theorem o_ins {i : Nat} {l : List Nat} (q : Q (.bl (decide (i ∈ l))) B L) : kO X (compareOp .In) (.str (sOf [i])) (.str (sOf l)) B L Q := ⟨_, op_in_sign, fun H s => ⟨i, _, rfl, rfl, _, _, s, q⟩⟩
theorem o_nins {i : Nat} {l : List Nat} (q : Q (.bl (!decide (i ∈ l))) B L) : kO X (compareOp .NotIn) (.str (sOf [i])) (.str (sOf l)) B L Q := ⟨_, op_notIn_sign, fun H s => ⟨i, _, rfl, rfl, _, _, s, q⟩⟩
theorem o_isN {x : V} (q : Q (.bl (decide (x = .non))) B L) : kO X (compareOp .Is) x .non B L Q := ⟨_, op_isN, fun H s => ⟨rfl, _, _, s, q⟩⟩
theorem o_notN {x : V} (q : Q (.bl (!decide (x = .non))) B L) : kO X (compareOp .IsNot) x .non B L Q := ⟨_, op_notN, fun H s => ⟨rfl, _, _, s, q⟩⟩

/-! ### arguments, displays -/
theorem a_nil {Q : KA} (q : Q [] B L) : kA X [] σ B L Q := ⟨_, pa_nil, fun H s => ⟨_, _, s, q⟩⟩
theorem a_cons {Q : KA} (h : kE X e σ B L fun v B1 L1 => kA X es σ B1 L1 fun vs B2 L2 => Q (v :: vs) B2 L2) (hs : starEach (e :: es) X.env = (false, eval e X.env) :: starEach es X.env := by rfl) : kA X (e :: es) σ B L Q :=
  ⟨_, pa_cons pe_c pa_c hs, fun H s => toE s h fun _ _ _ _ s q => toA s q fun _ _ _ _ s q => ⟨_, _, s, q⟩⟩
theorem k_tup {x1} (h : kA X es σ B L fun vs B1 L1 => vs.length ≤ 16777216 ∧ ∀ p, Q (.ref p) B1 ((p, .tup vs) :: L1)) : kE X (.Tuple es x1 pos) σ B L Q :=
  ⟨_, pe_tup pa_c, fun H s => toA s h fun _ _ _ _ s q => ⟨small q.1, fun p hp => ⟨_, _, s.new hp, q.2 p⟩⟩⟩
theorem k_lst (h : kA X es σ B L fun vs B1 L1 => vs.length ≤ 16777216 ∧ ∀ p, Q (.ref p) B1 ((p, .lst vs) :: L1)) : kE X (.List es pos) σ B L Q :=
  ⟨_, pe_lst pa_c, fun H s => toA s h fun _ _ _ _ s q => ⟨small q.1, fun p hp => ⟨_, _, s.new hp, q.2 p⟩⟩⟩

/-! ### calls by values -/
def kC (X : Cx) (f : Value) (vs : List V) (B : Hp) (L : HL) (Q : KQ) : Prop := ∃ r, CallR X f r ∧ ∀ H, Sat B L H → r vs H (up Q)
def cC (X : Cx) (f : Value) : List V → Hp → VK → Prop := fun vs H Q => ∃ B L Q', Sat B L H ∧ kC X f vs B L Q' ∧ ∀ v H', up Q' v H' → Q v H'
theorem cr_c {f : Value} : CallR X f (cC X f) := fun pins s σ H xs us Q I r ⟨B, L, Q', sat, ⟨k, h, q⟩, m⟩ =>
  thn (h pins s σ H xs us _ I r (q H sat)) fun _ _ ⟨v, H', I', r, z⟩ => ⟨v, H', I', r, m v H' z⟩
theorem toC {f : Value} {vs : List V} {H : Hp} {Q' : KQ} {Q : VK} (sat : Sat B L H) (h : kC X f vs B L Q') (m : ∀ v H' B' L', Sat B' L' H' → Q' v B' L' → Q v H') : cC X f vs H Q :=
  ⟨B, L, Q', sat, h, fun v H' ⟨B', L', s, q⟩ => m v H' B' L' s q⟩
theorem k_callB {x : Str} {id : String} (hm : X.mg x = none) (h : kA X (e :: es) σ B L fun vs B1 L1 => kC X (.builtin id) vs B1 L1 Q) (hv : bootBuiltins x = some (.builtin id) := by decide +kernel) (hg : Gl X x := by rfl) (hn : x ≠ "__name__" := by decide) (hdb : (x == ("__debug__" : Str)) = false := by decide)
    (he : starEach (e :: es) X.env = (false, eval e X.env) :: starEach es X.env := by rfl) (hpl : (backTo pos (starEach es X.env)).any (·.1) = false := by rfl) : kE X (.Call (.Name x p2) (e :: es) [] pos) σ B L Q :=
  ⟨_, pe_callB cr_c hg hm hv pa_c hn hdb he hpl, fun H s => toA s h fun _ _ _ _ s q => toC s q fun _ _ _ _ s q => ⟨_, _, s, q⟩⟩
theorem k_callT {x : Str} {T : String} (hm : X.mg x = none) (h : kA X (e :: es) σ B L fun vs B1 L1 => kC X (.type T) vs B1 L1 Q) (hv : bootBuiltins x = some (.type T) := by decide +kernel) (hg : Gl X x := by rfl) (hn : x ≠ "__name__" := by decide) (hdb : (x == ("__debug__" : Str)) = false := by decide)
    (he : starEach (e :: es) X.env = (false, eval e X.env) :: starEach es X.env := by rfl) (hpl : (backTo pos (starEach es X.env)).any (·.1) = false := by rfl) : kE X (.Call (.Name x p2) (e :: es) [] pos) σ B L Q :=
  ⟨_, pe_callTy cr_c hg hm hv pa_c hn hdb he hpl, fun H s => toA s h fun _ _ _ _ s q => toC s q fun _ _ _ _ s q => ⟨_, _, s, q⟩⟩
theorem c_lens {l : List Nat} (q : Q (.int l.length) B L) (h : l.length ≤ 16777216) : kC X (.builtin "len") [.str (sOf l)] B L Q := ⟨_, call_len_str, fun H s => ⟨_, rfl, by rw [sOf_len]; exact small h, by rw [sOf_len]; exact ⟨_, _, s, q⟩⟩⟩
theorem c_lenl {p : Addr} {xs : List V} (h : Ls X.K B L p xs) (q : Q (.int xs.length) B L) : kC X (.builtin "len") [.ref p] B L Q := ⟨_, call_len_seq, fun H s => ⟨p, xs, rfl, .inl (h.at s), _, _, s, q⟩⟩
theorem c_lent {p : Addr} {xs : List V} (h : Tp X.K B L p xs) (q : Q (.int xs.length) B L) : kC X (.builtin "len") [.ref p] B L Q := ⟨_, call_len_seq, fun H s => ⟨p, xs, rfl, .inr (h.at s), _, _, s, q⟩⟩
theorem c_abs {i : Int} (q : Q (.int (if i < 0 then -i else i)) B L) : kC X (.builtin "abs") [.int i] B L Q := ⟨_, call_abs, fun H s => ⟨i, rfl, _, _, s, q⟩⟩
theorem c_min2 {i j : Int} (q : Q (.int (if j < i then j else i)) B L) (hc : X.calm = true := by rfl) : kC X (.builtin "min") [.int i, .int j] B L Q := ⟨_, call_min2 hc, fun H s => ⟨i, j, rfl, _, _, s, q⟩⟩
theorem c_max2 {i j : Int} (q : Q (.int (if j > i then j else i)) B L) (hc : X.calm = true := by rfl) : kC X (.builtin "max") [.int i, .int j] B L Q := ⟨_, call_max2 hc, fun H s => ⟨i, j, rfl, _, _, s, q⟩⟩
theorem c_intb {k : Bool} (q : Q (.int (if k then 1 else 0)) B L) : kC X (.type "int") [.bl k] B L Q := ⟨_, call_int1, fun H s => .inr ⟨k, rfl, _, _, s, q⟩⟩
theorem c_listl {p : Addr} {xs : List V} (h : Ls X.K B L p xs) (q : ∀ l, Q (.ref l) B ((l, .lst xs) :: L)) : kC X (.type "list") [.ref p] B L Q := ⟨_, call_list_of, fun H s => ⟨p, xs, rfl, .inl (h.at s), fun l hl => ⟨_, _, s.new hl, q l⟩⟩⟩
theorem c_listt {p : Addr} {xs : List V} (h : Tp X.K B L p xs) (q : ∀ l, Q (.ref l) B ((l, .lst xs) :: L)) : kC X (.type "list") [.ref p] B L Q := ⟨_, call_list_of, fun H s => ⟨p, xs, rfl, .inr (h.at s), fun l hl => ⟨_, _, s.new hl, q l⟩⟩⟩
theorem c_tupl {p : Addr} {xs : List V} (h : Ls X.K B L p xs) (q : ∀ l, Q (.ref l) B ((l, .tup xs) :: L)) : kC X (.type "tuple") [.ref p] B L Q := ⟨_, call_tuple_of, fun H s => ⟨p, xs, rfl, .inl ⟨h.at s, fun l hl => ⟨_, _, s.new hl, q l⟩⟩⟩⟩
theorem c_all {p : Addr} {bs : List Bool} (h : Ls X.K B L p (bs.map V.bl)) (q : Q (.bl (bs.all id)) B L) (hc : X.calm = true := by rfl) : kC X (.builtin "all") [.ref p] B L Q := ⟨_, cr_all hc, fun H s => ⟨p, bs, rfl, h.at s, _, _, s, q⟩⟩
theorem c_any {p : Addr} {bs : List Bool} (h : Ls X.K B L p (bs.map V.bl)) (q : Q (.bl (bs.any id)) B L) (hc : X.calm = true := by rfl) : kC X (.builtin "any") [.ref p] B L Q := ⟨_, cr_any hc, fun H s => ⟨p, bs, rfl, h.at s, _, _, s, q⟩⟩
theorem c_sum {p : Addr} {ns : List Int} (h : Ls X.K B L p (ns.map V.int)) (q : Q (.int ns.sum) B L) (hc : X.calm = true := by rfl) : kC X (.builtin "sum") [.ref p] B L Q := ⟨_, cr_sum hc, fun H s => ⟨p, ns, rfl, h.at s, _, _, s, q⟩⟩
theorem c_isi {x c : V} {t u : Value} {k : Bool} (hc : ClsV c u) (ht : ∀ H, Sat B L H → TyX X.K H x t) (hk : PySem.W.kitOne X.K t u = some k) (q : Q (.bl k) B L) : kC X (.builtin "isinstance") [x, c] B L Q := ⟨_, call_isi, fun H s => ⟨x, c, t, u, k, rfl, hc, ht H s, hk, _, _, s, q⟩⟩

/-! ### calls of the program's own defs -/
structure Fn (P : Program) (w : World) (K : PySem.W.Frag) (mg : Str → Option Value) (base : Heap) (k : Nat) (x : Str) (sp : Sp) : Prop where
  ex : ∃ f fd ps, FnOk P w K mg base (L2.CX P w) k f fd ps sp ∧ mg x = some (.ref f) ∧ PySem.W.keepIn K (.ref f) = true ∧ Binds K fd ps []
theorem k_call {x : Str} {k : Nat} {sp : Sp} {W : WX} (F : Fn X.prog X.w X.K X.mg X.base k x sp) (hr : Room k X.A) (tk : Takes X W) (h : kA X (e :: es) σ B L fun vs B1 L1 => ∀ H, Sat B1 L1 H → sp vs H (up Q) (WE W σ)) (hg : Gl X x := by rfl)
    (hdb : (x == ("__debug__" : Str)) = false := by decide) (he : starEach (e :: es) X.env = (false, eval e X.env) :: starEach es X.env := by rfl) (hpl : (backTo pos (starEach es X.env)).any (·.1) = false := by rfl) : kE X (.Call (.Name x p2) (e :: es) [] pos) σ B L Q := by
  obtain ⟨f, fd, ps, hF, hm, hk, hb⟩ := F.ex
  exact ⟨_, pe_callS hF hr hg hm hk hb (fun σ => passAt tk σ) pa_c hdb he hpl, fun H s => toA s h fun _ _ _ _ s q => q _ s⟩
theorem k_call0 {x : Str} {k : Nat} {sp : Sp} {W : WX} (F : Fn X.prog X.w X.K X.mg X.base k x sp) (hr : Room k X.A) (h : ∀ H, Sat B L H → sp [] H (up Q) E0) (hg : Gl X x := by rfl)
    (hdb : (x == ("__debug__" : Str)) = false := by decide) : kE X (.Call (.Name x p2) [] [] pos) σ B L Q := by
  obtain ⟨f, fd, ps, hF, hm, hk, hb⟩ := F.ex
  exact ⟨_, pe_call0 hF hr hg hm hk hb .nil passL hdb, fun H s => h H s⟩

/-! ### subscripts -/
def kI (X : Cx) (x y : V) (B : Hp) (L : HL) (Q : KQ) : Prop := ∃ r, IxR X r ∧ ∀ H, Sat B L H → r x y H (up Q)
def cI (X : Cx) : R2 := fun x y H Q => ∃ B L Q', Sat B L H ∧ kI X x y B L Q' ∧ ∀ v H', up Q' v H' → Q v H'
theorem ix_c : IxR X (cI X) := fun v1 s1 pins s σ H x y v u Q I rx ry ⟨B, L, Q', sat, ⟨k, h, q⟩, m⟩ hs =>
  thn (h v1 s1 pins s σ H x y v u _ I rx ry (q H sat) hs) fun _ _ ⟨v, H', I', r, z⟩ => ⟨v, H', I', r, m v H' z⟩
theorem k_ix (h : kE X a σ B L fun x B1 L1 => kE X b σ B1 L1 fun y B2 L2 => kI X x y B2 L2 Q) (hs : PlainIx b := by exact fun _ _ => rfl) : kE X (.Subscript a b pos) σ B L Q :=
  ⟨_, pe_ix ix_c pe_c pe_c hs, fun H s => toE s h fun _ _ _ _ s q => toE s q fun _ _ _ _ s q => ⟨_, _, _, s, q, fun _ _ z => z⟩⟩
theorem i_list {p : Addr} {xs : List V} {i : Int} {v : V} (h : Ls X.K B L p xs) (hv : atI xs i = some v) (q : Q v B L) : kI X (.ref p) (.int i) B L Q := ⟨_, ix_list, fun H s => ⟨p, xs, i, v, rfl, rfl, h.at s, hv, _, _, s, q⟩⟩
theorem i_tup {p : Addr} {xs : List V} {i : Int} {v : V} (h : Tp X.K B L p xs) (hv : atI xs i = some v) (q : Q v B L) : kI X (.ref p) (.int i) B L Q := ⟨_, ix_tup, fun H s => ⟨p, xs, i, v, rfl, rfl, h.at s, hv, _, _, s, q⟩⟩
theorem i_str {l : List Nat} {i : Int} {c : Nat} (hv : atI l i = some c) (q : Q (.str (sOf [c])) B L) (hl : l.length ≤ 16777216) : kI X (.str (sOf l)) (.int i) B L Q := ⟨_, ix_str, fun H s => ⟨_, i, c, rfl, rfl, by rw [sOf_len]; exact small hl, hv, _, _, s, q⟩⟩
def kSl (X : Cx) (x : V) (lo hi : Option Int) (B : Hp) (L : HL) (Q : KQ) : Prop := ∃ r, SlR X r ∧ ∀ H, Sat B L H → r x lo hi H (up Q)
def kP (X : Cx) (e : Option Expr) (σ : L2.St) (B : Hp) (L : HL) (Q : Option Int → Hp → HL → Prop) : Prop := ∃ t, PO X e t ∧ ∀ H, Sat B L H → t σ H fun o H' => ∃ B L, Sat B L H' ∧ Q o B L
theorem p_none {Q : Option Int → Hp → HL → Prop} (q : Q none B L) : kP X none σ B L Q := ⟨_, po_none, fun H s => ⟨_, _, s, q⟩⟩
theorem p_some {Q : Option Int → Hp → HL → Prop} (h : kE X e σ B L fun v B1 L1 => ∃ i, v = .int i ∧ Q (some i) B1 L1) : kP X (some e) σ B L Q := ⟨_, po_some pe_c, fun H s => toE s h fun _ _ _ _ s ⟨i, e, q⟩ => ⟨i, e, _, _, s, q⟩⟩
def cSl (X : Cx) : V → Option Int → Option Int → Hp → VK → Prop := fun x lo hi H Q => ∃ B L Q', Sat B L H ∧ kSl X x lo hi B L Q' ∧ ∀ v H', up Q' v H' → Q v H'
theorem sl_c : SlR X (cSl X) := fun pins s σ H x v vl vu lo hi sl Q I r1 hs pl pu ⟨B, L, Q', sat, ⟨r, h, q⟩, m⟩ => by
  obtain ⟨T, id, h1, h2, h3⟩ := h pins s σ H x v vl vu lo hi sl _ I r1 hs pl pu (q H sat)
  exact ⟨T, id, h1, h2, thn h3 fun _ _ ⟨v, H', I', r, z⟩ => ⟨v, H', I', r, m v H' z⟩⟩
def cP (X : Cx) (e : Option Expr) : TO := fun σ H Q => ∃ B L Q', Sat B L H ∧ kP X e σ B L Q' ∧ ∀ o H' B' L', Sat B' L' H' → Q' o B' L' → Q o H'
theorem po_c {e : Option Expr} : PO X e (cP X e) := ⟨fun pins s σ H Q I ⟨B, L, Q', sat, ⟨t, h, q⟩, m⟩ =>
  thn (h.run pins s σ H _ I (q H sat)) fun _ _ ⟨o, H', I', r, B', L', s, z⟩ => ⟨o, H', I', r, m o H' B' L' s z⟩⟩
theorem k_slice {lo hi : Option Expr} {p3 : Pos} (h : kE X e σ B L fun x B1 L1 => kP X lo σ B1 L1 fun l B2 L2 => kP X hi σ B2 L2 fun u B3 L3 => kSl X x l u B3 L3 Q) : kE X (.Subscript e (.Slice lo hi none p3) pos) σ B L Q :=
  ⟨_, pe_slice sl_c pe_c po_c po_c, fun H s => toE s h fun _ _ _ _ s q => ⟨_, _, _, s, q, fun _ _ _ _ s q => ⟨_, _, _, s, q, fun _ _ _ _ s q => ⟨_, _, _, s, q, fun _ _ z => z⟩⟩⟩⟩
/-- a text's slice, a list's -/
def cut {α : Type} (l : List α) (lo hi : Option Int) : List α := (l.drop (HT.sIx l.length 0 lo)).take (HT.sIx l.length l.length hi - HT.sIx l.length 0 lo)
theorem sl_s {l : List Nat} {lo hi : Option Int} (q : Q (.str (sOf (cut l lo hi))) B L) (hl : l.length ≤ 16777216) : kSl X (.str (sOf l)) lo hi B L Q :=
  ⟨_, sl_str, fun H s => ⟨_, rfl, by rw [sOf_len]; exact small hl, by
    have e : cutS (sOf l) lo hi = sOf (cut l lo hi) := by unfold cutS cut; rw [sOf_len]
    rw [e]; exact ⟨_, _, s, q⟩⟩⟩
theorem sl_l {p : Addr} {xs : List V} {lo hi : Option Int} (h : Ls X.K B L p xs) (q : ∀ l, Q (.ref l) B ((l, .lst (cut xs lo hi)) :: L)) : kSl X (.ref p) lo hi B L Q :=
  ⟨_, sl_list, fun H s => ⟨p, xs, rfl, h.at s, fun l hl => ⟨_, _, s.new hl, q l⟩⟩⟩
end
end Kv

namespace Kv
open PySem PySem.Spec PyProof.Rows L2

/-- where an object of ours stands, and the list with another one there -/
inductive Rep : HL → Addr → HO → HO → HL → Prop where
  | here {p : Addr} {o o' : HO} {L : HL} : Rep ((p, o) :: L) p o o' ((p, o') :: L)
  | there {q : Addr × HO} {p : Addr} {o o' : HO} {L L' : HL} : Rep L p o o' L' → Rep (q :: L) p o o' (q :: L')
theorem Rep.split {L L' : HL} {p : Addr} {o o' : HO} (r : Rep L p o o' L') : ∃ L1 L2, L = L1 ++ (p, o) :: L2 ∧ L' = L1 ++ (p, o') :: L2 := by
  induction r with
  | here => exact ⟨[], _, rfl, rfl⟩
  | there _ ih =>
    obtain ⟨L1, L2, e1, e2⟩ := ih
    exact ⟨_ :: L1, L2, by rw [e1]; rfl, by rw [e2]; rfl⟩
theorem Rep.mem {L L' : HL} {p : Addr} {o o' : HO} (r : Rep L p o o' L') : (p, o) ∈ L := by
  obtain ⟨L1, L2, e1, _⟩ := r.split
  rw [e1]; simp
theorem Sat.rep {B : Hp} {L L' : HL} {H : Hp} {p : Addr} {o o' : HO} (s : Sat B L H) (r : Rep L p o o' L') : Sat B L' (upd H p o') := by
  obtain ⟨L1, L2, e1, e2⟩ := r.split
  rw [e2]
  rw [e1] at s
  exact s.set
/-- the heap changed at p alone, grown elsewhere -/
theorem Sat.rep' {B : Hp} {L L' : HL} {H H' : Hp} {p : Addr} {o o' : HO} (s : Sat B L H) (r : Rep L p o o' L') (e : ∀ b u, b ≠ p → H b = some u → H' b = some u) (h : H' p = some o') : Sat B L' H' := by
  have s2 := s.rep r
  refine s2.keep fun b u q => ?_
  by_cases hb : b = p
  · subst hb
    rw [upd_same] at q
    rw [h]; exact q
  · rw [upd_ne hb] at q
    exact e b u hb q

section
variable {X : Cx} {σ : L2.St} {B : Hp} {L : HL} {Q : KQ} {D : KD} {pos p2 : Pos} {e a b c tg iter elt : Expr} {es : List Expr} {body : List Stmt}
theorem k_drop {p : Addr × HO} (h : kE X e σ B L Q) : kE X e σ B (p :: L) Q := by
  obtain ⟨t, h1, h2⟩ := h
  exact ⟨t, h1, fun H s => h2 H s.drop⟩

/-! ### what is walked -/
def kR (X : Cx) (tg iter : Expr) (σ : L2.St) (B : Hp) (L : HL) (R : It → Hp → HL → Prop) : Prop := ∃ wi, PI X tg iter wi ∧ ∀ H, Sat B L H → wi σ H fun J H' => ∃ B' L', Sat B' L' H' ∧ R J B' L'
def cR (X : Cx) (tg iter : Expr) : TI := fun σ H R => ∃ B L R', Sat B L H ∧ kR X tg iter σ B L R' ∧ ∀ J H' B' L', Sat B' L' H' → R' J B' L' → R J H'
theorem pi_c : PI X tg iter (cR X tg iter) := ⟨fun pins s σ H R I ⟨B, L, R', sat, ⟨wi, h, q⟩, m⟩ =>
  thn (h.run pins s σ H _ I (q H sat)) fun _ _ h1 => thn h1 fun _ _ ⟨it, fp, tn, J, H', e, I', T, t0, f, B', L', s, z⟩ => ⟨it, fp, tn, J, H', e, I', T, t0, f, m J H' B' L' s z⟩⟩
theorem r_list (h : kE X iter σ B L fun v B1 L1 => ∃ a xs, v = .ref a ∧ Ls X.K B1 L1 a xs ∧ R (Itl X.K a) B1 L1) : kR X tg iter σ B L R := ⟨_, pi_list pe_c, fun H s => toE s h fun _ _ _ _ s ⟨a, xs, e, h, q⟩ => ⟨a, e, ⟨xs, h.at s⟩, _, _, s, q⟩⟩
theorem r_tup (h : kE X iter σ B L fun v B1 L1 => ∃ a xs, v = .ref a ∧ Tp X.K B1 L1 a xs ∧ R (Itt X.K a) B1 L1) : kR X tg iter σ B L R := ⟨_, pi_tup pe_c, fun H s => toE s h fun _ _ _ _ s ⟨a, xs, e, h, q⟩ => ⟨a, e, ⟨xs, h.at s⟩, _, _, s, q⟩⟩
theorem r_str (h : kE X iter σ B L fun v B1 L1 => ∃ l, v = .str (sOf l) ∧ R (Its (sOf l)) B1 L1) : kR X tg iter σ B L R := ⟨_, pi_str pe_c, fun H s => toE s h fun _ _ _ _ s ⟨l, e, q⟩ => ⟨_, e, _, _, s, q⟩⟩
theorem r_rng1 (hm : X.mg "range" = none) (h : kE X e σ B L fun v B1 L1 => ∃ n : Int, v = .int n ∧ -(2 ^ 62) ≤ n ∧ n < 2 ^ 62 ∧ R (Itr 0 n.toNat) B1 L1) (hg : Gl X "range" := by rfl) (hs : starEach [e] X.env = (false, eval e X.env) :: starEach [] X.env := by rfl) (hs' : starEach [e] X.env = [(false, eval e X.env)] := by rfl) : kR X tg (.Call (.Name "range" p2) [e] [] pos) σ B L R :=
  ⟨_, pi_range1 hg hm (pa_cons pe_c pa_nil hs) hs', fun H s => toE s h fun _ _ _ _ s ⟨n, e, h1, h2, q⟩ => ⟨n, by rw [e], h1, h2, _, _, s, q⟩⟩
theorem r_rng2 (hm : X.mg "range" = none) (h : kA X [a, b] σ B L fun vs B1 L1 => ∃ i j : Int, vs = [.int i, .int j] ∧ (-(2 ^ 62) ≤ i ∧ i < 2 ^ 62 ∧ -(2 ^ 62) ≤ j ∧ j < 2 ^ 62) ∧ R (Itr i (j - i).toNat) B1 L1) (hg : Gl X "range" := by rfl) (hs1 : starEach [a, b] X.env = [(false, eval a X.env), (false, eval b X.env)] := by rfl) (hs2 : starEach [b] X.env = [(false, eval b X.env)] := by rfl) : kR X tg (.Call (.Name "range" p2) [a, b] [] pos) σ B L R :=
  ⟨_, pi_range2 hg hm pa_c hs1 hs2, fun H s => toA s h fun _ _ _ _ s ⟨i, j, e, h1, q⟩ => ⟨i, j, e, h1, _, _, s, q⟩⟩
theorem r_enum {elts : List Expr} {kk : Nat} {tpos : Pos} (hm : X.mg "enumerate" = none) (h : kE X e σ B L fun v B1 L1 => ∃ a xs, v = .ref a ∧ Ls X.K B1 L1 a xs ∧ R (Ite X.K a) B1 L1) (hg : Gl X "enumerate" := by rfl)
    (hs : starEach [e] X.env = (false, eval e X.env) :: starEach [] X.env := by rfl) (hs' : starEach [e] X.env = [(false, eval e X.env)] := by rfl) : kR X (.Tuple elts kk tpos) (.Call (.Name "enumerate" p2) [e] [] pos) σ B L R :=
  ⟨_, pi_enum hg hm (pa_cons pe_c pa_nil hs) hs', fun H s => toE s h fun _ _ _ _ s ⟨a, xs, e, h, q⟩ => ⟨a, xs, by rw [e], h.at s, _, _, s, q⟩⟩

/-! ### for -/
theorem k_for (hp : PassesOwn (model X.prog X.w) X.A X.env X.xe) (h : kR X tg iter σ B L fun J B1 L1 => ∃ (n : Nat) (G : Hp → Prop) (Y : Nat → Hp → V → Hp → Prop) (Pv : Nat → KN), Walk J n G Y ∧ Pv 0 σ B1 L1 ∧ (∀ i σ B L H, i ≤ n → Pv i σ B L → Sat B L H → G H) ∧
      (∀ i x σ B L H H', i < n → Pv i σ B L → Sat B L H → Y i H x H' → ∃ B' L', Sat B' L' H' ∧ kG X tg x σ B' L' fun σ2 B2 L2 => kSs X body σ2 B2 L2 { D with nx := Pv (i + 1), ct := Pv (i + 1), bk := D.nx }) ∧ ∀ σ B L, Pv n σ B L → D.nx σ B L)
    (hc : X.calm = true := by rfl) (hs : ∀ x, foldedSetIterable iter X.env x = pure x := by intro _; rfl) : kS X (.For tg iter body [] pos) σ B L D :=
  ⟨_, ps_for hp hc pi_c pg_c pss_c hs, fun H s => ⟨B, L, _, s, h, fun J H1 B1 L1 s1 ⟨n, G, Y, Pv, w, p0, hG, ht, hd⟩ =>
    for_it w (fun i σ H => ∃ B L, Sat B L H ∧ Pv i σ B L) ⟨B1, L1, s1, p0⟩ (fun i σ H hi ⟨B, L, s, p⟩ => hG i σ B L H hi p s)
      (fun i x σ H H' hi ⟨B, L, s, p⟩ y => by
        obtain ⟨B', L', s', g⟩ := ht i x σ B L H H' hi p s y
        exact toG s' g fun _ _ _ _ s2 q2 => toSs s2 q2 (fun _ _ z => z) (fun _ _ z => z) (fun _ _ z => z) (fun _ _ z => z))
      fun σ H ⟨B, L, s, p⟩ => ⟨B, L, s, hd σ B L p⟩⟩⟩
theorem k_for_l (Pv : Nat → KN) (hp : PassesOwn (model X.prog X.w) X.A X.env X.xe)
    (h : kE X iter σ B L fun v B1 L1 => ∃ a xs, v = .ref a ∧ Ls X.K B1 L1 a xs ∧ Pv 0 σ B1 L1 ∧ (∀ i σ B L, i ≤ xs.length → Pv i σ B L → Ls X.K B L a xs) ∧
      (∀ i x σ B L, xs[i]? = some x → Pv i σ B L → kG X tg x σ B L fun σ2 B2 L2 => kSs X body σ2 B2 L2 { D with nx := Pv (i + 1), ct := Pv (i + 1), bk := D.nx }) ∧ ∀ σ B L, Pv xs.length σ B L → D.nx σ B L)
    (hc : X.calm = true := by rfl) (hs : ∀ x, foldedSetIterable iter X.env x = pure x := by intro _; rfl) : kS X (.For tg iter body [] pos) σ B L D :=
  k_for hp (r_list (by
    obtain ⟨t, h1, h2⟩ := h
    refine ⟨_, pe_c, fun H s => toE s ⟨t, h1, h2⟩ fun v H' B' L' s' ⟨a, xs, e, hl, p0, hL, ht, hd⟩ => ⟨B', L', s', a, xs, e, hl, xs.length, _, _, Pv, walk_list, p0, fun i σ B L H hi p s => (hL i σ B L hi p).at s, fun i x σ B L H H' hi p s y => ?_, hd⟩⟩
    obtain ⟨rfl, hx⟩ := y
    exact ⟨B, L, s, ht i x σ B L hx p⟩)) hc hs
theorem k_for_t (Pv : Nat → KN) (hp : PassesOwn (model X.prog X.w) X.A X.env X.xe)
    (h : kE X iter σ B L fun v B1 L1 => ∃ a xs, v = .ref a ∧ Tp X.K B1 L1 a xs ∧ Pv 0 σ B1 L1 ∧ (∀ i σ B L, i ≤ xs.length → Pv i σ B L → Tp X.K B L a xs) ∧
      (∀ i x σ B L, xs[i]? = some x → Pv i σ B L → kG X tg x σ B L fun σ2 B2 L2 => kSs X body σ2 B2 L2 { D with nx := Pv (i + 1), ct := Pv (i + 1), bk := D.nx }) ∧ ∀ σ B L, Pv xs.length σ B L → D.nx σ B L)
    (hc : X.calm = true := by rfl) (hs : ∀ x, foldedSetIterable iter X.env x = pure x := by intro _; rfl) : kS X (.For tg iter body [] pos) σ B L D :=
  k_for hp (r_tup (by
    obtain ⟨t, h1, h2⟩ := h
    refine ⟨_, pe_c, fun H s => toE s ⟨t, h1, h2⟩ fun v H' B' L' s' ⟨a, xs, e, hl, p0, hL, ht, hd⟩ => ⟨B', L', s', a, xs, e, hl, xs.length, _, _, Pv, walk_tup, p0, fun i σ B L H hi p s => (hL i σ B L hi p).at s, fun i x σ B L H H' hi p s y => ?_, hd⟩⟩
    obtain ⟨rfl, hx⟩ := y
    exact ⟨B, L, s, ht i x σ B L hx p⟩)) hc hs
theorem k_for_s (Pv : Nat → KN) (hp : PassesOwn (model X.prog X.w) X.A X.env X.xe)
    (h : kE X iter σ B L fun v B1 L1 => ∃ l, v = .str (sOf l) ∧ Pv 0 σ B1 L1 ∧
      (∀ i c σ B L, l[i]? = some c → Pv i σ B L → kG X tg (.str (sOf [c])) σ B L fun σ2 B2 L2 => kSs X body σ2 B2 L2 { D with nx := Pv (i + 1), ct := Pv (i + 1), bk := D.nx }) ∧ ∀ σ B L, Pv l.length σ B L → D.nx σ B L)
    (hc : X.calm = true := by rfl) (hs : ∀ x, foldedSetIterable iter X.env x = pure x := by intro _; rfl) : kS X (.For tg iter body [] pos) σ B L D :=
  k_for hp (r_str (by
    obtain ⟨t, h1, h2⟩ := h
    refine ⟨_, pe_c, fun H s => toE s ⟨t, h1, h2⟩ fun v H' B' L' s' ⟨l, e, p0, ht, hd⟩ => ⟨B', L', s', l, e, (sOf l).cps.size, _, _, Pv, walk_str, p0, fun i σ B L H hi p s => trivial, fun i x σ B L H H' hi p s y => ?_, by rw [sOf_size]; exact hd⟩⟩
    obtain ⟨rfl, c, hx, rfl⟩ := y
    exact ⟨B, L, s, ht i c σ B L (by simpa [sOf] using hx) p⟩)) hc hs
theorem k_for_r1 (Pv : Nat → KN) (hp : PassesOwn (model X.prog X.w) X.A X.env X.xe) (hm : X.mg "range" = none)
    (h : kE X e σ B L fun v B1 L1 => ∃ n : Int, v = .int n ∧ -(2 ^ 62) ≤ n ∧ n < 2 ^ 62 ∧ Pv 0 σ B1 L1 ∧
      (∀ (i : Nat) σ B L, i < n.toNat → Pv i σ B L → kG X tg (.int i) σ B L fun σ2 B2 L2 => kSs X body σ2 B2 L2 { D with nx := Pv (i + 1), ct := Pv (i + 1), bk := D.nx }) ∧ ∀ σ B L, Pv n.toNat σ B L → D.nx σ B L)
    (hg : Gl X "range" := by rfl) (hst : starEach [e] X.env = (false, eval e X.env) :: starEach [] X.env := by rfl) (hst' : starEach [e] X.env = [(false, eval e X.env)] := by rfl) (hc : X.calm = true := by rfl) (hs : ∀ x, foldedSetIterable (.Call (.Name "range" p2) [e] [] pos) X.env x = pure x := by intro _; rfl) :
    kS X (.For tg (.Call (.Name "range" p2) [e] [] pos) body [] pos') σ B L D :=
  k_for hp (r_rng1 hm (by
    obtain ⟨t, h1, h2⟩ := h
    refine ⟨_, pe_c, fun H s => toE s ⟨t, h1, h2⟩ fun v H' B' L' s' ⟨n, e, b1, b2, p0, ht, hd⟩ => ⟨B', L', s', n, e, b1, b2, n.toNat, _, _, Pv, walk_range, p0, fun i σ B L H hi p s => trivial, fun i x σ B L H H' hi p s y => ?_, hd⟩⟩
    obtain ⟨rfl, rfl⟩ := y
    refine ⟨B, L, s, ?_⟩
    have e0 : ((0 : Int) + (i : Int)) = (i : Int) := Int.zero_add _
    show kG X tg (.int ((0 : Int) + (i : Int))) σ B L _
    rw [e0]
    exact ht i σ B L hi p) hg hst hst') hc hs
theorem k_for_r2 (Pv : Nat → KN) (hp : PassesOwn (model X.prog X.w) X.A X.env X.xe) (hm : X.mg "range" = none)
    (h : kA X [a, b] σ B L fun vs B1 L1 => ∃ i0 n : Int, vs = [.int i0, .int n] ∧ (-(2 ^ 62) ≤ i0 ∧ i0 < 2 ^ 62 ∧ -(2 ^ 62) ≤ n ∧ n < 2 ^ 62) ∧ Pv 0 σ B1 L1 ∧
      (∀ (i : Nat) σ B L, i < (n - i0).toNat → Pv i σ B L → kG X tg (.int (i0 + i)) σ B L fun σ2 B2 L2 => kSs X body σ2 B2 L2 { D with nx := Pv (i + 1), ct := Pv (i + 1), bk := D.nx }) ∧ ∀ σ B L, Pv (n - i0).toNat σ B L → D.nx σ B L)
    (hg : Gl X "range" := by rfl) (hs1 : starEach [a, b] X.env = [(false, eval a X.env), (false, eval b X.env)] := by rfl) (hs2 : starEach [b] X.env = [(false, eval b X.env)] := by rfl) (hc : X.calm = true := by rfl) (hs : ∀ x, foldedSetIterable (.Call (.Name "range" p2) [a, b] [] pos) X.env x = pure x := by intro _; rfl) :
    kS X (.For tg (.Call (.Name "range" p2) [a, b] [] pos) body [] pos') σ B L D :=
  k_for hp (r_rng2 hm (by
    obtain ⟨t, h1, h2⟩ := h
    refine ⟨_, pa_c, fun H s => toA s ⟨t, h1, h2⟩ fun v H' B' L' s' ⟨i0, n, e, b1, p0, ht, hd⟩ => ⟨B', L', s', i0, n, e, b1, (n - i0).toNat, _, _, Pv, walk_range, p0, fun i σ B L H hi p s => trivial, fun i x σ B L H H' hi p s y => ?_, hd⟩⟩
    obtain ⟨rfl, rfl⟩ := y
    exact ⟨B, L, s, ht i σ B L hi p⟩) hg hs1 hs2) hc hs
/-- a pair that a walk has made goes to two targets, and is forgotten -/
theorem g_pair {t u : Expr} {kk : Nat} {T : Addr} {x y : V} {Q : KN} (h : kGs X [t, u] [x, y] σ B L Q) (hc : X.calm = true := by rfl) (hn : (assignEach [t, u] X.env).length = 2 := by rfl) (hst : (assignEach [t, u] X.env).findIdx? (·.1) = none := by rfl) :
    kG X (.Tuple [t, u] kk pos) (.ref T) σ B ((T, .tup [x, y]) :: L) Q :=
  ⟨_, pg_tup hc pgs_c hn hst, fun H s => ⟨T, _, rfl, .inl (.inl (s.own _ List.mem_cons_self)), rfl, toGs s.drop h fun _ _ _ _ s q => ⟨_, _, s, q⟩⟩⟩
theorem g_tup {ts : List Expr} {kk n : Nat} {T : Addr} {xs : List V} {Q : KN} (h1 : Tp X.K B L T xs) (hl : xs.length = n) (h : kGs X ts xs σ B L Q) (hc : X.calm = true := by rfl) (hn : (assignEach ts X.env).length = n := by rfl) (hst : (assignEach ts X.env).findIdx? (·.1) = none := by rfl) :
    kG X (.Tuple ts kk pos) (.ref T) σ B L Q :=
  ⟨_, pg_tup hc pgs_c hn hst, fun H s => ⟨T, _, rfl, h1.at s, hl, toGs s h fun _ _ _ _ s q => ⟨_, _, s, q⟩⟩⟩
theorem k_for_en (Pv : Nat → KN) (hp : PassesOwn (model X.prog X.w) X.A X.env X.xe) (hm : X.mg "enumerate" = none) {t u : Expr} {kk : Nat} {tpos : Pos}
    (h : kE X e σ B L fun v B1 L1 => ∃ a xs, v = .ref a ∧ Ls X.K B1 L1 a xs ∧ Pv 0 σ B1 L1 ∧ (∀ i σ B L, i ≤ xs.length → Pv i σ B L → Ls X.K B L a xs) ∧
      (∀ (i : Nat) x σ B L, xs[i]? = some x → Pv i σ B L → kGs X [t, u] [.int i, x] σ B L fun σ2 B2 L2 => kSs X body σ2 B2 L2 { D with nx := Pv (i + 1), ct := Pv (i + 1), bk := D.nx }) ∧ ∀ σ B L, Pv xs.length σ B L → D.nx σ B L)
    (hg : Gl X "enumerate" := by rfl) (hst : starEach [e] X.env = (false, eval e X.env) :: starEach [] X.env := by rfl) (hst' : starEach [e] X.env = [(false, eval e X.env)] := by rfl) (hc : X.calm = true := by rfl) (hs : ∀ x, foldedSetIterable (.Call (.Name "enumerate" p2) [e] [] pos) X.env x = pure x := by intro _; rfl)
    (hn : (assignEach [t, u] X.env).length = 2 := by rfl) (hfi : (assignEach [t, u] X.env).findIdx? (·.1) = none := by rfl) : kS X (.For (.Tuple [t, u] kk tpos) (.Call (.Name "enumerate" p2) [e] [] pos) body [] pos') σ B L D :=
  k_for hp (r_enum hm (by
    obtain ⟨te, h1, h2⟩ := h
    refine ⟨_, pe_c, fun H s => toE s ⟨te, h1, h2⟩ fun v H' B' L' s' ⟨a, xs, e, hl, p0, hL, ht, hd⟩ => ⟨B', L', s', a, xs, e, hl, xs.length, _, _, Pv, walk_enum, p0, fun i σ B L H hi p s => (hL i σ B L hi p).at s, fun i x σ B L H H' hi p s y => ?_, hd⟩⟩
    obtain ⟨T, x1, y1, rfl, hT, rfl, e1, e2⟩ := y
    cases e1
    exact ⟨B, _, s.new hT, g_pair (ht i y1 σ B L e2 p) hc hn hfi⟩) hg hst hst') hc hs

/-! ### while, op= -/
theorem k_while (W : Nat → KN) (m0 : Nat) (hp : PassesOwn (model X.prog X.w) X.A X.env X.xe) (h0 : W m0 σ B L)
    (hs : ∀ m σ B L, W m σ B L → kT X c σ B L fun k B1 L1 => (k = true → kSs X body σ B1 L1 { D with nx := fun σ' B' L' => ∃ m', m' < m ∧ W m' σ' B' L', ct := fun σ' B' L' => ∃ m', m' < m ∧ W m' σ' B' L', bk := D.nx }) ∧ (k = false → D.nx σ B1 L1)) :
    kS X (.While c body [] pos) σ B L D :=
  ⟨_, ps_while hp pt_c pss_c, fun H s => ⟨fun m σ H => ∃ B L, Sat B L H ∧ W m σ B L, ⟨m0, B, L, s, h0⟩, fun m σ H ⟨B, L, s, w⟩ => toT s (hs m σ B L w) fun k H' B' L' s' q => by
    cases k with
    | true =>
      refine iteT ⟨_, fun σ' H' ⟨B2, L2, s2, m', hm, w'⟩ => ⟨m', hm, B2, L2, s2, w'⟩, toSs s' (q.1 rfl) (fun _ _ z => z) (fun _ _ z => z) (fun _ _ z => z) (fun _ _ z => z)⟩
    | false => exact iteF ⟨_, _, s', q.2 rfl⟩⟩⟩
theorem k_aug_add (i : Nat) {x : Str} {pos' : Pos} {n : Int} (h : kE X e σ B L fun v B1 L1 => ∃ m, v = .int m ∧ D.nx (σ.set i (some (.int (n + m)))) B1 L1) (hN : X.N.Nodup) (hx : σ[i]? = some (some (.int n)) := by rfl) (hi : X.N[i]? = some x := by rfl) (hl : Loc X.env.scope x := by first | exact Or.inl rfl | exact Or.inr rfl)
    (hf : X.fn x = true ∨ X.env.scope.names.lookup x = some .local := by first | exact .inl rfl | exact .inr rfl | assumption) : kS X (.AugAssign (.Name x pos') .Add e pos) σ B L D := ⟨_, ps_aug hN hi hl pe_c ip_add (hf := hf), fun H s => ⟨_, hx, toE s h fun _ _ _ _ s ⟨m, e, q⟩ => ⟨n, m, rfl, e, _, _, s, q⟩⟩⟩
theorem k_aug_sub (i : Nat) {x : Str} {pos' : Pos} {n : Int} (h : kE X e σ B L fun v B1 L1 => ∃ m, v = .int m ∧ D.nx (σ.set i (some (.int (n - m)))) B1 L1) (hN : X.N.Nodup) (hx : σ[i]? = some (some (.int n)) := by rfl) (hi : X.N[i]? = some x := by rfl) (hl : Loc X.env.scope x := by first | exact Or.inl rfl | exact Or.inr rfl)
    (hf : X.fn x = true ∨ X.env.scope.names.lookup x = some .local := by first | exact .inl rfl | exact .inr rfl | assumption) : kS X (.AugAssign (.Name x pos') .Sub e pos) σ B L D := ⟨_, ps_aug hN hi hl pe_c ip_sub (hf := hf), fun H s => ⟨_, hx, toE s h fun _ _ _ _ s ⟨m, e, q⟩ => ⟨n, m, rfl, e, _, _, s, q⟩⟩⟩
/-- xs[i] = v, xs ours -/
theorem g_setl {v : V} {Q : KN} (h : kE X a σ B L fun x B1 L1 => kE X b σ B1 L1 fun y B2 L2 => ∃ p xs k j L3, x = .ref p ∧ y = .int k ∧ ixN xs.length k = some j ∧ Rep L2 p (.lst xs) (.lst (xs.set j v)) L3 ∧ Q σ B2 L3)
    (ha : ∀ v, assign (.Subscript a b pos) X.env v = (do
      let ov ← holding [v] (eval a X.env)
      let iv ← holding [v, ov] (eval b X.env)
      standAt pos
      holding [v, ov, iv] (setItem ov iv v)
      release [v, ov, iv] []) := by intro _; rfl) : kG X (.Subscript a b pos) v σ B L Q :=
  ⟨_, pg_sub pe_c pe_c set_list ha, fun H s => toE s h fun _ _ _ _ s q => toE s q fun _ _ _ _ s ⟨p, xs, k, j, L3, e1, e2, hj, r, q⟩ => ⟨p, xs, k, j, e1, e2, s.own _ r.mem, hj, _, _, s.rep r, q⟩⟩

/-! ### methods of built-in types -/
def kMt (X : Cx) (id : String) (x : V) (vs : List V) (B : Hp) (L : HL) (Q : KQ) : Prop := ∃ r, MtR X id r ∧ ∀ H, Sat B L H → r x vs H (up Q)
def cMt (X : Cx) (id : String) : V → List V → Hp → VK → Prop := fun x vs H Q => ∃ B L Q', Sat B L H ∧ kMt X id x vs B L Q' ∧ ∀ v H', up Q' v H' → Q v H'
theorem mt_c {id : String} : MtR X id (cMt X id) := fun pins s σ H x xs v us Q I rx r ⟨B, L, Q', sat, ⟨k, h, q⟩, m⟩ =>
  thn (h pins s σ H x xs v us _ I rx r (q H sat)) fun _ _ ⟨v, H', I', r, z⟩ => ⟨v, H', I', r, m v H' z⟩
theorem k_m {T id : String} {name : Str} {apos : Pos} (pa : PlainAttrs T) (slot : Slot T name id) (hty : typeOf (.builtin id) = pure (.type "method_descriptor"))
    (h : kE X a σ B L fun x B1 L1 => (∀ H, Sat B1 L1 H → tyV X.K T x H) ∧ kA X (e :: es) σ B1 L1 fun vs B2 L2 => kMt X id x vs B2 L2 Q)
    (hbase : attributeBase a name X.env (eval a X.env) = eval a X.env := by rfl)
    (hfew : ((backTo pos (starEach (e :: es) X.env)).all (fun x => !x.1) && (backToKw pos (keywordEach [] X.env)).all (fun x => x.1.isSome)
      && decide ((e :: es).length + ([] : List Keyword).length + (if ([] : List Keyword).isEmpty then 0 else 1) < 30)) = true := by rfl)
    (hline : (apos.endLine == pos.line) = true := by rfl) (hs : starEach (e :: es) X.env = (false, eval e X.env) :: starEach es X.env := by rfl) (hplain : (backTo pos (starEach es X.env)).any (·.1) = false := by rfl) :
    kE X (.Call (.Attribute a name apos) (e :: es) [] pos) σ B L Q :=
  ⟨_, pe_bm pa slot hty mt_c pe_c pa_c hbase hfew hline hs hplain, fun H s => toE s h fun x H' _ _ s ⟨ty, q⟩ => ⟨ty H' s, toA s q fun _ _ _ _ s q => ⟨_, _, _, s, q, fun _ _ z => z⟩⟩⟩
theorem k_m0 {T id : String} {name : Str} {apos : Pos} (pa : PlainAttrs T) (slot : Slot T name id) (hty : typeOf (.builtin id) = pure (.type "method_descriptor"))
    (h : kE X a σ B L fun x B1 L1 => (∀ H, Sat B1 L1 H → tyV X.K T x H) ∧ kMt X id x [] B1 L1 Q)
    (hbase : attributeBase a name X.env (eval a X.env) = eval a X.env := by rfl) (hline : (apos.endLine == pos.line) = true := by rfl) :
    kE X (.Call (.Attribute a name apos) [] [] pos) σ B L Q :=
  ⟨_, pe_bm0 pa slot hty mt_c pe_c hbase hline, fun H s => toE s h fun x H' _ _ s ⟨ty, q⟩ => ⟨ty H' s, ⟨_, _, _, s, q, fun _ _ z => z⟩⟩⟩
theorem m_append {p : Addr} {xs : List V} {v : V} {L' : HL} (r : Rep L p (.lst xs) (.lst (xs ++ [v])) L') (q : Q .non B L') (hl : xs.length < 16777216) : kMt X "list.append" (.ref p) [v] B L Q :=
  ⟨_, mt_append, fun H s => ⟨p, xs, v, rfl, rfl, s.own _ r.mem, small' hl, _, _, s.rep r, q⟩⟩
theorem m_pop {p : Addr} {xs : List V} {v : V} {L' : HL} (hv : xs[xs.length - 1]? = some v) (r : Rep L p (.lst xs) (.lst xs.dropLast) L') (q : Q v B L') : kMt X "list.pop" (.ref p) [] B L Q :=
  ⟨_, mt_pop, fun H s => ⟨p, xs, v, rfl, rfl, s.own _ r.mem, hv, _, _, s.rep r, q⟩⟩
theorem m_clear {p : Addr} {xs : List V} {L' : HL} (r : Rep L p (.lst xs) (.lst []) L') (q : Q .non B L') : kMt X "list.clear" (.ref p) [] B L Q :=
  ⟨_, mt_clear, fun H s => ⟨p, xs, rfl, rfl, s.own _ r.mem, _, _, s.rep r, q⟩⟩
theorem ty_l {p : Addr} {xs : List V} (h : Ls X.K B L p xs) : ∀ H, Sat B L H → tyV X.K "list" (.ref p) H := fun H s => .inl ⟨rfl, xs, h.at s⟩
theorem ty_s {l : Str} : ∀ H, Sat B L H → tyV X.K "str" (.str l) H := fun H s => rfl
end
end Kv

namespace Kv
open PySem PySem.Spec PyProof.Rows L2

/-- a comprehension's block -/
abbrev Bk (X : Cx) (scope : Scope) (s : Shared) (H : Hp) (C : Addr) (cl : List (Str × Addr)) (fp : List Addr) : Cx := X.blk s H scope (compEnvC scope cl C X.env) fp
def gB (X : Cx) (scope : Scope) (tg : Expr) : TG := fun v σ H Q => ∀ s H0 C cl fp, cG (Bk X scope s H0 C cl fp) tg v σ H Q
def eB (X : Cx) (scope : Scope) (e : Expr) : TE := fun σ H Q => ∀ s H0 C cl fp, cE (Bk X scope s H0 C cl fp) e σ H Q
def tBk (X : Cx) (scope : Scope) (e : Expr) : TT := fun σ H Q => ∀ s H0 C cl fp, cT (Bk X scope s H0 C cl fp) e σ H Q
section
variable {X : Cx} {σ : L2.St} {B : Hp} {L : HL} {Q : KQ} {D : KD} {pos p2 : Pos} {e a b c tg iter elt : Expr} {es : List Expr} {body : List Stmt} {scope : Scope} {own : List (Str × Nat)}
theorem pg_b : ∀ (s : Shared) (H : Hp) (C : Addr) (cl : List (Str × Addr)) (fp : List Addr), PG (X.blk s H scope (compEnvC scope cl C X.env) fp) tg (gB X scope tg) := fun s H0 C cl fp => ⟨fun pins s' σ H v u Q I r h => pg_c.run pins s' σ H v u Q I r (h s H0 C cl fp)⟩
theorem pe_b : ∀ (s : Shared) (H : Hp) (C : Addr) (cl : List (Str × Addr)) (fp : List Addr), PE (X.blk s H scope (compEnvC scope cl C X.env) fp) e (eB X scope e) := fun s H0 C cl fp => ⟨fun pins s' σ H Q I h => pe_c.run pins s' σ H Q I (h s H0 C cl fp)⟩
theorem pt_b : ∀ (s : Shared) (H : Hp) (C : Addr) (cl : List (Str × Addr)) (fp : List Addr), PT (X.blk s H scope (compEnvC scope cl C X.env) fp) e (tBk X scope e) := fun s H0 C cl fp => ⟨fun pins s' σ H Q I h => pt_c.run pins s' σ H Q I (h s H0 C cl fp)⟩
theorem pe_bu {e : Expr} {σ : L2.St} {H : Hp} {Q' : KQ} {Q : VK} (sat : Sat B L H) (h : ∀ s H0 C cl fp, kE (Bk X scope s H0 C cl fp) e σ B L Q') (m : ∀ v H' B' L', Sat B' L' H' → Q' v B' L' → Q v H') : eB X scope e σ H Q := fun s H0 C cl fp => toE sat (h s H0 C cl fp) m

/-- the slots of a comprehension with one name of its own -/
theorem wipe1 (σ : L2.St) (j : Nat) (x : V) : wipe ((wipe σ [j]).set j (some x)) [j] = wipe σ [j] := by simp [wipe, List.set_set]
theorem wipe1' (σ : L2.St) (j : Nat) (x : V) : (wipe σ [j]).set j (some x) = σ.set j (some x) := by simp [wipe, List.set_set]

theorem tyes {σ : L2.St} {H : Hp} {Q : Bool → Hp → Prop} (h : Q true H) : tYes σ H Q := h
/-- [elt for tg in iter if ..], of a list of names of its own -/
def kL (X : Cx) (elt tg iter : Expr) (ifs : List Expr) (scope : Scope) (own : List (Str × Nat)) (σ : L2.St) (B : Hp) (L : HL) (Q : KQ) : Prop :=
  X.calm = true ∧ X.N.Nodup ∧ BlkOk X.N X.env.scope scope own ∧ (∀ x, foldedSetIterable iter X.env x = pure x) ∧ ∃ tt, (∀ (s : Shared) (H : Hp) (C : Addr) (cl : List (Str × Addr)) (fp : List Addr), PTs (X.blk s H scope (compEnvC scope cl C X.env) fp) ifs tt) ∧
    ∀ H, Sat B L H → tLc (cR X tg iter) (gB X scope tg) tt (eB X scope elt) (own.map (·.2)) σ H (up Q)
theorem k_le {ifs : List Expr} (h : kL X elt tg iter ifs scope own σ B L Q) : kE X (.ListComp elt [⟨tg, iter, ifs, 0⟩] scope pos) σ B L Q := by
  obtain ⟨hc, hN, ok, hs, tt, ht, q⟩ := h
  exact ⟨_, pe_lc hc hN pi_c ok pg_b ht pe_b hs, q⟩
/-- name = [..] on one row -/
theorem k_sle (i : Nat) {y : Str} {py spos : Pos} {ifs : List Expr} (h : kL X elt tg iter ifs scope own σ B L fun v B1 L1 => D.nx (σ.set i (some v)) B1 L1)
    (hy : X.N[i]? = some y := by rfl) (hyl : X.env.scope.names.lookup y = some .local := by rfl) (hk : X.env.scope.kind = .function := by rfl) (hl : (py.line == pos.line) = true := by rfl) (ha : (scope.names.any fun (n, k) => n == y && (k == .local || k == .cell)) = false := by decide +kernel) :
    kS X (.Assign [.Name y py] (.ListComp elt [⟨tg, iter, ifs, 0⟩] scope pos) spos) σ B L D := by
  obtain ⟨hc, hN, ok, hs, tt, ht, q⟩ := h
  exact ⟨_, ps_setLc hc hN hy hyl (sw_true hk hyl hl ha) pi_c ok pg_b ht pe_b hs, fun H s => q H s⟩
/-- [elt for tg in iter] -/
theorem k_lc (hN : X.N.Nodup) (ok : BlkOk X.N X.env.scope scope own)
    (h : kR X tg iter σ B L fun J B1 L1 => ∃ (n : Nat) (G : Hp → Prop) (Y : Nat → Hp → V → Hp → Prop) (Pv : Nat → List V → Hp → HL → Prop), Walk J n G Y ∧ Pv 0 [] B1 L1 ∧ (∀ i acc B L H, i ≤ n → Pv i acc B L → Sat B L H → G H) ∧
      (∀ D i acc x B L H H', i < n → Pv i acc B L → Sat B ((D, .lst acc) :: L) H → Y i H x H' → ∃ B' L', Sat B' L' H' ∧ ∀ s H0 C cl fp, kG (Bk X scope s H0 C cl fp) tg x (wipe σ (own.map (·.2))) B' L' fun σ2 B2 L2 => wipe σ2 (own.map (·.2)) = wipe σ (own.map (·.2)) ∧
        ∀ s H0 C cl fp, kE (Bk X scope s H0 C cl fp) elt σ2 B2 L2 fun y B3 L3 => acc.length < 16777216 ∧ ∃ L4, L3 = (D, .lst acc) :: L4 ∧ Pv (i + 1) (acc ++ [y]) B3 L4) ∧
      ∀ acc B L D, Pv n acc B L → Q (.ref D) B ((D, .lst acc) :: L))
    (hc : X.calm = true := by rfl) (hs : ∀ x, foldedSetIterable iter X.env x = pure x := by intro _; rfl) : kL X elt tg iter [] scope own σ B L Q :=
  ⟨hc, hN, ok, hs, _, (fun _ _ _ _ _ => pts_nil), fun H s => ⟨B, L, _, s, h, fun J H1 B1 L1 s1 ⟨n, G, Y, Pv, w, p0, hG, ht, hd⟩ D hD =>
    lc_it w (fun i H => ∃ acc B L, Sat B ((D, .lst acc) :: L) H ∧ Pv i acc B L) ⟨[], B1, L1, s1.new hD, p0⟩ (fun i H hi ⟨acc, B, L, s, p⟩ => hG i acc B L H hi p s.drop)
      (fun i x H H' hi ⟨acc, B, L, s, p⟩ y => by
        obtain ⟨B', L', s', g⟩ := ht D i acc x B L H H' hi p s y
        intro sa Ha Ca cla fpa
        refine toG s' (g sa Ha Ca cla fpa) fun σ2 H2 B2 L2 s2 ⟨hw, q2⟩ => ⟨hw, ?_⟩
        refine tyes ?_
        rw [if_pos rfl]
        refine pe_bu s2 q2 fun v H3 B3 L3 s3 ⟨hl, L4, eL, q3⟩ => ?_
        subst eL
        exact ⟨acc, s3.own _ List.mem_cons_self, small' hl, acc ++ [v], B3, L4, s3.rep .here, q3⟩)
      fun H ⟨acc, B, L, s, p⟩ => ⟨_, _, s, hd acc B L D p⟩⟩⟩
/-- .. with one test -/
theorem k_lcf (hN : X.N.Nodup) (ok : BlkOk X.N X.env.scope scope own)
    (h : kR X tg iter σ B L fun J B1 L1 => ∃ (n : Nat) (G : Hp → Prop) (Y : Nat → Hp → V → Hp → Prop) (Pv : Nat → List V → Hp → HL → Prop), Walk J n G Y ∧ Pv 0 [] B1 L1 ∧ (∀ i acc B L H, i ≤ n → Pv i acc B L → Sat B L H → G H) ∧
      (∀ D i acc x B L H H', i < n → Pv i acc B L → Sat B ((D, .lst acc) :: L) H → Y i H x H' → ∃ B' L', Sat B' L' H' ∧ ∀ s H0 C cl fp, kG (Bk X scope s H0 C cl fp) tg x (wipe σ (own.map (·.2))) B' L' fun σ2 B2 L2 => wipe σ2 (own.map (·.2)) = wipe σ (own.map (·.2)) ∧
        ∀ s H0 C cl fp, kT (Bk X scope s H0 C cl fp) c σ2 B2 L2 fun k B3 L3 => (k = true → ∀ s H0 C cl fp, kE (Bk X scope s H0 C cl fp) elt σ2 B3 L3 fun y B3 L3 => acc.length < 16777216 ∧ ∃ L4, L3 = (D, .lst acc) :: L4 ∧ Pv (i + 1) (acc ++ [y]) B3 L4) ∧
          (k = false → ∃ L4, L3 = (D, .lst acc) :: L4 ∧ Pv (i + 1) acc B3 L4)) ∧
      ∀ acc B L D, Pv n acc B L → Q (.ref D) B ((D, .lst acc) :: L))
    (hc : X.calm = true := by rfl) (hs : ∀ x, foldedSetIterable iter X.env x = pure x := by intro _; rfl) : kL X elt tg iter [c] scope own σ B L Q :=
  ⟨hc, hN, ok, hs, _, (fun s H C cl fp => pts_one (pt_b s H C cl fp)), fun H s => ⟨B, L, _, s, h, fun J H1 B1 L1 s1 ⟨n, G, Y, Pv, w, p0, hG, ht, hd⟩ D hD =>
    lc_it w (fun i H => ∃ acc B L, Sat B ((D, .lst acc) :: L) H ∧ Pv i acc B L) ⟨[], B1, L1, s1.new hD, p0⟩ (fun i H hi ⟨acc, B, L, s, p⟩ => hG i acc B L H hi p s.drop)
      (fun i x H H' hi ⟨acc, B, L, s, p⟩ y => by
        obtain ⟨B', L', s', g⟩ := ht D i acc x B L H H' hi p s y
        intro sa Ha Ca cla fpa
        refine toG s' (g sa Ha Ca cla fpa) fun σ2 H2 B2 L2 s2 ⟨hw, q2⟩ => ⟨hw, ?_⟩
        intro sb Hb Cb clb fpb
        refine toT s2 (q2 sb Hb Cb clb fpb) fun k H3 B3 L3 s3 ⟨q3, q4⟩ => ?_
        cases k with
        | true =>
          rw [if_pos rfl]
          refine pe_bu s3 (q3 rfl) fun v H3 B3 L3 s3 ⟨hl, L4, eL, q3⟩ => ?_
          subst eL
          exact ⟨acc, s3.own _ List.mem_cons_self, small' hl, acc ++ [v], B3, L4, s3.rep .here, q3⟩
        | false =>
          obtain ⟨L4, eL, q5⟩ := q4 rfl
          subst eL
          rw [if_neg Bool.false_ne_true]
          exact ⟨acc, B3, L4, s3, q5⟩)
      fun H ⟨acc, B, L, s, p⟩ => ⟨_, _, s, hd acc B L D p⟩⟩⟩

/-! ### comprehensions that reckon each item by itself -/
/-- .. over a text -/
theorem k_lcm_s {x : Str} {j : Nat} {px : Pos} (g : Nat → V) (hN : X.N.Nodup) (ok : BlkOk X.N X.env.scope scope [(x, j)])
    (h : kE X iter σ B L fun v B1 L1 => ∃ l, v = .str (sOf l) ∧ l.length ≤ 16777216 ∧ (∀ c ∈ l, ∀ D acc s H0 C cl fp, kE (Bk X scope s H0 C cl fp) elt (σ.set j (some (.str (sOf [c])))) B1 ((D, .lst acc) :: L1) fun y B3 L3 => y = g c ∧ B3 = B1 ∧ L3 = (D, .lst acc) :: L1) ∧
      ∀ D, Q (.ref D) B1 ((D, .lst (l.map g)) :: L1))
    (hp : ∀ s H0 C cl fp, Loc (Bk X scope s H0 C cl fp).env.scope x := by intro _ _ _ _ _; first | exact Or.inl rfl | exact Or.inr rfl) (hf : ∀ s H0 C cl fp, (Bk X scope s H0 C cl fp).fn x = true ∨ (Bk X scope s H0 C cl fp).env.scope.names.lookup x = some .local := by intro _ _ _ _ _; first | exact .inr rfl | exact .inl rfl)
    (hj : X.N[j]? = some x := by rfl) (hc : X.calm = true := by rfl) (hs : ∀ x, foldedSetIterable iter X.env x = pure x := by intro _; rfl) : kL X elt (.Name x px) iter [] scope [(x, j)] σ B L Q :=
  k_lc hN ok (r_str (by
    obtain ⟨t, h1, h2⟩ := h
    refine ⟨_, pe_c, fun H s => toE s ⟨t, h1, h2⟩ fun v H' B1 L1 s' ⟨l, e, hl, ht, hd⟩ => ⟨B1, L1, s', l, e, (sOf l).cps.size, _, _, fun i acc B L => B = B1 ∧ L = L1 ∧ acc = (l.take i).map g, walk_str, ⟨rfl, rfl, by simp⟩, fun i acc B L H hi p s => trivial, ?_, ?_⟩⟩
    · rintro D i acc x B L H H' hi ⟨rfl, rfl, rfl⟩ s ⟨rfl, c, hx, rfl⟩
      have hx' : l[i]? = some c := by simpa [sOf] using hx
      refine ⟨_, _, s, fun sa Ha Ca cla fpa => g_name j ?_ hN hj (hp sa Ha Ca cla fpa) (hf sa Ha Ca cla fpa)⟩
      refine ⟨wipe1 σ j _, fun sb Hb Cb clb fpb => ?_⟩
      show kE _ _ ((wipe σ [j]).set j _) _ _ _
      rw [wipe1']
      obtain ⟨t2, k1, k2⟩ := ht c (List.mem_of_getElem? hx') D ((l.take i).map g) sb Hb Cb clb fpb
      refine ⟨_, pe_c, fun H s => toE s ⟨t2, k1, k2⟩ fun y H2 B2 L2 s2 ⟨e1, e2, e3⟩ => ⟨B2, L2, s2, ?_, L, e3, e2, rfl, ?_⟩⟩
      · have := (List.getElem?_eq_some_iff.mp hx').1
        simp; omega
      · rw [e1, List.take_add_one, hx']; simp
    · rintro acc B L D ⟨rfl, rfl, rfl⟩
      rw [sOf_size, List.take_length]
      exact hd D)) hc hs
/-- .. over a list -/
theorem k_lcm_l {x : Str} {j : Nat} {px : Pos} (g : V → V) (hN : X.N.Nodup) (ok : BlkOk X.N X.env.scope scope [(x, j)])
    (h : kE X iter σ B L fun v B1 L1 => ∃ a xs, v = .ref a ∧ Ls X.K B1 L1 a xs ∧ xs.length ≤ 16777216 ∧ (∀ z ∈ xs, ∀ D acc s H0 C cl fp, kE (Bk X scope s H0 C cl fp) elt (σ.set j (some z)) B1 ((D, .lst acc) :: L1) fun y B3 L3 => y = g z ∧ B3 = B1 ∧ L3 = (D, .lst acc) :: L1) ∧
      ∀ D, Q (.ref D) B1 ((D, .lst (xs.map g)) :: L1))
    (hp : ∀ s H0 C cl fp, Loc (Bk X scope s H0 C cl fp).env.scope x := by intro _ _ _ _ _; first | exact Or.inl rfl | exact Or.inr rfl) (hf : ∀ s H0 C cl fp, (Bk X scope s H0 C cl fp).fn x = true ∨ (Bk X scope s H0 C cl fp).env.scope.names.lookup x = some .local := by intro _ _ _ _ _; first | exact .inr rfl | exact .inl rfl)
    (hj : X.N[j]? = some x := by rfl) (hc : X.calm = true := by rfl) (hs : ∀ x, foldedSetIterable iter X.env x = pure x := by intro _; rfl) : kL X elt (.Name x px) iter [] scope [(x, j)] σ B L Q :=
  k_lc hN ok (r_list (by
    obtain ⟨t, h1, h2⟩ := h
    refine ⟨_, pe_c, fun H s => toE s ⟨t, h1, h2⟩ fun v H' B1 L1 s' ⟨a, xs, e, hls, hl, ht, hd⟩ => ⟨B1, L1, s', a, xs, e, hls, xs.length, _, _, fun i acc B L => B = B1 ∧ L = L1 ∧ acc = (xs.take i).map g, walk_list, ⟨rfl, rfl, by simp⟩, ?_, ?_, ?_⟩⟩
    · rintro i acc B L H hi ⟨rfl, rfl, _⟩ s
      exact hls.at s
    · rintro D i acc x B L H H' hi ⟨rfl, rfl, rfl⟩ s ⟨rfl, hx⟩
      refine ⟨_, _, s, fun sa Ha Ca cla fpa => g_name j ?_ hN hj (hp sa Ha Ca cla fpa) (hf sa Ha Ca cla fpa)⟩
      refine ⟨wipe1 σ j _, fun sb Hb Cb clb fpb => ?_⟩
      show kE _ _ ((wipe σ [j]).set j _) _ _ _
      rw [wipe1']
      obtain ⟨t2, k1, k2⟩ := ht x (List.mem_of_getElem? hx) D ((xs.take i).map g) sb Hb Cb clb fpb
      refine ⟨_, pe_c, fun H s => toE s ⟨t2, k1, k2⟩ fun y H2 B2 L2 s2 ⟨e1, e2, e3⟩ => ⟨B2, L2, s2, ?_, L, e3, e2, rfl, ?_⟩⟩
      · simp; omega
      · rw [e1, List.take_add_one, hx]; simp
    · rintro acc B L D ⟨rfl, rfl, rfl⟩
      rw [List.take_length]
      exact hd D)) hc hs

/-! ### a def's promise by its body -/
/-- what a def wants behind its body -/
def fD (Q : VK) : KD := { nx := fun _ B L => ∀ H, Sat B L H → Q .non H, rt := fun v B L => ∀ H, Sat B L H → Q v H }
theorem fn_okF {P : Program} {w : World} {K : PySem.W.Frag} {mg : Str → Option Value} {base : Heap} {x qual : Str} {st : Stmt} {f : Addr} {fd : FuncData} {N ps : List Str} {k : Nat} {sp : Sp} (F : Fun K x qual st f fd) (S : FnScope N ps (defScope st))
    (len : ∀ vs H Q E, sp vs H Q E → vs.length = ps.length)
    (hbody : ∀ (cdv : Value) (A : Around) (outer : List Env) (s : Shared) (H : Hp) (vs : List V) (Q : VK) (E : XK), Room k (A.deeper (envOfC qual (defScope st) s.heap.objs.size f cdv)) → sp vs H Q E →
      Takes (cxOf (L2.CX P w) P w K mg base N qual (defScope st) f cdv A outer s H E) (fun cls d _ H => E cls d H) →
      PassesOwn (model P w) (A.deeper (envOfC qual (defScope st) s.heap.objs.size f cdv)) (envOfC qual (defScope st) s.heap.objs.size f cdv) (cxOf (L2.CX P w) P w K mg base N qual (defScope st) f cdv A outer s H E).xe →
      ∃ B L, Sat B L H ∧ kSs (cxOf (L2.CX P w) P w K mg base N qual (defScope st) f cdv A outer s H E) (defBody st) (start N vs) B L (fD Q)) : FnOk P w K mg base (L2.CX P w) (k + 1) f fd ps sp := by
  refine F.okX S len fun cdv A outer s H vs Q E hr h => ?_
  obtain ⟨B, L, sat, t, h1, h2⟩ := hbody cdv A outer s H vs Q E hr h (takes_of rfl rfl rfl rfl) (passes_of rfl)
  refine ⟨_, pss_c, B, L, fD Q, sat, ⟨t, h1, h2⟩, ?_, ?_, ?_, ?_⟩
  · rintro σ' H' ⟨B', L', s', q⟩
    exact q H' s'
  · rintro v H' ⟨B', L', s', q⟩
    exact q H' s'
  · rintro σ' H' ⟨B', L', s', q⟩
    exact q.elim
  · rintro σ' H' ⟨B', L', s', q⟩
    exact q.elim
theorem fn_ok {P : Program} {w : World} {K : PySem.W.Frag} {mg : Str → Option Value} {base : Heap} {x qual : Str} {st : Stmt} {f : Addr} {fd : FuncData} {N ps : List Str} {k : Nat} {sp : Sp} (F : Fun K x qual st f fd) (S : FnScope N ps (defScope st)) (hm : mg x = some (.ref f))
    (hb : ∀ (kV doc pm : Value) (an : Option Addr) (cdv ct : Value) (us : List Value), us.length = ps.length → bindArgs (PySem.W.fnOf x qual (defArgs st) (defBody st) (defScope st) .none kV doc pm an cdv ct) ⟨us, []⟩ = pure (ps.zip us))
    (len : ∀ vs H Q E, sp vs H Q E → vs.length = ps.length)
    (hbody : ∀ (cdv : Value) (A : Around) (outer : List Env) (s : Shared) (H : Hp) (vs : List V) (Q : VK) (E : XK), Room k (A.deeper (envOfC qual (defScope st) s.heap.objs.size f cdv)) → sp vs H Q E →
      Takes (cxOf (L2.CX P w) P w K mg base N qual (defScope st) f cdv A outer s H E) (fun cls d _ H => E cls d H) →
      PassesOwn (model P w) (A.deeper (envOfC qual (defScope st) s.heap.objs.size f cdv)) (envOfC qual (defScope st) s.heap.objs.size f cdv) (cxOf (L2.CX P w) P w K mg base N qual (defScope st) f cdv A outer s H E).xe →
      ∃ B L, Sat B L H ∧ kSs (cxOf (L2.CX P w) P w K mg base N qual (defScope st) f cdv A outer s H E) (defBody st) (start N vs) B L (fD Q)) : Fn P w K mg base (k + 1) x sp := ⟨f, fd, ps, fn_okF F S len hbody, hm, F.kp, F.binds hb⟩
/-- a method of the class at C; the __init__ of one -/
theorem mt_ok {P : Program} {w : World} {K : PySem.W.Frag} {mg : Str → Option Value} {base : Heap} {x qual : Str} {st : Stmt} {C f : Addr} {fd : FuncData} {N ps : List Str} {k : Nat} {sp : Sp} (F : Fun K x qual st f fd) (S : FnScope N ps (defScope st)) (hm : Meth K C x f) (hc : Cls K C)
    (hb : ∀ (kV doc pm : Value) (an : Option Addr) (cdv ct : Value) (us : List Value), us.length = ps.length → bindArgs (PySem.W.fnOf x qual (defArgs st) (defBody st) (defScope st) .none kV doc pm an cdv ct) ⟨us, []⟩ = pure (ps.zip us))
    (len : ∀ vs H Q E, sp vs H Q E → vs.length = ps.length)
    (hbody : ∀ (cdv : Value) (A : Around) (outer : List Env) (s : Shared) (H : Hp) (vs : List V) (Q : VK) (E : XK), Room k (A.deeper (envOfC qual (defScope st) s.heap.objs.size f cdv)) → sp vs H Q E →
      Takes (cxOf (L2.CX P w) P w K mg base N qual (defScope st) f cdv A outer s H E) (fun cls d _ H => E cls d H) →
      PassesOwn (model P w) (A.deeper (envOfC qual (defScope st) s.heap.objs.size f cdv)) (envOfC qual (defScope st) s.heap.objs.size f cdv) (cxOf (L2.CX P w) P w K mg base N qual (defScope st) f cdv A outer s H E).xe →
      ∃ B L, Sat B L H ∧ kSs (cxOf (L2.CX P w) P w K mg base N qual (defScope st) f cdv A outer s H E) (defBody st) (start N vs) B L (fD Q)) : FnOk P w K mg base (L2.CX P w) (k + 1) f fd ps sp ∧ Binds K fd ps [] := ⟨fn_okF F S len hbody, F.binds hb⟩
end
end Kv

namespace Kv
open PySem PySem.Spec PyProof.Rows L2
section
variable {X : Cx} {σ : L2.St} {B : Hp} {L : HL} {Q : KQ} {D : KD} {pos p2 : Pos} {e a b c tg iter elt : Expr} {es : List Expr} {body : List Stmt}
theorem Sat.suf {L' : HL} {H : Hp} (h : L <:+ L') (s : Sat B L' H) : Sat B L H := by
  obtain ⟨t, rfl⟩ := h
  exact ⟨s.ext, fun p hp => s.own p (List.mem_append_right _ hp), fun p hp => s.nb p (List.mem_append_right _ hp), by
    have := s.nd
    rw [List.map_append] at this
    exact (List.nodup_append.mp this).2.1⟩
/-- an expression that comes to v, leaving what there was -/
theorem k_pure {v : V} (h : kE X e σ B L fun y B' L' => y = v ∧ B' = B ∧ L <:+ L') (q : Q v B L) : kE X e σ B L Q := by
  obtain ⟨t, h1, h2⟩ := h
  refine ⟨_, pe_c, fun H s => toE s ⟨t, h1, h2⟩ fun y H' B' L' s' ⟨e1, e2, e3⟩ => ?_⟩
  subst e1 e2
  exact ⟨B', L, s'.suf e3, q⟩
theorem t_pure {v : Bool} {Q : KB} (h : kT X e σ B L fun y B' L' => y = v ∧ B' = B ∧ L <:+ L') (q : Q v B L) : kT X e σ B L Q := by
  obtain ⟨t, h1, h2⟩ := h
  refine ⟨_, pt_c, fun H s => toT s ⟨t, h1, h2⟩ fun y H' B' L' s' ⟨e1, e2, e3⟩ => ?_⟩
  subst e1 e2
  exact ⟨B', L, s'.suf e3, q⟩
theorem w_pure {v : Bool} {Q : KB} (h : kW X e σ B L fun y B' L' => y = v ∧ B' = B ∧ L <:+ L') (q : Q v B L) : kW X e σ B L Q := by
  obtain ⟨t, h1, h2⟩ := h
  refine ⟨_, pw_c, fun H s => toW s ⟨t, h1, h2⟩ fun y H' B' L' s' ⟨e1, e2, e3⟩ => ?_⟩
  subst e1 e2
  exact ⟨B', L, s'.suf e3, q⟩
theorem k_andP (h : kE X a σ B L fun x B1 L1 => ∃ k1, x = .bl k1 ∧ ∃ k2 : Bool, (k1 = true → kE X (.BoolOp .And (b :: es) pos) σ B1 L1 fun y B2 L2 => y = .bl k2 ∧ B2 = B1 ∧ L1 <:+ L2) ∧ Q (.bl (k1 && k2)) B1 L1) : kE X (.BoolOp .And (a :: b :: es) pos) σ B L Q := by
  refine k_and ?_
  obtain ⟨t, h1, h2⟩ := h
  refine ⟨_, pe_c, fun H s => toE s ⟨t, h1, h2⟩ fun x H' B' L' s' ⟨k1, e, k2, h3, q⟩ => ⟨B', L', s', k1, e, fun hk => k_pure (h3 hk) ?_, fun hk => ?_⟩⟩
  · rw [hk] at q; exact q
  · rw [hk] at q; exact q
theorem k_orP (h : kE X a σ B L fun x B1 L1 => ∃ k1, x = .bl k1 ∧ ∃ k2 : Bool, (k1 = false → kE X (.BoolOp .Or (b :: es) pos) σ B1 L1 fun y B2 L2 => y = .bl k2 ∧ B2 = B1 ∧ L1 <:+ L2) ∧ Q (.bl (k1 || k2)) B1 L1) : kE X (.BoolOp .Or (a :: b :: es) pos) σ B L Q := by
  refine k_or ?_
  obtain ⟨t, h1, h2⟩ := h
  refine ⟨_, pe_c, fun H s => toE s ⟨t, h1, h2⟩ fun x H' B' L' s' ⟨k1, e, k2, h3, q⟩ => ⟨B', L', s', k1, e, fun hk => k_pure (h3 hk) ?_, fun hk => ?_⟩⟩
  · rw [hk] at q; exact q
  · rw [hk] at q; exact q
theorem w_andP {Q : KB} (h : kT X a σ B L fun k1 B1 L1 => ∃ k2 : Bool, (k1 = true → kW X (.BoolOp .And (b :: es) pos) σ B1 L1 fun y B2 L2 => y = k2 ∧ B2 = B1 ∧ L1 <:+ L2) ∧ Q (k1 && k2) B1 L1) : kW X (.BoolOp .And (a :: b :: es) pos) σ B L Q := by
  refine w_and ?_
  obtain ⟨t, h1, h2⟩ := h
  refine ⟨_, pt_c, fun H s => toT s ⟨t, h1, h2⟩ fun k1 H' B' L' s' ⟨k2, h3, q⟩ => ⟨B', L', s', fun hk => w_pure (h3 hk) ?_, fun hk => ?_⟩⟩
  · rw [hk] at q; exact q
  · rw [hk] at q; exact q
theorem w_orP {Q : KB} (h : kT X a σ B L fun k1 B1 L1 => ∃ k2 : Bool, (k1 = false → kW X (.BoolOp .Or (b :: es) pos) σ B1 L1 fun y B2 L2 => y = k2 ∧ B2 = B1 ∧ L1 <:+ L2) ∧ Q (k1 || k2) B1 L1) : kW X (.BoolOp .Or (a :: b :: es) pos) σ B L Q := by
  refine w_or ?_
  obtain ⟨t, h1, h2⟩ := h
  refine ⟨_, pt_c, fun H s => toT s ⟨t, h1, h2⟩ fun k1 H' B' L' s' ⟨k2, h3, q⟩ => ⟨B', L', s', fun hk => w_pure (h3 hk) ?_, fun hk => ?_⟩⟩
  · rw [hk] at q; exact q
  · rw [hk] at q; exact q
theorem k_ifeP (h : kT X c σ B L fun k B1 L1 => ∃ v1 v2 : V, (k = true → kE X a σ B1 L1 fun y B2 L2 => y = v1 ∧ B2 = B1 ∧ L1 <:+ L2) ∧ (k = false → kE X b σ B1 L1 fun y B2 L2 => y = v2 ∧ B2 = B1 ∧ L1 <:+ L2) ∧ Q (if k = true then v1 else v2) B1 L1) : kE X (.IfExp c a b pos) σ B L Q := by
  refine k_ife ?_
  obtain ⟨t, h1, h2⟩ := h
  refine ⟨_, pt_c, fun H s => toT s ⟨t, h1, h2⟩ fun k H' B' L' s' ⟨v1, v2, h3, h4, q⟩ => ⟨B', L', s', fun hk => k_pure (h3 hk) ?_, fun hk => k_pure (h4 hk) ?_⟩⟩
  · rw [if_pos hk] at q; exact q
  · rw [if_neg (by rw [hk]; exact Bool.false_ne_true)] at q; exact q
theorem k_neg (h : kE X a σ B L fun x B1 L1 => ∃ i, x = .int i ∧ Q (.int (-i)) B1 L1) : kE X (.UnaryOp .USub a pos) σ B L Q := ⟨_, pe_un un_neg pe_c, fun H s => toE s h fun _ _ _ _ s ⟨i, e, q⟩ => ⟨i, e, _, _, s, q⟩⟩
theorem k_s {x : Str} {j} (l : List Nat) (q : Q (.str (sOf l)) B L) (h : x = sOf l := by decide +kernel) : kE X (.Constant (.str x) j pos) σ B L Q := by
  subst h
  exact k_str q
theorem k_gs {x y : Str} {t : Tok} (hm : X.mg x = some (.str y t)) (q : Q (.str y) B L) (hg : Gl X x := by rfl) (hd : (x == ("__debug__" : Str)) = false := by decide) : kE X (.Name x pos) σ B L Q := k_g (v := .str y) hm ⟨t, rfl⟩ q hg hd
theorem k_gi {x : Str} {y : Int} {t : Tok} (hm : X.mg x = some (.int y t)) (q : Q (.int y) B L) (hg : Gl X x := by rfl) (hd : (x == ("__debug__" : Str)) = false := by decide) : kE X (.Name x pos) σ B L Q := k_g (v := .int y) hm ⟨t, rfl⟩ q hg hd
theorem k_fn {x : Str} {k : Nat} {sp : Sp} (F : Fn X.prog X.w X.K X.mg X.base k x sp) (hr : Room k X.A) (h : kA X (e :: es) σ B L fun vs B1 L1 => ∀ H, Sat B1 L1 H → sp vs H (up Q) (WE (fun _ _ _ _ => False) σ)) (hg : Gl X x := by rfl)
    (hdb : (x == ("__debug__" : Str)) = false := by decide) (he : starEach (e :: es) X.env = (false, eval e X.env) :: starEach es X.env := by rfl) (hpl : (backTo pos (starEach es X.env)).any (·.1) = false := by rfl) : kE X (.Call (.Name x p2) (e :: es) [] pos) σ B L Q := k_call F hr takes0 h hg hdb he hpl
/-- a built-in type's name as a value -/
theorem k_ty {x : Str} {T : String} (hm : X.mg x = none) (q : Q (.ty T) B L) (hv : bootBuiltins x = some (.type T) := by decide +kernel) (hg : Gl X x := by rfl) (hn : x ≠ "__name__" := by decide) (hd : (x == ("__debug__" : Str)) = false := by decide) : kE X (.Name x pos) σ B L Q :=
  ⟨_, pe_bltn (v := .ty T) hg hm hv rfl hn hd, fun H s => ⟨_, _, s, q⟩⟩
theorem i_sN {l : List Nat} {i : Int} (q : Q (.str (sOf [(atI l i).getD 0])) B L) (h : -(l.length : Int) ≤ i ∧ i < l.length) (hl : l.length ≤ 16777216) : kI X (.str (sOf l)) (.int i) B L Q := by
  refine i_str (c := (atI l i).getD 0) ?_ q hl
  unfold atI ixN
  by_cases h0 : 0 ≤ i
  · have : i.toNat < l.length := by omega
    rw [if_pos h0, if_pos h.2]
    simp [this]
  · have : (i + l.length).toNat < l.length := by omega
    rw [if_neg h0, if_pos h.1]
    simp [this]
theorem i_lN {p : Addr} {xs : List V} {i : Int} (h0 : Ls X.K B L p xs) (q : Q ((atI xs i).getD .non) B L) (h : -(xs.length : Int) ≤ i ∧ i < xs.length) : kI X (.ref p) (.int i) B L Q := by
  refine i_list (v := (atI xs i).getD .non) h0 ?_ q
  unfold atI ixN
  by_cases h0 : 0 ≤ i
  · have : i.toNat < xs.length := by omega
    rw [if_pos h0, if_pos h.2]
    simp [this]
  · have : (i + xs.length).toNat < xs.length := by omega
    rw [if_neg h0, if_pos h.1]
    simp [this]
theorem atI_n {α : Type} {l : List α} {j : Nat} : atI l (j : Int) = l[j]? := by
  unfold atI ixN
  rw [if_pos (by omega)]
  by_cases h : j < l.length
  · rw [if_pos (by omega)]; simp
  · rw [if_neg (by omega)]; simp; omega
theorem atI_neg {α : Type} {l : List α} {j : Nat} (h : j < l.length) : atI l (-1 - (j : Int)) = l[l.length - 1 - j]? := by
  unfold atI ixN
  rw [if_neg (by omega), if_pos (by omega)]
  have : (-1 - (j : Int) + (l.length : Int)).toNat = l.length - 1 - j := by omega
  simp [this]
/-- an int of a list of ints at a place -/
theorem i_li {p : Addr} {ns : List Int} {i : Int} (h0 : Ls X.K B L p (ns.map V.int)) (q : Q (.int ((atI ns i).getD 0)) B L) (h : -(ns.length : Int) ≤ i ∧ i < ns.length) : kI X (.ref p) (.int i) B L Q := by
  refine i_lN h0 ?_ (by simpa using h)
  have e : (atI (ns.map V.int) i).getD .non = .int ((atI ns i).getD 0) := by
    unfold atI ixN
    rw [List.length_map]
    by_cases h0 : 0 ≤ i
    · have : i.toNat < ns.length := by omega
      rw [if_pos h0, if_pos h.2]
      simp [this]
    · have : (i + ns.length).toNat < ns.length := by omega
      rw [if_neg h0, if_pos h.1]
      simp [this]
  rw [e]
  exact q
/-- text * number -/
def rep {α : Type} (l : List α) (n : Nat) : List α := (List.replicate n l).flatten
theorem rep_len {α : Type} (l : List α) (n : Nat) : (rep l n).length = n * l.length := by simp [rep]
theorem foldl_rep' (c : List Nat) : ∀ (k : Nat) (acc : List Nat), List.foldl (· ++ ·) acc.toArray (List.replicate k c.toArray) = (acc ++ (List.replicate k c).flatten).toArray
  | 0, acc => by simp
  | k + 1, acc => by
    rw [List.replicate_succ, List.foldl_cons, List.replicate_succ, List.flatten_cons, ← List.append_assoc, ← foldl_rep' c k (acc ++ c)]
    simp
theorem mul_is {l : List Nat} {n : Nat} : Txt.mul (sOf l) (n : Int) = sOf (rep l n) := by
  unfold Txt.mul rep
  by_cases h1 : (n : Int) < 1
  · have : n = 0 := by omega
    subst this
    rw [if_pos h1]
    rfl
  · rw [if_neg h1]
    split
    · rename_i h2
      simp only [Bool.or_eq_true, beq_iff_eq] at h2
      rcases h2 with h2 | h2
      · have : n = 1 := by omega
        subst this
        simp
      · rw [sOf_len] at h2
        have : l = [] := List.length_eq_zero_iff.mp h2
        subst this
        simp
    · have := foldl_rep' l n []
      simp only [List.nil_append] at this
      show (⟨_⟩ : Str) = ⟨_⟩
      congr 1
theorem o_muls {l : List Nat} {n : Nat} (q : Q (.str (sOf (rep l n))) B L) (h : l.length * n ≤ 16777216) (hn : (n : Int) < 2 ^ 62) : kO X (binaryOp .Mult) (.str (sOf l)) (.int (n : Int)) B L Q := by
  refine ⟨fun x y H Q => x = .str (sOf l) ∧ y = .int (n : Int) ∧ Q (.str (sOf (rep l n))) H, fun pins s σ H x y v u Q I rx ry ⟨e1, e2, q⟩ => ?_, fun H s => ⟨rfl, rfl, _, _, s, q⟩⟩
  subst e1 e2
  obtain ⟨t, rfl⟩ := rx
  obtain ⟨t', rfl⟩ := ry
  refine SB.mul ⟨?_, fun _ hh => ?_, fun _ hh => ?_⟩ fun t' k => ?_
  · have h1 : decide ((n : Int) < -(2 ^ 63 : Int)) = false := decide_eq_false (by omega)
    have h2 : decide ((n : Int) ≥ 2 ^ 63) = false := decide_eq_false (by omega)
    rw [h1, h2] <;> rfl
  · rw [sOf_len]
    simp only [Bool.or_eq_false_iff, beq_eq_false_iff_ne, ne_eq] at hh
    have hn0 : (0 : Int) < n := by omega
    intro hgt
    have h3 := Int.lt_mul_of_ediv_lt hn0 hgt
    have h4 : ((l.length * n : Nat) : Int) ≤ 16777216 := Int.ofNat_le.mpr h
    rw [Int.natCast_mul] at h4
    have h5 : (16777216 : Int) < 2 ^ 63 - 1 := by decide
    exact absurd (Int.lt_of_lt_of_le (Int.lt_trans h5 h3) h4) (Int.lt_irrefl _)
  · rw [sOf_len]
    have := small h
    rw [Int.toNat_natCast]
    unfold Builtin.Str.tooLong
    exact decide_eq_false (Nat.not_lt.mpr this)
  · rw [mul_is]
    exact ⟨V.str (sOf (rep l n)), _, I.tok _, ⟨_, rfl⟩, q⟩
end
end Kv

namespace KvR
open PySem PySem.Spec PyProof.Rows
theorem no_rev : typeLookup (.type "str") "__reversed__" = pure none := by rw [typeLookup_type, builtinLookup_eq_fast]; kernel_rfl
theorem has_get : typeLookup (.type "str") "__getitem__" = pure (some (.builtin "str.__getitem__")) := by rw [typeLookup_type, builtinLookup_eq_fast]; kernel_rfl
theorem not_dict : isSubtype (.type "str") (.type "dict") = pure false := by rw [isSubtype_type]; kernel_rfl
/-- reversed(text): the next place is i -/
def IsRs (h : Heap) (a : Addr) (x : Str) (t : Tok) (i : Int) : Prop := ∃ o, h.get? a = some o ∧ o.cls = .type "reversed" ∧ o.data = .fields #[.str x t, rawInt i]
def rsObj (x : Str) (t : Tok) (i : Int) : Obj := { cls := .type "reversed", data := .fields #[.str x t, rawInt i] }
section
variable {prog : Program} {w : World} {A : Around} {E : Value → Shared → Prop} {s : Shared}
theorem IsRs.ty {a : Addr} {x : Str} {t : Tok} {i : Int} (q : IsRs s.heap a x t i) : s.TypeIs (.ref a) "reversed" := let ⟨o, ho, hc, _⟩ := q; ⟨o, ho, hc⟩
theorem code_rev {x : Str} {t : Tok} {Q₁ : Value → Shared → Prop}
    (hlen : ∀ (A : Around) (E : Value → Shared → Prop) (Q : Value → Shared → Prop), (∀ tk u, Q (.int x.length u) { s with toks := tk }) → wpAny (model prog w) A (call (.builtin "len") [.str x t]) Q E s)
    (h : ∀ tk, Q₁ (.ref s.heap.objs.size) { s with heap := s.heap.push (rsObj x t ((x.length : Int) - 1)), toks := tk }) :
    codeAny (model prog w) A (.call (.builtin "reversed.__new__") ⟨[.type "reversed", .str x t], []⟩) (wants Q₁ E) s := by
  have hT : s.TypeIs (.str x t) "str" := typeIs_str s x t
  refine codeAny_of_tree ?_
  show wpAny _ A.in1 (do checkBuiltinCall "reversed.__new__" ⟨[.type "reversed", .str x t], []⟩; again (.builtin "reversed.__new__" ⟨[.type "reversed", .str x t], []⟩)) _ _ s
  refine wpAny_bind (wpAny_of_eq (F.newCall_reversed_1 _) (wpAny_pure ⟨plainId_quiet F.plain_reversed_new _, codeAny_builtin F.entry_reversed_new ?_⟩))
  rw [Around.under_plainId F.plain_reversed_new _]
  unfold Builtin.«reversed.__new__»
  refine wpAny_bind (wpAny_of_eq (newClass_reversed _) ?_)
  refine wpAny_bind (wpAny_of_eq (a := ()) (by first | rfl | kernel_rfl) ?_)
  refine wpAny_bind (wpAny_of_eq (a := ()) (by first | rfl | kernel_rfl) ?_)
  refine wpAny_bind (wpAny_specialOf hT no_rev ?_)
  refine wpAny_bind ?_
  wp_delta
  refine wpAny_bind (wpAny_isInstance (T := "str") (U := "dict") (b := false) hT not_dict ?_)
  try rw [if_neg Bool.false_ne_true]
  refine wpAny_bind (wpAny_specialOf hT has_get ?_)
  try rw [if_pos (by decide +kernel)]
  refine wpAny_pure ?_
  try rw [if_neg (by decide)]
  refine wpAny_bind (hlen _ _ _ fun tk u => ?_)
  refine wpAny_bind (wpAny_of_eq (a := some ((x.length : Nat) : Int)) rfl ?_)
  refine wpAny_bind ?_
  show wpAny _ _ (newObj (.type "reversed") (.fields #[.str x t, rawInt ((x.length : Int) - 1)])) _ _ _
  refine wpAny_newObj_type ?_
  exact wpAny_pure (h tk)
theorem call_rev {x : Str} {t : Tok} {Q : Value → Shared → Prop}
    (hlen : ∀ (A : Around) (E : Value → Shared → Prop) (Q : Value → Shared → Prop), (∀ tk u, Q (.int x.length u) { s with toks := tk }) → wpAny (model prog w) A (call (.builtin "len") [.str x t]) Q E s)
    (h : ∀ tk, Q (.ref s.heap.objs.size) { s with heap := s.heap.push (rsObj x t ((x.length : Int) - 1)), toks := tk }) : wpAny (model prog w) A (call (.type "reversed") [.str x t]) Q E s := by
  refine callType_codes (Q₁ := fun obj s₁ => s₁.TypeIs obj "reversed" ∧ Q obj s₁) RT.called_rt (F.typeCall_reversed_1 _) F.entry_object_init
    (code_rev (A := A.in1) hlen fun tk => ⟨⟨_, Heap.get?_push_size _ rfl, rfl⟩, h tk⟩) fun obj s₁ h₁ => ?_
  exact ⟨h₁.1, F.args_object_init_2 obj _, object_init_meets RT.called_rt.init.lookup RT.called_rt.made (by decide) prog w A.in1 _ s₁ ⟨h₁.1, rfl, h₁.2⟩⟩
theorem next_item {it : Addr} {i : Nat} {x : Str} {t : Tok} {c : Nat} {Q : Option Value → Shared → Prop} (hit : IsRs s.heap it x t (i : Int)) (hx : x.cps[i]? = some c) (hsz : x.length ≤ sizeLine)
    (hQ : ∀ h' tk u, IsRs h' it x t ((i : Int) - 1) → Heap.SameBut it s.heap h' → Q (some (.str ⟨#[c]⟩ u)) { s with heap := h', toks := tk }) : wpAny (model prog w) A (pyNext (.ref it)) Q E s := by
  obtain ⟨o, ho, hc, hd⟩ := id hit
  have hi : i < x.length := (Array.getElem?_eq_some_iff.mp hx).1
  have hT : s.TypeIs (.str x t) "str" := typeIs_str s x t
  rw [sizeLine_eq] at hsz
  unfold pyNext
  refine wpAny_bind (wpAny_attempt (wpAny_callSpecial?_slot (name := Str.ofString "__next__") hit.ty RT.slot_rt_next (wpAny_call_entry RT.slot_rt_next hit.ty RT.entry_rt_next ?_ (RT.args_rt_next _))))
  unfold Builtin.«reversed.__next__»
  refine wpAny_bind (wpAny_of_eq (a := (Value.ref it, [])) rfl ?_)
  refine wpAny_bind (wpAny_field ho hd (x := .str x t) rfl ?_)
  refine wpAny_bind (wpAny_field ho hd (x := rawInt (i : Int)) rfl ?_)
  show wpAny _ _ (if (i : Int) < 0 then _ else _) _ _ s
  rw [if_neg (by omega)]
  refine wpAny_bind (wpAny_specialOf hT has_get ?_)
  try rw [if_neg (by decide)]
  refine wpAny_bind (wpAny_mkInt ?_)
  refine wpAny_bind (wpAny_attempt ?_)
  have fin : seqIndex? (i : Int) x.length = some i := PySem.StrLaws.seqIndex_nonneg (by omega) (by omega)
  have e1 : decide ((i : Int) < -(2 ^ 63 : Int)) = false := decide_eq_false (by omega)
  have e2 : decide ((i : Int) ≥ 2 ^ 63) = false := decide_eq_false (by omega)
  refine getItem_str (s := { s with toks := s.toks + 1 }) (c := c) (by rw [e1, e2] <;> rfl) (by rw [fin]; exact hx) ?_
  try dsimp only
  refine wpAny_bind (wpAny_field (s := { s with toks := s.toks + 1 + 1 }) ho hd (x := rawInt (i : Int)) rfl ?_)
  try dsimp only
  refine wpAny_bind (wpAny_setField (s := { s with toks := s.toks + 1 + 1 }) ho hd (by simp) ?_)
  first
  | refine wpAny_pure ⟨_, rfl, wpAny_pure (hQ _ _ _ ?_ (Heap.SameBut.update ..))⟩
  | refine wpAny_bind (wpAny_pure (wpAny_pure ⟨_, rfl, wpAny_pure (hQ _ _ _ ?_ (Heap.SameBut.update ..))⟩))
  exact ⟨_, Heap.get?_update_self _ ho (Obj.isFreed_of_fields (Obj.data_mapFields hd _)), (Obj.cls_mapFields ..).trans hc, by
    rw [Obj.data_mapFields hd]; simp⟩
theorem next_end {it : Addr} {x : Str} {t : Tok} {Q : Option Value → Shared → Prop} (hh : A.handled = none) (hit : IsRs s.heap it x t (-1))
    (hQ : ∀ h', Heap.ExtBut it s.heap h' → Q none { s with heap := h' }) : wpAny (model prog w) A (pyNext (.ref it)) Q E s := by
  obtain ⟨o, ho, hc, hd⟩ := id hit
  unfold pyNext
  refine wpAny_bind (wpAny_attempt (wpAny_callSpecial?_slot (name := Str.ofString "__next__") hit.ty RT.slot_rt_next (wpAny_call_entry RT.slot_rt_next hit.ty RT.entry_rt_next ?_ (RT.args_rt_next _))))
  unfold Builtin.«reversed.__next__»
  refine wpAny_bind (wpAny_of_eq (a := (Value.ref it, [])) rfl ?_)
  refine wpAny_bind (wpAny_field ho hd (x := .str x t) rfl ?_)
  refine wpAny_bind (wpAny_field ho hd (x := rawInt (-1)) rfl ?_)
  show wpAny _ _ (if (-1 : Int) < 0 then _ else _) _ _ s
  rw [if_pos (by decide)]
  refine wpAny_bind (wpAny_rule ?_)
  refine wpAny_bind ?_
  wp_delta
  refine wpAny_bind (wpAny_setField ho hd (by simp) ?_)
  have ho2 := Heap.get?_update_self (Obj.mapFields (·.setIfInBounds 1 (rawInt (-1)))) ho (Obj.isFreed_of_fields (Obj.data_mapFields hd _))
  refine wpAny_setField (s := { s with heap := s.heap.update it (Obj.mapFields (·.setIfInBounds 1 (rawInt (-1)))) }) ho2 (Obj.data_mapFields hd _) (by simp) ?_
  first
  | show wpAny _ _ (newExc (.type "StopIteration") [] >>= _) _ _ _
  | (refine wpAny_bind ?_; show wpAny _ _ (newExc (.type "StopIteration") [] >>= _) _ _ _)
  | (refine wpAny_bind ?_; wp_delta; show wpAny _ _ (newExc (.type "StopIteration") [] >>= _) _ _ _)
  refine wpAny_bind ?_
  simp only [newExc, newTuple]
  refine wpAny_bind (wpAny_newObj_type ?_ (by size_fits))
  refine wpAny_bind (m := firstArgMember _ _) (wpAny_of_eq (a := Value.none) (by first | rfl | (simp only [firstArgMember]; rfl)) ?_)
  refine wpAny_newObj_type ?_ (by size_fits)
  simp only [raiseNew]
  refine wpAny_bind (wpAny_handled ?_)
  first | rw [show A.in1.handled = none from hh] | rw [hh]
  refine wpAny_bind (wpAny_pure (wpAny_throw ?_))
  refine wpAny_bind (wpAny_isInstance (T := "StopIteration") (b := true) ⟨_, Heap.get?_push_size _ rfl, rfl⟩ isSubtype_stop ?_)
  refine wpAny_pure (hQ _ ?_)
  refine ((?_ : Heap.ExtBut it s.heap _).push _).push _
  exact fun b ob hb e => (Heap.get?_update_other _ _ (Ne.symm hb)).trans ((Heap.get?_update_other _ _ (Ne.symm hb)).trans e)
theorem iter_self {it : Addr} {x : Str} {t : Tok} {i : Int} {Q : Value → Shared → Prop} (hit : IsRs s.heap it x t i) (h : Q (.ref it) s) : wpAny (model prog w) A (pyIter (.ref it)) Q E s := by
  refine wpAny_pyIter_slot hit.ty RT.slot_rt_iter (wpAny_call_entry RT.slot_rt_iter hit.ty RT.entry_rt_iter ?_ (RT.args_rt_iter _))
  show wpAny _ _ (ret (.ref it)) _ _ s
  exact wpAny_pure ⟨_, rfl, "reversed", _, hit.ty, RT.slot_rt_next.lookup, h⟩
end
end KvR
namespace Kv
open PySem PySem.Spec PyProof.Rows L2
/-- a text's signs from behind -/
def Irs (x : Str) : It := ⟨fun i _ => i < x.cps.size, fun i H v H' => H' = H ∧ ∃ c, x.cps[x.cps.size - 1 - i]? = some c ∧ v = .str ⟨#[c]⟩, fun i _ => i = x.cps.size⟩
theorem turn_rs {P : Program} {w : World} {K : PySem.W.Frag} {tg : Expr} (it : Addr) (x : Str) (t : Tok) (hsz : x.length ≤ sizeLine) :
    Turn P w K tg (Irs x) [it] it (fun i h => KvR.IsRs h it x t ((x.cps.size : Int) - 1 - (i : Nat))) where
  mem := by simp
  obj := fun i h st b hb => by
    have e : b = it := by simpa using hb
    subst e
    obtain ⟨o, e, c, d⟩ := st
    exact ⟨o, e, fun v z => by rw [d] at z; cases z⟩
  keep := fun i h h' st k => let ⟨o, ho, r⟩ := st; ⟨o, k it (by simp) o ho, r⟩
  item := by
    intro X hP hw hK hc i pins s σ H E I hf st hg
    subst hP hw hK
    obtain ⟨f0, f1, f2, f3, f4, f5⟩ := hf it (by simp)
    have hi : i < x.cps.size := hg
    have e0 : ((x.cps.size : Int) - 1 - (i : Nat)) = ((x.cps.size - 1 - i : Nat) : Int) := by omega
    have st' : KvR.IsRs s.heap it x t ((x.cps.size - 1 - i : Nat) : Int) := by rw [← e0]; exact st
    have hx : x.cps[x.cps.size - 1 - i]? = some (x.cps[x.cps.size - 1 - i]'(by omega)) := by simp [show x.cps.size - 1 - i < x.cps.size by omega]
    refine KvR.next_item st' hx hsz fun h' tk u hit hs => ?_
    have I1 : Inv X pins σ H { s with heap := h', toks := tk } := I.turned (fun b o hb e => (hs.2 b (by simpa using hb)).trans e) f0 f1 f3 f4 f5
    obtain ⟨oi, e, cc, dd⟩ := id hit
    refine ⟨_, rfl, go_of (s := { s with heap := h', toks := tk }) e cc dd (by decide) ⟨.str ⟨#[_]⟩, H, I1, ⟨u, rfl⟩, ⟨rfl, _, hx, rfl⟩, ?_, fun b hb => (hf b hb).1⟩⟩
    have e1 : ((x.cps.size : Int) - 1 - ((i + 1 : Nat) : Int)) = ((x.cps.size - 1 - i : Nat) : Int) - 1 := by omega
    rw [e1]
    exact hit
  done := by
    intro X hP hw hK hc i pins s σ H E I hf st hg
    subst hP hw hK
    obtain ⟨f0, f1, f2, f3, f4, f5⟩ := hf it (by simp)
    have hi : i = x.cps.size := hg
    have e0 : ((x.cps.size : Int) - 1 - (i : Nat)) = -1 := by omega
    rw [e0] at st
    exact KvR.next_end (I.ok.hd hc) st fun h' eb => ⟨rfl, I.turned (t' := s.toks) (fun b o hb e => eb b o (by simpa using hb) e) f0 f1 f3 f4 f5⟩
  self := fun A i s Q E st h => KvR.iter_self st h
theorem walk_rs {x : Str} : Walk (Irs x) x.cps.size (fun _ => True) (fun i H v H' => H' = H ∧ ∃ c, x.cps[x.cps.size - 1 - i]? = some c ∧ v = .str ⟨#[c]⟩) := ⟨fun _ _ hi _ => hi, fun _ _ => rfl, fun _ _ _ _ _ _ y => y⟩
theorem pi_rs {X : Cx} {tg e : Expr} {te : TE} {p pos : Pos} (hg : Gl X "reversed") (hm : X.mg "reversed" = none) (he : PE X e te) (hs : starEach [e] X.env = (false, eval e X.env) :: starEach [] X.env := by rfl) (hs' : starEach [e] X.env = [(false, eval e X.env)] := by rfl) :
    PI X tg (.Call (.Name "reversed" p) [e] [] pos) (fun σ H R => te σ H fun v H1 => ∃ x, v = .str x ∧ x.length ≤ sizeLine ∧ R (Irs x) H1) := by
  refine ⟨fun pins s σ H R I h => ?_⟩
  refine Call_ (ld_blt I hg hm PyProof.Rows.boot_reversed (PyProof.Rows.callWith_type1 (thn ((pa_cons he pa_nil hs).run pos pins s σ H (fun vs H1 => ∃ x, vs = [.str x] ∧ x.length ≤ sizeLine ∧ R (Irs x) H1) I ?_) fun us s1 ⟨vs, H1, I1, r1, q1⟩ => ?_) hs' rfl))
  · have hh : (fun v H1 => ∃ x, v = V.str x ∧ x.length ≤ sizeLine ∧ R (Irs x) H1) = fun v H1 => tNil σ H1 fun xs H2 => ∃ x, v :: xs = [V.str x] ∧ x.length ≤ sizeLine ∧ R (Irs x) H2 := by
      funext v H1
      simp [tNil]
    show te σ H _
    rw [← hh]
    exact h
  obtain ⟨x, ex, hl, q⟩ := q1
  subst ex
  cases r1 with
  | cons r rr =>
    cases rr
    obtain ⟨t, rfl⟩ := r
    refine KvR.call_rev (fun A E Q hq => ?_) fun tk => ?_
    · have hn := line63
      exact P.len_str (by omega) (hq _ _)
    · have I2 : Inv X pins σ H1 { s1 with heap := s1.heap.push (KvR.rsObj x t ((x.length : Int) - 1)), toks := tk } := I1.kept (t' := tk) fun b o z => Heap.get?_push_of_some _ z
      have st : KvR.IsRs (s1.heap.push (KvR.rsObj x t ((x.length : Int) - 1))) s1.heap.objs.size x t ((x.length : Int) - 1) := ⟨_, Heap.get?_push_size _ rfl, rfl, rfl⟩
      refine KvR.iter_self st (pi_one (tk := tk) I1 _ (turn_rs _ x t hl) ?_ q)
      have e0 : ((x.cps.size : Int) - 1 - ((0 : Nat) : Int)) = (x.length : Int) - 1 := by show _ = (x.cps.size : Int) - 1; omega
      show KvR.IsRs _ _ _ _ ((x.cps.size : Int) - 1 - ((0 : Nat) : Int))
      rw [e0]
      exact st
section
variable {X : Cx} {σ : L2.St} {B : Hp} {L : HL} {Q : KQ} {D : KD} {pos p2 pos' : Pos} {e a b c tg iter elt : Expr} {es : List Expr} {body : List Stmt} {scope : Scope}
theorem r_rs {R : It → Hp → HL → Prop} (hm : X.mg "reversed" = none) (h : kE X e σ B L fun v B1 L1 => ∃ l, v = .str (sOf l) ∧ l.length ≤ 16777216 ∧ R (Irs (sOf l)) B1 L1) (hg : Gl X "reversed" := by rfl) (hs : starEach [e] X.env = (false, eval e X.env) :: starEach [] X.env := by rfl) (hs' : starEach [e] X.env = [(false, eval e X.env)] := by rfl) :
    kR X tg (.Call (.Name "reversed" p2) [e] [] pos) σ B L R := ⟨_, pi_rs hg hm pe_c hs hs', fun H s => toE s h fun _ _ _ _ s ⟨l, e, hl, q⟩ => ⟨_, e, by rw [sOf_len]; exact small hl, _, _, s, q⟩⟩
/-- a comprehension over a text from behind -/
theorem k_lcm_rs {x : Str} {j : Nat} {px : Pos} (g : Nat → V) (hN : X.N.Nodup) (ok : BlkOk X.N X.env.scope scope [(x, j)]) (hm : X.mg "reversed" = none)
    (h : kE X e σ B L fun v B1 L1 => ∃ l, v = .str (sOf l) ∧ l.length ≤ 16777216 ∧ (∀ c ∈ l, ∀ D acc s H0 C cl fp, kE (Bk X scope s H0 C cl fp) elt (σ.set j (some (.str (sOf [c])))) B1 ((D, .lst acc) :: L1) fun y B3 L3 => y = g c ∧ B3 = B1 ∧ L3 = (D, .lst acc) :: L1) ∧
      ∀ D, Q (.ref D) B1 ((D, .lst (l.reverse.map g)) :: L1))
    (hp : ∀ s H0 C cl fp, Loc (Bk X scope s H0 C cl fp).env.scope x := by intro _ _ _ _ _; first | exact Or.inl rfl | exact Or.inr rfl) (hf : ∀ s H0 C cl fp, (Bk X scope s H0 C cl fp).fn x = true ∨ (Bk X scope s H0 C cl fp).env.scope.names.lookup x = some .local := by intro _ _ _ _ _; first | exact .inr rfl | exact .inl rfl)
    (hg : Gl X "reversed" := by rfl) (hst : starEach [e] X.env = (false, eval e X.env) :: starEach [] X.env := by rfl) (hst' : starEach [e] X.env = [(false, eval e X.env)] := by rfl)
    (hj : X.N[j]? = some x := by rfl) (hc : X.calm = true := by rfl) (hs : ∀ x, foldedSetIterable (.Call (.Name "reversed" p2) [e] [] pos') X.env x = pure x := by intro _; rfl) :
    kL X elt (.Name x px) (.Call (.Name "reversed" p2) [e] [] pos') [] scope [(x, j)] σ B L Q :=
  k_lc hN ok (r_rs hm (by
    obtain ⟨t, h1, h2⟩ := h
    refine ⟨_, pe_c, fun H s => toE s ⟨t, h1, h2⟩ fun v H' B1 L1 s' ⟨l, e, hl, ht, hd⟩ => ⟨B1, L1, s', l, e, hl, (sOf l).cps.size, _, _, fun i acc B L => B = B1 ∧ L = L1 ∧ acc = (l.reverse.take i).map g, walk_rs, ⟨rfl, rfl, by simp⟩, fun i acc B L H hi p s => trivial, ?_, ?_⟩⟩
    · rintro D i acc x B L H H' hi ⟨rfl, rfl, rfl⟩ s ⟨rfl, c, hx, rfl⟩
      rw [sOf_size] at hi
      have hx1 : l[l.length - 1 - i]? = some c := by simpa [sOf] using hx
      have hx' : l.reverse[i]? = some c := by rw [List.getElem?_reverse hi]; exact hx1
      refine ⟨_, _, s, fun sa Ha Ca cla fpa => g_name j ?_ hN hj (hp sa Ha Ca cla fpa) (hf sa Ha Ca cla fpa)⟩
      refine ⟨wipe1 σ j _, fun sb Hb Cb clb fpb => ?_⟩
      show kE _ _ ((wipe σ [j]).set j _) _ _ _
      rw [wipe1']
      obtain ⟨t2, k1, k2⟩ := ht c (List.mem_of_getElem? hx1) D ((l.reverse.take i).map g) sb Hb Cb clb fpb
      refine ⟨_, pe_c, fun H s => toE s ⟨t2, k1, k2⟩ fun y H2 B2 L2 s2 ⟨e1, e2, e3⟩ => ⟨B2, L2, s2, ?_, L, e3, e2, rfl, ?_⟩⟩
      · simp; omega
      · rw [e1, List.take_add_one, hx']; simp
    · rintro acc B L D ⟨rfl, rfl, rfl⟩
      rw [sOf_size, show l.length = l.reverse.length by simp, List.take_length]
      exact hd D) hg hst hst') hc hs
theorem k_for_rs (Pv : Nat → KN) (hp : PassesOwn (model X.prog X.w) X.A X.env X.xe) (hm : X.mg "reversed" = none)
    (h : kE X e σ B L fun v B1 L1 => ∃ l, v = .str (sOf l) ∧ l.length ≤ 16777216 ∧ Pv 0 σ B1 L1 ∧
      (∀ i c σ B L, l.reverse[i]? = some c → Pv i σ B L → kG X tg (.str (sOf [c])) σ B L fun σ2 B2 L2 => kSs X body σ2 B2 L2 { D with nx := Pv (i + 1), ct := Pv (i + 1), bk := D.nx }) ∧ ∀ σ B L, Pv l.length σ B L → D.nx σ B L)
    (hg : Gl X "reversed" := by rfl) (hst : starEach [e] X.env = (false, eval e X.env) :: starEach [] X.env := by rfl) (hst' : starEach [e] X.env = [(false, eval e X.env)] := by rfl)
    (hc : X.calm = true := by rfl) (hs : ∀ x, foldedSetIterable (.Call (.Name "reversed" p2) [e] [] pos') X.env x = pure x := by intro _; rfl) : kS X (.For tg (.Call (.Name "reversed" p2) [e] [] pos') body [] pos) σ B L D :=
  k_for hp (r_rs hm (by
    obtain ⟨t, h1, h2⟩ := h
    refine ⟨_, pe_c, fun H s => toE s ⟨t, h1, h2⟩ fun v H' B' L' s' ⟨l, e, hl, p0, ht, hd⟩ => ⟨B', L', s', l, e, hl, (sOf l).cps.size, _, _, Pv, walk_rs, p0, fun i σ B L H hi p s => trivial, fun i x σ B L H H' hi p s y => ?_, by rw [sOf_size]; exact hd⟩⟩
    obtain ⟨rfl, c, hx, rfl⟩ := y
    rw [sOf_size] at hi
    have hx1 : l[l.length - 1 - i]? = some c := by simpa [sOf] using hx
    exact ⟨B, L, s, ht i c σ B L (by rw [List.getElem?_reverse hi]; exact hx1) p⟩) hg hst hst') hc hs
end
end Kv

namespace Kv
open PySem PySem.Spec PyProof.Rows L2 TL
theorem rev_is (l : List Nat) (u : Tok) : Txt.sliceBy (sOf l) none none (-1, u) = sOf l.reverse := by
  apply ext_toList
  rw [step_rev_list, sOf_len]
  show _ = l.reverse.toArray.toList
  rw [List.toList_toArray]
  apply List.ext_getElem
  · simp
  · intro i h1 h2
    simp at h1 h2
    simp [sOf, Array.getD, List.getElem_reverse, show l.length - 1 - i < l.length by omega]
section
variable {X : Cx} {σ : L2.St} {B : Hp} {L : HL} {Q : KQ} {D : KD} {pos p2 pos' p1 p3 : Pos} {e a b c tg iter elt : Expr} {es : List Expr} {body : List Stmt} {scope : Scope}
/-- text[::-1] -/
theorem k_revs {k : Nat} (h : kE X e σ B L fun v B1 L1 => ∃ l, v = .str (sOf l) ∧ l.length ≤ 16777216 ∧ Q (.str (sOf l.reverse)) B1 L1) : kE X (.Subscript e (.Slice none none (some (.UnaryOp .USub (.Constant (.int 1) k p1) p2)) p3) pos) σ B L Q := by
  refine ⟨fun σ H Q => cE X e σ H fun v H1 => ∃ l, v = .str (sOf l) ∧ l.length ≤ 16777216 ∧ Q (.str (sOf l.reverse)) H1, ⟨fun pins s σ H Q I h => ?_⟩, fun H s => toE s h fun _ _ _ _ s ⟨l, e, hl, q⟩ => ⟨l, e, hl, _, _, s, q⟩⟩
  refine Subscript_ (thn (pe_c.run pins s σ H _ I h) fun v s1 ⟨x, H1, I1, r1, l, ex, hl, q⟩ => ?_)
  subst ex
  obtain ⟨t, rfl⟩ := r1
  have part : PO X (some (.UnaryOp .USub (.Constant (.int 1) k p1) p2)) (tPart (tUn (rU fun i => .int (-i)) (tC (.int 1)))) := po_some (pe_un un_neg pe_int)
  refine wpAny_Slice (thn (po_none.run pins s1 σ H1 (fun o H2 => o = none ∧ H2 = H1) I1 ⟨rfl, rfl⟩) fun vl s2 ⟨o1, H2, I2, pl, e1, e2⟩ => ?_)
  subst e1 e2
  refine thn (po_none.run pins s2 σ H2 (fun o H3 => o = none ∧ H3 = H2) I2 ⟨rfl, rfl⟩) fun vu s3 ⟨o2, H3, I3, pu, e1, e2⟩ => ?_
  subst e1 e2
  refine thn (part.run pins s3 σ H3 (fun o H4 => o = some (-1) ∧ H4 = H3) I3 ⟨1, rfl, -1, rfl, rfl, rfl⟩) fun vs s4 ⟨o3, H4, I4, ps, e1, e2⟩ => ?_
  subst e1 e2
  have I5 : Inv X pins σ H4 { s4 with heap := s4.heap.push { cls := .type "slice", data := .fields #[vl, vu, vs] } } := I4.kept (t' := s4.toks) fun b ob q => Heap.get?_push_of_some _ q
  cases pl
  cases pu
  obtain ⟨st, rfl, hst⟩ := IsPart.raw ps
  cases st with
  | none => cases hst
  | some z =>
    obtain ⟨zk, zu⟩ := z
    have ez : zk = -1 := Option.some.inj hst
    subst ez
    show wpAny (model X.prog X.w) X.A (subscriptTail e (.Slice none none (some (.UnaryOp .USub (.Constant (.int 1) k p1) p2)) p3) (.str (sOf l) t) (.ref s4.heap.objs.size)) (EP X pins σ Q) X.xe { s4 with heap := s4.heap.push { cls := .type "slice", data := .fields #[.none, .none, _] } }
    refine tail_any (ops := [.str (sOf l) t, .ref s4.heap.objs.size]) (typeIs_str _ _ _) (F.slot_str_getitem.lookup) ?_ (by with_unfolding_all rfl)
    refine wpAny_getItem_str_slice (l := none) (u := none) (st := some (-1, zu)) ⟨_, Heap.get?_push_size _ rfl, rfl, rfl⟩ rfl ?_
    refine post_val_or_str ⟨?_, fun t' c => ?_⟩
    · refine Nat.le_trans (Txt.sliceBy_le (sOf l) none none (-1, zu) (by show (-1 : Int) ≠ 0; decide)) ?_
      rw [sOf_len]; exact small hl
    · refine ⟨.str (sOf l.reverse), H4, I5.tok _, ?_, q⟩
      rw [← rev_is l zu]
      exact ⟨_, rfl⟩

/-! ### methods of texts -/
theorem m_index {x y : Str} {k : Nat} (h : Txt.index0 x y = some k) (q : Q (.int k) B L) (hc : X.calm = true := by rfl) : kMt X "str.index" (.str x) [.str y] B L Q :=
  ⟨fun x xs H Q => rIndexX (fun _ _ _ _ => False) [] x xs H Q, fun pins s σ H x xs v us Q I rx rs q => mt_indexX hc takes0 pins s σ H x xs v us Q I rx rs q, fun H s => ⟨x, y, rfl, rfl, fun j hj => by
    rw [h] at hj; cases hj; exact ⟨_, _, s, q⟩, fun hn => by rw [h] at hn; cases hn⟩⟩
theorem k_sindex {name : Str} {apos : Pos} (h : kE X a σ B L fun x B1 L1 => ∃ z, x = .str z ∧ kA X (e :: es) σ B1 L1 fun vs B2 L2 => kMt X "str.index" x vs B2 L2 Q)
    (hbase : attributeBase a "index" X.env (eval a X.env) = eval a X.env := by rfl)
    (hfew : ((backTo pos (starEach (e :: es) X.env)).all (fun x => !x.1) && (backToKw pos (keywordEach [] X.env)).all (fun x => x.1.isSome)
      && decide ((e :: es).length + ([] : List Keyword).length + (if ([] : List Keyword).isEmpty then 0 else 1) < 30)) = true := by rfl)
    (hline : (apos.endLine == pos.line) = true := by rfl) (hs : starEach (e :: es) X.env = (false, eval e X.env) :: starEach es X.env := by rfl) (hplain : (backTo pos (starEach es X.env)).any (·.1) = false := by rfl) :
    kE X (.Call (.Attribute a "index" apos) (e :: es) [] pos) σ B L Q := by
  refine k_m PySem.F.plainAttrs_str PySem.F.slot_str_index PySem.F.type_str_index ?_ hbase hfew hline hs hplain
  obtain ⟨t, h1, h2⟩ := h
  refine ⟨_, pe_c, fun H s => toE s ⟨t, h1, h2⟩ fun x H' B' L' s' ⟨z, e, q⟩ => ⟨B', L', s', ?_, q⟩⟩
  subst e
  exact ty_s
theorem joinN (ls : List (List Nat)) : Txt.join (sOf []) (ls.map sOf) = sOf ls.flatten := by
  rw [join_eq]
  apply ext_toList
  show tl _ = _
  rw [tl_join]
  have e : (ls.map sOf).map tl = ls := by rw [List.map_map]; exact (List.map_congr_left (fun l _ => by simp [tl, sOf])).trans (List.map_id _)
  rw [e]
  have h : ∀ ls : List (List Nat), joinL [] ls = ls.flatten := by
    intro ls
    induction ls with
    | nil => rfl
    | cons a r ih =>
      cases r with
      | nil => simp [joinL]
      | cons b r =>
        have e2 : joinL [] (a :: b :: r) = a ++ ([] ++ joinL [] (b :: r)) := rfl
        rw [e2, ih]; simp
  show joinL [] ls = (sOf ls.flatten).cps.toList
  rw [h]
/-- ''.join(list of texts) -/
theorem m_join0 {p : Addr} {ls : List (List Nat)} (h : Ls X.K B L p (ls.map fun l => V.str (sOf l))) (q : Q (.str (sOf ls.flatten)) B L) (hl : ls.flatten.length ≤ 16777216) : kMt X "str.join" (.str (sOf [])) [.ref p] B L Q :=
  ⟨_, mt_join, fun H s => ⟨sOf [], p, ls.map sOf, rfl, rfl, .inl (by rw [List.map_map]; exact h.at s), by
    have e : ((ls.map sOf).map (·.length)).sum = ls.flatten.length := by rw [List.map_map, List.length_flatten]; congr 1
    rw [e, show (sOf []).length = 0 from rfl]; omega, by rw [joinN]; exact ⟨_, _, s, q⟩⟩⟩
theorem k_join (h : kE X a σ B L fun x B1 L1 => ∃ z, x = .str z ∧ kE X e σ B1 L1 fun v B2 L2 => kMt X "str.join" x [v] B2 L2 Q) {apos : Pos}
    (hbase : attributeBase a "join" X.env (eval a X.env) = eval a X.env := by rfl)
    (hfew : ((backTo pos (starEach [e] X.env)).all (fun x => !x.1) && (backToKw pos (keywordEach [] X.env)).all (fun x => x.1.isSome)
      && decide ([e].length + ([] : List Keyword).length + (if ([] : List Keyword).isEmpty then 0 else 1) < 30)) = true := by rfl)
    (hline : (apos.endLine == pos.line) = true := by rfl) (hs : starEach [e] X.env = (false, eval e X.env) :: starEach [] X.env := by rfl) (hplain : (backTo pos (starEach [] X.env)).any (·.1) = false := by rfl) :
    kE X (.Call (.Attribute a "join" apos) [e] [] pos) σ B L Q := by
  refine k_m PySem.F.plainAttrs_str PySem.F.slot_str_join PySem.F.type_str_join ?_ hbase hfew hline hs hplain
  obtain ⟨t, h1, h2⟩ := h
  refine ⟨_, pe_c, fun H s => toE s ⟨t, h1, h2⟩ fun x H' B' L' s' ⟨z, ez, q⟩ => ⟨B', L', s', ?_, ?_⟩⟩
  · subst ez; exact ty_s
  · refine a_cons ?_ hs
    obtain ⟨t2, k1, k2⟩ := q
    exact ⟨_, pe_c, fun H s => toE s ⟨t2, k1, k2⟩ fun v H2 B2 L2 s2 q2 => ⟨B2, L2, s2, a_nil q2⟩⟩
/-- c.lower() -/
theorem m_lower {x y : Str} (hy : Txt.lower x = y) (q : Q (.str y) B L) (hl : x.length ≤ 5592405) : kMt X "str.lower" (.str x) [] B L Q := ⟨_, mt_lower, fun H s => ⟨x, rfl, rfl, hl, by rw [hy]; exact ⟨_, _, s, q⟩⟩⟩
end
end Kv

namespace Kv
open PySem PySem.Spec PyProof.Rows L2
/-! ### enumerate(text) -/
/-- a text's signs with their places, each pair a new tuple -/
def Ies (x : Str) : It := ⟨fun i _ => i < x.cps.size, fun i H v H' => ∃ T c, v = .ref T ∧ H T = none ∧ H' = upd H T (.tup [.int (i : Nat), .str ⟨#[c]⟩]) ∧ x.cps[i]? = some c, fun i _ => i = x.cps.size⟩
theorem draws_str {prog : Program} {w : World} {A : Around} (hh : A.handled = none) (it : Addr) (x : Str) (t : Tok) (ty : String) (hty : ty = "str_ascii_iterator" ∨ ty = "str_iterator") :
    Draws prog w A it [it] x.cps.size (fun i v => ∃ c u, x.cps[i]? = some c ∧ v = .str ⟨#[c]⟩ u) (fun i h => h.IsStrIter it ty x t i) := by
  rcases hty with e | e
  · rw [e]; exact Draws.strAscii hh it x t
  · rw [e]; exact Draws.strWide hh it x t
theorem turn_es {P : Program} {w : World} {K : PySem.W.Frag} {elts : List Expr} {kk : Nat} {tpos : Pos} (x : Str) (t : Tok) (e it : Addr) (ty : String) (hty : ty = "str_ascii_iterator" ∨ ty = "str_iterator") :
    Turn P w K (.Tuple elts kk tpos) (Ies x) [e, it] e (fun i h => (∃ old, IsEnum h e it ((i : Nat) : Int) old) ∧ h.IsStrIter it ty x t i ∧ e ≠ it) where
  mem := by simp
  obj := fun i h st b hb => by
    obtain ⟨⟨old, he⟩, ⟨o, ho, hc, hd⟩, _⟩ := st
    have e' : b = e ∨ b = it := by simpa using hb
    rcases e' with z | z
    · subst z; exact ⟨_, he, fun v q => nomatch q⟩
    · subst z; exact ⟨o, ho, fun v q => by rw [hd] at q; cases q⟩
  keep := fun i h h' st k => by
    obtain ⟨⟨old, he⟩, ⟨o, ho, r⟩, hne⟩ := st
    exact ⟨⟨old, k e (by simp) _ he⟩, ⟨o, k it (by simp) o ho, r⟩, hne⟩
  item := by
    intro X hP hw hK hc i pins s σ H E I hf st hg
    subst hP hw hK
    obtain ⟨⟨old, he⟩, hit, hne⟩ := st
    have D := draws_str (prog := X.prog) (w := X.w) (A := X.A.in1) (I.ok.hd hc) it x t ty hty
    have hel : e < s.heap.objs.size := Heap.lt_size he
    have hil : it < s.heap.objs.size := by obtain ⟨_, q, _⟩ := hit; exact Heap.lt_size q
    refine wpAny_pyNext_enum_itemD D he hit hg hne (by simpa using hne) fun v h' tk hv ho hit' hT hsz hk => ?_
    obtain ⟨c, u, hcx, rfl⟩ := hv
    refine ⟨_, rfl, wpAny_letOwnedTupleGo_enum (s := { s with heap := h', toks := tk + 1 }) ho fun h2 he2 sb => ?_⟩
    have hT2 : h2.get? s.heap.objs.size = some { cls := .type "tuple", data := .seq #[.int i tk, .str ⟨#[c]⟩ u] } := (sb.2 _ (Nat.ne_of_gt hel)).trans hT
    have nw : ObjOk X.prog X.w (upd H s.heap.objs.size (.tup [.int (i : Nat), .str ⟨#[c]⟩])) h2 s.heap.objs.size (.tup [.int (i : Nat), .str ⟨#[c]⟩]) :=
      ⟨by show 2 ≤ sizeLine; decide, [.int i tk, .str ⟨#[c]⟩ u], .cons ⟨_, rfl⟩ (.cons ⟨_, rfl⟩ .nil), ⟨_, hT2, rfl, _, rfl⟩⟩
    have J : Inv X pins σ (upd H s.heap.objs.size (.tup [.int (i : Nat), .str ⟨#[c]⟩])) { s with heap := h2, toks := tk + 1 } :=
      I.turnedNew (ch := [e, it]) (fun b ob hb q => (sb.2 b (fun z => hb (by simp [z]))).trans (hk b ob (fun z => hb (by simp [z])) (fun z => hb (by simp [z])) q)) hf (Nat.le_refl _) nw
    refine ⟨.ref s.heap.objs.size, _, J, rfl, ⟨_, c, rfl, I.hok.fresh (Nat.le_refl _), rfl, hcx⟩, ⟨⟨.str ⟨#[c]⟩ u, ?_⟩, ?_, hne⟩, fun b hb => ?_⟩
    · have e1 : ((i + 1 : Nat) : Int) = (i : Int) + 1 := by omega
      rw [e1]; exact he2
    · obtain ⟨o, ho1, r⟩ := hit'
      exact ⟨o, (sb.2 it (Ne.symm hne)).trans ho1, r⟩
    · have hb' : b < s.heap.objs.size := by
        have e' : b = e ∨ b = it := by simpa using hb
        rcases e' with z | z
        · rw [z]; exact hel
        · rw [z]; exact hil
      rw [upd_ne (Nat.ne_of_lt hb')]
      exact (hf b hb).1
  done := by
    intro X hP hw hK hc i pins s σ H E I hf st hg
    subst hP hw hK
    obtain ⟨⟨old, he⟩, hit, hne⟩ := st
    have D := draws_str (prog := X.prog) (w := X.w) (A := X.A.in1) (I.ok.hd hc) it x t ty hty
    obtain ⟨f0, f1, f2, f3, f4, f5⟩ := hf it (by simp)
    have hi : i = x.cps.size := hg
    subst hi
    exact wpAny_pyNext_enum_endD D he hit fun h' eb => ⟨rfl, I.turned (t' := s.toks) (fun b o hb q => eb b o hb q) f0 f1 f3 f4 f5⟩
  self := fun A i s Q E st h => let ⟨⟨_, he⟩, _⟩ := st; wpAny_pyIter_enum he h
theorem walk_es {x : Str} : Walk (Ies x) x.cps.size (fun _ => True) (fun i H v H' => ∃ T c, v = .ref T ∧ H T = none ∧ H' = upd H T (.tup [.int (i : Nat), .str ⟨#[c]⟩]) ∧ x.cps[i]? = some c) := ⟨fun _ _ hi _ => hi, fun _ _ => rfl, fun _ _ _ _ _ _ y => y⟩
theorem pi_es {X : Cx} {e : Expr} {te : TE} {p pos tpos : Pos} {elts : List Expr} {kk : Nat} (hg : Gl X "enumerate") (hm : X.mg "enumerate" = none) (he : PE X e te) (hs : starEach [e] X.env = (false, eval e X.env) :: starEach [] X.env := by rfl) (hs' : starEach [e] X.env = [(false, eval e X.env)] := by rfl) :
    PI X (.Tuple elts kk tpos) (.Call (.Name "enumerate" p) [e] [] pos) (fun σ H R => te σ H fun v H1 => ∃ x, v = .str x ∧ R (Ies x) H1) := by
  refine ⟨fun pins s σ H R I h => ?_⟩
  refine Call_ (ld_blt I hg hm boot_enumerate (PyProof.Rows.callWith_type1 (thn ((pa_cons he pa_nil hs).run pos pins s σ H (fun vs H1 => ∃ x, vs = [.str x] ∧ R (Ies x) H1) I ?_) fun us s1 ⟨vs, H1, I1, r1, q1⟩ => ?_) hs' rfl))
  · have hh : (fun v H1 => ∃ x, v = V.str x ∧ R (Ies x) H1) = fun v H1 => tNil σ H1 fun xs H2 => ∃ x, v :: xs = [V.str x] ∧ R (Ies x) H2 := by
      funext v H1
      simp [tNil]
    show te σ H _
    rw [← hh]
    exact h
  obtain ⟨x, ex, q⟩ := q1
  subst ex
  cases r1 with
  | cons r rr =>
    cases rr
    obtain ⟨t, rfl⟩ := r
    refine call_enumerate_str fun h' he hit hsz hk => wpAny_pyIter_enum he ?_
    have I2 : Inv X pins σ H1 { s1 with heap := h' } := I1.kept (t' := s1.toks) hk
    have hty : strIterType x = "str_ascii_iterator" ∨ strIterType x = "str_iterator" := by unfold strIterType; split <;> simp
    refine ⟨s1.heap.objs.size + 1, [s1.heap.objs.size + 1, s1.heap.objs.size], _, _, H1, rfl, I2, turn_es x t (s1.heap.objs.size + 1) s1.heap.objs.size _ hty, ⟨⟨.none, he⟩, hit, Nat.succ_ne_self _⟩, fun b hb => ?_, q⟩
    have hle : s1.heap.objs.size ≤ b := by
      have e' : b = s1.heap.objs.size + 1 ∨ b = s1.heap.objs.size := by simpa using hb
      rcases e' with z | z
      · rw [z]; exact Nat.le_add_right _ _
      · rw [z]; exact Nat.le_refl _
    exact I1.fpOk hle (I1.hok.fresh hle)
section
variable {X : Cx} {σ : L2.St} {B : Hp} {L : HL} {Q : KQ} {D : KD} {pos p2 pos' : Pos} {e a b c tg iter elt : Expr} {es : List Expr} {body : List Stmt} {scope : Scope}
theorem r_es {R : It → Hp → HL → Prop} {elts : List Expr} {kk : Nat} {tpos : Pos} (hm : X.mg "enumerate" = none) (h : kE X e σ B L fun v B1 L1 => ∃ l, v = .str (sOf l) ∧ R (Ies (sOf l)) B1 L1) (hg : Gl X "enumerate" := by rfl) (hs : starEach [e] X.env = (false, eval e X.env) :: starEach [] X.env := by rfl) (hs' : starEach [e] X.env = [(false, eval e X.env)] := by rfl) :
    kR X (.Tuple elts kk tpos) (.Call (.Name "enumerate" p2) [e] [] pos) σ B L R := ⟨_, pi_es hg hm pe_c hs hs', fun H s => toE s h fun _ _ _ _ s ⟨l, e, q⟩ => ⟨_, e, _, _, s, q⟩⟩
theorem wipe2' (σ : L2.St) (i j : Nat) (x y : V) : ((wipe σ [i, j]).set i (some x)).set j (some y) = (σ.set i (some x)).set j (some y) := by
  by_cases h : i = j
  · subst h; simp [wipe, List.set_set]
  · show (((σ.set j none).set i none).set i (some x)).set j (some y) = _
    rw [List.set_set, List.set_comm none (some x) (Ne.symm h), List.set_set]
theorem wipe2 (σ : L2.St) (i j : Nat) (x y : V) : wipe (((wipe σ [i, j]).set i (some x)).set j (some y)) [i, j] = wipe σ [i, j] := by
  rw [wipe2']
  by_cases h : i = j
  · subst h; simp [wipe, List.set_set]
  · show (((σ.set i (some x)).set j (some y)).set j none).set i none = (σ.set j none).set i none
    rw [List.set_set, List.set_comm (some x) none h, List.set_set]
/-- [elt for i, c in enumerate(text)] -/
theorem k_lcm_es {x y : Str} {i j kk : Nat} {px py tpos : Pos} (g : Nat → Nat → V) (hN : X.N.Nodup) (ok : BlkOk X.N X.env.scope scope [(x, i), (y, j)]) (hm : X.mg "enumerate" = none)
    (h : kE X e σ B L fun v B1 L1 => ∃ l, v = .str (sOf l) ∧ l.length ≤ 16777216 ∧ (∀ (n : Nat) c, l[n]? = some c → ∀ D acc s H0 C cl fp, kE (Bk X scope s H0 C cl fp) elt ((σ.set i (some (.int n))).set j (some (.str (sOf [c])))) B1 ((D, .lst acc) :: L1) fun y B3 L3 => y = g n c ∧ B3 = B1 ∧ L3 = (D, .lst acc) :: L1) ∧
      ∀ D, Q (.ref D) B1 ((D, .lst (l.mapIdx g)) :: L1))
    (hp : ∀ s H0 C cl fp, Loc (Bk X scope s H0 C cl fp).env.scope x ∧ Loc (Bk X scope s H0 C cl fp).env.scope y := by intro _ _ _ _ _; exact ⟨Or.inl rfl, Or.inl rfl⟩) (hf : ∀ s H0 C cl fp, (Bk X scope s H0 C cl fp).env.scope.names.lookup x = some .local ∧ (Bk X scope s H0 C cl fp).env.scope.names.lookup y = some .local := by intro _ _ _ _ _; exact ⟨rfl, rfl⟩)
    (hn : ∀ s H0 C cl fp, (assignEach [.Name x px, .Name y py] (Bk X scope s H0 C cl fp).env).length = 2 := by intro _ _ _ _ _; rfl) (hfi : ∀ s H0 C cl fp, (assignEach [.Name x px, .Name y py] (Bk X scope s H0 C cl fp).env).findIdx? (·.1) = none := by intro _ _ _ _ _; rfl)
    (h1 : ∀ s H0 C cl fp, (assignEach [.Name x px, .Name y py] (Bk X scope s H0 C cl fp).env).map (·.2) = assign (.Name x px) (Bk X scope s H0 C cl fp).env :: (assignEach [.Name y py] (Bk X scope s H0 C cl fp).env).map (·.2) := by intro _ _ _ _ _; rfl)
    (h2 : ∀ s H0 C cl fp, (assignEach [.Name y py] (Bk X scope s H0 C cl fp).env).map (·.2) = assign (.Name y py) (Bk X scope s H0 C cl fp).env :: (assignEach [] (Bk X scope s H0 C cl fp).env).map (·.2) := by intro _ _ _ _ _; rfl)
    (hg : Gl X "enumerate" := by rfl) (hst : starEach [e] X.env = (false, eval e X.env) :: starEach [] X.env := by rfl) (hst' : starEach [e] X.env = [(false, eval e X.env)] := by rfl)
    (hi : X.N[i]? = some x := by rfl) (hj : X.N[j]? = some y := by rfl) (hc : X.calm = true := by rfl) (hs : ∀ x, foldedSetIterable (.Call (.Name "enumerate" p2) [e] [] pos') X.env x = pure x := by intro _; rfl) :
    kL X elt (.Tuple [.Name x px, .Name y py] kk tpos) (.Call (.Name "enumerate" p2) [e] [] pos') [] scope [(x, i), (y, j)] σ B L Q :=
  k_lc hN ok (r_es hm (by
    obtain ⟨t, k1, k2⟩ := h
    refine ⟨_, pe_c, fun H s => toE s ⟨t, k1, k2⟩ fun v H' B1 L1 s' ⟨l, e, hl, ht, hd⟩ => ⟨B1, L1, s', l, e, (sOf l).cps.size, _, _, fun i acc B L => B = B1 ∧ L = L1 ∧ acc = (l.mapIdx g).take i, walk_es, ⟨rfl, rfl, by simp⟩, fun i acc B L H hi p s => trivial, ?_, ?_⟩⟩
    · rintro D n acc z B L H H' hn' ⟨rfl, rfl, rfl⟩ s ⟨T, c, rfl, hT, rfl, hx⟩
      have hx' : l[n]? = some c := by simpa [sOf] using hx
      refine ⟨_, _, s.new hT, fun sa Ha Ca cla fpa => g_pair ?_ hc (hn sa Ha Ca cla fpa) (hfi sa Ha Ca cla fpa)⟩
      refine gs_cons (g_name i ?_ hN hi (hp sa Ha Ca cla fpa).1 (.inr (hf sa Ha Ca cla fpa).1)) (h1 sa Ha Ca cla fpa)
      refine gs_cons (g_name j ?_ hN hj (hp sa Ha Ca cla fpa).2 (.inr (hf sa Ha Ca cla fpa).2)) (h2 sa Ha Ca cla fpa)
      refine gs_nil ⟨wipe2 σ i j _ _, fun sb Hb Cb clb fpb => ?_⟩
      show kE _ _ (((wipe σ [i, j]).set i _).set j _) _ _ _
      rw [wipe2']
      obtain ⟨t2, m1, m2⟩ := ht n c hx' D ((l.mapIdx g).take n) sb Hb Cb clb fpb
      refine ⟨_, pe_c, fun H s => toE s ⟨t2, m1, m2⟩ fun y H2 B2 L2 s2 ⟨e1, e2, e3⟩ => ⟨B2, L2, s2, ?_, L, e3, e2, rfl, ?_⟩⟩
      · have := (List.getElem?_eq_some_iff.mp hx').1
        simp; omega
      · rw [e1, List.take_add_one, List.getElem?_mapIdx, hx']; simp
    · rintro acc B L D ⟨rfl, rfl, rfl⟩
      rw [sOf_size, show l.length = (l.mapIdx g).length by simp, List.take_length]
      exact hd D) hg hst hst') hc hs

/-! ### objects -/
def At (B : Hp) (L : HL) (p : Addr) (o : HO) : Prop := B p = some o ∨ (p, o) ∈ L
theorem At.at {H : Hp} {p : Addr} {o : HO} (h : At B L p o) (s : Sat B L H) : H p = some o := by
  rcases h with h | h
  · exact s.ext _ _ h
  · exact s.own _ h
theorem k_fld {f : Str} {C : Addr} (c : Cls X.K C) (n : NoAttr X.K C f) (h : kE X a σ B L fun x B1 L1 => ∃ p dx fs v, x = .ref p ∧ At B1 L1 p (.ins C dx fs) ∧ fs.lookup f = some v ∧ Q v B1 L1)
    (hb : attributeBase a f X.env (eval a X.env) = eval a X.env := by rfl) : kE X (.Attribute a f pos) σ B L Q := ⟨_, pe_fld pe_c hb, fun H s => toE s h fun _ _ _ _ s ⟨p, dx, fs, v, e, ha, hl, q⟩ => ⟨p, C, dx, fs, v, e, ha.at s, c, n, hl, _, _, s, q⟩⟩
theorem k_setf {f : Str} {C : Addr} (c : Cls X.K C) (n : NoAttr X.K C f) (h : kE X e σ B L fun y B1 L1 => kE X a σ B1 L1 fun x B2 L2 => ∃ p dx fs L3, x = .ref p ∧ Rep L2 p (.ins C dx fs) (.ins C dx (putF f y fs)) L3 ∧ fs.length < 1000 ∧ D.nx σ B2 L3)
    (hs : swapsWith e (some (.Attribute a f pos')) pos.line X.env = pure false := by rfl) : kS X (.Assign [.Attribute a f pos'] e pos) σ B L D :=
  ⟨_, ps_fld pe_c pe_c hs, fun H s => toE s h fun _ _ _ _ s q => toE s q fun _ _ _ _ s ⟨p, dx, fs, L3, e, r, hl, q⟩ => ⟨p, C, dx, fs, e, s.own _ r.mem, c, n, hl, _, _, s.rep r, q⟩⟩
/-- a method of the program's own class at C, an object of that class made -/
structure Mt (P : Program) (w : World) (K : PySem.W.Frag) (mg : Str → Option Value) (base : Heap) (k : Nat) (C : Addr) (m : Str) (sp : Sp) : Prop where
  ex : ∃ f fd ps, FnOk P w K mg base (L2.CX P w) k f fd ps sp ∧ Meth K C m f ∧ Binds K fd ps []
  cls : Cls K C
structure Mkr (P : Program) (w : World) (K : PySem.W.Frag) (mg : Str → Option Value) (base : Heap) (k : Nat) (x : Str) (C : Addr) (sp : Sp) : Prop where
  ex : ∃ f fd ps, FnOk P w K mg base (L2.CX P w) k f fd ps sp ∧ Mk K C f ∧ Binds K fd ps []
  mg : mg x = some (.ref C)
theorem k_meth {m : Str} {C : Addr} {k : Nat} {sp : Sp} {W : WX} {apos : Pos} {pl : Sem Bool} (F : Mt X.prog X.w X.K X.mg X.base k C m sp) (hr : Room k X.A) (tk : Takes X W)
    (h : kE X a σ B L fun x B1 L1 => ∃ p dx fs, x = .ref p ∧ At B1 L1 p (.ins C dx fs) ∧ fs.lookup m = none ∧ kA X (e :: es) σ B1 L1 fun vs B2 L2 => ∀ H, Sat B2 L2 H → sp (.ref p :: vs) H (up Q) (WE W σ))
    (hst : starEach (e :: es) X.env = (false, eval e X.env) :: starEach es X.env := by rfl) (hpl : (backTo pos (starEach es X.env)).any (·.1) = false := by rfl)
    (ht : eval (.Call (.Attribute a m apos) (e :: es) [] pos) X.env = (do
      let ov ← eval a X.env
      standAt apos.atName
      let (f, first) ← holding [ov] (getMethod ov m pl)
      callWith pos f first (backTo pos (starEach (e :: es) X.env)) (backToKw pos (keywordEach [] X.env))) := by rfl) : kE X (.Call (.Attribute a m apos) (e :: es) [] pos) σ B L Q := by
  obtain ⟨f, fd, ps, hF, hm, hb⟩ := F.ex
  refine ⟨fun σ H Q => cE X a σ H fun x H1 => ∃ p dx fs, x = .ref p ∧ H1 p = some (.ins C dx fs) ∧ fs.lookup m = none ∧ cA X (e :: es) σ H1 fun vs H2 => sp (.ref p :: vs) H2 Q (WE W σ), ⟨fun pins s σ H Q I h => ?_⟩, fun H s => toE s h fun _ _ _ _ s ⟨p, dx, fs, e, ha, hl, q⟩ => ⟨p, dx, fs, e, ha.at s, hl, toA s q fun _ _ _ _ s q => q _ s⟩⟩
  refine PySem.W.methodCall_KW (pl := pl) (thn (pe_c.run pins s σ H _ I h) fun u s1 ⟨x, H1, I1, rx, p, dx, fs, ex, ea, l, q⟩ => ?_) ht
  subst ex
  obtain rfl : u = Value.ref p := rx
  refine getmeth_ok I1 ea F.cls hm l ?_
  refine PySem.W.callWith_K (first := [.ref p]) (h₀ := X.base) I.ok.mod.kin hm.kp (thn (pa_c.run pos pins s1 σ H1 _ I1 q) fun us s2 ⟨vs, H2, I2, r, q2⟩ => ⟨I2.kIn, ?_⟩) hst hpl
  exact run_fnS (E := WE W) (us := .ref p :: us) (vs := .ref p :: vs) hF hr hb (passAt tk σ) I2 (.cons rfl r) q2
theorem k_meth0 {m : Str} {C : Addr} {k : Nat} {sp : Sp} {W : WX} {apos : Pos} {pl : Sem Bool} (F : Mt X.prog X.w X.K X.mg X.base k C m sp) (hr : Room k X.A) (tk : Takes X W)
    (h : kE X a σ B L fun x B1 L1 => ∃ p dx fs, x = .ref p ∧ At B1 L1 p (.ins C dx fs) ∧ fs.lookup m = none ∧ ∀ H, Sat B1 L1 H → sp [.ref p] H (up Q) (WE W σ))
    (ht : eval (.Call (.Attribute a m apos) [] [] pos) X.env = (do
      let ov ← eval a X.env
      standAt apos.atName
      let (f, first) ← holding [ov] (getMethod ov m pl)
      callWith pos f first (backTo pos (starEach [] X.env)) (backToKw pos (keywordEach [] X.env))) := by rfl) : kE X (.Call (.Attribute a m apos) [] [] pos) σ B L Q := by
  obtain ⟨f, fd, ps, hF, hm, hb⟩ := F.ex
  refine ⟨fun σ H Q => cE X a σ H fun x H1 => ∃ p dx fs, x = .ref p ∧ H1 p = some (.ins C dx fs) ∧ fs.lookup m = none ∧ sp [.ref p] H1 Q (WE W σ), ⟨fun pins s σ H Q I h => ?_⟩, fun H s => toE s h fun _ _ _ _ s ⟨p, dx, fs, e, ha, hl, q⟩ => ⟨p, dx, fs, e, ha.at s, hl, q _ s⟩⟩
  refine PySem.W.methodCall_KW (pl := pl) (thn (pe_c.run pins s σ H _ I h) fun u s1 ⟨x, H1, I1, rx, p, dx, fs, ex, ea, l, q⟩ => ?_) ht
  subst ex
  obtain rfl : u = Value.ref p := rx
  refine getmeth_ok I1 ea F.cls hm l ?_
  exact PySem.W.callWith_K0 (first := [.ref p]) I1.kIn hm.kp (run_fnS (E := WE W) (us := [.ref p]) (vs := [.ref p]) hF hr hb (passAt tk σ) I1 (.cons rfl .nil) q)
/-- C(e, ..) -/
theorem k_make {x : Str} {C : Addr} {k : Nat} {sp : Sp} {E : XK} (F : Mkr X.prog X.w X.K X.mg X.base k x C sp) (hr : Room (k + 1) X.A) (hx : Passes (L2.CX X.prog X.w) X E)
    (h : kA X (e :: es) σ B L fun vs B1 L1 => ∀ x dx, ∀ H, Sat B1 ((x, .ins C dx []) :: (dx, .own x) :: L1) H → sp (.ref x :: vs) H (fun v H2 => v = .non ∧ up Q (.ref x) H2) E)
    (hg : Gl X x := by rfl) (hdb : (x == ("__debug__" : Str)) = false := by decide) (he : starEach (e :: es) X.env = (false, eval e X.env) :: starEach es X.env := by rfl) (hpl : (backTo pos (starEach es X.env)).any (·.1) = false := by rfl) : kE X (.Call (.Name x p2) (e :: es) [] pos) σ B L Q := by
  obtain ⟨f, fd, ps, hF, hm, hb⟩ := F.ex
  refine ⟨_, pe_make hm hF hr hg F.mg hb .nil hx pa_c hdb he hpl, fun H s => toA s h fun vs H' B' L' s' q => fun x dx nx ndx nex => ?_⟩
  have s2 := s'.new (o := .own x) ndx
  have nx2 : (upd H' dx (.own x)) x = none := by rw [upd_ne (Ne.symm nex)]; exact nx
  have s3 := s2.new (o := .ins C dx []) nx2
  have := q x dx _ s3
  rw [List.append_nil]
  exact this

/-! ### errors -/
/-- what the top says of an own error class without __init__ -/
structure ExK (K : PySem.W.Frag) (mg : Str → Option Value) (x : Str) (C : Addr) : Prop where
  g : mg x = some (.ref C)
  x : PySem.W.excIn K C [.type "ValueError", .type "Exception", .type "BaseException", .type "object"] "ValueError.__new__" = true
  k : PySem.W.keepIn K (.ref C) = true
  b : PySem.W.subIn K (.ref C) (.type "BaseException") = some true
  t : PySem.W.typeIn K (.ref C) = some (.type "type")
theorem k_raise {x m : Str} {j : Nat} {W : WX} {C : Addr} {p p3 : Pos} (T : ExK X.K X.mg x C) (tk : Takes X W) (h : ∀ H, Sat B L H → W (.ref C) none σ H) (hg : Gl X x := by rfl) (hdb : (x == ("__debug__" : Str)) = false := by decide) (hc : X.calm = true := by rfl) :
    kS X (.Raise (some (.Call (.Name x p) [.Constant (.str m) j p2] [] pos)) none p3) σ B L D := ⟨_, ps_raise hc tk (pmk_own PySem.F.excBase_ValueError T.x T.g T.k (raises_own T.b T.t) hg hdb), fun H s => h H s⟩
def tSui (X : Cx) (suite : List Stmt) (a : Addr) (cls : Value) (d : Option Addr) : TS := fun E σ H => ∀ oe pn, Zc cls d oe → (∃ vs, oe.data = .fields vs) → cSs (X.suite a ((a, oe) :: pn)) suite E σ H
/-- try: body / except x: suite -/
theorem k_try_only {x : Str} {cv : Value} {b₀ : Stmt} {suite : List Stmt} {np : Pos} {Wout : WX} (tk : Takes X Wout) (hc : Names X x cv)
    (h : ∀ pn xe, Takes (X.tr pn xe) (wOnly X.K cv (tSui X (b₀ :: suite)) Wout D.dn) → PassesOwn (model X.prog X.w) X.A X.env xe → kSs (X.tr pn xe) body σ B L D)
    (hs : X.stack = X.env :: X.outer := by rfl) (hf : X.env.frame = some X.env.locals := by rfl) : kS X (.Try body [.ExceptHandler (some (.Name x np)) none (b₀ :: suite) pos'] [] [] pos) σ B L D :=
  ⟨_, ps_try_only (tb := fun W E σ H => ∀ pn xe, Takes (X.tr pn xe) W → PassesOwn (model X.prog X.w) X.A X.env xe → cSs (X.tr pn xe) body E σ H) (ts := tSui X (b₀ :: suite)) hs hf hc tk
    (fun W pn xe t po => ⟨fun pins s σ H E I q => pss_c.run pins s σ H E I (q pn xe t po)⟩)
    (fun a oe cls d pn z f => ⟨fun pins s σ H E I q => pss_c.run pins s σ H E I (q oe pn z f)⟩), fun H s => fun pn xe t po => toSs0 s (h pn xe t po)⟩
/-- the wish at a raise of the clause's class -/
theorem w_only {cv : Value} {suite : List Stmt} {Wout : WX} {C : Addr} {H : Hp} (hx : PySem.W.exmOne X.K (.ref C) cv = some true) (s : Sat B L H) (h : ∀ a oe pn, kSs (X.suite a ((a, oe) :: pn)) suite σ B L D) : wOnly X.K cv (tSui X suite) Wout D.dn (.ref C) none σ H :=
  ⟨true, hx, fun _ a _ oe pn _ _ => toSs0 s (h a oe pn), fun z => (Bool.noConfusion z)⟩
end
end Kv

namespace Kv
open PySem PySem.Spec PyProof.Rows L2
section
variable {X : Cx} {σ : L2.St} {B : Hp} {L : HL} {Q : KQ}
/-! ### == and != of lists, tuples -/
/-- x reads as the data d, whatever else the heap holds -/
def Dd (X : Cx) (B : Hp) (L : HL) (x : V) (d : PyData) : Prop := ∀ H, Sat B L H → Dp X.K H x d
def DdA (X : Cx) (B : Hp) (L : HL) (xs : List V) (ds : List PyData) : Prop := ∀ H, Sat B L H → DpAll X.K H xs ds
theorem dd_i {i : Int} : Dd X B L (.int i) (.int i) := fun _ _ => .int i
theorem dd_s {l : Str} : Dd X B L (.str l) (.str l) := fun _ _ => .str l
theorem dd_b {b : Bool} : Dd X B L (.bl b) (.bool b) := fun _ _ => .bl b
theorem dd_n : Dd X B L .non .none := fun _ _ => .non
theorem dd_l {p : Addr} {xs : List V} {ds : List PyData} (h : Ls X.K B L p xs) (ha : DdA X B L xs ds) : Dd X B L (.ref p) (.list ds) := fun H s => .lst (h.at s) (ha H s)
theorem dd_t {p : Addr} {xs : List V} {ds : List PyData} (h : Tp X.K B L p xs) (ha : DdA X B L xs ds) : Dd X B L (.ref p) (.tuple ds) := fun H s => .tup (h.at s) (ha H s)
theorem da_nil : DdA X B L [] [] := fun _ _ => .nil
theorem da_cons {x : V} {xs : List V} {d : PyData} {ds : List PyData} (h : Dd X B L x d) (ha : DdA X B L xs ds) : DdA X B L (x :: xs) (d :: ds) := fun H s => .cons (h H s) (ha H s)
theorem da_map {α : Type} {f : α → V} {g : α → PyData} (h : ∀ a, Dd X B L (f a) (g a)) : ∀ l : List α, DdA X B L (l.map f) (l.map g)
  | [] => da_nil
  | a :: l => da_cons (h a) (da_map h l)
theorem o_eqD {x y : V} {d e : PyData} (hu : X.A.units + 64 < cLine) (hd : Dd X B L x d) (he : Dd X B L y e) (q : Q (.bl (PyData.eqv d e)) B L) (sd : SeqAt.shaped d = true) (se : SeqAt.shaped e = true) : kO X (compareOp .Eq) x y B L Q :=
  ⟨_, op_eqD hu, fun H s => ⟨d, e, hd H s, he H s, sd, se, _, _, s, q⟩⟩
theorem o_neD {x y : V} {d e : PyData} (hu : X.A.units + 64 < cLine) (hd : Dd X B L x d) (he : Dd X B L y e) (q : Q (.bl (!PyData.eqv d e)) B L) (sd : SeqAt.shaped d = true) (se : SeqAt.shaped e = true) : kO X (compareOp .NotEq) x y B L Q :=
  ⟨_, op_neD hu, fun H s => ⟨d, e, hd H s, he H s, sd, se, _, _, s, q⟩⟩
/-- a list of texts, of ints -/
def dSs (ls : List (List Nat)) : List PyData := ls.map fun l => .str (sOf l)
theorem eqv_ss : ∀ a b : List (List Nat), PyData.eqvAll (dSs a) (dSs b) = decide (a = b)
  | [], [] => rfl
  | [], _ :: _ => by simp [dSs, PyData.eqvAll]
  | _ :: _, [] => by simp [dSs, PyData.eqvAll]
  | x :: a, y :: b => by
    have ih := eqv_ss a b
    show PyData.eqvAll (.str (sOf x) :: dSs a) (.str (sOf y) :: dSs b) = _
    unfold PyData.eqvAll
    rw [ih]
    show ((sOf x == sOf y) && decide (a = b)) = _
    have e : (sOf x == sOf y) = decide (x = y) := by
      rw [Bool.eq_iff_iff]; simp [sOf]
    rw [e]
    by_cases h1 : x = y <;> by_cases h2 : a = b <;> simp [h1, h2]
theorem lay_ss {a : List (List Nat)} (h : ∀ l ∈ a, ∀ c ∈ l, c < 1114112) : PyData.canLayAll0 (dSs a) = true := by
  induction a with
  | nil => rfl
  | cons x a ih =>
    show PyData.canLayAll0 (.str (sOf x) :: dSs a) = true
    unfold PyData.canLayAll0
    rw [ih fun l hl => h l (List.mem_cons_of_mem _ hl), Bool.and_true]
    have := h x List.mem_cons_self
    unfold PyData.canLay0
    unfold PyData.strOk
    simpa [sOf] using this
theorem depth_ss (a : List (List Nat)) : PyData.depthAll (dSs a) = 0 := by
  induction a with
  | nil => rfl
  | cons x a ih =>
    show PyData.depthAll (.str (sOf x) :: dSs a) = 0
    unfold PyData.depthAll
    rw [ih]; rfl
theorem shaped_ss {a : List (List Nat)} (h : ∀ l ∈ a, ∀ c ∈ l, c < 1114112) : SeqAt.shaped (.list (dSs a)) = true := by
  unfold SeqAt.shaped
  have e1 : PyData.canLay0 (.list (dSs a)) = true := by unfold PyData.canLay0; exact lay_ss h
  have e2 : PyData.depth (.list (dSs a)) = 1 := by unfold PyData.depth; rw [depth_ss]
  rw [e1, e2]; rfl
theorem dd_ss {p : Addr} {a : List (List Nat)} (h : Ls X.K B L p (a.map fun l => V.str (sOf l))) : Dd X B L (.ref p) (.list (dSs a)) := dd_l h (da_map (fun _ => dd_s) a)
/-- lists of texts compared -/
theorem o_ness {p q : Addr} {a b : List (List Nat)} (hu : X.A.units + 64 < cLine) (h1 : Ls X.K B L p (a.map fun l => V.str (sOf l))) (h2 : Ls X.K B L q (b.map fun l => V.str (sOf l))) (hq : Q (.bl (!decide (a = b))) B L) (ha : ∀ l ∈ a, ∀ c ∈ l, c < 1114112) (hb : ∀ l ∈ b, ∀ c ∈ l, c < 1114112) :
    kO X (compareOp .NotEq) (.ref p) (.ref q) B L Q := o_neD hu (dd_ss h1) (dd_ss h2) (by show Q (.bl (!PyData.eqvAll (dSs a) (dSs b))) B L; rw [eqv_ss]; exact hq) (shaped_ss ha) (shaped_ss hb)
theorem o_eqss {p q : Addr} {a b : List (List Nat)} (hu : X.A.units + 64 < cLine) (h1 : Ls X.K B L p (a.map fun l => V.str (sOf l))) (h2 : Ls X.K B L q (b.map fun l => V.str (sOf l))) (hq : Q (.bl (decide (a = b))) B L) (ha : ∀ l ∈ a, ∀ c ∈ l, c < 1114112) (hb : ∀ l ∈ b, ∀ c ∈ l, c < 1114112) :
    kO X (compareOp .Eq) (.ref p) (.ref q) B L Q := o_eqD hu (dd_ss h1) (dd_ss h2) (by show Q (.bl (PyData.eqvAll (dSs a) (dSs b))) B L; rw [eqv_ss]; exact hq) (shaped_ss ha) (shaped_ss hb)
end
end Kv

/-! Words over letters with backs: leaving out, by a stack. -/
namespace Fg
/-- the back of a letter, by codes -/
def bk (c : Nat) : Nat := if 65 ≤ c ∧ c ≤ 90 then c + 32 else if 97 ≤ c ∧ c ≤ 122 then c - 32 else c
theorem bk_bk (c : Nat) : bk (bk c) = c := by
  unfold bk
  repeat' split
  all_goals omega
def push (st : List Nat) (c : Nat) : List Nat := match st with
  | [] => [c]
  | x :: r => if x = bk c then r else c :: x :: r
theorem push_cons (x : Nat) (r : List Nat) (c : Nat) : push (x :: r) c = if x = bk c then r else c :: x :: r := rfl
/-- the word acts on stacks -/
def act (l st : List Nat) : List Nat := l.foldl push st
theorem act_nil (st : List Nat) : act [] st = st := rfl
theorem act_cons (c : Nat) (l st : List Nat) : act (c :: l) st = act l (push st c) := rfl
theorem act_app (a b st : List Nat) : act (a ++ b) st = act b (act a st) := by unfold act; rw [List.foldl_append]
/-- no letter beside its back (read either way the same) -/
def Wd : List Nat → Prop
  | [] => True
  | [_] => True
  | x :: y :: r => y ≠ bk x ∧ Wd (y :: r)
theorem Wd.tail {x : Nat} {r : List Nat} (h : Wd (x :: r)) : Wd r := by
  cases r with
  | nil => trivial
  | cons y r => exact h.2
theorem Wd.cons {x : Nat} {r : List Nat} (h : Wd r) (hn : ∀ y s, r = y :: s → y ≠ bk x) : Wd (x :: r) := by
  cases r with
  | nil => trivial
  | cons y r => exact ⟨hn y r rfl, h⟩
theorem rd_push {st : List Nat} (h : Wd st) (c : Nat) : Wd (push st c) := by
  cases st with
  | nil => trivial
  | cons x r =>
    rw [push_cons]
    split
    · exact h.tail
    · rename_i hx
      exact ⟨hx, h⟩
theorem rd_act {st : List Nat} (h : Wd st) (l : List Nat) : Wd (act l st) := by
  induction l generalizing st with
  | nil => exact h
  | cons c l ih => exact ih (rd_push h c)
theorem push_push {st : List Nat} (h : Wd st) (c : Nat) : push (push st c) (bk c) = st := by
  cases st with
  | nil => show (if c = bk (bk c) then [] else _) = []; rw [bk_bk, if_pos rfl]
  | cons x r =>
    rw [push_cons]
    split
    · rename_i hx
      cases r with
      | nil => rw [hx]; rfl
      | cons y s =>
        rw [push_cons, bk_bk]
        have h1 := h.1
        rw [hx, bk_bk] at h1
        rw [if_neg h1, hx]
    · rw [push_cons, bk_bk, if_pos rfl]
/-- the word that a text comes to -/
def red (l : List Nat) : List Nat := (act l []).reverse
def inv (l : List Nat) : List Nat := (l.map bk).reverse
theorem inv_inv (l : List Nat) : inv (inv l) = l := by
  unfold inv
  rw [List.map_reverse, List.reverse_reverse, List.map_map]
  have : (bk ∘ bk) = id := by funext c; exact bk_bk c
  rw [this, List.map_id]
theorem inv_app (a b : List Nat) : inv (a ++ b) = inv b ++ inv a := by unfold inv; rw [List.map_append, List.reverse_append]
theorem inv_len (l : List Nat) : (inv l).length = l.length := by simp [inv]
theorem inv_cons (c : Nat) (l : List Nat) : inv (c :: l) = inv l ++ [bk c] := by simp [inv]
theorem act_inv {st : List Nat} (h : Wd st) (l : List Nat) : act (inv l) (act l st) = st := by
  induction l generalizing st with
  | nil => rfl
  | cons c l ih =>
    rw [inv_cons, act_cons, act_app, ih (rd_push h c)]
    exact push_push h c
theorem act_inv' {st : List Nat} (h : Wd st) (l : List Nat) : act l (act (inv l) st) = st := by
  have := act_inv h (inv l)
  rwa [inv_inv] at this
/-- what a text comes to acts as the text -/
theorem act_red {st : List Nat} (h : Wd st) (l : List Nat) : act (red l) st = act l st := by
  have key : ∀ r : List Nat, act (act r.reverse []).reverse st = act r.reverse st := by
    intro r
    induction r with
    | nil => rfl
    | cons c r ih =>
      rw [List.reverse_cons, act_app, act_app]
      show act (push (act r.reverse []) c).reverse st = push (act r.reverse st) c
      cases hs : act r.reverse [] with
      | nil =>
        rw [hs] at ih
        show act [c] st = _
        rw [← ih]; rfl
      | cons x s =>
        rw [hs, List.reverse_cons, act_app] at ih
        rw [push_cons]
        split
        · rename_i hx
          rw [← ih]
          show _ = push (push (act s.reverse st) x) c
          have := push_push (rd_act h s.reverse) x
          rw [hx, bk_bk] at this
          rw [hx]
          exact this.symm
        · rw [List.reverse_cons, List.reverse_cons, act_app, act_app, ih]; rfl
  have := key l.reverse
  rw [List.reverse_reverse] at this
  exact this
theorem rd_rev : ∀ {l : List Nat}, Wd l → Wd l.reverse := by
  have snoc : ∀ (l : List Nat) (x : Nat), Wd l → (∀ y s, l.reverse = y :: s → y ≠ bk x) → Wd (l ++ [x]) := by
    intro l
    induction l with
    | nil => intro x _ _; trivial
    | cons a l ih =>
      intro x h hn
      cases l with
      | nil =>
        refine ⟨fun e => ?_, trivial⟩
        exact hn a [] rfl (by rw [e, bk_bk])
      | cons b l =>
        refine ⟨h.1, ih x h.2 fun y s e => ?_⟩
        refine hn y (s ++ [a]) ?_
        rw [List.reverse_cons, e]; rfl
  intro l
  induction l with
  | nil => intro _; trivial
  | cons a l ih =>
    intro h
    rw [List.reverse_cons]
    refine snoc _ a (ih h.tail) fun y s e => ?_
    rw [List.reverse_reverse] at e
    subst e
    exact h.1
theorem rd_red (l : List Nat) : Wd (red l) := rd_rev (rd_act (by trivial) l)
theorem red_len (l : List Nat) : (red l).length ≤ l.length := by
  have : ∀ (l st : List Nat), (act l st).length ≤ st.length + l.length := by
    intro l
    induction l with
    | nil => intro st; simp [act_nil]
    | cons c l ih =>
      intro st
      rw [act_cons]
      have h1 := ih (push st c)
      have h2 : (push st c).length ≤ st.length + 1 := by
        cases st with
        | nil => simp [push]
        | cons x r => rw [push_cons]; split <;> simp <;> omega
      simp only [List.length_cons]
      omega
  have h := this l []
  simpa [red] using h
theorem red_mem {l : List Nat} {c : Nat} (h : c ∈ red l) : c ∈ l := by
  have : ∀ (l st : List Nat) c, c ∈ act l st → c ∈ st ∨ c ∈ l := by
    intro l
    induction l with
    | nil => intro st c h; exact .inl h
    | cons a l ih =>
      intro st c h
      rw [act_cons] at h
      rcases ih _ _ h with h | h
      · cases st with
        | nil =>
          have : c = a := by simpa [push] using h
          exact .inr (by rw [this]; simp)
        | cons x r =>
          rw [push_cons] at h
          split at h
          · exact .inl (List.mem_cons_of_mem _ h)
          · rcases List.mem_cons.mp h with h | h
            · exact .inr (by rw [h]; simp)
            · exact .inl h
      · exact .inr (List.mem_cons_of_mem _ h)
  have h' : c ∈ act l [] := by simpa [red] using h
  rcases this l [] c h' with h | h
  · cases h
  · exact h
/-- a word comes to itself -/
theorem red_of_rd {l : List Nat} (h : Wd l) : red l = l := by
  have : ∀ (l st : List Nat), Wd (l.reverse ++ st) → act l st = l.reverse ++ st := by
    intro l
    induction l with
    | nil => intro st _; rfl
    | cons c l ih =>
      intro st h
      rw [List.reverse_cons, List.append_assoc] at h
      have hp : push st c = c :: st := by
        have h2 : Wd (c :: st) := by
          have : ∀ (a b : List Nat), Wd (a ++ b) → Wd b := by
            intro a
            induction a with
            | nil => intro b h; exact h
            | cons x a ih => intro b h; exact ih b (Wd.tail h)
          exact this _ _ h
        cases st with
        | nil => rfl
        | cons x r => rw [push_cons, if_neg h2.1]
      have h3 : Wd (l.reverse ++ (c :: st)) := h
      rw [act_cons, hp, ih _ h3, List.reverse_cons, List.append_assoc]; rfl
  unfold red
  rw [this l [] (by rw [List.append_nil]; exact rd_rev h), List.append_nil, List.reverse_reverse]
theorem red_red (l : List Nat) : red (red l) = red l := red_of_rd (rd_red l)
theorem red_app (a b : List Nat) : red (a ++ b) = red (red a ++ red b) := by
  unfold red
  rw [act_app, act_app]
  have h1 : act (act a []).reverse [] = act a [] := act_red (st := []) trivial a
  have h2 : act (act b []).reverse (act a []) = act b (act a []) := act_red (rd_act (by trivial) a) b
  rw [h1, h2]
theorem rd_map_inv {l : List Nat} (h : Wd l) : Wd (inv l) := by
  have : ∀ l : List Nat, Wd l → Wd (l.map bk) := by
    intro l
    induction l with
    | nil => intro _; trivial
    | cons a l ih =>
      intro h
      cases l with
      | nil => trivial
      | cons b l =>
        refine ⟨fun e => h.1 ?_, ih h.2⟩
        rw [bk_bk] at e
        rw [← e, bk_bk]
  exact rd_rev (this l h)
theorem act_inv_red {st : List Nat} (h : Wd st) (l : List Nat) : act (inv (red l)) st = act (inv l) st := by
  have h1 : act l (act (inv l) st) = st := act_inv' h l
  have h2 := rd_act h (inv l)
  have h3 := act_inv h2 (red l)
  rw [act_red h2, h1] at h3
  exact h3
theorem red_inv (l : List Nat) : red (inv l) = inv (red l) := by
  have h : red (inv (red l)) = red (inv l) := by
    show (act (inv (red l)) []).reverse = (act (inv l) []).reverse
    rw [act_inv_red (st := []) trivial]
  rw [← h]
  exact red_of_rd (rd_map_inv (rd_red l))
theorem red_flat_inv (ls : List (List Nat)) : red ((ls.map inv).reverse.flatten) = inv (red ls.flatten) := by
  have : (ls.map inv).reverse.flatten = inv ls.flatten := by
    induction ls with
    | nil => rfl
    | cons a r ih => rw [List.map_cons, List.reverse_cons, List.flatten_append, ih, List.flatten_cons, List.flatten_cons, inv_app]; simp
  rw [this, red_inv]
end Fg

namespace Kv
open PySem PySem.Spec PyProof.Rows L2
section
variable {X : Cx} {σ : L2.St} {B : Hp} {L : HL} {Q : KQ} {D : KD} {pos p2 : Pos} {e a b c tg iter elt : Expr} {es : List Expr} {body : List Stmt}
theorem k_gsE {x y : Str} (hm : ∃ t, X.mg x = some (.str y t)) (q : Q (.str y) B L) (hg : Gl X x := by rfl) (hd : (x == ("__debug__" : Str)) = false := by decide) : kE X (.Name x pos) σ B L Q := by
  obtain ⟨t, hm⟩ := hm
  exact k_gs hm q hg hd
theorem k_giE {x : Str} {y : Int} (hm : ∃ t, X.mg x = some (.int y t)) (q : Q (.int y) B L) (hg : Gl X x := by rfl) (hd : (x == ("__debug__" : Str)) = false := by decide) : kE X (.Name x pos) σ B L Q := by
  obtain ⟨t, hm⟩ := hm
  exact k_gi hm q hg hd
theorem i_sv {l : List Nat} {i : Int} (c : Nat) (q : Q (.str (sOf [c])) B L) (hv : atI l i = some c) (hl : l.length ≤ 16777216) : kI X (.str (sOf l)) (.int i) B L Q := i_str hv q hl
theorem i_lv {p : Addr} {xs : List V} {i : Int} (v : V) (h : Ls X.K B L p xs) (q : Q v B L) (hv : atI xs i = some v) : kI X (.ref p) (.int i) B L Q := i_list h hv q
theorem i_tv {p : Addr} {xs : List V} {i : Int} (v : V) (h : Tp X.K B L p xs) (q : Q v B L) (hv : atI xs i = some v) : kI X (.ref p) (.int i) B L Q := i_tup h hv q
theorem k_chainP {op op' : CmpOp} (h : kE X a σ B L fun x B1 L1 => kE X b σ B1 L1 fun y B2 L2 => kO X (compareOp op) x y B2 L2 fun z B3 L3 => ∃ k, z = .bl k ∧ ∃ k2 : Bool, (k = true → kE X c σ B3 L3 fun w B4 L4 => kO X (compareOp op') y w B4 L4 fun u B5 L5 => u = .bl k2 ∧ B5 = B3 ∧ L3 <:+ L5) ∧ Q (.bl (k && k2)) B3 L3)
    (hm : lastMarks [op, op'] [b, c] = false := by with_unfolding_all rfl) : kE X (.Compare a [op, op'] [b, c] pos) σ B L Q :=
  ⟨_, pe_chain or_c or_c pe_c pe_c pe_c hm, fun H s => toE s h fun _ _ _ _ s q => toE s q fun _ _ _ _ s q => toO s q fun z H3 B3 L3 s ⟨k, e, k2, h3, q⟩ => ⟨k, e, by
    cases k with
    | true =>
      refine iteT (toE s (h3 rfl) fun _ _ _ _ s q4 => toO s q4 fun u H5 B5 L5 s5 ⟨e1, e2, e3⟩ => ?_)
      subst e1 e2
      exact ⟨B5, L3, s5.suf e3, by rw [Bool.true_and] at q; exact q⟩
    | false => exact iteF ⟨_, _, s, by rw [Bool.false_and] at q; exact q⟩⟩⟩
theorem t_chainP {op op' : CmpOp} {Q : KB} (h : kE X a σ B L fun x B1 L1 => kE X b σ B1 L1 fun y B2 L2 => kO X (compareOp op) x y B2 L2 fun z B3 L3 => ∃ k, z = .bl k ∧ ∃ k2 : Bool, (k = true → kE X c σ B3 L3 fun w B4 L4 => kO X (compareOp op') y w B4 L4 fun u B5 L5 => u = .bl k2 ∧ B5 = B3 ∧ L3 <:+ L5) ∧ Q (k && k2) B3 L3)
    (hm : lastMarks [op, op'] [b, c] = false := by with_unfolding_all rfl) : kT X (.Compare a [op, op'] [b, c] pos) σ B L Q :=
  ⟨_, pt_chain or_c or_c pe_c pe_c pe_c hm, fun H s => toE s h fun _ _ _ _ s q => toE s q fun _ _ _ _ s q => toO s q fun z H3 B3 L3 s ⟨k, e, k2, h3, q⟩ => ⟨k, e, by
    cases k with
    | true =>
      refine iteT (toE s (h3 rfl) fun _ _ _ _ s q4 => toO s q4 fun u H5 B5 L5 s5 ⟨e1, e2, e3⟩ => ?_)
      subst e1 e2
      exact ⟨k2, rfl, B5, L3, s5.suf e3, by rw [Bool.true_and] at q; exact q⟩
    | false => exact iteF ⟨false, rfl, _, _, s, by rw [Bool.false_and] at q; exact q⟩⟩⟩
theorem tyx_l {K : PySem.W.Frag} {H : Hp} {p : Addr} {xs : List V} (h : SqL K H p xs) : TyX K H (.ref p) (.type "list") := by
  rcases h with (h | ⟨o, h⟩) | ⟨o, _, _, h, hc, _⟩
  · exact .base (.lst h)
  · exact .base (.frz h)
  · exact .kList h hc
theorem tyx_t {K : PySem.W.Frag} {H : Hp} {p : Addr} {xs : List V} (h : SqT K H p xs) : TyX K H (.ref p) (.type "tuple") := by
  rcases h with (h | ⟨o, h⟩) | ⟨o, _, _, h, hc, _⟩
  · exact .base (.tup h)
  · exact .fTuple h
  · exact .kTuple h hc
theorem c_isS {l : Str} {T : String} {k : Bool} (q : Q (.bl k) B L) (hk : kitB "str" T = some k := by decide +kernel) : kC X (.builtin "isinstance") [.str l, .ty T] B L Q := c_isi (.ty T) (fun _ _ => .base (.str l)) (kit_ty hk) q
theorem c_isI {i : Int} {T : String} {k : Bool} (q : Q (.bl k) B L) (hk : kitB "int" T = some k := by decide +kernel) : kC X (.builtin "isinstance") [.int i, .ty T] B L Q := c_isi (.ty T) (fun _ _ => .base (.int i)) (kit_ty hk) q
theorem c_isB {b : Bool} {T : String} {k : Bool} (q : Q (.bl k) B L) (hk : kitB "bool" T = some k := by decide +kernel) : kC X (.builtin "isinstance") [.bl b, .ty T] B L Q := c_isi (.ty T) (fun _ _ => .base (.bl b)) (kit_ty hk) q
theorem c_isN {T : String} {k : Bool} (q : Q (.bl k) B L) (hk : kitB "NoneType" T = some k := by decide +kernel) : kC X (.builtin "isinstance") [.non, .ty T] B L Q := c_isi (.ty T) (fun _ _ => .base .non) (kit_ty hk) q
theorem c_isL {p : Addr} {xs : List V} {T : String} {k : Bool} (h : Ls X.K B L p xs) (q : Q (.bl k) B L) (hk : kitB "list" T = some k := by decide +kernel) : kC X (.builtin "isinstance") [.ref p, .ty T] B L Q := c_isi (.ty T) (fun _ s => tyx_l (h.at s)) (kit_ty hk) q
theorem c_isT {p : Addr} {xs : List V} {T : String} {k : Bool} (h : Tp X.K B L p xs) (q : Q (.bl k) B L) (hk : kitB "tuple" T = some k := by decide +kernel) : kC X (.builtin "isinstance") [.ref p, .ty T] B L Q := c_isi (.ty T) (fun _ s => tyx_t (h.at s)) (kit_ty hk) q
/-- a def as it stands behind the top -/
def DefAt (K : PySem.W.Frag) (x qual : Str) (st : Stmt) (f : Addr) : Prop := ∃ (oc : Value) (od : Option Addr) (kV doc pm : Value) (an : Option Addr) (cdv ct : Value) (osl : Array (Option Value)),
  K.lookup f = some ⟨oc, od, .func (PySem.W.fnOf x qual (defArgs st) (defBody st) (defScope st) .none kV doc pm an cdv ct), osl⟩ ∧ PySem.W.codeIn K cdv qual = true ∧ PySem.W.keepIn K (.ref f) = true
theorem DefAt.fn {K : PySem.W.Frag} {x qual : Str} {st : Stmt} {f : Addr} (h : DefAt K x qual st f) : ∃ fd, Fun K x qual st f fd := by
  obtain ⟨oc, od, kV, doc, pm, an, cdv, ct, osl, h1, h2, h3⟩ := h
  exact ⟨_, fun_mk h1 h2 h3⟩
end
end Kv

namespace Kv
open PySem PySem.Spec PyProof.Rows L2
section
variable {X : Cx} {σ : L2.St} {B : Hp} {L : HL} {Q : KQ} {D : KD} {pos p2 : Pos} {e a b c tg iter elt : Expr} {es : List Expr} {body : List Stmt}
variable {P : Program} {w : World} {K : PySem.W.Frag} {mg : Str → Option Value} {base : Heap}
theorem mt_okM {x qual : Str} {st : Stmt} {C f : Addr} {fd : FuncData} {N ps : List Str} {k : Nat} {sp : Sp} (F : Fun K x qual st f fd) (S : FnScope N ps (defScope st)) (hm : Meth K C x f) (hc : Cls K C)
    (hb : ∀ (kV doc pm : Value) (an : Option Addr) (cdv ct : Value) (us : List Value), us.length = ps.length → bindArgs (PySem.W.fnOf x qual (defArgs st) (defBody st) (defScope st) .none kV doc pm an cdv ct) ⟨us, []⟩ = pure (ps.zip us))
    (len : ∀ vs H Q E, sp vs H Q E → vs.length = ps.length)
    (hbody : ∀ (cdv : Value) (A : Around) (outer : List Env) (s : Shared) (H : Hp) (vs : List V) (Q : VK) (E : XK), Room k (A.deeper (envOfC qual (defScope st) s.heap.objs.size f cdv)) → sp vs H Q E →
      Takes (cxOf (L2.CX P w) P w K mg base N qual (defScope st) f cdv A outer s H E) (fun cls d _ H => E cls d H) →
      PassesOwn (model P w) (A.deeper (envOfC qual (defScope st) s.heap.objs.size f cdv)) (envOfC qual (defScope st) s.heap.objs.size f cdv) (cxOf (L2.CX P w) P w K mg base N qual (defScope st) f cdv A outer s H E).xe →
      ∃ B L, Sat B L H ∧ kSs (cxOf (L2.CX P w) P w K mg base N qual (defScope st) f cdv A outer s H E) (defBody st) (start N vs) B L (fD Q)) : Mt P w K mg base (k + 1) C x sp := ⟨⟨f, fd, ps, fn_okF F S len hbody, hm, F.binds hb⟩, hc⟩
theorem mk_okM {x y qual : Str} {st : Stmt} {C f : Addr} {fd : FuncData} {ps : List Str} {k : Nat} {sp : Sp} (F : Fun K y qual st f fd) (h : FnOk P w K mg base (L2.CX P w) k f fd ps sp) (hk : Mk K C f) (hg : mg x = some (.ref C))
    (hb : ∀ (kV doc pm : Value) (an : Option Addr) (cdv ct : Value) (us : List Value), us.length = ps.length → bindArgs (PySem.W.fnOf y qual (defArgs st) (defBody st) (defScope st) .none kV doc pm an cdv ct) ⟨us, []⟩ = pure (ps.zip us)) : Mkr P w K mg base k x C sp := ⟨⟨f, fd, ps, h, hk, F.binds hb⟩, hg⟩
/-- what B holds, B' holds -/
abbrev Le (B B' : Hp) : Prop := ∀ b o, B b = some o → B' b = some o
theorem Ls.le {K : PySem.W.Frag} {B B' : Hp} {L : HL} {a : Addr} {xs : List V} (h : Ls K B L a xs) (e : Le B B') : Ls K B' L a xs := by
  rcases h with ((h | ⟨o, h⟩) | h) | h
  · exact .inl (.inl (.inl (e _ _ h)))
  · exact .inl (.inl (.inr ⟨o, e _ _ h⟩))
  · exact .inl (.inr h)
  · exact .inr h
theorem Tp.le {K : PySem.W.Frag} {B B' : Hp} {L : HL} {a : Addr} {xs : List V} (h : Tp K B L a xs) (e : Le B B') : Tp K B' L a xs := by
  rcases h with ((h | ⟨o, h⟩) | h) | h
  · exact .inl (.inl (.inl (e _ _ h)))
  · exact .inl (.inl (.inr ⟨o, e _ _ h⟩))
  · exact .inl (.inr h)
  · exact .inr h
/-- an object of ours goes to the base -/
theorem Sat.give {H : Hp} {p : Addr} {o : HO} (s : Sat B ((p, o) :: L) H) : Sat (upd B p o) L H ∧ Le B (upd B p o) := by
  have hb : B p = none := s.nb _ List.mem_cons_self
  have hnd := s.nd
  rw [List.map_cons, List.nodup_cons] at hnd
  refine ⟨⟨fun a u e => ?_, fun q hq => s.own q (List.mem_cons_of_mem _ hq), fun q hq => ?_, hnd.2⟩, fun b u e => ?_⟩
  · by_cases ha : a = p
    · subst ha
      rw [upd_same] at e
      cases e
      exact s.own _ List.mem_cons_self
    · rw [upd_ne ha] at e; exact s.ext a u e
  · have hq2 : q.1 ≠ p := fun e => hnd.1 (List.mem_map.mpr ⟨q, hq, e⟩)
    rw [upd_ne hq2]; exact s.nb q (List.mem_cons_of_mem _ hq)
  · rw [upd_ne (ne_of_none e hb)]; exact e
theorem Sat.new'' {H H' : Hp} {p : Addr} {o : HO} (s : Sat B L H) (h : H p = none) (e : ∀ b o, H b = some o → H' b = some o) (h' : H' p = some o) : Sat (upd B p o) L H' ∧ Le B (upd B p o) := (s.new' h e h').give
theorem Sat.give1 {H : Hp} {p : Addr} {o : HO} (s : Sat B ((p, o) :: L) H) : ∃ B', Sat B' L H ∧ Le B B' ∧ B' p = some o := ⟨_, s.give.1, s.give.2, upd_same⟩
end
end Kv
namespace Kv
open PySem PySem.Spec PyProof.Rows L2
section
variable {X : Cx} {σ : L2.St} {B : Hp} {L : HL} {Q : KQ} {D : KD} {pos p2 : Pos}
/-- isinstance of an own object by its own class -/
structure IsO (K : PySem.W.Frag) (C : Addr) : Prop where
  cl : Cls K C
  ha : PySem.W.findIn K (.ref C) "__class__" = some (some (.builtin "object.__class__"))
  hn : PySem.W.specialIn K (.builtin "object.__class__") "__get__" = some (some (.builtin "getset_descriptor.__get__"))
  ht : PySem.W.takesIn K (.builtin "object.__class__") = some true
  hm : PySem.W.mroIn K C (.type "object") = some true
  kit : PySem.W.kitOne K (.ref C) (.ref C) = some true
theorem c_isO {p C dx : Addr} {fs : List (Str × V)} (O : IsO X.K C) (h : At B L p (.ins C dx fs)) (q : Q (.bl true) B L) : kC X (.builtin "isinstance") [.ref p, .ref C] B L Q :=
  c_isi (.own C) (fun H s => .base (.ins (h.at s) O.cl O.ha O.hn O.ht O.hm)) O.kit q
theorem k_cls {x : Str} {C : Addr} (hm : X.mg x = some (.ref C)) (q : Q (.ref C) B L) (hg : Gl X x := by rfl) (hd : (x == ("__debug__" : Str)) = false := by decide) : kE X (.Name x pos) σ B L Q := k_g (v := .ref C) hm rfl q hg hd
end
end Kv
namespace Kv
open PySem PySem.Spec PyProof.Rows L2
section
variable {X : Cx} {σ : L2.St} {B : Hp} {L : HL} {Q : KQ} {D : KD} {pos p2 pos' : Pos} {e a b c tg iter elt : Expr} {es : List Expr} {body : List Stmt} {scope : Scope}
/-- .. over a tuple -/
theorem k_lcm_t {x : Str} {j : Nat} {px : Pos} (g : V → V) (hN : X.N.Nodup) (ok : BlkOk X.N X.env.scope scope [(x, j)])
    (h : kE X iter σ B L fun v B1 L1 => ∃ a xs, v = .ref a ∧ Tp X.K B1 L1 a xs ∧ xs.length ≤ 16777216 ∧ (∀ z ∈ xs, ∀ D acc s H0 C cl fp, kE (Bk X scope s H0 C cl fp) elt (σ.set j (some z)) B1 ((D, .lst acc) :: L1) fun y B3 L3 => y = g z ∧ B3 = B1 ∧ L3 = (D, .lst acc) :: L1) ∧
      ∀ D, Q (.ref D) B1 ((D, .lst (xs.map g)) :: L1))
    (hp : ∀ s H0 C cl fp, Loc (Bk X scope s H0 C cl fp).env.scope x := by intro _ _ _ _ _; first | exact Or.inl rfl | exact Or.inr rfl) (hf : ∀ s H0 C cl fp, (Bk X scope s H0 C cl fp).fn x = true ∨ (Bk X scope s H0 C cl fp).env.scope.names.lookup x = some .local := by intro _ _ _ _ _; first | exact .inr rfl | exact .inl rfl)
    (hj : X.N[j]? = some x := by rfl) (hc : X.calm = true := by rfl) (hs : ∀ x, foldedSetIterable iter X.env x = pure x := by intro _; rfl) : kL X elt (.Name x px) iter [] scope [(x, j)] σ B L Q :=
  k_lc hN ok (r_tup (by
    obtain ⟨t, h1, h2⟩ := h
    refine ⟨_, pe_c, fun H s => toE s ⟨t, h1, h2⟩ fun v H' B1 L1 s' ⟨a, xs, e, hls, hl, ht, hd⟩ => ⟨B1, L1, s', a, xs, e, hls, xs.length, _, _, fun i acc B L => B = B1 ∧ L = L1 ∧ acc = (xs.take i).map g, walk_tup, ⟨rfl, rfl, by simp⟩, ?_, ?_, ?_⟩⟩
    · rintro i acc B L H hi ⟨rfl, rfl, _⟩ s
      exact hls.at s
    · rintro D i acc x B L H H' hi ⟨rfl, rfl, rfl⟩ s ⟨rfl, hx⟩
      refine ⟨_, _, s, fun sa Ha Ca cla fpa => g_name j ?_ hN hj (hp sa Ha Ca cla fpa) (hf sa Ha Ca cla fpa)⟩
      refine ⟨wipe1 σ j _, fun sb Hb Cb clb fpb => ?_⟩
      show kE _ _ ((wipe σ [j]).set j _) _ _ _
      rw [wipe1']
      obtain ⟨t2, k1, k2⟩ := ht x (List.mem_of_getElem? hx) D ((xs.take i).map g) sb Hb Cb clb fpb
      refine ⟨_, pe_c, fun H s => toE s ⟨t2, k1, k2⟩ fun y H2 B2 L2 s2 ⟨e1, e2, e3⟩ => ⟨B2, L2, s2, ?_, L, e3, e2, rfl, ?_⟩⟩
      · simp; omega
      · rw [e1, List.take_add_one, hx]; simp
    · rintro acc B L D ⟨rfl, rfl, rfl⟩
      rw [List.take_length]
      exact hd D)) hc hs

/-- [elt for i in range(e)], the element's work may change the heap -/
theorem k_lcv_r1 {x : Str} {j : Nat} {px : Pos} (Pv : Nat → List V → Hp → HL → Prop) (hN : X.N.Nodup) (ok : BlkOk X.N X.env.scope scope [(x, j)]) (hm : X.mg "range" = none)
    (h : kE X e σ B L fun v B1 L1 => ∃ n : Nat, v = .int n ∧ n < 2 ^ 24 ∧ Pv 0 [] B1 L1 ∧ (∀ i acc B L, i < n → Pv i acc B L → acc.length = i ∧ ∀ D s H0 C cl fp, kE (Bk X scope s H0 C cl fp) elt (σ.set j (some (.int i))) B ((D, .lst acc) :: L) fun y B3 L3 => ∃ L4, L3 = (D, .lst acc) :: L4 ∧ Pv (i + 1) (acc ++ [y]) B3 L4) ∧
      ∀ acc B L D, Pv n acc B L → Q (.ref D) B ((D, .lst acc) :: L))
    (hp : ∀ s H0 C cl fp, Loc (Bk X scope s H0 C cl fp).env.scope x := by intro _ _ _ _ _; first | exact Or.inl rfl | exact Or.inr rfl) (hf : ∀ s H0 C cl fp, (Bk X scope s H0 C cl fp).fn x = true ∨ (Bk X scope s H0 C cl fp).env.scope.names.lookup x = some .local := by intro _ _ _ _ _; first | exact .inr rfl | exact .inl rfl)
    (hg : Gl X "range" := by rfl) (hst : starEach [e] X.env = (false, eval e X.env) :: starEach [] X.env := by rfl) (hst' : starEach [e] X.env = [(false, eval e X.env)] := by rfl)
    (hj : X.N[j]? = some x := by rfl) (hc : X.calm = true := by rfl) (hs : ∀ x, foldedSetIterable (.Call (.Name "range" p2) [e] [] pos') X.env x = pure x := by intro _; rfl) : kL X elt (.Name x px) (.Call (.Name "range" p2) [e] [] pos') [] scope [(x, j)] σ B L Q :=
  k_lc hN ok (r_rng1 hm (by
    obtain ⟨t, h1, h2⟩ := h
    refine ⟨_, pe_c, fun H s => toE s ⟨t, h1, h2⟩ fun v H' B1 L1 s' ⟨n, e, hl, p0, ht, hd⟩ => ⟨B1, L1, s', (n : Int), e, by omega, by omega, (n : Int).toNat, _, _, Pv, walk_range, p0, fun i acc B L H hi p s => trivial, ?_, ?_⟩⟩
    · rintro D i acc x B L H H' hi p s ⟨rfl, rfl⟩
      have hi' : i < n := by omega
      obtain ⟨hac, ht⟩ := ht i acc B L hi' p
      have e0 : ((0 : Int) + (i : Int)) = (i : Int) := Int.zero_add _
      refine ⟨_, _, s, fun sa Ha Ca cla fpa => g_name j ?_ hN hj (hp sa Ha Ca cla fpa) (hf sa Ha Ca cla fpa)⟩
      refine ⟨wipe1 σ j _, fun sb Hb Cb clb fpb => ?_⟩
      show kE _ _ ((wipe σ [j]).set j (some (.int ((0 : Int) + (i : Int))))) _ _ _
      rw [wipe1', e0]
      obtain ⟨t2, k1, k2⟩ := ht D sb Hb Cb clb fpb
      refine ⟨_, pe_c, fun H s => toE s ⟨t2, k1, k2⟩ fun y H2 B2 L2 s2 ⟨L4, e1, q⟩ => ⟨B2, L2, s2, by omega, L4, e1, q⟩⟩
    · intro acc B L D p
      exact hd acc B L D (by simpa using p)) hg hst hst') hc hs
end
end Kv
namespace Kv
open PySem PySem.Spec PyProof.Rows L2
section
variable {X : Cx} {σ : L2.St} {B : Hp} {L : HL} {Q : KQ} {D : KD} {pos p2 : Pos} {e a b c tg iter elt : Expr}
theorem k_slower {apos : Pos} (h : kE X a σ B L fun x B1 L1 => ∃ l, x = .str (sOf l) ∧ kMt X "str.lower" x [] B1 L1 Q)
    (hbase : attributeBase a "lower" X.env (eval a X.env) = eval a X.env := by rfl) (hline : (apos.endLine == pos.line) = true := by rfl) : kE X (.Call (.Attribute a "lower" apos) [] [] pos) σ B L Q := by
  refine k_m0 PySem.F.plainAttrs_str PySem.F.slot_str_lower PySem.F.type_str_lower ?_ hbase hline
  obtain ⟨t, h1, h2⟩ := h
  refine ⟨_, pe_c, fun H s => toE s ⟨t, h1, h2⟩ fun x H' B' L' s' ⟨z, e, q⟩ => ⟨B', L', s', ?_, q⟩⟩
  subst e
  exact ty_s
theorem k_sisupper {apos : Pos} (h : kE X a σ B L fun x B1 L1 => ∃ l, x = .str (sOf l) ∧ kMt X "str.isupper" x [] B1 L1 Q)
    (hbase : attributeBase a "isupper" X.env (eval a X.env) = eval a X.env := by rfl) (hline : (apos.endLine == pos.line) = true := by rfl) : kE X (.Call (.Attribute a "isupper" apos) [] [] pos) σ B L Q := by
  refine k_m0 PySem.F.plainAttrs_str PySem.F.slot_str_isupper PySem.F.type_str_isupper ?_ hbase hline
  obtain ⟨t, h1, h2⟩ := h
  refine ⟨_, pe_c, fun H s => toE s ⟨t, h1, h2⟩ fun x H' B' L' s' ⟨z, e, q⟩ => ⟨B', L', s', ?_, q⟩⟩
  subst e
  exact ty_s
theorem m_isupper {x : Str} {k : Bool} (hy : Txt.isupper x = k) (q : Q (.bl k) B L) : kMt X "str.isupper" (.str x) [] B L Q := ⟨_, mt_isupper, fun H s => ⟨x, rfl, rfl, trivial, by rw [hy]; exact ⟨_, _, s, q⟩⟩⟩
theorem c_maxl {p : Addr} {ns : List Int} (h : Ls X.K B L p (ns.map V.int)) (hn : 0 < ns.length) (q : ∀ m, m ∈ ns → (∀ y, y ∈ ns → y ≤ m) → Q (.int m) B L) (hc : X.calm = true := by rfl) : kC X (.builtin "max") [.ref p] B L Q :=
  ⟨_, cr_max hc, fun H s => ⟨p, ns, rfl, h.at s, hn, fun m h1 h2 => ⟨_, _, s, q m h1 h2⟩⟩⟩
theorem Sat.take {H : Hp} {p : Addr} {o : HO} (s : Sat B L H) (h : H p = some o) (hn : p ∉ L.map (·.1)) : Sat (upd B p o) L H := by
  refine ⟨fun a u e => ?_, s.own, fun q hq => ?_, s.nd⟩
  · by_cases ha : a = p
    · subst ha
      rw [upd_same] at e
      cases e
      exact h
    · rw [upd_ne ha] at e; exact s.ext a u e
  · have hq2 : q.1 ≠ p := fun e => hn (List.mem_map.mpr ⟨q, hq, e⟩)
    rw [upd_ne hq2]; exact s.nb q hq
theorem le_upd {p : Addr} {o : HO} (h : B p = none) : Le B (upd B p o) := fun b u e => by
  rw [upd_ne (ne_of_none e h)]; exact e
/-- the heap without x -/
def rmH (H : Hp) (x : Addr) : Hp := fun b => if b = x then none else H b
theorem rm_ne {H : Hp} {x b : Addr} (h : b ≠ x) : rmH H x b = H b := if_neg h
theorem rm_eq {H : Hp} {x : Addr} : rmH H x x = none := if_pos rfl
theorem sat_rm {H : Hp} {x : Addr} {o : HO} (h : H x = some o) : Sat (rmH H x) [(x, o)] H :=
  ⟨fun a u e => by
    by_cases ha : a = x
    · rw [ha] at e; unfold rmH at e; rw [if_pos rfl] at e; cases e
    · rw [rm_ne ha] at e; exact e, fun p hp => by rw [List.mem_singleton.mp hp]; exact h, fun p hp => by rw [List.mem_singleton.mp hp]; unfold rmH; rw [if_pos rfl], by simp⟩
end
end Kv
namespace Kv
open PySem PySem.Spec PyProof.Rows L2
section
variable {X : Cx} {σ : L2.St} {B : Hp} {L L' : HL} {Q : KQ} {D : KD} {ss : List Stmt}
theorem Sat.sub {H : Hp} (h : List.Sublist L' L) (s : Sat B L H) : Sat B L' H := ⟨s.ext, fun p hp => s.own p (h.subset hp), fun p hp => s.nb p (h.subset hp), (h.map _).nodup s.nd⟩
/-- some of ours are forgotten -/
theorem k_sub (h : List.Sublist L' L) (k : kSs X ss σ B L' D) : kSs X ss σ B L D := by
  obtain ⟨t, h1, h2⟩ := k
  exact ⟨t, h1, fun H s => h2 H (s.sub h)⟩
end
end Kv
namespace Kv
open PySem PySem.Spec PyProof.Rows L2
section
variable {X : Cx} {σ σ' : L2.St} {B : Hp} {L : HL} {D : KD} {ss : List Stmt}
/-- the slots written out -/
theorem k_norm (h : σ = σ') (k : kSs X ss σ' B L D) : kSs X ss σ B L D := by rw [h]; exact k
end
end Kv

/-! An error caught by a name: tracked from the suite on. -/
namespace Kv
open PySem PySem.Spec PyProof.Rows L2
/-- an error of the class, lying at a -/
def ErO (cls : Value) (d : Option Addr) (a : Addr) : HO := .ext fun h => ∃ (u : Obj) (vs : Array Value), h.get? a = some u ∧ Zc cls d u ∧ u.data = .fields vs
section
variable {X : Cx} {pins : List (Addr × Obj)} {σ : L2.St} {H : Hp} {s : Shared}
theorem track {a : Addr} {o : HO} (I : Inv X pins σ H s) (na : H a = none) (n0 : X.s_0.heap.get? a = none) (nl : a ≠ X.env.locals) (nc : ∀ x c, X.env.cells.lookup x = some c → c ≠ a)
    (np : ∀ p ∈ X.pn ++ pins, p.1 ≠ a) (new : ObjOk X.prog X.w (upd H a o) s.heap a o) : Inv X pins σ (upd H a o) s := by
  have Bs := I.base
  refine ⟨I.ok, I.os, I.bare, ⟨Bs.keep, Bs.slot, ?_, Bs.there, ?_, ?_, ?_⟩, I.loc, I.cell, ?_, ?_, ?_, ?_, I.len⟩
  · intro b u e n hx
    have hb : b ≠ a := fun z => by rw [z, n0] at e; cases e
    rw [upd_ne hb]; exact Bs.free b u e n hx
  · intro b xs e
    have e2 := Bs.tups b xs e
    rw [upd_ne (ne_of_none e2 na)]; exact e2
  · intro b u v e
    have e2 := Bs.frzs b u v e
    rw [upd_ne (ne_of_none e2 na)]; exact e2
  · intro b ps e
    obtain ⟨m, e2⟩ := Bs.tbls b ps e
    exact ⟨m, by rw [upd_ne (ne_of_none e2 na)]; exact e2⟩
  · rw [upd_ne (Ne.symm nl)]; exact I.free
  · intro x c e
    rw [upd_ne (nc x c e)]; exact I.freeC x c e
  · intro p hp
    obtain ⟨e1, e2, e3⟩ := I.pin p hp
    exact ⟨e1, by rw [upd_ne (np p hp)]; exact e2, e3⟩
  · intro b u e
    by_cases hb : b = a
    · subst hb
      rw [upd_same] at e
      cases e
      exact new
    · rw [upd_ne hb] at e
      exact (I.hok b u e).stay (fun _ _ _ q => q) (fun c q => by rw [upd_ne (ne_of_none q na)]; exact q) fun c xs q => by rw [upd_ne (ne_of_none q na)]; exact q
/-- .. into the suite, out of it -/
theorem into_suite {a : Addr} (I : Inv X pins σ H s) : Inv (X.suite a (X.pn ++ pins)) [] σ H s :=
  ⟨I.ok.suite _ _, I.os, I.bare, I.base, I.loc, I.cell, I.free, I.freeC, fun p hp => I.pin p (by rw [List.append_nil] at hp; exact hp), I.hok, I.len⟩
theorem from_suite {a : Addr} {qs : List (Addr × Obj)} (I : Inv (X.suite a (X.pn ++ pins)) qs σ H s) (ok : X.Ok) : Inv X pins σ H s :=
  ⟨ok, I.os, I.bare, I.base, I.loc, I.cell, I.free, I.freeC, fun p hp => I.pin p (List.mem_append_left _ hp), I.hok, I.len⟩
end
/-- the wish of 'except x as n', the error tracked -/
def wTrk (K : PySem.W.Frag) (c : Value) (i : Nat) (ts : Addr → TS) (Wout : WX) (D : Ends) : WX := fun cls d σ H => ∃ b, PySem.W.exmOne K cls c = some b ∧ (b = true → ∀ a, H a = none →
    ts a { nx := fun σ' H' => D.nx (σ'.set i none) H', rt := D.rt, bk := fun σ' H' => D.bk (σ'.set i none) H', ct := fun σ' H' => D.ct (σ'.set i none) H' } (σ.set i (some (.ref a))) (upd H a (ErO cls d a))) ∧ (b = false → Wout cls d σ H)
section
variable {X : Cx} {x n : Str} {c : Value} {i : Nat} {body suite : List Stmt} {b₀ : Stmt} {np pos pos' : Pos} {tb : WX → TS} {ts : Addr → TS} {Wout : WX}
theorem ps_try_trk (hs : X.stack = X.env :: X.outer) (hf : X.env.frame = some X.env.locals) (hex : X.ex = []) (hN : X.N.Nodup) (hi : X.N[i]? = some n) (hln : X.env.kindOf n = some .local) (hc : Names X x c) (tk : Takes X Wout)
    (hb : ∀ (W : WX) (qs : List (Addr × Obj)) (xe : Value → Shared → Prop), Takes (X.tr qs xe) W → PassesOwn (model X.prog X.w) X.A X.env xe → PSs (X.tr qs xe) body (tb W)) (hsu : ∀ (a : Addr) (qs : List (Addr × Obj)), PSs (X.suite a qs) (b₀ :: suite) (ts a)) :
    PS X (.Try body [.ExceptHandler (some (.Name x np)) (some n) (b₀ :: suite) pos'] [] [] pos) (fun D σ H => tb (wTrk X.K c i ts Wout D) D σ H) := by
  refine ⟨fun ps st τ G D I0 w0 => ?_⟩
  have ok := I0.ok
  have frE : X.A.frames = some (X.env :: X.outer) := by rw [ok.frames, hs]
  refine wpAny_Try_except ?_
  refine wpAny_mono ((hb (wTrk X.K c i ts Wout D) (X.pn ++ ps) (fun er z1 => wpAny (model X.prog X.w) X.A (noteFrame er X.env) (fun _ z2 => wpAny (model X.prog X.w) X.A (setFlight er none) (fun _ z3 =>
    wpAny (model X.prog X.w) X.A (handleBy er X.env [.ExceptHandler (some (.Name x np)) (some n) (b₀ :: suite) pos']) (SP X ps D) X.xe z3) X.xe z2) X.xe z1) (fun er z1 xx => ?_) PassesOwn.looking).run [] st τ G D (I0.toTry _) w0) (fun fl z1 hsp => ?_) (fun _ _ he => he)
  · obtain ⟨a, B, sI, ps2, τ2, G2, cls, d, rfl, IT, nb, up, sky, na, os, ag, b, hb1, hyes, hno⟩ := xx
    have J : Inv X ps τ2 G2 sI := IT.ofTry ok
    rw [hs] at sky
    show wpAny (model X.prog X.w) X.A (noteFrame (.ref a) X.env) _ _ _
    refine Sky.land Zc.steady frE hf sky fun h3 fl3 up3 => ?_
    have J3 : Inv X ps τ2 G2 { z1 with heap := h3 } := J.landed nb fl3.1 (up.trans up3) os ag
    have nB : B.get? a = none := fl3.2.1
    obtain ⟨oe3, vs3, he3, hz3, hd3⟩ := fl3.there
    have nfr : a ∉ frs (X.env :: X.outer) := fun hm => by
      obtain ⟨_, u, eu, hnf⟩ := fl3.2.2.1.mem hm
      rw [he3] at eu; cases eu
      exact hnf _ hd3
    have nfS : a ∉ frs X.stack := by rw [hs]; exact nfr
    have nL : a ≠ X.env.locals := fun z => nfr (List.mem_filterMap.mpr ⟨X.env, List.mem_cons_self, by rw [hf, z]⟩)
    have nF : a ∉ X.fs := fun hm => by
      obtain ⟨e1, m1, q1⟩ := List.mem_filterMap.mp hm
      exact nfr (List.mem_filterMap.mpr ⟨e1, List.mem_cons_of_mem _ m1, q1⟩)
    have nI : sI.heap.get? a = none := by
      cases q : sI.heap.get? a with
      | none => rfl
      | some u => have := nb a u q nfS; rw [nB] at this; cases this
    have n0 : X.s_0.heap.get? a = none := by
      cases q : X.s_0.heap.get? a with
      | none => rfl
      | some u =>
        obtain ⟨u', q'⟩ := J.base.there a u q (by rw [hex]; exact fun z => nomatch z)
        rw [nI] at q'; cases q'
    have npn : ∀ p ∈ X.pn ++ ps, p.1 ≠ a := fun p hp z => by
      have e1 := (J.pin p hp).1
      rw [z, nI] at e1; cases e1
    have S3 := J3.suite he3 hd3 na nL nF
    refine wpAny_handleBy_cons (codeAny_handlers_test ?_) (by intro q; cases q)
    have LT : PySem.W.Looks (model X.prog X.w) h3 (typeOf (.ref a)) cls := fun _ _ _ _ k q => wpAny_typeOf_ref (k _ _ he3) (by rw [hz3.1]; exact q)
    have LM := PySem.W.exm_one (M := model X.prog X.w) (J3.kIn) LT hb1
    have tst : ∀ {Q : Value → Shared → Prop} {E : Value → Shared → Prop}, Q c { z1 with heap := h3 } → wpAny (model X.prog X.w) (X.A.mark (some (.ref a))) (eval (.Name x np) X.env) Q E { z1 with heap := h3 } := fun {Q E} q => by
      obtain ⟨hg, hdb, hm | ⟨hm, hv, hnn⟩⟩ := hc
      · exact ld_glob (X := X.suite a ((a, oe3) :: (X.pn ++ ps))) S3 hg hm q hdb
      · exact ld_blt (X := X.suite a ((a, oe3) :: (X.pn ++ ps))) S3 hg hm hv q hnn hdb
    refine tst (LM.here ?_)
    cases b with
    | true =>
      refine codeAny_handlers_suite_as ?_
      refine HandSPX.lands_againZ fl3 fun h4 fl4 up4 => ?_
      have J4 : Inv X ps τ2 G2 { z1 with heap := h4 } := J.landed nb fl4.1 ((up.trans up3).trans up4) os ag
      obtain ⟨oe4, vs4, he4, hz4, hd4⟩ := fl4.there
      have nce : ∀ y cc, X.env.cells.lookup y = some cc → cc ≠ a := fun y cc e z => by
        obtain ⟨v, u, hu, hd⟩ := J4.cell y cc e
        have hu' : h4.get? cc = some u := hu
        rw [z, he4] at hu'; cases hu'
        rw [hd4] at hd; cases hd
      have T4 : Inv X ps τ2 (upd G2 a (ErO cls d a)) { z1 with heap := h4 } := track J4 na n0 nL nce npn
        ⟨⟨oe4, vs4, he4, hz4, hd4⟩, ⟨oe4, he4⟩, fun _ _ ⟨u, v, e1, r⟩ k => ⟨u, v, k _ e1, r⟩⟩
      refine store_ok (X := X.suite a (X.pn ++ ps)) (v := .ref a) (into_suite T4) hN hi (.inl hln) rfl (fun s5 S5 => ?_) (.inr hln)
      refine wpAny_mono ((hsu a (X.pn ++ ps)).run [] s5 _ _ _ S5 (hyes rfl a na)) (fun fl s6 hsp => ?_) (fun _ _ z => False.elim z)
      have fin : ∀ {σ6 : L2.St} {H6 : Hp} {Q : Shared → Prop}, Inv (X.suite a (X.pn ++ ps)) [] σ6 H6 s6 → (∀ s7, Inv X ps (σ6.set i none) H6 s7 → Q s7) →
        wpAny (model X.prog X.w) X.A (do bindName X.env n .none; unbindBehindTheSuite X.env n pos') (fun _ s7 => Q s7) X.xe s6 := fun {_ _ _} S6 hq => gone_ok (from_suite S6 ok) hN hi hln hq
      cases fl with
      | next => obtain ⟨_, _, S6, q6⟩ := hsp; exact fin S6 fun _ J7 => ⟨_, _, J7, q6⟩
      | brk => obtain ⟨_, _, S6, q6⟩ := hsp; exact fin S6 fun _ J7 => ⟨_, _, J7, q6⟩
      | cont => obtain ⟨_, _, S6, q6⟩ := hsp; exact fin S6 fun _ J7 => ⟨_, _, J7, q6⟩
      | ret u => obtain ⟨_, _, _, S6, r6, q6⟩ := hsp; exact fin S6 fun _ J7 => ⟨_, _, _, J7, r6, q6⟩
    | false =>
      show wpAny _ X.A (handleBy (.ref a) X.env []) _ _ _
      refine wpAny_handleBy_nil ?_
      obtain ⟨k1, k2, k3, oe, vs, T, oT, ts', he, hz, hd, h1, hr⟩ := id fl3
      unfold PySem.passOn
      refine wpAny_bind (wpAny_field he hd h1 ?_)
      rw [if_neg (show ¬ ((Value.ref T == Value.none) = true) from by simp)]
      have out : wpAny (model X.prog X.w) X.A (setFlight (.ref a) X.env.frame) (fun _ s4 => wpAny (model X.prog X.w) X.A (throw (.ref a) : Sem Flow) (SP X ps D) X.xe s4) X.xe { z1 with heap := h3 } := by
        rw [hf]
        refine HandSPX.setFlight_upZ fl3 fun h4 hh4 up4 => wpAny_throw (tk _ _ ?_)
        exact ⟨a, B, sI, ps, τ2, G2, cls, d, rfl, J, nb, (up.trans up3).trans up4, .inr (.inr (by rw [hs]; exact hh4)), na, os, ag, hno rfl⟩
      first | exact wpAny_bind (wpAny_pure (wpAny_bind out)) | exact wpAny_bind out
  · cases fl with
    | next => obtain ⟨_, _, J1, q⟩ := hsp; exact wpAny_execs_nil ⟨_, _, J1.ofTry ok, q⟩
    | brk => obtain ⟨_, _, J1, q⟩ := hsp; exact ⟨_, _, J1.ofTry ok, q⟩
    | cont => obtain ⟨_, _, J1, q⟩ := hsp; exact ⟨_, _, J1.ofTry ok, q⟩
    | ret u => obtain ⟨_, _, _, J1, r, q⟩ := hsp; exact ⟨_, _, _, J1.ofTry ok, r, q⟩
end
end Kv
namespace Kv
open PySem PySem.Spec PyProof.Rows L2
section
variable {X : Cx} {σ : L2.St} {B : Hp} {L : HL} {Q : KQ} {D : KD} {pos pos' np : Pos} {body : List Stmt}
def tSuT (X : Cx) (suite : List Stmt) (a : Addr) : TS := fun E σ H => ∀ qs, cSs (X.suite a qs) suite E σ H
/-- behind the suite: the name is gone -/
abbrev KD.gone (D : KD) (i : Nat) : KD := { nx := fun σ' B' L' => D.nx (σ'.set i none) B' L', rt := D.rt, bk := fun σ' B' L' => D.bk (σ'.set i none) B' L', ct := fun σ' B' L' => D.ct (σ'.set i none) B' L' }
/-- try: body / except x as n: suite -/
theorem k_try_trk (i : Nat) {x n : Str} {cv : Value} {b₀ : Stmt} {suite : List Stmt} {Wout : WX} (tk : Takes X Wout) (hc : Names X x cv) (hN : X.N.Nodup)
    (h : ∀ qs xe, Takes (X.tr qs xe) (wTrk X.K cv i (tSuT X (b₀ :: suite)) Wout D.dn) → PassesOwn (model X.prog X.w) X.A X.env xe → kSs (X.tr qs xe) body σ B L D)
    (hi : X.N[i]? = some n := by rfl) (hln : X.env.kindOf n = some .local := by rfl) (hs : X.stack = X.env :: X.outer := by rfl) (hf : X.env.frame = some X.env.locals := by rfl) (hex : X.ex = [] := by rfl) :
    kS X (.Try body [.ExceptHandler (some (.Name x np)) (some n) (b₀ :: suite) pos'] [] [] pos) σ B L D :=
  ⟨_, ps_try_trk (tb := fun W E σ H => ∀ qs xe, Takes (X.tr qs xe) W → PassesOwn (model X.prog X.w) X.A X.env xe → cSs (X.tr qs xe) body E σ H) (ts := tSuT X (b₀ :: suite)) hs hf hex hN hi hln hc tk
    (fun W qs xe t po => ⟨fun ps s σ H E I q => pss_c.run ps s σ H E I (q qs xe t po)⟩)
    (fun a qs => ⟨fun ps s σ H E I q => pss_c.run ps s σ H E I (q qs)⟩), fun H s => fun qs xe t po => toSs0 s (h qs xe t po)⟩
/-- the wish at a raise that the clause takes -/
theorem w_trk {i : Nat} {cv : Value} {suite : List Stmt} {Wout : WX} {C : Addr} {H : Hp} (hx : PySem.W.exmOne X.K (.ref C) cv = some true) (s : Sat B L H)
    (h : ∀ a qs, kSs (X.suite a qs) suite (σ.set i (some (.ref a))) B ((a, ErO (.ref C) none a) :: L) (D.gone i)) : wTrk X.K cv i (tSuT X suite) Wout D.dn (.ref C) none σ H :=
  ⟨true, hx, fun _ a na qs => toSs0 (s.new na) (h a qs), fun z => (Bool.noConfusion z)⟩
/-- isinstance of a tracked error -/
def rIsT (K : PySem.W.Frag) : List V → Hp → VK → Prop := fun xs H Q => ∃ (a D : Addr) (c : V) (cv : Value) (b : Bool), xs = [.ref a, c] ∧ ClsV c cv ∧ H a = some (ErO (.ref D) none a) ∧ ExcC K D ∧ PySem.W.kitOne K (.ref D) cv = some b ∧ Q (.bl b) H
theorem call_isT : CallR X (.builtin "isinstance") (rIsT X.K) := by
  intro ps s σ H xs us Q I r h
  obtain ⟨a, D, c, cv, b, rfl, hcv, hH, C, e, q⟩ := h
  cases r with
  | cons rx rr =>
    cases rr with
    | cons rt rr =>
      cases rr
      cases rx
      have ec := hcv.eq rt
      subst ec
      obtain ⟨⟨u, vs, hu, hz, hv⟩, _⟩ := I.hok a _ hH
      have J : PySem.W.InstAt s.heap a u D none := by
        obtain ⟨o1, o2, o3, o4⟩ := u
        obtain ⟨h1, h2⟩ := hz
        dsimp only at h1 h2 hv
        subst h1 h2 hv
        exact ⟨hu, rfl, rfl, trivial⟩
      exact PySem.W.kia_one (PySem.W.handS_kitx_exc C.hg C.hk C.hs C.hd C.ha C.hn C.ht C.hm) I.kIn J e (fun z => nomatch z) fun tk => ⟨.bl b, H, I.kept (t' := tk) fun _ _ z => z, rfl, q⟩
theorem c_isErr {a D : Addr} {c : V} {cv : Value} {k : Bool} (E : ExcC X.K D) (hc : ClsV c cv) (h : At B L a (ErO (.ref D) none a)) (hk : PySem.W.kitOne X.K (.ref D) cv = some k) (q : Q (.bl k) B L) : kC X (.builtin "isinstance") [.ref a, c] B L Q :=
  ⟨_, call_isT, fun H s => ⟨a, D, c, cv, k, rfl, hc, h.at s, E, hk, _, _, s, q⟩⟩
end
end Kv
namespace Kv
open PySem PySem.Spec PyProof.Rows L2
/-- what an own error class says to isinstance -/
structure ErrK (K : PySem.W.Frag) (D : Addr) : Prop where
  c : ExcC K D
end Kv

/-! dict(zip(text, text)) -/
namespace KvZ
open PySem PySem.Spec PyProof.Rows
section
variable {prog : Program} {w : World} {A : Around} {E : Value → Shared → Prop} {s : Shared} {z TI TO T i1 i2 : Addr} {f1 f2 : List Addr} {n1 n2 i : Nat} {P1 P2 : Nat → Value → Prop} {U1 U2 : Nat → Heap → Prop} {f : Bool} {oT : Obj}
/-- next(zip), its last tuple still held -/
theorem next_held {Q : Value → Shared → Prop} (S : ZipSep2 z TI TO i1 i2 f1 f2) (D1 : Draws prog w A i1 f1 n1 P1 U1) (D2 : Draws prog w A i2 f2 n2 P2 U2) (hz : IsZipHeld s.heap z TI TO T f) (hT : s.heap.get? T = some oT)
    (hI : IsTupOf2 s.heap TI (.ref i1) (.ref i2)) (u1 : U1 i s.heap) (u2 : U2 i s.heap) (l1 : i < n1) (l2 : i < n2)
    (hQ : ∀ x1 x2 h' tk, P1 i x1 → P2 i x2 → IsZipHeld h' z TI TO T true → U1 (i + 1) h' → U2 (i + 1) h' → IsTupOf2 h' s.heap.objs.size x1 x2 → h'.objs.size = s.heap.objs.size + 1 →
      (∀ c o, c ≠ z → c ≠ i1 → c ≠ i2 → s.heap.get? c = some o → h'.get? c = some o) → Q (.ref s.heap.objs.size) { s with heap := h', toks := tk }) :
    wpAny (model prog w) A (Builtin.«zip.__next__» ⟨[.ref z], []⟩) (fun fin s' => ∃ v, fin = .done (.ret v) ∧ Q v s') E s := by
  obtain ⟨hp, gn, dr, t0, os⟩ := s
  show wpAny _ _ (field (.ref z) 2 >>= _) _ _ _
  refine wpAny_bind (wpAny_field hz rfl (x := .bool false) rfl ?_)
  show wpAny _ _ (field (.ref z) 3 >>= _) _ _ _
  refine wpAny_bind (wpAny_field hz rfl (x := .ref TI) rfl ?_)
  refine wpAny_bind (wpAny_seqItems hI rfl ?_)
  show wpAny _ _ (Builtin.SmallTypes.ownedTupleIsFree (.ref z) >>= _) _ _ _
  refine wpAny_bind (wpAny_tupleHeld_zip hz hT fun g1 z1 b1 => ?_)
  simp only [Bool.false_eq_true, if_false]
  refine wpAny_bind ?_
  rw [← Array.forIn_toList]
  simp only [List.forIn_cons, List.forIn_nil]
  refine wpAny_bind (wpAny_bind (wpAny_holding ?_))
  show wpAny _ _ (Builtin.SmallTypes.nextOf (.ref i1) >>= _) _ _ _
  refine wpAny_bind (D1.item i ⟨g1, gn, dr, t0, os⟩ _ _ l1 (D1.over u1 b1 S.zf1) fun x1 g2 t1 p1 w1 b2 => wpAny_pure ?_)
  refine wpAny_pure ?_
  refine wpAny_bind (wpAny_bind (wpAny_holding ?_))
  show wpAny _ _ (Builtin.SmallTypes.nextOf (.ref i2) >>= _) _ _ _
  refine wpAny_bind (D2.item i ⟨g2, gn, dr, t1, os⟩ _ _ l2 (D2.over (D2.over u2 b1 S.zf2) b2 S.sep1_2) fun x2 g3 t2 p2 w2 b3 => wpAny_pure ?_)
  refine wpAny_pure (wpAny_pure ?_)
  show wpAny _ _ (newTuple [x1, x2] >>= _) _ _ _
  refine wpAny_bind (wpAny_newTuple ?_)
  have sz : g3.objs.size = hp.objs.size := by rw [b3.1, b2.1, b1.1]
  have z3 : IsZipHeld g3 z TI TO T true := b3.extBut _ _ S.zi2 (b2.extBut _ _ S.zi1 z1)
  have kp : ∀ c o, c ≠ z → c ≠ i1 → c ≠ i2 → hp.get? c = some o → g3.get? c = some o := fun c o a1 a2 a3 e => b3.extBut _ _ a3 (b2.extBut _ _ a2 (b1.extBut _ _ a1 e))
  have w13 : U1 (i + 1) g3 := D1.over w1 b3 S.sep2_1
  refine wpAny_pure ⟨_, rfl, ?_⟩
  show Q (.ref g3.objs.size) _
  have pt : IsTupOf2 (g3.push { cls := .type "tuple", data := .seq #[x1, x2] }) g3.objs.size x1 x2 := Heap.get?_push_size _ rfl
  have sp : (g3.push { cls := .type "tuple", data := .seq #[x1, x2] }).objs.size = g3.objs.size + 1 := Heap.size_push ..
  rw [sz] at pt sp ⊢
  exact hQ x1 x2 _ _ p1 p2 (Heap.get?_push_of_some _ z3) (D1.frame _ _ _ w13 fun _ _ o e => Heap.get?_push_of_some _ e) (D2.frame _ _ _ w2 fun _ _ o e => Heap.get?_push_of_some _ e) pt sp fun c o a1 a2 a3 e => Heap.get?_push_of_some _ (kp c o a1 a2 a3 e)
/-- .. at the end -/
theorem end_held {Q : Fin → Shared → Prop} (S : ZipSep2 z TI TO i1 i2 f1 f2) (D1 : Draws prog w A i1 f1 n1 P1 U1) (hz : IsZipHeld s.heap z TI TO T f) (hT : s.heap.get? T = some oT) (hI : IsTupOf2 s.heap TI (.ref i1) (.ref i2)) (u1 : U1 n1 s.heap)
    (hE : ∀ h' e, (∀ c o, c ≠ z → c ≠ i1 → s.heap.get? c = some o → h'.get? c = some o) → (∃ o, h'.get? e = some o ∧ o.cls = .type "StopIteration") → E (.ref e) { s with heap := h' }) : wpAny (model prog w) A (Builtin.«zip.__next__» ⟨[.ref z], []⟩) Q E s := by
  obtain ⟨hp, gn, dr, t0, os⟩ := s
  show wpAny _ _ (field (.ref z) 2 >>= _) _ _ _
  refine wpAny_bind (wpAny_field hz rfl (x := .bool false) rfl ?_)
  show wpAny _ _ (field (.ref z) 3 >>= _) _ _ _
  refine wpAny_bind (wpAny_field hz rfl (x := .ref TI) rfl ?_)
  refine wpAny_bind (wpAny_seqItems hI rfl ?_)
  show wpAny _ _ (Builtin.SmallTypes.ownedTupleIsFree (.ref z) >>= _) _ _ _
  refine wpAny_bind (wpAny_tupleHeld_zip hz hT fun g1 z1 b1 => ?_)
  simp only [Bool.false_eq_true, if_false]
  refine wpAny_bind ?_
  rw [← Array.forIn_toList]
  simp only [List.forIn_cons, List.forIn_nil]
  refine wpAny_bind (wpAny_bind (wpAny_holding ?_))
  show wpAny _ _ (Builtin.SmallTypes.nextOf (.ref i1) >>= _) _ _ _
  refine wpAny_bind (D1.done ⟨g1, gn, dr, t0, os⟩ _ _ (D1.over u1 b1 S.zf1) fun g2 e b2 he => ?_)
  exact hE g2 e (fun c o a1 a2 x => b2 _ _ a2 (b1.extBut _ _ a1 x)) he
theorem pyNext_held {Q : Option Value → Shared → Prop} (S : ZipSep2 z TI TO i1 i2 f1 f2) (D1 : Draws prog w A.in1 i1 f1 n1 P1 U1) (D2 : Draws prog w A.in1 i2 f2 n2 P2 U2) (hz : IsZipHeld s.heap z TI TO T f) (hT : s.heap.get? T = some oT)
    (hI : IsTupOf2 s.heap TI (.ref i1) (.ref i2)) (u1 : U1 i s.heap) (u2 : U2 i s.heap) (l1 : i < n1) (l2 : i < n2)
    (hQ : ∀ x1 x2 h' tk, P1 i x1 → P2 i x2 → IsZipHeld h' z TI TO T true → U1 (i + 1) h' → U2 (i + 1) h' → IsTupOf2 h' s.heap.objs.size x1 x2 → h'.objs.size = s.heap.objs.size + 1 →
      (∀ c o, c ≠ z → c ≠ i1 → c ≠ i2 → s.heap.get? c = some o → h'.get? c = some o) → Q (some (.ref s.heap.objs.size)) { s with heap := h', toks := tk }) : wpAny (model prog w) A (pyNext (.ref z)) Q E s := by
  have ty : s.TypeIs (.ref z) "zip" := ⟨_, hz, rfl⟩
  unfold pyNext
  exact wpAny_bind (wpAny_attempt (wpAny_callSpecial?_slot (name := Str.ofString "__next__") ty F.slot_zip_next (wpAny_call_entry F.slot_zip_next ty F.entry_zip_next
    (next_held S D1 D2 hz hT hI u1 u2 l1 l2 fun x1 x2 h' tk y1 y2 c1 c2 c3 c4 c5 c6 => wpAny_pure (hQ x1 x2 h' tk y1 y2 c1 c2 c3 c4 c5 c6)) (F.args_zip_next_1 _))))
theorem pyEnd_held {Q : Option Value → Shared → Prop} (S : ZipSep2 z TI TO i1 i2 f1 f2) (D1 : Draws prog w A.in1 i1 f1 n1 P1 U1) (hz : IsZipHeld s.heap z TI TO T f) (hT : s.heap.get? T = some oT) (hI : IsTupOf2 s.heap TI (.ref i1) (.ref i2)) (u1 : U1 n1 s.heap)
    (hQ : ∀ h' tk, (∀ c o, c ≠ z → c ≠ i1 → s.heap.get? c = some o → h'.get? c = some o) → Q none { s with heap := h', toks := tk }) : wpAny (model prog w) A (pyNext (.ref z)) Q E s := by
  have ty : s.TypeIs (.ref z) "zip" := ⟨_, hz, rfl⟩
  unfold pyNext
  refine wpAny_bind (wpAny_attempt (wpAny_callSpecial?_slot (name := Str.ofString "__next__") ty F.slot_zip_next (wpAny_call_entry F.slot_zip_next ty F.entry_zip_next (end_held S D1 hz hT hI u1 fun h' e hk he => ?_) (F.args_zip_next_1 _))))
  obtain ⟨o, ho, hc⟩ := he
  exact wpAny_bind (wpAny_isInstance (T := "StopIteration") (b := true) ⟨o, ho, hc⟩ isSubtype_stop (wpAny_pure (hQ _ s.toks hk)))
end
/-- the pairs of two texts as long as one another -/
def TxRel (x y : Str) (i : Nat) (k v : Value) : Prop := (∃ c t, x.cps[i]? = some c ∧ k = .str ⟨#[c]⟩ t) ∧ ∃ c t, y.cps[i]? = some c ∧ v = .str ⟨#[c]⟩ t
theorem arg_texts {prog : Program} {w : World} (z TI TO i1 i2 : Addr) (x y : Str) (t1 t2 : Tok) (n : Nat) (hx : x.cps.size = n) (hy : y.cps.size = n) (S : ZipSep2 z TI TO i1 i2 [i1] [i2]) :
    PairArg prog w "zip" z [z, TI, TO, i1, i2] [z, TO, i1, i2] n (TxRel x y) (fun h => IsZip h z TI TO .none ∧ IsTupOf2 h TI (.ref i1) (.ref i2) ∧ (∃ a b, IsTupOf2 h TO a b) ∧ h.IsStrIter i1 (strIterType x) x t1 0 ∧ h.IsStrIter i2 (strIterType y) y t2 0) where
  type := fun s ok => ⟨_, ok.1, rfl⟩
  notDict := by decide
  keep := fun h h' ok hk => by
    obtain ⟨a1, a2, ⟨p, q, a3⟩, ⟨o1, e1, r1⟩, ⟨o2, e2, r2⟩⟩ := ok
    exact ⟨hk _ _ a1, hk _ _ a2, ⟨p, q, hk _ _ a3⟩, ⟨o1, hk _ _ e1, r1⟩, ⟨o2, hk _ _ e2, r2⟩⟩
  there := fun h ok b hb => by
    obtain ⟨a1, a2, ⟨p, q, a3⟩, ⟨o1, e1, _⟩, ⟨o2, e2, _⟩⟩ := ok
    simp only [List.mem_cons, List.not_mem_nil, or_false] at hb
    rcases hb with e | e | e | e | e
    all_goals first | exact ⟨_, e ▸ a1⟩ | exact ⟨_, e ▸ a2⟩ | exact ⟨_, e ▸ a3⟩ | exact ⟨_, e ▸ e1⟩ | exact ⟨_, e ▸ e2⟩
  sub := fun b hb => by simp only [List.mem_cons, List.not_mem_nil, or_false] at hb ⊢; rcases hb with e | e | e | e <;> simp [e]
  noKeys := fun A s Q E hA ok h => getAttrOr_miss_zip ok.1 rfl rfl rfl zip_no_keys (by decide +kernel) hA h
  iter := fun A s d Q E hA ok hd hdf h => by
    obtain ⟨a1, a2, ⟨p, q, a3⟩, v1, v2⟩ := ok
    simp only [List.mem_cons, List.not_mem_nil, or_false, not_or] at hdf
    obtain ⟨dz, dI, dO, d1, d2⟩ := hdf
    refine wpAny_pyIter_zip a1 (h z [z, TO, i1, i2] (fun i g => IsTupOf2 g TI (.ref i1) (.ref i2) ∧ g.IsStrIter i1 (strIterType x) x t1 i ∧ g.IsStrIter i2 (strIterType y) y t2 i ∧
      ((IsZip g z TI TO .none ∧ ∃ a b, IsTupOf2 g TO a b) ∨ ∃ T f oT, IsZipHeld g z TI TO T f ∧ g.get? T = some oT ∧ T ≠ z ∧ T ≠ i1 ∧ T ≠ i2 ∧ T ≠ d)) s.heap s.toks ?_ ⟨a2, v1, v2, .inl ⟨a1, p, q, a3⟩⟩ (fun _ _ e => e) fun b hb => .inl hb)
    have R1 : Draws prog w A.in1 i1 [i1] x.cps.size (fun i v => ∃ c u, x.cps[i]? = some c ∧ v = .str ⟨#[c]⟩ u) (fun i g => g.IsStrIter i1 (strIterType x) x t1 i) := Draws.text (A := A.in1) (show A.in1.handled = none from hA) i1 x t1
    have R2 : Draws prog w A.in1 i2 [i2] y.cps.size (fun i v => ∃ c u, y.cps[i]? = some c ∧ v = .str ⟨#[c]⟩ u) (fun i g => g.IsStrIter i2 (strIterType y) y t2 i) := Draws.text (A := A.in1) (show A.in1.handled = none from hA) i2 y t2
    exact {
      off := fun hm => by
        simp only [List.mem_cons, List.not_mem_nil, or_false] at hm
        rcases hm with e | e | e | e
        · exact dz e
        · exact dO e
        · exact d1 e
        · exact d2 e
      frame := fun i g g' st hk => by
        obtain ⟨b2, ⟨o1, e1, r1⟩, ⟨o2, e2, r2⟩, hz⟩ := st
        refine ⟨hk _ _ (Ne.symm dI) b2, ⟨o1, hk _ _ (Ne.symm d1) e1, r1⟩, ⟨o2, hk _ _ (Ne.symm d2) e2, r2⟩, ?_⟩
        rcases hz with ⟨b1, a, b, b3⟩ | ⟨T, f, oT, b1, bT, n1, n2, n3, n4⟩
        · exact .inl ⟨hk _ _ (Ne.symm dz) b1, a, b, hk _ _ (Ne.symm dO) b3⟩
        · exact .inr ⟨T, f, oT, hk _ _ (Ne.symm dz) b1, hk _ _ n4 bT, n1, n2, n3, n4⟩
      item := fun i s1 Q1 E1 hi st hds hQ => by
        obtain ⟨b2, c1, c2, hz⟩ := st
        have lt : ∀ {c o}, s1.heap.get? c = some o → s1.heap.objs.size ≠ c := fun e => Nat.ne_of_gt (Heap.lt_size e)
        have n1 : s1.heap.objs.size ≠ i1 := let ⟨_, e, _⟩ := c1; lt e
        have n2 : s1.heap.objs.size ≠ i2 := let ⟨_, e, _⟩ := c2; lt e
        rcases hz with ⟨b1, a, b, b3⟩ | ⟨T, f, oT, b1, bT, m1, m2, m3, m4⟩
        · refine wpAny_pyNext_zipD2_item S R1 R2 b1 b2 b3 c1 c2 (by rw [hx]; exact hi) (by rw [hy]; exact hi) fun x1 x2 h' tk p1 p2 k1 k2 k3 k4 k5 k6 hk => ?_
          exact hQ s1.heap.objs.size _ _ h' tk ⟨p1, p2⟩ (.inl ⟨_, k5, rfl, _, rfl⟩) ⟨hk _ _ S.TIz S.TITO S.TIi1 S.TIi2 b2, k3, k4, .inr ⟨s1.heap.objs.size, false, _, k1, k5, lt b1, n1, n2, Nat.ne_of_gt hds⟩⟩
            fun c o hc e => hk c o (fun q => hc (by simp [q])) (fun q => hc (by simp [q])) (fun q => hc (by simp [q])) (fun q => hc (by simp [q])) e
        · refine pyNext_held S R1 R2 b1 bT b2 c1 c2 (by rw [hx]; exact hi) (by rw [hy]; exact hi) fun x1 x2 h' tk p1 p2 k1 k3 k4 k5 k6 hk => ?_
          exact hQ s1.heap.objs.size _ _ h' tk ⟨p1, p2⟩ (.inl ⟨_, k5, rfl, _, rfl⟩) ⟨hk _ _ S.TIz S.TIi1 S.TIi2 b2, k3, k4, .inr ⟨T, true, oT, k1, hk _ _ m1 m2 m3 bT, m1, m2, m3, m4⟩⟩
            fun c o hc e => hk c o (fun q => hc (by simp [q])) (fun q => hc (by simp [q])) (fun q => hc (by simp [q])) e
      done := fun s1 Q1 E1 st hQ => by
        obtain ⟨b2, c1, c2, hz⟩ := st
        rcases hz with ⟨b1, a, b, b3⟩ | ⟨T, f, oT, b1, bT, m1, m2, m3, m4⟩
        · exact wpAny_pyNext_zipD2_end S R1 R2 b1 b2 b3 c1 c2 (by rw [hx]; exact Nat.le_refl _) (by rw [hy]; exact Nat.le_refl _) (.inl hx.symm) fun h' tk hk => hQ h' tk fun c o hc e => hk c o (fun q => hc (by simp [q])) (fun q => hc (by simp [q])) (fun q => hc (by simp [q])) (fun q => hc (by simp [q])) e
        · exact pyEnd_held S R1 b1 bT b2 (by rw [hx]; exact c1) fun h' tk hk => hQ h' tk fun c o hc e => hk c o (fun q => hc (by simp [q])) (fun q => hc (by simp [q])) e }
end KvZ
namespace KvZ
open PySem PySem.Spec PyProof.Rows L2
/-- the pairs of two texts, as a dict holds them -/
def zipK (x y : Str) : List (Key × V) := (x.cps.toList.zip y.cps.toList).map fun q => (.inr ⟨#[q.1]⟩, V.str ⟨#[q.2]⟩)
section
variable {prog : Program} {w : World} {A : Around} {E : Value → Shared → Prop} {s : Shared}
/-- prs: the first i pairs -/
def Prs (x y : Str) (i : Nat) (prs : List (Key × Value)) : Prop := prs.length = i ∧ KV ((zipK x y).take i) prs
theorem prs_snoc {x y : Str} {i : Nat} {prs : List (Key × Value)} {k v : Value} (h : Prs x y i prs) (r : TxRel x y i k v) : ∃ q : Key × Value, q.2 = v ∧ keyIs q.1 k = true ∧ Prs x y (i + 1) (prs ++ [q]) := by
  obtain ⟨⟨c, t, e1, rfl⟩, ⟨d, u, e2, rfl⟩⟩ := r
  obtain ⟨h1, h2⟩ := h
  have ez : (zipK x y)[i]? = some ((.inr ⟨#[c]⟩ : Key), V.str ⟨#[d]⟩) := by
    unfold zipK
    rw [List.getElem?_map, (List.getElem?_zip_eq_some (z := (c, d))).mpr ⟨by rw [Array.getElem?_toList]; exact e1, by rw [Array.getElem?_toList]; exact e2⟩]
    rfl
  refine ⟨((.inr ⟨#[c]⟩ : Key), .str ⟨#[d]⟩ u), rfl, keyIs_str _ _, by rw [List.length_append, h1]; rfl, ?_⟩
  rw [List.take_add_one, ez]
  have app : ∀ {a b : List (Key × V)} {a' b' : List (Key × Value)}, KV a a' → KV b b' → KV (a ++ b) (a' ++ b') := by
    intro a b a' b' ha hb
    unfold KV at ha hb ⊢
    induction ha with
    | nil => exact hb
    | cons p _ ih => exact .cons p ih
  exact app h2 (.cons ⟨rfl, u, rfl⟩ .nil)
theorem call_dict_texts {z TI TO i1 i2 : Addr} {x y : Str} {t1 t2 : Tok} {Q : Value → Shared → Prop} (hxy : x.cps.size = y.cps.size) (hn : x.cps.size ≤ sizeLine) (S : ZipSep2 z TI TO i1 i2 [i1] [i2]) (hh : A.handled = none)
    (ok : IsZip s.heap z TI TO .none ∧ IsTupOf2 s.heap TI (.ref i1) (.ref i2) ∧ (∃ a b, IsTupOf2 s.heap TO a b) ∧ s.heap.IsStrIter i1 (strIterType x) x t1 0 ∧ s.heap.IsStrIter i2 (strIterType y) y t2 0)
    (h : ∀ h' tk prs, Prs x y x.cps.size prs → h'.DictOf (mixKind prog w) s.heap.objs.size (merged [] prs) → (∀ b o, b ∉ [z, TO, i1, i2] → s.heap.get? b = some o → h'.get? b = some o) → Q (.ref s.heap.objs.size) { s with heap := h', toks := tk }) :
    wpAny (model prog w) A (call (.type "dict") [.ref z]) Q E s := by
  have P := arg_texts (prog := prog) (w := w) z TI TO i1 i2 x y t1 t2 x.cps.size rfl hxy.symm S
  refine call_dict_arg P ok fun s1 e1 hdf ok1 => ?_
  subst e1
  refine updateFrom_arg (A := A.in1) (Tab := fun i g => ∃ prs, Prs x y i prs ∧ g.DictOf (mixKind prog w) s.heap.objs.size (merged [] prs)) P .none hh ok1 hdf ⟨[], ⟨rfl, .nil⟩, Heap.DictOf.new s.heap⟩ (fun _ _ ⟨_, _, tb⟩ => tb.lt_size)
    (fun i g g' wr' hd _ ⟨prs, hp, tb⟩ hk => ⟨prs, hp, tb.at' fun o e => hk _ o hd e⟩) ?_ ?_
  · rintro i key v s' Q' E' hi hrel ⟨prs, hp, tb⟩ _ hQ
    obtain ⟨q, rfl, hk, hp'⟩ := prs_snoc hp hrel
    refine wpAny_dictSet_pairs (knd := mixKind prog w) hk tb (fun g' hm' hs => hQ g' _ ⟨_, hp', ?_⟩ hs) (by
      have h1 := merged_length [] prs
      have h2 := hp.1
      rw [List.length_nil] at h1
      omega)
    have e : merged [] (prs ++ [q]) = stored (merged [] prs) q.1 q.2 := by unfold merged; rw [List.foldl_append]; rfl
    rw [e]; exact hm'
  · rintro g' tk ⟨prs, hp, tb⟩ hk
    exact ⟨rfl, h g' tk prs hp tb fun b o hb e => hk b o (Nat.ne_of_lt (Heap.lt_size e)) hb (Heap.get?_push_of_some _ e)⟩
end
section
variable {X : Cx} {e1 e2 : Expr} {ta : TA} {p p2 pos pos2 : Pos}
/-- dict(zip(x, y)) of two texts -/
theorem pe_dzip (hc : X.calm = true) (hg : Gl X "dict") (hm : X.mg "dict" = none) (gz : Gl X "zip") (mz : X.mg "zip" = none) (ha : PA X [e1, e2] ta)
    (hs : starEach [e1, e2] X.env = (false, eval e1 X.env) :: starEach [e2] X.env := by rfl) (hpl : (backTo pos2 (starEach [e2] X.env)).any (·.1) = false := by rfl)
    (hs1 : starEach [.Call (.Name "zip" p2) [e1, e2] [] pos2] X.env = (false, eval (.Call (.Name "zip" p2) [e1, e2] [] pos2) X.env) :: starEach [] X.env := by rfl) (hpl1 : (backTo pos (starEach [] X.env)).any (·.1) = false := by rfl) :
    PE X (.Call (.Name "dict" p) [.Call (.Name "zip" p2) [e1, e2] [] pos2] [] pos)
      (fun σ H Q => ta σ H fun vs H1 => ∃ x y : Str, vs = [.str x, .str y] ∧ x.cps.size = y.cps.size ∧ x.cps.size ≤ sizeLine ∧ ∀ d, H1 d = none → Q (.ref d) (upd H1 d (.dK (mergeK [] (zipK x y))))) := by
  refine ⟨fun ps s σ H Q I h => ?_⟩
  refine wpAny_Call_Name_kw (ld_blt I hg hm PyProof.Rows.boot_dict ?_)
  refine PyProof.Rows.callWith_type1 ?_ hs1 hpl1
  rw [hs1]
  show wpAny _ _ (spliced ((false, eval (.Call (.Name "zip" p2) [e1, e2] [] pos2) X.env) :: backTo pos (starEach [] X.env))) _ _ s
  refine Calls.spliced_cons ?_
  refine wpAny_Call_Name_kw (ld_blt I gz mz PyProof.Rows.boot_zip ?_)
  refine PyProof.Rows.callWith_type1 (thn (ha.run pos2 ps s σ H _ I h) fun us s1 ⟨vs, H1, I1, r1, q1⟩ => ?_) hs hpl
  obtain ⟨x, y, rfl, hxy, hn, q⟩ := q1
  cases r1 with
  | cons ra rr =>
    cases rr with
    | cons rb rr =>
      cases rr
      obtain ⟨t1, rfl⟩ := ra
      obtain ⟨t2, rfl⟩ := rb
      refine zip_begins2 (begins_text x t1) (begins_text y t2) trivial trivial fun h' k1 k2 k3 k4 k5 sz hk => ?_
      refine Calls.spliced_nil ?_
      have n0 : ∀ b o, s1.heap.get? b = some o → b < s1.heap.objs.size := fun b o e => Heap.lt_size e
      have S : ZipSep2 (s1.heap.objs.size + 4) (s1.heap.objs.size + 2) (s1.heap.objs.size + 3) s1.heap.objs.size (s1.heap.objs.size + 1) [s1.heap.objs.size] [s1.heap.objs.size + 1] := by
        refine ⟨?_, ?_, ?_, ?_, ?_, ?_, ?_, ?_, ?_, ?_, ?_, ?_, ?_⟩
        all_goals first | (simp; done) | (simp; omega)
      refine call_dict_texts (s := { s1 with heap := h' }) hxy hn S (I1.ok.hd hc) ⟨k1, k2, ⟨_, _, k3⟩, ⟨_, k4, rfl, rfl⟩, ⟨_, k5, rfl, rfl⟩⟩ fun g tk prs hp hd hkk => ?_
      have hkeep : ∀ b o, s1.heap.get? b = some o → g.get? b = some o := fun b o e => by
        have hlt : Nat.lt b s1.heap.objs.size := n0 b o e
        refine hkk b o ?_ (hk b o e)
        simp only [List.mem_cons, List.not_mem_nil, or_false, not_or]
        have ne : ∀ k, b ≠ s1.heap.objs.size + k := fun k z => by
          have h2 : Nat.lt (s1.heap.objs.size + k) s1.heap.objs.size := z ▸ hlt
          exact absurd h2 (Nat.not_lt.mpr (Nat.le_add_right _ _))
        exact ⟨ne 4, ne 3, ne 0, ne 1⟩
      have hbig := I1.big
      have hm' : (h'.objs.size == sysModules) = false := beq_eq_false_iff_ne.mpr (Nat.ne_of_gt (Nat.lt_of_lt_of_le hbig (by rw [sz]; exact Nat.le_add_right _ _)))
      have hkv : KV (zipK x y) prs := by
        have := hp.2
        rw [List.take_of_length_le (by unfold zipK; rw [List.length_map, List.length_zip, Array.length_toList, Array.length_toList]; omega)] at this
        exact this
      have hlen : (mergeK [] (zipK x y)).length ≤ sizeLine := by
        refine Nat.le_trans (length_mergeK _ []) ?_
        rw [List.length_nil, Nat.zero_add]
        unfold zipK
        rw [List.length_map, List.length_zip, Array.length_toList, Array.length_toList]
        omega
      refine ⟨.ref h'.objs.size, upd H1 h'.objs.size (.dK (mergeK [] (zipK x y))), I1.laid (t' := tk) hkeep (by rw [sz]; exact Nat.le_add_right _ _) (show ObjOk X.prog X.w _ _ _ (.dK (mergeK [] (zipK x y))) from ⟨hlen, hm', merged [] prs, KV.merge hkv .nil, hd⟩), rfl, q _ (I1.hok.fresh (by rw [sz]; exact Nat.le_add_right _ _))⟩
end
end KvZ

namespace Kv
open PySem PySem.Spec PyProof.Rows L2
section
variable {X : Cx} {σ : L2.St} {B : Hp} {L : HL} {Q : KQ} {D : KD} {pos p2 pos2 p : Pos} {e1 e2 a b : Expr}
/-- d[y], d a dict with int and text keys -/
theorem k_dget (hu : X.A.units + 1 < cLine) (h : kE X a σ B L fun x B1 L1 => kE X b σ B1 L1 fun y B2 L2 => ∃ q kvs k v, x = .ref q ∧ At B2 L2 q (.dK kvs) ∧ y = kV k ∧ valV kvs k = some v ∧ Q v B2 L2)
    (hs : NoSl b := by exact fun _ _ => rfl) : kE X (.Subscript a b pos) σ B L Q :=
  ⟨_, pe_dget hu pe_c pe_c hs, fun H s => toE s h fun _ _ _ _ s q => toE s q fun _ _ _ _ s ⟨q, kvs, k, v, e1, hat, e2, hv, hq⟩ => ⟨q, v, e1, .inl ⟨kvs, k, .inl (hat.at s), e2, hv.symm⟩, _, _, s, hq⟩⟩
/-- dict(zip(x, y)), texts -/
theorem k_dzip (hm : X.mg "dict" = none) (mz : X.mg "zip" = none) (h : kA X [e1, e2] σ B L fun vs B1 L1 => ∃ x y : Str, vs = [.str x, .str y] ∧ x.cps.size = y.cps.size ∧ x.cps.size ≤ 1000 ∧ ∀ d, Q (.ref d) B1 ((d, .dK (mergeK [] (KvZ.zipK x y))) :: L1))
    (hc : X.calm = true := by rfl) (hg : Gl X "dict" := by rfl) (gz : Gl X "zip" := by rfl)
    (hs : starEach [e1, e2] X.env = (false, eval e1 X.env) :: starEach [e2] X.env := by rfl) (hpl : (backTo pos2 (starEach [e2] X.env)).any (·.1) = false := by rfl)
    (hs1 : starEach [.Call (.Name "zip" p2) [e1, e2] [] pos2] X.env = (false, eval (.Call (.Name "zip" p2) [e1, e2] [] pos2) X.env) :: starEach [] X.env := by rfl) (hpl1 : (backTo pos (starEach [] X.env)).any (·.1) = false := by rfl) :
    kE X (.Call (.Name "dict" p) [.Call (.Name "zip" p2) [e1, e2] [] pos2] [] pos) σ B L Q :=
  ⟨_, KvZ.pe_dzip hc hg hm gz mz pa_c hs hpl hs1 hpl1, fun H s => toA s h fun _ _ _ _ s ⟨x, y, e, h1, h2, q⟩ => ⟨x, y, e, h1, small (Nat.le_trans h2 (by decide)), fun d hd => ⟨_, _, s.new hd, q d⟩⟩⟩
end
end Kv
namespace Kv
open PySem PySem.Spec PyProof.Rows L2
section
variable {X : Cx} {σ : L2.St} {B : Hp} {L : HL} {Q : KQ} {D : KD} {pos p2 pos' : Pos} {e1 e2 a b c elt : Expr} {scope : Scope}
/-- [x for x in range(1, n) if c], the test pure -/
theorem k_lcf_r1n {x : Str} {j : Nat} {px pe : Pos} (f : Nat → Bool) (hN : X.N.Nodup) (ok : BlkOk X.N X.env.scope scope [(x, j)]) (hm : X.mg "range" = none)
    (h : kA X [a, b] σ B L fun vs B1 L1 => ∃ n : Nat, vs = [.int 1, .int (n + 1 : Nat)] ∧ n < 2 ^ 24 ∧ (∀ i, i < n → ∀ D acc s H0 C cl fp, kT (Bk X scope s H0 C cl fp) c (σ.set j (some (.int (i + 1 : Nat)))) B1 ((D, .lst acc) :: L1) fun k B3 L3 => k = f (i + 1) ∧ B3 = B1 ∧ L3 = (D, .lst acc) :: L1) ∧
      ∀ D, Q (.ref D) B1 ((D, .lst ((((List.range n).map (· + 1)).filter f).map fun i : Nat => V.int i)) :: L1))
    (hp : ∀ s H0 C cl fp, Loc (Bk X scope s H0 C cl fp).env.scope x := by intro _ _ _ _ _; first | exact Or.inl rfl | exact Or.inr rfl) (hf : ∀ s H0 C cl fp, (Bk X scope s H0 C cl fp).fn x = true ∨ (Bk X scope s H0 C cl fp).env.scope.names.lookup x = some .local := by intro _ _ _ _ _; first | exact .inr rfl | exact .inl rfl)
    (he : ∀ s H0 C cl fp (v : V) σ B L Q, Q v B L → σ[j]? = some (some v) → kE (Bk X scope s H0 C cl fp) (.Name x pe) σ B L Q)
    (hjl : j < σ.length)
    (hg : Gl X "range" := by rfl) (hs1 : starEach [a, b] X.env = [(false, eval a X.env), (false, eval b X.env)] := by rfl) (hs2 : starEach [b] X.env = [(false, eval b X.env)] := by rfl)
    (hj : X.N[j]? = some x := by rfl) (hc : X.calm = true := by rfl) (hs : ∀ x, foldedSetIterable (.Call (.Name "range" p2) [a, b] [] pos') X.env x = pure x := by intro _; rfl) :
    kL X (.Name x pe) (.Name x px) (.Call (.Name "range" p2) [a, b] [] pos') [c] scope [(x, j)] σ B L Q :=
  k_lcf hN ok (r_rng2 hm (by
    obtain ⟨t, h1, h2⟩ := h
    refine ⟨_, pa_c, fun H s => toA s ⟨t, h1, h2⟩ fun v H' B1 L1 s' ⟨n, e, hl, ht, hd⟩ => ⟨B1, L1, s', 1, ((n + 1 : Nat) : Int), e, by omega, (((n + 1 : Nat) : Int) - 1).toNat, _, _, fun i acc B L => B = B1 ∧ L = L1 ∧ acc = (((List.range i).map (· + 1)).filter f).map (fun i : Nat => V.int i), walk_range, ⟨rfl, rfl, rfl⟩, fun i acc B L H hi p s => trivial, ?_, ?_⟩⟩
    · rintro D i acc x B L H H' hi ⟨rfl, rfl, rfl⟩ s ⟨rfl, rfl⟩
      have hi' : i < n := by omega
      refine ⟨_, _, s, fun sa Ha Ca cla fpa => g_name j ?_ hN hj (hp sa Ha Ca cla fpa) (hf sa Ha Ca cla fpa)⟩
      have e0 : ((1 : Int) + (i : Int)) = ((i + 1 : Nat) : Int) := by omega
      refine ⟨wipe1 σ j _, fun sb Hb Cb clb fpb => ?_⟩
      show kT _ _ ((wipe σ [j]).set j (some (.int ((1 : Int) + (i : Int))))) _ _ _
      rw [wipe1', e0]
      obtain ⟨t2, k1, k2⟩ := ht i hi' D ((((List.range i).map (· + 1)).filter f).map (fun i : Nat => V.int i)) sb Hb Cb clb fpb
      have hlen : ((((List.range i).map (· + 1)).filter f).map (fun i : Nat => V.int i)).length ≤ i := by
        rw [List.length_map]
        exact Nat.le_trans (List.length_filter_le _ _) (by simp)
      have hsucc : ((List.range (i + 1)).map (· + 1)).filter f = ((List.range i).map (· + 1)).filter f ++ (if f (i + 1) = true then [i + 1] else []) := by
        rw [List.range_succ, List.map_append, List.filter_append]
        congr 1
        by_cases hfi : f (i + 1) = true <;> simp [hfi]
      refine ⟨_, pt_c, fun H s => toT s ⟨t2, k1, k2⟩ fun k H2 B2 L2 s2 ⟨e1, e2, e3⟩ => ⟨B2, L2, s2, fun hk => fun sc Hc Cc clc fpc => ?_, fun hk => ?_⟩⟩
      · subst e2 e3
        refine he sc Hc Cc clc fpc (.int ((i + 1 : Nat) : Int)) _ _ _ _ ⟨by omega, L, rfl, rfl, rfl, ?_⟩ ?_
        · rw [hsucc, if_pos (by rw [← e1]; exact hk), List.map_append]; rfl
        · rw [List.getElem?_set_self (by simpa [wipe] using hjl)]
          show some (some (V.int ((1 : Int) + (i : Int)))) = some (some (V.int ((i + 1 : Nat) : Int)))
          rw [e0]
      · subst e2 e3
        refine ⟨L, rfl, rfl, rfl, ?_⟩
        rw [hsucc, if_neg (by rw [← e1, hk]; decide), List.append_nil]
    · rintro acc B L D ⟨rfl, rfl, rfl⟩
      have e : (((n + 1 : Nat) : Int) - 1).toNat = n := by omega
      rw [e]
      exact hd D) hg hs1 hs2) hc hs
end
end Kv

/-! Values that are no texts. -/
namespace Kv
open PySem PySem.Spec PyProof.Rows L2
section
variable {X : Cx} {B : Hp} {L : HL} {Q : KQ} {K : PySem.W.Frag}
theorem tyx_le {H H' : Hp} {x : V} {t : Value} (e : Le H H') (h : TyX K H x t) : TyX K H' x t := by
  cases h with
  | base b =>
    refine .base ?_
    cases b with
    | non => exact .non
    | bl y => exact .bl y
    | int i => exact .int i
    | str y => exact .str y
    | flt y => exact .flt y
    | lst q => exact .lst (e _ _ q)
    | frz q => exact .frz (e _ _ q)
    | tup q => exact .tup (e _ _ q)
    | dK q => exact .dK (e _ _ q)
    | dT q => exact .dT (e _ _ q)
    | ins q c1 c2 c3 c4 c5 => exact .ins (e _ _ q) c1 c2 c3 c4 c5
  | byt b => exact .byt b
  | set q => exact .set (e _ _ q)
  | kList q c => exact .kList q c
  | kTuple q c => exact .kTuple q c
  | kDict q c => exact .kDict q c
  | fTuple q => exact .fTuple (e _ _ q)
  | fDict q => exact .fDict (e _ _ q)
/-- x is no text -/
def NoTx (K : PySem.W.Frag) (H : Hp) (x : V) : Prop := ∃ t, TyX K H x t ∧ PySem.W.kitOne K t (.type "str") = some false
theorem NoTx.le {H H' : Hp} {x : V} (h : NoTx K H x) (e : Le H H') : NoTx K H' x := by
  obtain ⟨t, h1, h2⟩ := h
  exact ⟨t, tyx_le e h1, h2⟩
theorem c_isNT {x : V} (h : ∀ H, Sat B L H → NoTx X.K H x) (q : Q (.bl false) B L) : kC X (.builtin "isinstance") [x, .ty "str"] B L Q :=
  ⟨_, call_isi, fun H s => by
    obtain ⟨t, h1, h2⟩ := h H s
    exact ⟨x, .ty "str", t, .type "str", false, rfl, .ty "str", h1, h2, _, _, s, q⟩⟩
theorem ntx_non {H : Hp} : NoTx K H .non := ⟨_, .base .non, kit_ty (by decide +kernel)⟩
theorem ntx_int {H : Hp} {i : Int} : NoTx K H (.int i) := ⟨_, .base (.int i), kit_ty (by decide +kernel)⟩
theorem ntx_bl {H : Hp} {b : Bool} : NoTx K H (.bl b) := ⟨_, .base (.bl b), kit_ty (by decide +kernel)⟩
theorem ntx_l {H : Hp} {p : Addr} {xs : List V} (h : SqL K H p xs) : NoTx K H (.ref p) := ⟨_, tyx_l h, kit_ty (by decide +kernel)⟩
theorem ntx_t {H : Hp} {p : Addr} {xs : List V} (h : SqT K H p xs) : NoTx K H (.ref p) := ⟨_, tyx_t h, kit_ty (by decide +kernel)⟩
end
end Kv

/-! isinstance of a tracked error, several classes. -/
namespace Kv
open PySem PySem.Spec PyProof.Rows L2
section
variable {X : Cx} {B : Hp} {L : HL} {Q : KQ}
def rIsTT (K : PySem.W.Frag) : List V → Hp → VK → Prop := fun xs H Q => ∃ (a D tp : Addr) (cs : List V) (us : List Value) (b : Bool), xs = [.ref a, .ref tp] ∧ H tp = some (.tup cs) ∧ Paired ClsV cs us ∧ H a = some (ErO (.ref D) none a) ∧ ExcC K D ∧ PySem.W.kitAny K (.ref D) us = some b ∧ Q (.bl b) H
theorem call_isTT : CallR X (.builtin "isinstance") (rIsTT X.K) := by
  intro ps s σ H xs us Q I r h
  obtain ⟨a, D, tp, cs, ws, b, rfl, hT, hcv, hH, C, e, q⟩ := h
  obtain ⟨u1, u2, rfl, r1, r2⟩ := vals2 r
  cases (show u2 = Value.ref tp from r2)
  cases (show u1 = Value.ref a from r1)
  obtain ⟨⟨u, vs, hu, hz, hv⟩, _⟩ := I.hok a _ hH
  have J : PySem.W.InstAt s.heap a u D none := by
    obtain ⟨o1, o2, o3, o4⟩ := u
    obtain ⟨h1, h2⟩ := hz
    dsimp only at h1 h2 hv
    subst h1 h2 hv
    exact ⟨hu, rfl, rfl, trivial⟩
  obtain ⟨_, its, rv, o, g1, g2, n, g3⟩ := (show ObjOk X.prog X.w H s.heap tp (.tup cs) from I.hok tp _ hT)
  have e3 := ClsV.all hcv rv
  subst e3
  obtain ⟨oc, od, dt, sl⟩ := o
  simp only at g2 g3
  subst g2 g3
  exact PySem.W.kia_tup (PySem.W.handS_kitx_exc C.hg C.hk C.hs C.hd C.ha C.hn C.ht C.hm) I.kIn J g1 e (fun z => nomatch z) fun tk => ⟨.bl b, H, I.tok tk, rfl, q⟩
theorem c_isErrT {a D tp : Addr} {cs : List V} {us : List Value} {k : Bool} (E : ExcC X.K D) (hc : Paired ClsV cs us) (ht : At B L tp (.tup cs)) (h : At B L a (ErO (.ref D) none a)) (hk : PySem.W.kitAny X.K (.ref D) us = some k) (q : Q (.bl k) B L) : kC X (.builtin "isinstance") [.ref a, .ref tp] B L Q :=
  ⟨_, call_isTT, fun H s => ⟨a, D, tp, cs, us, k, rfl, ht.at s, hc, h.at s, E, hk, _, _, s, q⟩⟩
end
end Kv

/-! is, is not of truth values; facts of isinstance. -/
namespace Kv
open PySem PySem.Spec PyProof.Rows L2
section
variable {X : Cx} {B : Hp} {L : HL} {Q : KQ}
/-- a statement with its own end, then the rest: the ways through an if come together -/
theorem k_cut {σ : L2.St} {D : KD} {st : Stmt} {rest : List Stmt} (M : KN) (h : kS X st σ B L { D with nx := M }) (q : ∀ σ' B' L', M σ' B' L' → kSs X rest σ' B' L' D) : kSs X (st :: rest) σ B L D :=
  k_cons ⟨_, ps_c, fun H sat => toS sat h (fun σ' H' B' L' s m => ⟨B', L', s, q _ _ _ m⟩) (fun _ _ q => q) (fun _ _ q => q) (fun _ _ q => q)⟩
theorem o_isbl {a b : Bool} (q : Q (.bl (decide (a = b))) B L) : kO X (compareOp .Is) (.bl a) (.bl b) B L Q := ⟨_, op_is_bl, fun H s => ⟨a, b, rfl, rfl, _, _, s, q⟩⟩
theorem o_isnbl {a b : Bool} (q : Q (.bl (!decide (a = b))) B L) : kO X (compareOp .IsNot) (.bl a) (.bl b) B L Q := ⟨_, op_isnot_bl, fun H s => ⟨a, b, rfl, rfl, _, _, s, q⟩⟩
theorem kit_any0 {K : PySem.W.Frag} {t : Value} : ∀ {cs : List Value}, (∀ c ∈ cs, PySem.W.kitOne K t c = some false) → PySem.W.kitAny K t cs = some false
  | [], _ => rfl
  | c :: r, h => by
    show (match PySem.W.kitOne K t c with | some true => some true | some false => PySem.W.kitAny K t r | none => none) = _
    rw [h c (List.mem_cons_self)]
    exact kit_any0 fun d hd => h d (List.mem_cons_of_mem _ hd)
end
end Kv

/-! < of nested data, list + list, lists unpacked, comprehensions over lists with a test. -/
namespace Kv
open PySem PySem.Spec PyProof.Rows L2
section
variable {X : Cx} {σ : L2.St} {B : Hp} {L : HL} {Q : KQ} {D : KD} {pos p2 pos' : Pos} {e iter a b c elt : Expr} {scope : Scope}
def rLtD (K : PySem.W.Frag) : R2 := fun x y H Q => ∃ d e, Dp K H x d ∧ Dp K H y e ∧ PySem.W.alike d e = true ∧ d ≠ .none ∧ min d.depth e.depth ≤ 60 ∧ Q (.bl (PySem.W.dataLt d e)) H
theorem op_ltD (hu : X.A.units + 64 < cLine) : OpR X (compareOp .Lt) (rLtD X.K) := by
  intro pins s σ H x y v u Q I rx ry h
  obtain ⟨d, e, hd, he, ha, hn, hm, q⟩ := h
  obtain ⟨as, r1⟩ := Dp.reads I d x v hd rx
  obtain ⟨bs, r2⟩ := Dp.reads I e y u he ry
  exact PySem.W.lt_data r1 r2 ha hn (by omega) ⟨.bl _, H, I, rfl, q⟩
theorem o_ltD {x y : V} {d e : PyData} (hu : X.A.units + 64 < cLine) (hd : Dd X B L x d) (he : Dd X B L y e) (ha : PySem.W.alike d e = true) (hn : d ≠ .none) (hm : min d.depth e.depth ≤ 60) (q : Q (.bl (PySem.W.dataLt d e)) B L) : kO X (compareOp .Lt) x y B L Q :=
  ⟨_, op_ltD hu, fun H s => ⟨d, e, hd H s, he H s, ha, hn, hm, _, _, s, q⟩⟩
theorem lt_asym {d e : PyData} (h : PySem.W.dataLt d e = true) : PySem.W.dataLt e d = false := by
  rcases hb : PySem.W.dataLt e d with _ | _
  · rfl
  · have h1 := lex_trans _ _ _ h hb
    rw [lex_irrefl] at h1; cases h1
/-- list + list -/
theorem o_catl {p q : Addr} {xs ys : List V} (h1 : At B L p (.lst xs)) (h2 : At B L q (.lst ys)) (hl : xs.length + ys.length ≤ 16777216) (h : ∀ r, Q (.ref r) B ((r, .lst (xs ++ ys)) :: L)) : kO X (binaryOp .Add) (.ref p) (.ref q) B L Q :=
  ⟨_, op_cat, fun H s => ⟨p, q, xs, ys, rfl, rfl, h1.at s, h2.at s, small hl, fun r hr => ⟨_, _, s.new hr, h r⟩⟩⟩
/-- a list goes to targets -/
theorem g_lst {ts : List Expr} {kk n : Nat} {T : Addr} {xs : List V} {Q : KN} (h1 : Ls X.K B L T xs) (hl : xs.length = n) (h : kGs X ts xs σ B L Q) (hc : X.calm = true := by rfl) (hn : (assignEach ts X.env).length = n := by rfl) (hst : (assignEach ts X.env).findIdx? (·.1) = none := by rfl) :
    kG X (.Tuple ts kk pos) (.ref T) σ B L Q :=
  ⟨_, pg_unl hc pgs_c hn hst, fun H s => ⟨T, _, rfl, h1.at s, hl, toGs s h fun _ _ _ _ s q => ⟨_, _, s, q⟩⟩⟩
/-- [elt for x in a list if c], each item by itself -/
theorem k_lcf_l {x : Str} {j : Nat} {px : Pos} (f : V → Bool) (g : V → V) (hN : X.N.Nodup) (ok : BlkOk X.N X.env.scope scope [(x, j)])
    (h : kE X iter σ B L fun v B1 L1 => ∃ a xs, v = .ref a ∧ Ls X.K B1 L1 a xs ∧ xs.length ≤ 16777216 ∧ (∀ z ∈ xs, ∀ D acc s H0 C cl fp, kT (Bk X scope s H0 C cl fp) c (σ.set j (some z)) B1 ((D, .lst acc) :: L1) fun k B3 L3 => k = f z ∧ B3 = B1 ∧ L3 = (D, .lst acc) :: L1) ∧
      (∀ z ∈ xs, f z = true → ∀ D acc s H0 C cl fp, kE (Bk X scope s H0 C cl fp) elt (σ.set j (some z)) B1 ((D, .lst acc) :: L1) fun y B3 L3 => y = g z ∧ B3 = B1 ∧ L3 = (D, .lst acc) :: L1) ∧
      ∀ D, Q (.ref D) B1 ((D, .lst ((xs.filter f).map g)) :: L1))
    (hp : ∀ s H0 C cl fp, Loc (Bk X scope s H0 C cl fp).env.scope x := by intro _ _ _ _ _; first | exact Or.inl rfl | exact Or.inr rfl) (hf : ∀ s H0 C cl fp, (Bk X scope s H0 C cl fp).fn x = true ∨ (Bk X scope s H0 C cl fp).env.scope.names.lookup x = some .local := by intro _ _ _ _ _; first | exact .inr rfl | exact .inl rfl)
    (hj : X.N[j]? = some x := by rfl) (hc : X.calm = true := by rfl) (hs : ∀ x, foldedSetIterable iter X.env x = pure x := by intro _; rfl) :
    kL X elt (.Name x px) iter [c] scope [(x, j)] σ B L Q :=
  k_lcf hN ok (r_list (by
    obtain ⟨t, h1, h2⟩ := h
    refine ⟨_, pe_c, fun H s => toE s ⟨t, h1, h2⟩ fun v H' B1 L1 s' ⟨a, xs, e, hls, hl, ht, hg, hd⟩ => ⟨B1, L1, s', a, xs, e, hls, xs.length, _, _, fun i acc B L => B = B1 ∧ L = L1 ∧ acc = ((xs.take i).filter f).map g, walk_list, ⟨rfl, rfl, by simp⟩, ?_, ?_, ?_⟩⟩
    · rintro i acc B L H hi ⟨rfl, rfl, _⟩ s
      exact hls.at s
    · rintro D i acc x B L H H' hi ⟨rfl, rfl, rfl⟩ s ⟨rfl, hx⟩
      have hxm := List.mem_of_getElem? hx
      refine ⟨_, _, s, fun sa Ha Ca cla fpa => g_name j ?_ hN hj (hp sa Ha Ca cla fpa) (hf sa Ha Ca cla fpa)⟩
      refine ⟨wipe1 σ j _, fun sb Hb Cb clb fpb => ?_⟩
      show kT _ _ ((wipe σ [j]).set j _) _ _ _
      rw [wipe1']
      have hsucc : (xs.take (i + 1)).filter f = (xs.take i).filter f ++ (if f x = true then [x] else []) := by
        rw [List.take_add_one, hx, List.filter_append]
        congr 1
        by_cases hfi : f x = true <;> simp [hfi]
      have hlen : (((xs.take i).filter f).map g).length ≤ i := by
        rw [List.length_map]
        exact Nat.le_trans (List.length_filter_le _ _) (by rw [List.length_take]; omega)
      obtain ⟨t2, k1, k2⟩ := ht x hxm D (((xs.take i).filter f).map g) sb Hb Cb clb fpb
      refine ⟨_, pt_c, fun H s => toT s ⟨t2, k1, k2⟩ fun k H2 B2 L2 s2 ⟨e1, e2, e3⟩ => ⟨B2, L2, s2, fun hk => fun sc Hc Cc clc fpc => ?_, fun hk => ?_⟩⟩
      · subst e2 e3
        have hfx : f x = true := by rw [← e1]; exact hk
        obtain ⟨t3, k3, k4⟩ := hg x hxm hfx D (((xs.take i).filter f).map g) sc Hc Cc clc fpc
        show kE _ _ ((wipe σ [j]).set j _) _ _ _
        rw [wipe1']
        refine ⟨_, pe_c, fun H s => toE s ⟨t3, k3, k4⟩ fun y H3 B3 L3 s3 ⟨e4, e5, e6⟩ => ⟨B3, L3, s3, by omega, L, e6, e5, rfl, ?_⟩⟩
        rw [hsucc, if_pos hfx, List.map_append, e4]; rfl
      · refine ⟨L, e3, e2, rfl, ?_⟩
        rw [hsucc, if_neg (by rw [← e1, hk]; decide), List.append_nil]
    · rintro acc B L D ⟨rfl, rfl, rfl⟩
      rw [List.take_length]
      exact hd D)) hc hs
/-- for over a list that the head makes: the wish may name the list -/
theorem k_for_l2 {tg : Expr} {body : List Stmt} (hp : PassesOwn (model X.prog X.w) X.A X.env X.xe)
    (h : kE X iter σ B L fun v B1 L1 => ∃ (a : Addr) (xs : List V) (Pv : Nat → KN), v = .ref a ∧ Ls X.K B1 L1 a xs ∧ Pv 0 σ B1 L1 ∧ (∀ i σ B L, i ≤ xs.length → Pv i σ B L → Ls X.K B L a xs) ∧
      (∀ i x σ B L, xs[i]? = some x → Pv i σ B L → kG X tg x σ B L fun σ2 B2 L2 => kSs X body σ2 B2 L2 { D with nx := Pv (i + 1), ct := Pv (i + 1), bk := D.nx }) ∧ ∀ σ B L, Pv xs.length σ B L → D.nx σ B L)
    (hc : X.calm = true := by rfl) (hs : ∀ x, foldedSetIterable iter X.env x = pure x := by intro _; rfl) : kS X (.For tg iter body [] pos) σ B L D :=
  k_for hp (r_list (by
    obtain ⟨t, h1, h2⟩ := h
    refine ⟨_, pe_c, fun H s => toE s ⟨t, h1, h2⟩ fun v H' B' L' s' ⟨a, xs, Pv, e, hl, p0, hL, ht, hd⟩ => ⟨B', L', s', a, xs, e, hl, xs.length, _, _, Pv, walk_list, p0, fun i σ B L H hi p s => (hL i σ B L hi p).at s, fun i x σ B L H H' hi p s y => ?_, hd⟩⟩
    obtain ⟨rfl, hx⟩ := y
    exact ⟨B, L, s, ht i x σ B L hx p⟩)) hc hs
/-- two new objects at once -/
theorem Sat.new2 {H H' : Hp} {p q : Addr} {o u : HO} (s : Sat B L H) (h1 : H p = none) (h2 : H q = none) (hpq : p ≠ q) (e : ∀ b o, H b = some o → H' b = some o) (hp : H' p = some o) (hq : H' q = some u) : Sat B ((p, o) :: (q, u) :: L) H' := by
  have s1 := s.new' h2 e hq
  refine ⟨s1.ext, fun r hr => ?_, fun r hr => ?_, ?_⟩
  · rcases List.mem_cons.mp hr with rfl | hr
    · exact hp
    · exact s1.own r hr
  · rcases List.mem_cons.mp hr with rfl | hr
    · exact s.free h1
    · exact s1.nb r hr
  · rw [List.map_cons, List.nodup_cons]
    refine ⟨fun hm => ?_, s1.nd⟩
    rcases List.mem_cons.mp hm with h | h
    · exact hpq h
    · exact s.notin h1 h
end
end Kv

/-! sorted(list), sorted(list, key=f): data that are alike, keys that are alike data. -/
namespace Kv
open PySem PySem.Spec PyProof.Rows L2
open PySem.W (EachIs AllAlike Sortable dataLe sortVals dataKind KeyedOut)
section
variable {K : PySem.W.Frag} {H H' : Hp}
mutual
theorem dp_le (e : Le H H') : ∀ (d : PyData) (v : V), Dp K H v d → Dp K H' v d
  | .none, _, h => by cases h; exact .non
  | .bool b, _, h => by cases h; exact .bl b
  | .int i, _, h => by cases h; exact .int i
  | .str x, _, h => by cases h; exact .str x
  | .list ds, _, h => by
    cases h with
    | lst hs ha => exact .lst (ext_l e hs) (dp_leA e ds _ ha)
  | .tuple ds, _, h => by
    cases h with
    | tup hs ha => exact .tup (ext_t e hs) (dp_leA e ds _ ha)
  | .dict _, _, h => by cases h
theorem dp_leA (e : Le H H') : ∀ (ds : List PyData) (vs : List V), DpAll K H vs ds → DpAll K H' vs ds
  | [], _, h => by cases h; exact .nil
  | d :: ds, _, h => by
    cases h with
    | cons h1 h2 => exact .cons (dp_le e d _ h1) (dp_leA e ds _ h2)
end
theorem dpa_snoc {v : V} {d : PyData} (h : Dp K H v d) : ∀ {vs : List V} {ds : List PyData}, DpAll K H vs ds → DpAll K H (vs ++ [v]) (ds ++ [d])
  | _, _, .nil => .cons h .nil
  | _, _, .cons h1 h2 => .cons h1 (dpa_snoc h h2)
theorem each_rel : ∀ {ys : List V} {its : List Value}, Vals ys its → EachIs (fun u b => RelV b u) its ys
  | _, _, .nil => .nil
  | _, _, .cons h t => .cons h (each_rel t)
theorem vals_each : ∀ {ys : List V} {its : List Value}, EachIs (fun u b => RelV b u) its ys → Vals ys its
  | _, _, .nil => .nil
  | _, _, .cons h t => .cons h (vals_each t)
end
section
variable {X : Cx} {pins : List (Addr × Obj)} {σ : L2.St} {H : Hp} {s : Shared}
theorem each_reads (I : Inv X pins σ H s) (kf : V → PyData) : ∀ {ys : List V} {its : List Value}, Vals ys its → (∀ y ∈ ys, Dp X.K H y (kf y)) → EachIs (fun u b => ∃ as, Reads s.heap u (kf b) as) its ys
  | _, _, .nil, _ => .nil
  | _, _, .cons h t, hd => .cons (Dp.reads I _ _ _ (hd _ List.mem_cons_self) h) (each_reads I kf t fun y hy => hd y (List.mem_cons_of_mem _ hy))
theorem each_readsA (I : Inv X pins σ H s) : ∀ {ks : List V} {its : List Value} {ds : List PyData}, Vals ks its → DpAll X.K H ks ds → EachIs (fun u d => ∃ as, Reads s.heap u d as) its ds
  | _, _, _, .nil, h => by cases h; exact .nil
  | _, _, _, .cons h t, hd => by
    cases hd with
    | cons h1 h2 => exact .cons (Dp.reads I _ _ _ h1 h) (each_readsA I t h2)
def rSortedD (K : PySem.W.Frag) : List V → Hp → VK → Prop := fun vs H Q => ∃ (a : Addr) (ys : List V) (kf : V → PyData), vs = [.ref a] ∧ SqL K H a ys ∧ (∀ y ∈ ys, Dp K H y (kf y) ∧ (kf y).depth ≤ 60) ∧ AllAlike (ys.map kf) ∧ Sortable (ys.map kf) ∧ ∀ p, H p = none → Q (.ref p) (upd H p (.lst (ys.mergeSort (dataLe false kf))))
theorem cr_sortedD (hu : X.A.units + 100 < cLine) : CallR X (.builtin "sorted") (rSortedD X.K) := by
  intro ps s σ H xs us Q I r h
  obtain ⟨a, ys, kf, rfl, hs, hd, hal, hso, q⟩ := h
  obtain ⟨its, rv, hl, hz⟩ := I.list hs
  rw [Vals.ref1 r]
  have hz' : its.length ≤ sizeLine := by rw [← rv.length]; exact hz
  have k0 : ∀ b o, s.heap.get? b = some o → (PySem.W.sortingHeap (PySem.W.copyHeap s.heap its) (s.heap.objs.size + 1) its).get? b = some o := fun b o e => PySem.W.sorting_copy_old e
  have I2 := I.kept (t' := s.toks) k0
  have er := each_reads I2 kf rv fun y hy => (hd y hy).1
  have eo := PySem.W.sortVals_data (enc := kf) false (each_rel rv) er hal
  refine PySem.W.sorted_vals hl.isList (PySem.W.SortsAt.data (PySem.W.each_map kf er) hal hso fun d hdm => ?_) hz' ?_
  · obtain ⟨y, hy, rfl⟩ := List.mem_map.mp hdm
    have := (hd y hy).2
    show X.A.units + 1 + 1 + (kf y).depth < cLine
    omega
  · obtain ⟨e1, he1⟩ := sortedAll_at s.heap its (sortVals (dataKind (PySem.W.sortingHeap (PySem.W.copyHeap s.heap its) (s.heap.objs.size + 1) its) (ys.map kf)) false its its).toArray
    have hv := vals_each eo
    refine ⟨.ref _, upd H (s.heap.objs.size + 1) (.lst (ys.mergeSort (dataLe false kf))), I.laid (t' := s.toks) (fun b u e => sortedAll_old e) (by omega) ⟨by rw [List.length_mergeSort]; exact hz, _, e1, hv, he1⟩, rfl, q _ (I.hok.fresh (by omega))⟩
/-! keys by a def -/
/-- what a call of the key gives, by new things alone -/
def KeyGiven (K : PySem.W.Frag) (sp : Sp) (y : V) (d : PyData) (H : Hp) : Prop :=
  ∀ H', Le H H' → sp [y] H' (fun v H'' => Le H' H'' ∧ Dp K (fun b => if (H' b).isSome then none else H'' b) v d) fun _ _ _ => False
def rSortedF (X : Cx) : List V → List V → Hp → VK → Prop := fun vs zs H Q => ∃ (a f : Addr) (ys : List V) (kf : V → PyData) (k : Nat) (fd : FuncData) (ps : List Str) (sp : Sp), vs = [.ref a] ∧ zs = [.ref f] ∧ SqL X.K H a ys ∧
  FnOk X.prog X.w X.K X.mg X.base (L2.CX X.prog X.w) k f fd ps sp ∧ Binds X.K fd ps [] ∧ Room k X.A.in1.in1 ∧ (∀ y ∈ ys, (kf y).depth ≤ 60 ∧ KeyGiven X.K sp y (kf y) H) ∧ AllAlike (ys.map kf) ∧ Sortable (ys.map kf) ∧
  ∀ H' p, Le H H' → H' p = none → Q (.ref p) (upd H' p (.lst (ys.mergeSort (dataLe false kf))))
theorem upd_rm {H : Hp} {a : Addr} {o : HO} : upd H a o = upd (rmH H a) a o := by
  funext b
  by_cases h : b = a
  · rw [h, upd_same, upd_same]
  · rw [upd_ne h, upd_ne h, rm_ne h]
/-- what the runs leave: the values in the order of their keys -/
def Done (κ : PyProof.Rows.KeyKind) (ps : Array Keyed) (st : SortSt) : Prop := (arrOf st).Perm ps ∧ SortedToK κ (arrOf st) ps.size ∧ Stable κ (arrOf st) ps ∧ failedOf st = none
/-- behind the keys: the runs, then the keys' list is emptied and the list gets its items -/
theorem end_sort {A : Around} {E : Value → Shared → Prop} {P : PySem.Fin → Shared → Prop} {prog : Program} {w : World} {s : Shared} {a kS : Addr} {keys : Array Value} {e e1 : Nat} {vs : List Value} {κ : PyProof.Rows.KeyKind}
    (nk : s.heap.get? kS = some (seqObj "list" keys e)) (na : s.heap.get? a = some (seqObj "list" #[] e1)) (hka : kS ≠ a) (S : PySem.W.SortsAt prog w A s κ keys.toList) (hsz : keys.size = vs.length) (hZ : vs.length ≤ sizeLine)
    (h : ∀ tk, P (.done (.ret .none)) { s with heap := (s.heap.update kS (Obj.mapSeq fun _ => (#[] : Array Value))).update a (Obj.mapSeq fun _ => (sortVals κ false keys.toList vs).toArray), toks := tk }) :
    wpAny (model prog w) A (PyProof.Rows.ksk_end a false vs.toArray e1 (.ref kS) keys) P E s := by
  have hzip : (keys.zip vs.toArray).size = vs.length := by simp [Array.size_zip, hsz]
  have hkeys := PySem.W.keysOf_zip (vs := vs) S.keys
  have hout : (sortVals κ false keys.toList vs).length = vs.length := PySem.W.sortVals_length false (by rw [Array.length_toList]; exact hsz)
  have na' : (s.heap.update kS (Obj.mapSeq fun _ => (#[] : Array Value))).get? a = some (seqObj "list" #[] e1) := by
    rw [Heap.get?_update_other s.heap _ hka.symm.symm]; exact na
  -- what is done behind the runs
  have close : ∀ st, Done κ (keys.zip vs.toArray) st → wpAny (model prog w) A (PyProof.Rows.ksk_tail a false e1 (.ref kS) st) P E s := by
    rintro st ⟨p1, p2, p3, p4⟩
    have hv : (arrOf st).map (·.2) = (sortVals κ false keys.toList vs).toArray := by
      rw [← PySem.W.sort_out (rev := false) (keys := keys) (items := vs.toArray) (xs := arrOf st) (κ := κ) hkeys p1 p2 p3, if_neg Bool.false_ne_true, Array.toArray_toList]
    unfold PyProof.Rows.ksk_tail
    dsimp only
    rw [hv, p4]
    refine wpAny_bind (listUpdate_at nk rfl (wpAny_bind (wpAny_letGo ?_)) (by omega) (Nat.zero_le _))
    refine wpAny_bind (seqEpoch_at na' rfl (wpAny_bind (listUpdate_at na' rfl ?_ (Nat.zero_le _) (by simp only [Bool.false_eq_true, if_false, List.size_toArray, hout]; omega))))
    simp only [bne_self_eq_false, Bool.false_eq_true, if_false]
    exact wpAny_pure (h _)
  unfold PyProof.Rows.ksk_end
  dsimp only
  rw [if_neg Bool.false_ne_true]
  by_cases few : vs.length < 2
  · have few' : vs.toArray.size < 2 := by rw [List.size_toArray]; exact few
    rw [if_pos few', if_pos few']
    refine wpAny_bind (wpAny_pure ?_)
    rw [StateT.run_pure]
    refine wpAny_bind (wpAny_pure (close _ ⟨.refl _, fun i k hik hk => ?_, .refl _, rfl⟩))
    have same : i = k := by omega
    rw [same]
    exact KeyOrd.kle_refl _
  · have few' : ¬ vs.toArray.size < 2 := by rw [List.size_toArray]; exact few
    rw [if_neg few', if_neg few']
    obtain ⟨kd, lt, kind⟩ := S.kind
    refine wpAny_bind (kind (by rw [Array.length_toList]; omega) _ (wpAny_bind ?_))
    have runs := H.wpS_sortRunsSt (κ := κ) (kd := kd) (a₀ := keys.zip vs.toArray) (st := SortSt.mk' kd (keys.zip vs.toArray) #[] 7 none) (Q := fun _ st => Done κ (keys.zip vs.toArray) st) (s := s) (E := E)
      lt hkeys ⟨.refl _, rfl, rfl⟩ rfl (.refl _) (by omega) fun st a1 a2 a3 a4 => ⟨a1, a3, a4, a2⟩
    refine wpAny_mono runs ?_ fun _ _ z => z
    rintro ⟨⟨⟩, st⟩ _ ⟨rfl, d⟩
    exact close st d
theorem vals_at : ∀ {ys : List V} {its : List Value}, Vals ys its → ∀ {j : Nat} {x : Value}, its[j]? = some x → ∃ y, ys[j]? = some y ∧ RelV y x
  | _, _, .nil, j, x, e => by cases e
  | _, _, .cons h t, 0, x, e => by cases e; exact ⟨_, rfl, h⟩
  | _, _, .cons h t, j + 1, x, e => vals_at t (j := j) (by simpa using e)
theorem cr_sortedF : CallRK X (.builtin "sorted") [Str.ofString "key"] (rSortedF X) := by
  intro ps s σ H xs zs us ws Q I r rz h
  obtain ⟨a, f, ys, kf, k, fd, pn, sp, rfl, rfl, hs, F, hb, hroom, hk, hal, hso, q⟩ := h
  obtain ⟨its, rv, hl, hz⟩ := I.list hs
  rw [Vals.ref1 r, Vals.ref1 rz]
  have hz' : its.length ≤ sizeLine := by rw [← rv.length]; exact hz
  show wpAny _ _ (call (.builtin "sorted") [.ref a] [(Str.ofString "key", .ref f)]) _ _ _
  refine PySem.W.sorted_of_sort hl.isList hz' (ksk_s1 _ _) (fun x => ksk_l1 _ _) fun E' => ?_
  rw [ksk_t1]
  have hc0 := PySem.W.copyHeap_at s.heap its
  have hc1 : ∀ b o, s.heap.get? b = some o → (PySem.W.copyHeap s.heap its).get? b = some o := fun b o e => PySem.W.copyHeap_old e
  have ha0 : s.heap.objs.size ≤ s.heap.objs.size + 1 := Nat.le_succ _
  have ha1 : ∀ b o, s.heap.get? b = some o → b ≠ s.heap.objs.size + 1 := fun b o e => Nat.ne_of_lt (Nat.lt_succ_of_lt (Heap.lt_size e))
  generalize s.heap.objs.size + 1 = a0 at hc0 ha0 ha1 ⊢
  generalize PySem.W.copyHeap s.heap its = h1 at hc0 hc1 ⊢
  have hn0 : H a0 = none := I.hok.fresh ha0
  unfold ksk_tree
  refine wpAny_bind (listItems_at hc0 rfl ?_)
  refine wpAny_bind (listUpdate_at hc0 rfl ?_ (by rw [List.size_toArray]; exact hz') (Nat.zero_le _))
  obtain ⟨e1, ho1⟩ : ∃ e1, (h1.update a0 (Obj.mapSeq fun _ => (#[] : Array Value))).get? a0 = some (seqObj "list" #[] e1) := ⟨_, get?_update_seq hc0 fun _ => #[]⟩
  have hs1 := Heap.SameBut.update h1 a0 (Obj.mapSeq fun _ => (#[] : Array Value))
  have hc2 : ∀ b o, s.heap.get? b = some o → (h1.update a0 (Obj.mapSeq fun _ => (#[] : Array Value))).get? b = some o := fun b o e => (hs1.2 b (ha1 b o e)).trans (hc1 b o e)
  have hsz2 : (h1.update a0 (Obj.mapSeq fun _ => (#[] : Array Value))).objs.size = h1.objs.size := Heap.size_update ..
  generalize h1.update a0 (Obj.mapSeq fun _ => (#[] : Array Value)) = h2 at ho1 hc2 hsz2 ⊢
  refine wpAny_bind (seqEpoch_at ho1 rfl ?_)
  refine wpAny_bind (wpAny_newTuple ?_ (by show its.length ≤ _; exact hz'))
  have ho2 : (h2.push (seqObj "tuple" its.toArray 0)).get? a0 = some (seqObj "list" #[] e1) := Heap.get?_push_of_some _ ho1
  have hc3 : ∀ b o, s.heap.get? b = some o → (h2.push (seqObj "tuple" its.toArray 0)).get? b = some o := fun b o e => Heap.get?_push_of_some _ (hc2 b o e)
  refine wpAny_bind (wpAny_newList ?_ (Nat.zero_le _))
  refine wpAny_holding ?_
  have I3 : Inv X ps σ (upd H a0 (.lst [])) { s with heap := h2.push (seqObj "tuple" its.toArray 0) } := I.laid (t' := s.toks) hc3 ha0 ⟨Nat.zero_le _, [], e1, .nil, ho2⟩
  have I4 := I3.lnew (its := []) (ys := []) (t' := s.toks) .nil (Nat.zero_le _)
  have hka : (h2.push (seqObj "tuple" its.toArray 0)).objs.size ≠ a0 := fun z => absurd z (Nat.ne_of_gt (Heap.lt_size ho2))
  have hnk : H (h2.push (seqObj "tuple" its.toArray 0)).objs.size = none := by
    cases hx : H (h2.push (seqObj "tuple" its.toArray 0)).objs.size with
    | none => rfl
    | some o =>
      have h5 := (I.hok _ _ hx).lt
      have h6 : s.heap.objs.size ≤ (h2.push (seqObj "tuple" its.toArray 0)).objs.size := Nat.le_trans ha0 (Nat.le_of_lt (Heap.lt_size ho2))
      exact absurd (Nat.lt_of_lt_of_le h5 h6) (Nat.lt_irrefl _)
  have hnf := I4.nofrz (d := a0) (u := .lst []) (by rw [upd_ne hka.symm, upd_same]) trivial
  obtain ⟨od, I5⟩ := I4.lock (d := a0) (u := .lst []) (by rw [upd_ne hka.symm, upd_same]) trivial
  have hod : od = seqObj "list" #[] e1 := by
    have h5 := (I5.hok a0 _ upd_same).1
    have h6 : (h2.push (seqObj "tuple" its.toArray 0)).push (seqObj "list" #[] 0) = (h2.push (seqObj "tuple" its.toArray 0)).push { cls := .type "list", data := .seq ([] : List Value).toArray } := rfl
    have h7 : ((h2.push (seqObj "tuple" its.toArray 0)).push { cls := .type "list", data := .seq ([] : List Value).toArray }).get? a0 = some (seqObj "list" #[] e1) := Heap.get?_push_of_some _ ho2
    exact Option.some.inj (h5.symm.trans h7)
  subst hod
  generalize hkS : (h2.push (seqObj "tuple" its.toArray 0)).objs.size = kS at hka hnk I5 ⊢
  have eH : upd (upd (upd H a0 (.lst [])) kS (.lst [])) a0 (.frz (seqObj "list" #[] e1) (.lst [])) = upd (upd H a0 (.frz (seqObj "list" #[] e1) (.lst []))) kS (.lst []) := by
    funext b
    by_cases hb1 : b = a0
    · subst hb1; rw [upd_same, upd_ne hka.symm, upd_same]
    · by_cases hb2 : b = kS
      · subst hb2; rw [upd_ne hb1, upd_same, upd_same]
      · rw [upd_ne hb1, upd_ne hb2, upd_ne hb1, upd_ne hb2, upd_ne hb1]
  have I6 : Inv X ps σ (upd (upd H a0 (.frz (seqObj "list" #[] e1) (.lst []))) kS (.lst [])) { s with heap := (h2.push (seqObj "tuple" its.toArray 0)).push (seqObj "list" #[] 0) } := by rw [← eH]; exact I5
  have hle0 : Le H (upd H a0 (.frz (seqObj "list" #[] e1) (.lst []))) := fun b o e => by rw [upd_ne (fun z => by rw [z, hn0] at e; cases e)]; exact e
  unfold ksk_rest
  refine wpAny_bind (wpAny_rule ?_)
  first
    | rw [List.forIn_toArray]
    | (rw [← Array.forIn_toList]; simp only [List.toList_toArray])
    | rw [← Array.forIn_toList]
  refine wpAny_bind (ksk_fold (fun i s' => ∃ (Hb : Hp) (ks : List V), Inv X ps σ (upd Hb kS (.lst ks)) s' ∧ Hb kS = none ∧ Le (upd H a0 (.frz (seqObj "list" #[] e1) (.lst []))) Hb ∧ DpAll X.K Hb ks ((ys.map kf).take i)) its 0 _
    ⟨_, [], I6.tok _, by rw [upd_ne hka]; exact hnk, fun _ _ e => e, by rw [List.take_zero]; exact .nil⟩ ?step ?done)
  case step =>
    rintro j x s' hx ⟨Hb, ks, I', hn, hle, hd⟩
    simp only [Nat.zero_add] at hd ⊢
    obtain ⟨y, hy, rxy⟩ := vals_at rv hx
    have hym := List.mem_of_getElem? hy
    have hleH : Le H (upd Hb kS (.lst ks)) := fun b o e => by
      rw [upd_ne (fun z => by rw [z, hnk] at e; cases e)]
      exact hle b o (hle0 b o e)
    have hgiven := (hk y hym).2 _ hleH
    have run : wpAny (model X.prog X.w) X.A.in1.in1 (call (.ref f) [x]) (EP X ps σ fun v H'' => Le (upd Hb kS (.lst ks)) H'' ∧ Dp X.K (fun b => if ((upd Hb kS (.lst ks)) b).isSome then none else H'' b) v (kf y)) (fun _ _ => False) s' := by
      have r2 : Vals ([y] : List V) ([x] ++ []) := .cons rxy .nil
      have hl2 : ([x] ++ ([] : List Value)).length = pn.length := by rw [← r2.length]; exact F.len _ _ _ _ hgiven
      refine wpAny_call (codeAny_mono (F.run X.A.in1.in1 X.stack s' _ ⟨[x], []⟩ ([x] ++ []) [y] _ _ hroom I'.env0.in1.in1 (hb s' [x] I'.kIn hl2) r2 hgiven) fun r s'' hq => ?_)
      cases r with
      | error e =>
        obtain ⟨_, _, _, _, _, _, _, _, _, _, _, _, z⟩ := hq
        exact z.elim
      | ok fl =>
        cases fl with
        | ret u => exact I'.after hq
        | next => exact False.elim hq
        | brk => exact False.elim hq
        | cont => exact False.elim hq
    refine wpAny_bind (wpAny_attempt (wpAny_mono run (fun v s'' he => ?_) fun _ _ hF => hF.elim))
    obtain ⟨kv, H'', I'', rk, hle2, hdk⟩ := he
    try dsimp only
    have hkl : H'' kS = some (.lst ks) := hle2 kS _ upd_same
    obtain ⟨hzk, itk, nk, rvk, hlk, ek⟩ := I''.lstM hkl
    have hkn : ks.length ≤ its.length := by
      have h7 : ks.length = ((ys.map kf).take j).length := by
        have : ∀ {vs : List V} {ds : List PyData}, DpAll X.K Hb vs ds → vs.length = ds.length := by
          intro vs ds hh
          induction vs generalizing ds with
          | nil => cases hh; rfl
          | cons v vs ih => cases hh with
            | cons _ h2 => rw [List.length_cons, List.length_cons, ih h2]
        exact this hd
      rw [h7, List.length_take, List.length_map, rv.length]; omega
    have hjl := (List.getElem?_eq_some_iff.mp hx).1
    refine wpAny_bind (listUpdate_at ek rfl ?_ (by rw [List.size_toArray, ← hlk]; exact Nat.le_trans hkn hz') (Nat.le_trans (Nat.le_of_eq (Array.size_push ..)) (Nat.succ_le_succ (by rw [List.size_toArray, ← hlk]; exact Nat.le_trans hkn hz'))))
    have hkz : ks.length + 1 ≤ sizeLine := by
      have h7 : ks.length = j := by
        have : ∀ {vs : List V} {ds : List PyData}, DpAll X.K Hb vs ds → vs.length = ds.length := by
          intro vs ds hh
          induction vs generalizing ds with
          | nil => cases hh; rfl
          | cons v vs ih => cases hh with
            | cons _ h2 => rw [List.length_cons, List.length_cons, ih h2]
        rw [this hd, List.length_take, List.length_map, rv.length]; omega
      omega
    have I7 := I''.lset (ys := ks ++ [kv]) (its' := itk ++ [v]) (t' := s''.toks) (f := (·.push v)) hkl ek (by simp) (rvk.append (.cons rk .nil)) (by rw [List.length_append]; exact hkz)
    rw [upd_rm] at I7
    refine wpAny_pure ⟨rfl, rmH H'' kS, ks ++ [kv], I7, rm_eq, fun b o e => ?_, ?_⟩
    · have hbk : b ≠ kS := fun z => by
        subst z
        have := hle b o e
        rw [hn] at this; cases this
      rw [rm_ne hbk]
      exact hle2 b o (by rw [upd_ne hbk]; exact hle b o e)
    · have e5 : (ys.map kf).take (j + 1) = (ys.map kf).take j ++ [kf y] := by rw [List.take_add_one, List.getElem?_map, hy]; rfl
      rw [e5]
      refine dpa_snoc (dp_le (fun b o e => ?_) _ _ hdk) (dp_leA (fun b o e => ?_) _ _ hd)
      · by_cases hbk : b = kS
        · subst hbk
          rw [upd_same] at e; cases e
        · rw [rm_ne hbk]
          split at e
          · cases e
          · exact e
      · have hbk : b ≠ kS := fun z => by subst z; rw [hn] at e; cases e
        rw [rm_ne hbk]
        exact hle2 b o (by rw [upd_ne hbk]; exact e)
  case done =>
    rintro s' ⟨Hb, ks, I', hn, hle, hd⟩
    have e5 : (ys.map kf).take (0 + its.length) = ys.map kf := List.take_of_length_le (by rw [List.length_map, rv.length]; omega)
    rw [e5] at hd
    obtain ⟨hzk, itk, nk, rvk, hlk, ek⟩ := I'.lstM (l := kS) (xs := ks) upd_same
    have hfz : (upd Hb kS (.lst ks)) a0 = some (.frz (seqObj "list" #[] e1) (.lst [])) := by
      rw [upd_ne hka.symm]
      exact hle a0 _ upd_same
    have na := (I'.hok a0 _ hfz).1
    have er := each_readsA I' rvk (dp_leA (H' := upd Hb kS (.lst ks)) (fun b o e => by rw [upd_ne (fun z => by subst z; rw [hn] at e; cases e)]; exact e) _ _ hd)
    have hks : itk.length = its.length := by
      have h7 := er.length
      rw [List.length_map] at h7
      rw [h7, rv.length]
    try dsimp only
    refine wpAny_bind (listItems_at ek rfl ?_)
    refine end_sort (κ := dataKind s'.heap (ys.map kf)) (vs := its) ek na hka (PySem.W.SortsAt.data (by simpa using er) hal hso fun d hdm => ?_) (by rw [List.size_toArray]; exact hks) hz' fun tk => ?_
    · obtain ⟨y, hy, rfl⟩ := List.mem_map.mp hdm
      have h7 := (hk y hy).1
      have h8 := hroom.un
      omega
    have eo := PySem.W.sortVals_each (κ := dataKind s'.heap (ys.map kf)) (rev := false) (fun b => PySem.W.keyToks (kf b)) (each_rel rv) (PySem.W.each_of_map kf (PySem.W.each_keys hal er))
    have hv := vals_each eo
    have I8 := I'.lset (ys := []) (its' := []) (t' := tk) (f := fun _ => #[]) (l := kS) upd_same ek rfl .nil (Nat.zero_le _)
    have hfz2 : upd (upd Hb kS (.lst ks)) kS (.lst []) a0 = some (.frz (seqObj "list" #[] e1) (.lst [])) := by rw [upd_ne hka.symm]; exact hfz
    have I9 := I8.unlock hfz2 hnf
    have na1 := (I8.hok a0 _ hfz2).1
    have I10 := I9.lset (ys := ys.mergeSort (dataLe false kf)) (its' := sortVals (dataKind s'.heap (ys.map kf)) false itk its) (t' := tk) (f := fun _ => (sortVals (dataKind s'.heap (ys.map kf)) false itk its).toArray) (l := a0) (its := []) upd_same na1 rfl hv (by rw [List.length_mergeSort]; exact hz)
    rw [upd_upd, upd_rm] at I10
    refine ⟨rfl, .ref a0, _, I10, rfl, q _ a0 (fun b o e => ?_) rm_eq⟩
    have hb1 : b ≠ a0 := fun z => by subst z; rw [hn0] at e; cases e
    have hb2 : b ≠ kS := fun z => by subst z; rw [hnk] at e; cases e
    rw [rm_ne hb1, upd_ne hb2, upd_ne hb2]
    exact hle b o (hle0 b o e)
end
end Kv

/-! list(zip(list, list)) -/
namespace KvY
open PySem PySem.Spec PyProof.Rows KvZ
theorem zip_no_len : typeLookup (.type "zip") "__len__" = pure none := by rw [typeLookup_type, builtinLookup_eq_fast]; kernel_rfl
theorem zip_no_hint : typeLookup (.type "zip") "__length_hint__" = pure none := by rw [typeLookup_type, builtinLookup_eq_fast]; kernel_rfl
/-- how things stand behind i pairs; all is laid from n on -/
structure At (h0 : Heap) (n : Nat) (l1 l2 : Addr) (xs ys : Array Value) (h : Heap) (i : Nat) : Prop where
  sz : h.objs.size = n + 6 + i
  lst : ∃ c, h.get? (n + 5) = some { cls := .type "list", dict := none, data := .seq ((List.range i).map fun j => Value.ref (n + 6 + j)).toArray c, slots := #[] }
  zp : (IsZip h (n + 4) (n + 2) (n + 3) .none ∧ i = 0) ∨ ∃ (k : Nat) (f : Bool) (oT : Obj), IsZipHeld h (n + 4) (n + 2) (n + 3) (n + 6 + k) f ∧ h.get? (n + 6 + k) = some oT
  ti : IsTupOf2 h (n + 2) (.ref n) (.ref (n + 1))
  to : ∃ a b, IsTupOf2 h (n + 3) a b
  u1 : h.IsListIter n l1 i ∧ h.IsList l1 xs
  u2 : h.IsListIter (n + 1) l2 i ∧ h.IsList l2 ys
  tup : ∀ j, j < i → ∃ x y, xs[j]? = some x ∧ ys[j]? = some y ∧ IsTupOf2 h (n + 6 + j) x y
  kp : ∀ (c : Addr) o, Nat.lt c n → h0.get? c = some o → h.get? c = some o
section
variable {prog : Program} {w : World} {A : Around} {h0 : Heap} {n : Nat} {l1 l2 : Addr} {xs ys : Array Value}
theorem ne_add {n a b : Nat} (h : a ≠ b) : ((n + a : Nat) : Addr) ≠ (n + b : Nat) := fun z => h (Nat.add_left_cancel z)
theorem sep (n : Nat) (h1 : Nat.lt l1 n) (h2 : Nat.lt l2 n) : ZipSep2 (n + 4) (n + 2) (n + 3) n (n + 1) [n, l1] [n + 1, l2] := by
  have e : ∀ k, ((n + k : Nat) : Addr) ≠ l1 := fun k z => by have h3 : Nat.lt (n + k) n := z ▸ h1; exact absurd h3 (Nat.not_lt.mpr (Nat.le_add_right _ _))
  have e' : ∀ k, ((n + k : Nat) : Addr) ≠ l2 := fun k z => by have h3 : Nat.lt (n + k) n := z ▸ h2; exact absurd h3 (Nat.not_lt.mpr (Nat.le_add_right _ _))
  have f0 : ∀ k, k ≠ 0 → ((n + k : Nat) : Addr) ≠ n := fun k hk z => hk (Nat.add_left_cancel (z : n + k = n + 0))
  refine ⟨ne_add (by decide), ne_add (by decide), ne_add (by decide), f0 2 (by decide), by simp, ?_, ?_, ne_add (by decide), by simp, ?_, ?_, ?_, ?_⟩
  · simp only [List.mem_cons, List.not_mem_nil, or_false, not_or]; exact ⟨f0 4 (by decide), e 4⟩
  · simp only [List.mem_cons, List.not_mem_nil, or_false, not_or]; exact ⟨f0 3 (by decide), e 3⟩
  · simp only [List.mem_cons, List.not_mem_nil, or_false, not_or]; exact ⟨ne_add (by decide), e' 4⟩
  · simp only [List.mem_cons, List.not_mem_nil, or_false, not_or]; exact ⟨ne_add (by decide), e' 3⟩
  · simp only [List.mem_cons, List.not_mem_nil, or_false, not_or]; exact ⟨(f0 1 (by decide)).symm, e' 0⟩
  · simp only [List.mem_cons, List.not_mem_nil, or_false, not_or]; exact ⟨f0 1 (by decide), e 1⟩
theorem big_ne {n a : Nat} {b : Addr} (h : Nat.lt b n) : b ≠ ((n + a : Nat) : Addr) := fun z => by
  have h3 : Nat.lt (n + a) n := z ▸ h
  exact absurd h3 (Nat.not_lt.mpr (Nat.le_add_right _ _))
theorem base_ne {n a : Nat} (h : a ≠ 0) : ((n + a : Nat) : Addr) ≠ n := fun z => h (Nat.add_left_cancel (z : n + a = n + 0))
theorem ne6 {n j b : Nat} (h : b < 6) : ((n + 6 + j : Nat) : Addr) ≠ ((n + b : Nat) : Addr) := fun z => by
  have q : n + 6 + j = n + b := z
  omega
/-- the next pair -/
theorem next {s : Shared} {i : Nat} {E : Value → Shared → Prop} {Q : Option Value → Shared → Prop} (hh : A.handled = none) (h1 : Nat.lt l1 n) (h2 : Nat.lt l2 n) (a : At h0 n l1 l2 xs ys s.heap i) (lx : i < xs.size) (ly : i < ys.size)
    (hQ : ∀ h' tk c, (h'.objs.size = n + 6 + (i + 1) ∧ h'.get? (n + 5) = some { cls := .type "list", dict := none, data := .seq ((List.range i).map fun j => Value.ref (n + 6 + j)).toArray c, slots := #[] } ∧
      (∀ h'', h''.objs.size = h'.objs.size → (∀ (b : Addr) o, b ≠ ((n + 5 : Nat) : Addr) → h'.get? b = some o → h''.get? b = some o) → (∃ c', h''.get? (n + 5) = some { cls := .type "list", dict := none, data := .seq ((List.range (i + 1)).map fun j => Value.ref (n + 6 + j)).toArray c', slots := #[] }) → At h0 n l1 l2 xs ys h'' (i + 1))) →
      Q (some (.ref (n + 6 + i))) { s with heap := h', toks := tk }) : wpAny (model prog w) A (pyNext (.ref (n + 4))) Q E s := by
  have S := sep n h1 h2
  have D1 := Draws.list (prog := prog) (w := w) (A := A.in1) hh n l1 (big_ne (a := 0) h1) xs
  have D2 := Draws.list (prog := prog) (w := w) (A := A.in1) hh (n + 1) l2 (big_ne h2) ys
  obtain ⟨c, hc⟩ := a.lst
  obtain ⟨a1, a2, hto⟩ := a.to
  have fin : ∀ (x y : Value) (h' : Heap) (tk : Nat), xs[i]? = some x → ys[i]? = some y → (∃ (k : Nat) (f : Bool) (oT : Obj), IsZipHeld h' (n + 4) (n + 2) (n + 3) (n + 6 + k) f ∧ h'.get? (n + 6 + k) = some oT) → (h'.IsListIter n l1 (i + 1) ∧ h'.IsList l1 xs) → (h'.IsListIter (n + 1) l2 (i + 1) ∧ h'.IsList l2 ys) →
      IsTupOf2 h' s.heap.objs.size x y → (∃ a b, IsTupOf2 h' (n + 3) a b) → h'.objs.size = s.heap.objs.size + 1 → (∀ (c : Addr) o, c ≠ ((n + 4 : Nat) : Addr) → c ≠ ((n + 3 : Nat) : Addr) → c ≠ n → c ≠ ((n + 1 : Nat) : Addr) → s.heap.get? c = some o → h'.get? c = some o) →
      Q (some (.ref (n + 6 + i))) { s with heap := h', toks := tk } := by
    intro x y h' tk hx hy hz hu1 hu2 hT hTO hsz hk
    have k5 : h'.get? (n + 5) = some { cls := .type "list", dict := none, data := .seq ((List.range i).map fun j => Value.ref (n + 6 + j)).toArray c, slots := #[] } := hk _ _ (ne_add (by decide)) (ne_add (by decide)) (base_ne (by decide)) (ne_add (by decide)) hc
    refine hQ h' tk c ⟨by rw [hsz, a.sz]; omega, k5, fun h'' e1 e2 e3 => ?_⟩
    have e2' : ∀ (b : Nat) o, b ≠ 5 → h'.get? ((n + b : Nat) : Addr) = some o → h''.get? ((n + b : Nat) : Addr) = some o := fun b o hb => e2 _ o (ne_add hb)
    have el : ∀ (b : Addr) o, Nat.lt b n → h'.get? b = some o → h''.get? b = some o := fun b o hb => e2 b o (big_ne hb)
    refine ⟨by rw [e1, hsz, a.sz]; omega, e3, ?_, ?_, ?_, ?_, ?_, ?_, ?_⟩
    · obtain ⟨k, f, oT, z1, z2⟩ := hz
      exact .inr ⟨k, f, oT, e2' 4 _ (by decide) z1, e2 _ _ (ne6 (by decide)) z2⟩
    · exact e2' 2 _ (by decide) (hk _ _ (ne_add (by decide)) (ne_add (by decide)) (base_ne (by decide)) (ne_add (by decide)) a.ti)
    · obtain ⟨p, q, hpq⟩ := hTO
      exact ⟨p, q, e2' 3 _ (by decide) hpq⟩
    · exact ⟨hu1.1.at fun o e => e2' 0 o (by decide) e, hu1.2.at fun o e => el l1 o h1 e⟩
    · exact ⟨hu2.1.at fun o e => e2' 1 o (by decide) e, hu2.2.at fun o e => el l2 o h2 e⟩
    · intro j hj
      rcases Nat.lt_succ_iff_lt_or_eq.mp hj with hj | rfl
      · obtain ⟨x', y', p1, p2, p3⟩ := a.tup j hj
        refine ⟨x', y', p1, p2, ?_⟩
        exact e2 _ _ (ne6 (by decide)) (hk _ _ (ne6 (by decide)) (ne6 (by decide)) (ne6 (b := 0) (by decide)) (ne6 (by decide)) p3)
      · rw [a.sz] at hT
        exact ⟨x, y, hx, hy, e2 _ _ (ne6 (by decide)) hT⟩
    · intro b o hb e
      exact el b o hb (hk b o (big_ne hb) (big_ne hb) (big_ne (a := 0) hb) (big_ne hb) (a.kp b o hb e))
  have hszc : (Value.ref s.heap.objs.size) = Value.ref (n + 6 + i) := by rw [a.sz]
  rcases a.zp with ⟨hz, hi0⟩ | ⟨k, f, oT, hz, hT⟩
  · refine wpAny_pyNext_zipD2_item S D1 D2 hz a.ti hto a.u1 a.u2 lx ly fun x1 x2 h' tk p1 p2 z' to' v1 v2 t' sz' hk => ?_
    rw [hszc]
    refine fin x1 x2 h' tk p1 p2 ⟨i, false, _, by rw [← a.sz]; exact z', by rw [← a.sz]; exact t'⟩ v1 v2 t' ⟨_, _, to'⟩ sz' fun c o e1 e2 e3 e4 e5 => hk c o e1 e2 e3 e4 e5
  · refine pyNext_held S D1 D2 hz hT a.ti a.u1 a.u2 lx ly fun x1 x2 h' tk p1 p2 z' v1 v2 t' sz' hk => ?_
    rw [hszc]
    exact fin x1 x2 h' tk p1 p2 ⟨k, true, oT, z', hk _ _ (ne6 (by decide)) (ne6 (b := 0) (by decide)) (ne6 (by decide)) hT⟩ v1 v2 t' ⟨_, _, hk _ _ (ne_add (by decide)) (base_ne (by decide)) (ne_add (by decide)) hto⟩ sz' fun c o e1 e2 e3 e4 e5 => hk c o e1 e3 e4 e5
/-- the end -/
theorem last {s : Shared} {i : Nat} {E : Value → Shared → Prop} {Q : Option Value → Shared → Prop} (hh : A.handled = none) (h1 : Nat.lt l1 n) (h2 : Nat.lt l2 n) (a : At h0 n l1 l2 xs ys s.heap i) (lx : i = xs.size) (ly : i = ys.size)
    (hQ : ∀ h' tk, (∀ (c : Addr) o, c ≠ ((n + 4 : Nat) : Addr) → c ≠ ((n + 3 : Nat) : Addr) → c ≠ n → c ≠ ((n + 1 : Nat) : Addr) → s.heap.get? c = some o → h'.get? c = some o) → Q none { s with heap := h', toks := tk }) : wpAny (model prog w) A (pyNext (.ref (n + 4))) Q E s := by
  have S := sep n h1 h2
  have D1 := Draws.list (prog := prog) (w := w) (A := A.in1) hh n l1 (big_ne (a := 0) h1) xs
  have D2 := Draws.list (prog := prog) (w := w) (A := A.in1) hh (n + 1) l2 (big_ne h2) ys
  obtain ⟨a1, a2, hto⟩ := a.to
  rcases a.zp with ⟨hz, hi0⟩ | ⟨k, f, oT, hz, hT⟩
  · exact wpAny_pyNext_zipD2_end S D1 D2 hz a.ti hto a.u1 a.u2 (by omega) (by omega) (.inl lx) hQ
  · exact pyEnd_held S D1 hz hT a.ti (by rw [← lx]; exact a.u1) fun h' tk hk => hQ h' tk fun c o e1 _ e3 _ e5 => hk c o e1 e3 e5
/-- the list takes the pairs -/
theorem fill {R : Result → Shared → Prop} (hh : A.in1.handled = none) (h1 : Nat.lt l1 n) (h2 : Nat.lt l2 n) (hsz : xs.size = ys.size) (hbig : xs.size ≤ sizeLine) : ∀ (k i : Nat) (s : Shared), xs.size - i = k → i ≤ xs.size → At h0 n l1 l2 xs ys s.heap i →
    (∀ s' : Shared, s'.gens = s.gens → s'.drawn = s.drawn → s'.os = s.os → At h0 n l1 l2 xs ys s.heap i → (∃ c, s'.heap.get? (n + 5) = some { cls := .type "list", dict := none, data := .seq ((List.range xs.size).map fun j => Value.ref (n + 6 + j)).toArray c, slots := #[] }) →
      (∀ j, j < xs.size → ∃ x y, xs[j]? = some x ∧ ys[j]? = some y ∧ IsTupOf2 s'.heap (n + 6 + j) x y) → (∀ (c : Addr) o, Nat.lt c n → h0.get? c = some o → s'.heap.get? c = some o) → R (.ok (.ret .none)) s') →
    codeAny (model prog w) A (.builtin "list.extend.loop" ⟨[.ref (n + 5), .ref (n + 4), .none], []⟩) R s := by
  intro k
  induction k with
  | zero =>
    intro i s hk hi a hR
    have hix : i = xs.size := by omega
    refine codeAny_builtin F.entry_extend_loop ?_
    rw [Around.under_plainId F.plain_extend_loop _]
    show wpAny _ A.in1 (pyNext (.ref (n + 4)) >>= _) _ _ s
    refine wpAny_bind (last hh h1 h2 a hix (by omega) fun h' tk kp => ?_)
    obtain ⟨c, hc⟩ := a.lst
    refine wpAny_pure (hR { s with heap := h', toks := tk } rfl rfl rfl a ⟨c, ?_⟩ (fun j hj => ?_) fun b o hb e => ?_)
    · rw [hix] at hc
      exact kp _ _ (ne_add (by decide)) (ne_add (by decide)) (base_ne (by decide)) (ne_add (by decide)) hc
    · obtain ⟨x, y, p1, p2, p3⟩ := a.tup j (by omega)
      exact ⟨x, y, p1, p2, kp _ _ (ne6 (by decide)) (ne6 (by decide)) (ne6 (b := 0) (by decide)) (ne6 (by decide)) p3⟩
    · exact kp b o (big_ne hb) (big_ne hb) (big_ne (a := 0) hb) (big_ne hb) (a.kp b o hb e)
  | succ k ih =>
    intro i s hk hi a hR
    refine codeAny_builtin F.entry_extend_loop ?_
    rw [Around.under_plainId F.plain_extend_loop _]
    show wpAny _ A.in1 (pyNext (.ref (n + 4)) >>= _) _ _ s
    refine wpAny_bind (next hh h1 h2 a (by omega) (by omega) fun h' tk c q => ?_)
    obtain ⟨q1, q2, q3⟩ := q
    · show wpAny _ A.in1 (updateSeq (n + 5) (·.push (.ref (n + 6 + i))) >>= _) _ _ _
      refine wpAny_bind (wpAny_updateSeq q2 rfl ?_ (by simp; omega) (by simp; omega))
      have u5 := Heap.get?_update_self (Obj.mapSeq (·.push (Value.ref (n + 6 + i)))) q2 rfl
      have aa := q3 (h'.update (n + 5) (Obj.mapSeq (·.push (Value.ref (n + 6 + i))))) (Heap.size_update ..) (fun b o hb e => (Heap.get?_update_other _ _ (Ne.symm hb)).trans e) ⟨_, by rw [u5]; simp [Obj.mapSeq, List.range_succ]; rfl⟩
      exact wpAny_pure ⟨plainId_quiet F.plain_extend_loop _, ih (i + 1) { s with heap := h'.update (n + 5) (Obj.mapSeq (·.push (Value.ref (n + 6 + i)))), toks := tk } (by omega) (by omega) aa fun s' g1 g2 g3 _ r1 r2 r3 => hR s' g1 g2 g3 a r1 r2 r3⟩
end
section
variable {prog : Program} {w : World} {A : Around} {E : Value → Shared → Prop} {s : Shared} {n : Nat} {l1 l2 : Addr} {xs ys : Array Value}
/-- list(z), z a new zip of two lists -/
theorem call_list_zip {Q : Value → Shared → Prop} (hh : A.handled = none) (hn : s.heap.objs.size = n + 5) (h1 : Nat.lt l1 n) (h2 : Nat.lt l2 n) (hxy : xs.size = ys.size) (hbig : xs.size ≤ sizeLine)
    (z : IsZip s.heap (n + 4) (n + 2) (n + 3) .none) (ti : IsTupOf2 s.heap (n + 2) (.ref n) (.ref (n + 1))) (to : ∃ a b, IsTupOf2 s.heap (n + 3) a b) (u1 : s.heap.IsListIter n l1 0 ∧ s.heap.IsList l1 xs) (u2 : s.heap.IsListIter (n + 1) l2 0 ∧ s.heap.IsList l2 ys)
    (hQ : ∀ s' : Shared, s'.gens = s.gens → s'.drawn = s.drawn → s'.os = s.os → (∃ c, s'.heap.get? (n + 5) = some { cls := .type "list", dict := none, data := .seq ((List.range xs.size).map fun j => Value.ref (n + 6 + j)).toArray c, slots := #[] }) →
      (∀ j, j < xs.size → ∃ x y, xs[j]? = some x ∧ ys[j]? = some y ∧ IsTupOf2 s'.heap (n + 6 + j) x y) → (∀ (c : Addr) o, Nat.lt c n → s.heap.get? c = some o → s'.heap.get? c = some o) → Q (.ref (n + 5)) s') :
    wpAny (model prog w) A (call (.type "list") [.ref (n + 4)]) Q E s := by
  refine callType_codes (Q₁ := fun obj s₁ => obj = .ref (n + 5) ∧ s₁ = { s with heap := s.heap.push { cls := .type "list", data := .seq #[] } }) F.called_list (F.typeCall_list_1 _) F.entry_list_init
    (code_list_new _ ⟨by rw [hn], rfl⟩) fun obj s₁ e₁ => ?_
  obtain ⟨rfl, rfl⟩ := e₁
  have hS : (s.heap.push { cls := .type "list", data := .seq #[] }).get? (n + 5) = some { cls := .type "list", data := .seq #[] } := by rw [← hn]; exact Heap.get?_push_size _ rfl
  have pk : ∀ b o, s.heap.get? b = some o → (s.heap.push { cls := .type "list", data := .seq #[] }).get? b = some o := fun b o e => Heap.get?_push_of_some _ e
  have tz : Shared.TypeIs { s with heap := s.heap.push { cls := .type "list", data := .seq #[] } } (.ref (n + 4)) "zip" := ⟨_, pk _ _ z, rfl⟩
  refine ⟨⟨_, hS, rfl⟩, F.args_list_init_2 _ _, ?_⟩
  show wpAny _ A.in1.in1 (do let old ← Builtin.List.listItems (.ref (n + 5)); Builtin.List.listUpdate (.ref (n + 5)) (fun _ => #[]); letGo old.toList.reverse; Builtin.List.listExtendWith (.ref (n + 5)) (.ref (n + 4)) .none) _ _ _
  refine wpAny_bind ?_
  unfold Builtin.List.listItems
  refine wpAny_bind (wpAny_seqItems hS rfl (wpAny_pure ?_))
  show wpAny _ A.in1.in1 (updateSeq (n + 5) (fun _ => #[]) >>= fun _ => letGo (#[] : Array Value).toList.reverse >>= fun _ => Builtin.List.listExtendWith (.ref (n + 5)) (.ref (n + 4)) .none) _ _ _
  have b1 := Heap.SameBut.update (s.heap.push { cls := .type "list", data := .seq #[] }) (n + 5) (Obj.mapSeq (fun _ => (#[] : Array Value)))
  have hS1 := Heap.get?_update_self (Obj.mapSeq (fun _ => (#[] : Array Value))) hS rfl
  refine wpAny_bind (wpAny_updateSeq hS rfl ?_)
  have sz1 : ((s.heap.push { cls := .type "list", data := .seq #[] }).update (n + 5) (Obj.mapSeq (fun _ => (#[] : Array Value)))).objs.size = n + 6 := by rw [Heap.size_update, Heap.size_push, hn]
  have k1 : ∀ (b : Addr) o, b ≠ ((n + 5 : Nat) : Addr) → s.heap.get? b = some o → ((s.heap.push { cls := .type "list", data := .seq #[] }).update (n + 5) (Obj.mapSeq (fun _ => (#[] : Array Value)))).get? b = some o := fun b o hb e => (b1.2 b hb).trans (pk b o e)
  generalize (s.heap.push { cls := .type "list", data := .seq #[] }).update (n + 5) (Obj.mapSeq (fun _ => (#[] : Array Value))) = g1 at hS1 sz1 k1 ⊢
  refine wpAny_bind (wpAny_letGo ?_)
  have tz1 : Shared.TypeIs { s with heap := g1 } (.ref (n + 4)) "zip" := ⟨_, k1 _ _ (ne_add (by decide)) z, rfl⟩
  unfold Builtin.List.listExtendWith
  refine wpAny_bind (wpAny_typeOf tz1 ?_)
  have e1 : Builtin.List.listSameRef (.ref (n + 5)) (.ref (n + 4)) = false := by simp [Builtin.List.listSameRef]
  have e2 : (Value.type "zip" == Value.type "list") = false := by decide
  have e3 : (Value.type "zip" == Value.type "tuple") = false := by decide
  simp only [e1, e2, e3, Bool.or_false, Bool.false_eq_true, if_false]
  refine wpAny_bind (wpAny_pyIter_zip (k1 _ _ (ne_add (by decide)) z) ?_)
  refine wpAny_bind (wpAny_holding ?_)
  unfold Builtin.List.listLengthHint
  refine wpAny_bind (wpAny_specialOf tz1 zip_no_len ?_)
  show wpAny _ A.in1.in1 (specialOf (Value.ref (n + 4)) (Str.ofString "__length_hint__") >>= _) _ _ _
  refine wpAny_bind (wpAny_specialOf tz1 zip_no_hint ?_)
  refine wpAny_pure ?_
  show wpAny _ A.in1.in1 (rule "list.extend.makes-room" >>= fun _ => Builtin.List.listTouch (.ref (n + 5)) >>= fun _ => again (.builtin "list.extend.loop" ⟨[.ref (n + 5), .ref (n + 4), .none], []⟩)) _ _ _
  refine wpAny_bind (wpAny_rule (wpAny_bind ?_))
  show wpAny _ A.in1.in1 (updateSeq (n + 5) (·.push .none) >>= fun _ => updateSeq (n + 5) (·.pop)) _ _ _
  refine wpAny_bind (wpAny_updateSeq hS1 rfl ?_)
  have hS2 := Heap.get?_update_self (Obj.mapSeq (·.push Value.none)) hS1 rfl
  refine wpAny_updateSeq (hz := by seq_fits) hS2 rfl ?_
  have hS3 := Heap.get?_update_self (Obj.mapSeq (·.pop)) hS2 rfl
  have k3 : ∀ (b : Addr) o, b ≠ ((n + 5 : Nat) : Addr) → s.heap.get? b = some o → ((g1.update (n + 5) (Obj.mapSeq (·.push Value.none))).update (n + 5) (Obj.mapSeq (·.pop))).get? b = some o :=
    fun b o hb e => (Heap.get?_update_other _ _ (Ne.symm hb)).trans ((Heap.get?_update_other _ _ (Ne.symm hb)).trans (k1 b o hb e))
  have sz3 : ((g1.update (n + 5) (Obj.mapSeq (·.push Value.none))).update (n + 5) (Obj.mapSeq (·.pop))).objs.size = n + 6 := by rw [Heap.size_update, Heap.size_update, sz1]
  generalize (g1.update (n + 5) (Obj.mapSeq (·.push Value.none))).update (n + 5) (Obj.mapSeq (·.pop)) = g3 at hS3 k3 sz3 ⊢
  obtain ⟨p, q, hto⟩ := to
  have a0 : At s.heap n l1 l2 xs ys g3 0 := by
    refine ⟨sz3, ⟨_, hS3⟩, .inl ⟨k3 _ _ (ne_add (by decide)) z, rfl⟩, k3 _ _ (ne_add (by decide)) ti, ⟨p, q, k3 _ _ (ne_add (by decide)) hto⟩, ?_, ?_, fun j hj => absurd hj (Nat.not_lt_zero _), fun b o hb e => k3 b o (big_ne hb) e⟩
    · exact ⟨u1.1.at fun o e => k3 _ o (fun z => (base_ne (a := 5) (by decide)) z.symm) e, u1.2.at fun o e => k3 _ o (big_ne h1) e⟩
    · exact ⟨u2.1.at fun o e => k3 _ o (ne_add (by decide)) e, u2.2.at fun o e => k3 _ o (big_ne h2) e⟩
  refine wpAny_pure ⟨plainId_quiet F.plain_extend_loop _, fill (A := A.in1) (h0 := s.heap) hh h1 h2 hxy hbig _ 0 { s with heap := g3 } rfl (Nat.zero_le _) a0 fun s' e1 e2 e3 _ r1 r2 r3 => ?_⟩
  exact ⟨rfl, hQ s' e1 e2 e3 r1 r2 r3⟩
end
section
open L2 Kv
variable {X : Cx} {pins : List (Addr × Obj)} {σ : L2.St} {H : Hp} {s : Shared}
/-- pairs at b0, b0 + 1, .. -/
def tupH (H : Hp) (b0 : Nat) (xs ys : List V) : Nat → Hp
  | 0 => H
  | k + 1 => upd (tupH H b0 xs ys k) (b0 + k) (.tup [xs.getD k .non, ys.getD k .non])
theorem tupH_lt {b0 : Nat} {xs ys : List V} : ∀ (k : Nat) (b : Addr), Nat.lt b b0 → tupH H b0 xs ys k b = H b
  | 0, _, _ => rfl
  | k + 1, b, h => by
    show upd _ _ _ b = _
    rw [upd_ne (big_ne h)]; exact tupH_lt k b h
theorem tupH_ge {b0 : Nat} {xs ys : List V} : ∀ (k j : Nat), k ≤ j → tupH H b0 xs ys k ((b0 + j : Nat) : Addr) = H ((b0 + j : Nat) : Addr)
  | 0, _, _ => rfl
  | k + 1, j, h => by
    show upd _ _ _ _ = _
    rw [upd_ne (ne_add (by omega))]; exact tupH_ge k j (by omega)
theorem tupH_at {b0 : Nat} {xs ys : List V} : ∀ (k j : Nat), j < k → tupH H b0 xs ys k ((b0 + j : Nat) : Addr) = some (.tup [xs.getD j .non, ys.getD j .non])
  | 0, _, h => absurd h (Nat.not_lt_zero _)
  | k + 1, j, h => by
    show upd _ _ _ _ = _
    rcases Nat.lt_succ_iff_lt_or_eq.mp h with h | rfl
    · rw [upd_ne (ne_add (by omega))]; exact tupH_at k j h
    · exact upd_same
theorem vals_get : ∀ {xs : List V} {us : List Value}, Vals xs us → ∀ {j : Nat} {u : Value}, us[j]? = some u → RelV (xs.getD j .non) u
  | _, _, .nil, _, _, e => by cases e
  | _, _, .cons h t, 0, _, e => by cases e; exact h
  | _, _, .cons h t, j + 1, _, e => vals_get t (j := j) (by simpa using e)
theorem inv_pairs {s0 : Shared} {b0 : Nat} {xs ys : List V} {us ws : List Value} (I0 : Inv X pins σ H s0) (I : Inv X pins σ H s) (hb : s0.heap.objs.size ≤ b0) (rx : Vals xs us) (ry : Vals ys ws) :
    ∀ k, (∀ j, j < k → ∃ x y, us[j]? = some x ∧ ws[j]? = some y ∧ IsTupOf2 s.heap ((b0 + j : Nat) : Addr) x y) → Inv X pins σ (tupH H b0 xs ys k) s
  | 0, _ => I
  | k + 1, h => by
    have ih := inv_pairs I0 I hb rx ry k fun j hj => h j (by omega)
    obtain ⟨x, y, e1, e2, e3⟩ := h k (by omega)
    have hn : tupH H b0 xs ys k ((b0 + k : Nat) : Addr) = none := by
      rw [tupH_ge k k (Nat.le_refl _)]
      exact I0.hok.fresh (Nat.le_trans hb (Nat.le_add_right _ _))
    have fp := I0.fpOk (H' := tupH H b0 xs ys k) (b := ((b0 + k : Nat) : Addr)) (Nat.le_trans hb (Nat.le_add_right _ _)) hn
    exact ih.take (t' := s.toks) (h' := s.heap) (fun _ _ _ e => e) fp ⟨by show 2 ≤ sizeLine; decide, [x, y], .cons (vals_get rx e1) (.cons (vals_get ry e2) .nil), ⟨_, e3, rfl, _, rfl⟩⟩
theorem vals_range (b0 : Nat) : ∀ m : Nat, Vals ((List.range m).map fun j => V.ref (b0 + j)) ((List.range m).map fun j => Value.ref (b0 + j)) := by
  intro m
  have go : ∀ l : List Nat, Vals (l.map fun j => V.ref (b0 + j)) (l.map fun j => Value.ref (b0 + j)) := by
    intro l
    induction l with
    | nil => exact .nil
    | cons a l ih => exact .cons rfl ih
  exact go _
variable {e1 e2 : Expr} {ta : TA} {p p2 pos2 pos : Pos}
/-- list(zip(xs, ys)), lists of one length -/
theorem pe_lzip (hc : X.calm = true) (hg : Gl X "list") (hm : X.mg "list" = none) (gz : Gl X "zip") (mz : X.mg "zip" = none) (ha : PA X [e1, e2] ta)
    (hs : starEach [e1, e2] X.env = (false, eval e1 X.env) :: starEach [e2] X.env := by rfl) (hpl : (backTo pos2 (starEach [e2] X.env)).any (·.1) = false := by rfl)
    (hs1 : starEach [.Call (.Name "zip" p2) [e1, e2] [] pos2] X.env = (false, eval (.Call (.Name "zip" p2) [e1, e2] [] pos2) X.env) :: starEach [] X.env := by rfl) (hpl1 : (backTo pos (starEach [] X.env)).any (·.1) = false := by rfl) :
    PE X (.Call (.Name "list" p) [.Call (.Name "zip" p2) [e1, e2] [] pos2] [] pos)
      (fun σ H Q => ta σ H fun vs H1 => ∃ (a b : Addr) (xs ys : List V), vs = [.ref a, .ref b] ∧ SqL X.K H1 a xs ∧ SqL X.K H1 b ys ∧ xs.length = ys.length ∧ ∀ H2 (r : Addr) (ts : List Addr), Le H1 H2 → ts.length = xs.length →
        (∀ t ∈ ts, H1 t = none) → (∀ j t, ts[j]? = some t → H2 t = some (.tup [xs.getD j .non, ys.getD j .non])) → r ∉ ts → H1 r = none → H2 r = some (.lst (ts.map V.ref)) → Q (.ref r) H2) := by
  refine ⟨fun ps s σ H Q I h => ?_⟩
  refine wpAny_Call_Name_kw (ld_blt I hg hm PyProof.Rows.boot_list ?_)
  refine PyProof.Rows.callWith_type1 ?_ hs1 hpl1
  rw [hs1]
  show wpAny _ _ (spliced ((false, eval (.Call (.Name "zip" p2) [e1, e2] [] pos2) X.env) :: backTo pos (starEach [] X.env))) _ _ s
  refine Calls.spliced_cons ?_
  refine wpAny_Call_Name_kw (ld_blt I gz mz PyProof.Rows.boot_zip ?_)
  refine PyProof.Rows.callWith_type1 (thn (ha.run pos2 ps s σ H _ I h) fun us s1 ⟨vs, H1, I1, r1, q1⟩ => ?_) hs hpl
  obtain ⟨a, b, xs, ys, rfl, hx, hy, hl, q⟩ := q1
  obtain ⟨ua, ub, rfl, ra, rb⟩ := vals2 r1
  cases ra
  cases rb
  obtain ⟨its, rx, plx, hzx⟩ := I1.list hx
  obtain ⟨itt, ry, ply, hzy⟩ := I1.list hy
  refine call_zip_2 plx.isList ply.isList fun h' k1 k2 k3 k4 k5 sz hk => ?_
  refine Calls.spliced_nil ?_
  have la : Nat.lt a s1.heap.objs.size := by obtain ⟨o, e, _⟩ := plx.isList; exact Heap.lt_size e
  have lb : Nat.lt b s1.heap.objs.size := by obtain ⟨o, e, _⟩ := ply.isList; exact Heap.lt_size e
  have keepL : ∀ {l : Addr} {xs : Array Value}, s1.heap.IsList l xs → h'.IsList l xs := fun ⟨o, e, r⟩ => ⟨o, hk _ _ e, r⟩
  have hlen : its.toArray.size = itt.toArray.size := by rw [List.size_toArray, List.size_toArray, ← rx.length, ← ry.length, hl]
  refine call_list_zip (s := { s1 with heap := h' }) (n := s1.heap.objs.size) (I1.ok.hd hc) sz la lb hlen (by rw [List.size_toArray, ← rx.length]; exact hzx) k1 k2 ⟨_, _, k3⟩ ⟨k4, keepL plx.isList⟩ ⟨k5, keepL ply.isList⟩ fun s' g1 g2 g3 ⟨c, hlst⟩ htup hkp => ?_
  have hm : its.toArray.size = xs.length := by rw [List.size_toArray, ← rx.length]
  rw [hm] at hlst htup
  have kall : ∀ c o, s1.heap.get? c = some o → s'.heap.get? c = some o := fun c o e => hkp c o (Heap.lt_size e) (hk c o e)
  have es : s' = { s1 with heap := s'.heap, toks := s'.toks } := by
    cases s'
    cases s1
    cases g1
    cases g2
    cases g3
    rfl
  have I2 : Inv X ps σ H1 s' := by rw [es]; exact I1.kept kall
  have I3 := inv_pairs (b0 := s1.heap.objs.size + 6) I1 I2 (Nat.le_add_right _ _) rx ry xs.length (fun j hj => by
    obtain ⟨x, y, q1, q2, q3⟩ := htup j hj
    exact ⟨x, y, by simpa using q1, by simpa using q2, q3⟩)
  have hr0 : tupH H1 (s1.heap.objs.size + 6) xs ys xs.length (s1.heap.objs.size + 5) = none := by
    rw [tupH_lt _ _ (show Nat.lt (s1.heap.objs.size + 5) (s1.heap.objs.size + 6) from Nat.lt_succ_self _)]
    exact I1.hok.fresh (Nat.le_add_right _ _)
  have I4 := I3.take (t' := s'.toks) (h' := s'.heap) (o := .lst ((List.range xs.length).map fun j => V.ref (s1.heap.objs.size + 6 + j))) (fun _ _ _ e => e) (I1.fpOk (b := s1.heap.objs.size + 5) (Nat.le_add_right _ _) hr0)
    ⟨by rw [List.length_map, List.length_range]; exact hzx, _, c, vals_range _ _, hlst⟩
  refine ⟨.ref (s1.heap.objs.size + 5), _, I4, rfl, q _ _ ((List.range xs.length).map fun j => s1.heap.objs.size + 6 + j) (fun b o e => ?_) (by simp) (fun t ht => ?_) (fun j t ht => ?_) ?_ (I1.hok.fresh (Nat.le_add_right _ _)) ?_⟩
  · have hlt : Nat.lt b s1.heap.objs.size := (I1.hok b o e).lt
    rw [upd_ne (big_ne hlt), tupH_lt _ _ (Nat.lt_of_lt_of_le hlt (Nat.le_add_right _ _))]
    exact e
  · obtain ⟨j, _, rfl⟩ := List.mem_map.mp ht
    exact I1.hok.fresh (Nat.le_trans (Nat.le_add_right _ _) (Nat.le_add_right _ _))
  · rw [List.getElem?_map] at ht
    obtain ⟨j', hj', rfl⟩ := Option.map_eq_some_iff.mp ht
    have hjj : j' = j ∧ j < xs.length := by
      obtain ⟨h1, h2⟩ := List.getElem?_eq_some_iff.mp hj'
      rw [List.getElem_range] at h2
      rw [List.length_range] at h1
      exact ⟨h2.symm, h1⟩
    rw [hjj.1, upd_ne (ne6 (by decide)), tupH_at _ _ hjj.2]
  · intro hm
    obtain ⟨j, _, hj⟩ := List.mem_map.mp hm
    exact ne6 (n := s1.heap.objs.size) (j := j) (b := 5) (by decide) hj
  · rw [upd_same, List.map_map]; rfl
end
end KvY
namespace Kv
open PySem PySem.Spec PyProof.Rows L2
section
variable {X : Cx} {σ : L2.St} {B : Hp} {L : HL} {Q : KQ} {D : KD} {e1 e2 : Expr} {p p2 pos2 pos : Pos}
/-- list(zip(xs, ys)): the pairs go to the base -/
theorem k_lzip (hm : X.mg "list" = none) (mz : X.mg "zip" = none) (h : kA X [e1, e2] σ B L fun vs B1 L1 => ∃ (a b : Addr) (xs ys : List V), vs = [.ref a, .ref b] ∧ Ls X.K B1 L1 a xs ∧ Ls X.K B1 L1 b ys ∧ xs.length = ys.length ∧
      ∀ B2 (r : Addr) (ts : List Addr), Le B1 B2 → ts.length = xs.length → (∀ j t, ts[j]? = some t → B2 t = some (.tup [xs.getD j .non, ys.getD j .non])) → Q (.ref r) B2 ((r, .lst (ts.map V.ref)) :: L1))
    (hc : X.calm = true := by rfl) (hg : Gl X "list" := by rfl) (gz : Gl X "zip" := by rfl)
    (hs : starEach [e1, e2] X.env = (false, eval e1 X.env) :: starEach [e2] X.env := by rfl) (hpl : (backTo pos2 (starEach [e2] X.env)).any (·.1) = false := by rfl)
    (hs1 : starEach [.Call (.Name "zip" p2) [e1, e2] [] pos2] X.env = (false, eval (.Call (.Name "zip" p2) [e1, e2] [] pos2) X.env) :: starEach [] X.env := by rfl) (hpl1 : (backTo pos (starEach [] X.env)).any (·.1) = false := by rfl) :
    kE X (.Call (.Name "list" p) [.Call (.Name "zip" p2) [e1, e2] [] pos2] [] pos) σ B L Q :=
  ⟨_, KvY.pe_lzip hc hg hm gz mz pa_c hs hpl hs1 hpl1, fun H s => toA s h fun vs H1 B1 L1 s1 ⟨a, b, xs, ys, e, h1, h2, hl, q⟩ => ⟨a, b, xs, ys, e, h1.at s1, h2.at s1, hl, fun H2 r ts le hts hn htp hrn hr1 hr2 => by
    have nb : ∀ t ∈ ts, B1 t = none := fun t ht => s1.free (hn t ht)
    refine ⟨fun b => if b ∈ ts then H2 b else B1 b, (r, .lst (ts.map V.ref)) :: L1, ⟨fun b o e => ?_, fun p hp => ?_, fun p hp => ?_, ?_⟩, q _ r ts (fun b o e => ?_) hts fun j t ht => ?_⟩
    · split at e
      · exact e
      · exact le _ _ (s1.ext _ _ e)
    · rcases List.mem_cons.mp hp with rfl | hp
      · exact hr2
      · exact le _ _ (s1.own p hp)
    · rcases List.mem_cons.mp hp with rfl | hp
      · show (if r ∈ ts then H2 r else B1 r) = none
        rw [if_neg hrn]; exact s1.free hr1
      · have hpt : p.1 ∉ ts := fun hm => by
          have := hn _ hm
          rw [s1.own p hp] at this; cases this
        show (if p.1 ∈ ts then H2 p.1 else B1 p.1) = none
        rw [if_neg hpt]; exact s1.nb p hp
    · rw [List.map_cons, List.nodup_cons]
      exact ⟨s1.notin hr1, s1.nd⟩
    · have hbt : b ∉ ts := fun hm => by
        have := nb b hm
        rw [e] at this; cases this
      show (if b ∈ ts then H2 b else B1 b) = _
      rw [if_neg hbt]; exact e
    · show (if t ∈ ts then H2 t else B1 t) = _
      rw [if_pos (List.mem_of_getElem? ht)]
      exact htp j t ht⟩⟩
end
end Kv

/-! for over a tuple that the head makes; comprehensions over lists of pairs. -/
namespace Kv
open PySem PySem.Spec PyProof.Rows L2
section
variable {X : Cx} {σ : L2.St} {B : Hp} {L : HL} {Q : KQ} {D : KD} {pos p2 pos' : Pos} {e iter a b c elt : Expr} {scope : Scope}
theorem k_for_t2 {tg : Expr} {body : List Stmt} (hp : PassesOwn (model X.prog X.w) X.A X.env X.xe)
    (h : kE X iter σ B L fun v B1 L1 => ∃ (a : Addr) (xs : List V) (Pv : Nat → KN), v = .ref a ∧ Tp X.K B1 L1 a xs ∧ Pv 0 σ B1 L1 ∧ (∀ i σ B L, i ≤ xs.length → Pv i σ B L → Tp X.K B L a xs) ∧
      (∀ i x σ B L, xs[i]? = some x → Pv i σ B L → kG X tg x σ B L fun σ2 B2 L2 => kSs X body σ2 B2 L2 { D with nx := Pv (i + 1), ct := Pv (i + 1), bk := D.nx }) ∧ ∀ σ B L, Pv xs.length σ B L → D.nx σ B L)
    (hc : X.calm = true := by rfl) (hs : ∀ x, foldedSetIterable iter X.env x = pure x := by intro _; rfl) : kS X (.For tg iter body [] pos) σ B L D :=
  k_for hp (r_tup (by
    obtain ⟨t, h1, h2⟩ := h
    refine ⟨_, pe_c, fun H s => toE s ⟨t, h1, h2⟩ fun v H' B' L' s' ⟨a, xs, Pv, e, hl, p0, hL, ht, hd⟩ => ⟨B', L', s', a, xs, e, hl, xs.length, _, _, Pv, walk_tup, p0, fun i σ B L H hi p s => (hL i σ B L hi p).at s, fun i x σ B L H H' hi p s y => ?_, hd⟩⟩
    obtain ⟨rfl, hx⟩ := y
    exact ⟨B, L, s, ht i x σ B L hx p⟩)) hc hs
/-- a list of pairs of texts -/
abbrev pV (q : List Nat × List Nat) : List V := [.str (sOf q.1), .str (sOf q.2)]
def Prs (K : PySem.W.Frag) (B : Hp) (L : HL) (p : Addr) (ts : List Addr) (ps : List (List Nat × List Nat)) : Prop := Ls K B L p (ts.map V.ref) ∧ ts.length = ps.length ∧ ∀ (j : Nat) t q, ts[j]? = some t → ps[j]? = some q → B t = some (.tup (pV q))
/-- [elt for x, y in a list of pairs] -/
theorem k_lcm_p {x y : Str} {i j kk : Nat} {px py tpos : Pos} (g : List Nat × List Nat → V) (hN : X.N.Nodup) (ok : BlkOk X.N X.env.scope scope [(x, i), (y, j)])
    (h : kE X iter σ B L fun v B1 L1 => ∃ (a : Addr) (ts : List Addr) (ps : List (List Nat × List Nat)), v = .ref a ∧ Prs X.K B1 L1 a ts ps ∧ ps.length ≤ 16777216 ∧ (∀ q ∈ ps, ∀ D acc s H0 C cl fp, kE (Bk X scope s H0 C cl fp) elt ((σ.set i (some (.str (sOf q.1)))).set j (some (.str (sOf q.2)))) B1 ((D, .lst acc) :: L1) fun y B3 L3 => y = g q ∧ B3 = B1 ∧ L3 = (D, .lst acc) :: L1) ∧
      ∀ D, Q (.ref D) B1 ((D, .lst (ps.map g)) :: L1))
    (hp : ∀ s H0 C cl fp, Loc (Bk X scope s H0 C cl fp).env.scope x ∧ Loc (Bk X scope s H0 C cl fp).env.scope y := by intro _ _ _ _ _; exact ⟨Or.inl rfl, Or.inl rfl⟩) (hf : ∀ s H0 C cl fp, (Bk X scope s H0 C cl fp).env.scope.names.lookup x = some .local ∧ (Bk X scope s H0 C cl fp).env.scope.names.lookup y = some .local := by intro _ _ _ _ _; exact ⟨rfl, rfl⟩)
    (hn : ∀ s H0 C cl fp, (assignEach [.Name x px, .Name y py] (Bk X scope s H0 C cl fp).env).length = 2 := by intro _ _ _ _ _; rfl) (hfi : ∀ s H0 C cl fp, (assignEach [.Name x px, .Name y py] (Bk X scope s H0 C cl fp).env).findIdx? (·.1) = none := by intro _ _ _ _ _; rfl)
    (h1 : ∀ s H0 C cl fp, (assignEach [.Name x px, .Name y py] (Bk X scope s H0 C cl fp).env).map (·.2) = assign (.Name x px) (Bk X scope s H0 C cl fp).env :: (assignEach [.Name y py] (Bk X scope s H0 C cl fp).env).map (·.2) := by intro _ _ _ _ _; rfl)
    (h2 : ∀ s H0 C cl fp, (assignEach [.Name y py] (Bk X scope s H0 C cl fp).env).map (·.2) = assign (.Name y py) (Bk X scope s H0 C cl fp).env :: (assignEach [] (Bk X scope s H0 C cl fp).env).map (·.2) := by intro _ _ _ _ _; rfl)
    (hi : X.N[i]? = some x := by rfl) (hj : X.N[j]? = some y := by rfl) (hc : X.calm = true := by rfl) (hs : ∀ x, foldedSetIterable iter X.env x = pure x := by intro _; rfl) :
    kL X elt (.Tuple [.Name x px, .Name y py] kk tpos) iter [] scope [(x, i), (y, j)] σ B L Q :=
  k_lc hN ok (r_list (by
    obtain ⟨t, k1, k2⟩ := h
    refine ⟨_, pe_c, fun H s => toE s ⟨t, k1, k2⟩ fun v H' B1 L1 s' ⟨a, ts, ps, e, hpr, hl, ht, hd⟩ => ⟨B1, L1, s', a, ts.map V.ref, e, hpr.1, (ts.map V.ref).length, _, _, fun i acc B L => B = B1 ∧ L = L1 ∧ acc = (ps.map g).take i, walk_list, ⟨rfl, rfl, by simp⟩, ?_, ?_, ?_⟩⟩
    · rintro i acc B L H hi ⟨rfl, rfl, _⟩ s
      exact hpr.1.at s
    · rintro D n acc z B L H H' hn' ⟨rfl, rfl, rfl⟩ s ⟨rfl, hx⟩
      rw [List.getElem?_map] at hx
      obtain ⟨tn, htn, rfl⟩ := Option.map_eq_some_iff.mp hx
      have hnl := (List.getElem?_eq_some_iff.mp htn).1
      have hlen := hpr.2.1
      obtain ⟨q, hq⟩ : ∃ q, ps[n]? = some q := ⟨_, List.getElem?_eq_getElem (by omega)⟩
      have hqm := List.mem_of_getElem? hq
      have htup := hpr.2.2 n tn q htn hq
      refine ⟨_, _, s, fun sa Ha Ca cla fpa => ?_⟩
      have hT : Tp (Bk X scope sa Ha Ca cla fpa).K B ((D, .lst ((ps.map g).take n)) :: L) tn (pV q) := .inl (.inl (.inl htup))
      refine g_tup (n := 2) hT rfl ?_ hc (hn sa Ha Ca cla fpa) (hfi sa Ha Ca cla fpa)
      refine gs_cons (g_name i ?_ hN hi (hp sa Ha Ca cla fpa).1 (.inr (hf sa Ha Ca cla fpa).1)) (h1 sa Ha Ca cla fpa)
      refine gs_cons (g_name j ?_ hN hj (hp sa Ha Ca cla fpa).2 (.inr (hf sa Ha Ca cla fpa).2)) (h2 sa Ha Ca cla fpa)
      refine gs_nil ⟨wipe2 σ i j _ _, fun sb Hb Cb clb fpb => ?_⟩
      show kE _ _ (((wipe σ [i, j]).set i _).set j _) _ _ _
      rw [wipe2']
      obtain ⟨t2, m1, m2⟩ := ht q hqm D ((ps.map g).take n) sb Hb Cb clb fpb
      refine ⟨_, pe_c, fun H s => toE s ⟨t2, m1, m2⟩ fun y H2 B2 L2 s2 ⟨e1, e2, e3⟩ => ⟨B2, L2, s2, ?_, L, e3, e2, rfl, ?_⟩⟩
      · simp; omega
      · rw [e1, List.take_add_one, List.getElem?_map, hq]; simp
    · rintro acc B L D ⟨rfl, rfl, rfl⟩
      have hlen := hpr.2.1
      have e2 : (ts.map V.ref).length = (ps.map g).length := by rw [List.length_map, List.length_map, hlen]
      rw [e2, List.take_length]
      exact hd D)) hc hs
end
end Kv

/-! Defs as values; more of lists. -/
namespace Kv
open PySem PySem.Spec PyProof.Rows L2
/-- a def as a value -/
structure FnV (P : Program) (w : World) (K : PySem.W.Frag) (mg : Str → Option Value) (base : Heap) (k : Nat) (f : Addr) (sp : Sp) : Prop where
  ex : ∃ fd ps, FnOk P w K mg base (L2.CX P w) k f fd ps sp ∧ PySem.W.keepIn K (.ref f) = true ∧ Binds K fd ps []
theorem Fn.val {P : Program} {w : World} {K : PySem.W.Frag} {mg : Str → Option Value} {base : Heap} {k : Nat} {x : Str} {sp : Sp} (F : Fn P w K mg base k x sp) : ∃ f, mg x = some (.ref f) ∧ FnV P w K mg base k f sp := by
  obtain ⟨f, fd, ps, h1, h2, h3, h4⟩ := F.ex
  exact ⟨f, h2, ⟨fd, ps, h1, h3, h4⟩⟩
section
variable {X : Cx} {σ : L2.St} {B : Hp} {L : HL} {Q : KQ} {pos p2 : Pos} {a b e : Expr} {es rest : List Expr}
theorem pe_callLS {i k : Nat} {f : Addr} {fd : FuncData} {ps : List Str} {sp : Sp} {E : L2.St → XK} {x : Str} {t : TA} (F : FnOk X.prog X.w X.K X.mg X.base (L2.CX X.prog X.w) k f fd ps sp) (hr : Room k X.A) (hN : X.N[i]? = some x) (hv : Vis X.env.scope x) (hk : PySem.W.keepIn X.K (.ref f) = true) (hb : Binds X.K fd ps []) (hx : ∀ σ, PassesAt (L2.CX X.prog X.w) X σ (E σ)) (ha : PA X (e :: es) t)
    (hdb : (x == ("__debug__" : Str)) = false := by decide) (hcd : (x == ("__classdict__" : Str)) = false := by decide)
    (he : starEach (e :: es) X.env = (false, eval e X.env) :: starEach es X.env := by rfl) (hpl : (backTo pos (starEach es X.env)).any (·.1) = false := by rfl) :
    PE X (.Call (.Name x p2) (e :: es) [] pos) (fun σ H Q => σ[i]? = some (some (.ref f)) ∧ t σ H fun vs H1 => sp vs H1 Q (E σ)) := by
  refine ⟨fun pins s σ H Q I h => ?_⟩
  obtain ⟨hs, ht⟩ := h
  refine wpAny_Call_Name_kw (thn ((pe_var (pos := p2) hN hv hdb hcd).run pins s σ H (fun v H1 => v = .ref f ∧ H1 = H) I ⟨.ref f, hs, rfl, rfl⟩) fun u s1 ⟨v, H1, I1, r1, q1⟩ => ?_)
  obtain ⟨rfl, rfl⟩ := q1
  cases r1
  refine PySem.W.callWith_K (h₀ := X.base) I.ok.mod.kin hk (thn (ha.run pos pins s1 σ _ _ I1 ht) fun us s2 ⟨vs, H2, I2, r, q⟩ => ⟨I2.kIn, ?_⟩) he hpl
  exact run_fnS F hr hb (hx σ) I2 r q
/-- a call of a local name that holds a def -/
theorem k_callL (i : Nat) {x : Str} {k : Nat} {f : Addr} {sp : Sp} {W : WX} (F : FnV X.prog X.w X.K X.mg X.base k f sp) (hr : Room k X.A) (tk : Takes X W) (h : kA X (e :: es) σ B L fun vs B1 L1 => ∀ H, Sat B1 L1 H → sp vs H (up Q) (WE W σ)) (hi : X.N[i]? = some x := by rfl) (hs : σ[i]? = some (some (.ref f)) := by rfl)
    (hv : Vis X.env.scope x := by first | exact Or.inl rfl | exact Or.inr (Or.inl rfl) | exact Or.inr (Or.inr rfl)) (hdb : (x == ("__debug__" : Str)) = false := by decide) (hcd : (x == ("__classdict__" : Str)) = false := by decide)
    (he : starEach (e :: es) X.env = (false, eval e X.env) :: starEach es X.env := by rfl) (hpl : (backTo pos (starEach es X.env)).any (·.1) = false := by rfl) : kE X (.Call (.Name x p2) (e :: es) [] pos) σ B L Q := by
  obtain ⟨fd, ps, hF, hk, hb⟩ := F.ex
  exact ⟨_, pe_callLS hF hr hi hv hk hb (fun σ => passAt tk σ) pa_c hdb hcd he hpl, fun H s => ⟨hs, toA s h fun _ _ _ _ s q => q _ s⟩⟩
/-- a list or another thing -/
theorem k_orL (h : kE X a σ B L fun x B1 L1 => ∃ p xs, x = .ref p ∧ Ls X.K B1 L1 p xs ∧ (xs ≠ [] → Q x B1 L1) ∧ (xs = [] → kE X (.BoolOp .Or (b :: rest) pos) σ B1 L1 Q)) : kE X (.BoolOp .Or (a :: b :: rest) pos) σ B L Q :=
  ⟨_, pe_orT pe_c pe_c, fun H s => toE s h fun v H1 B1 L1 s1 ⟨p, xs, e, hl, h1, h2⟩ => by
    subst e
    cases xs with
    | nil => exact ⟨false, .inl ⟨[], hl.at s1, rfl⟩, toE s1 (h2 rfl) fun _ _ _ _ s q => ⟨_, _, s, q⟩⟩
    | cons z zs => exact ⟨true, .inl ⟨z :: zs, hl.at s1, rfl⟩, ⟨_, _, s1, h1 (by simp)⟩⟩⟩
/-- list * int -/
theorem o_repl {p : Addr} {xs : List V} {n : Nat} (h1 : At B L p (.lst xs)) (hn : (n : Int) < 2 ^ 62) (hl : xs.length * n ≤ 16777216) (h : ∀ r, Q (.ref r) B ((r, .lst (List.replicate n xs).flatten) :: L)) : kO X (binaryOp .Mult) (.ref p) (.int (n : Int)) B L Q :=
  ⟨_, op_rep, fun H s => ⟨p, _, xs, rfl, rfl, h1.at s, by omega, by omega, by rw [Int.toNat_natCast]; exact small hl, fun r hr => ⟨_, _, s.new hr, by rw [Int.toNat_natCast]; exact h r⟩⟩⟩
end
section
variable {X : Cx} {σ : L2.St} {B : Hp} {L : HL} {Q : KQ}
theorem count_of {y : V} : ∀ {ys : List V} {its : List Value}, Vals ys its → ys.all flatV = true → its.countP (eqU y) = ys.countP fun z => eqV z y
  | _, _, .nil, _ => rfl
  | z :: ys, u :: its, .cons r t, f => by
    rw [List.all_cons, Bool.and_eq_true] at f
    rw [List.countP_cons, List.countP_cons, count_of t f.2, eqU_of r f.1]
def rCountF (K : PySem.W.Frag) : V → List V → Hp → VK → Prop := fun x xs H Q => ∃ (a : Addr) (ys : List V) (y : V), x = V.ref a ∧ xs = [y] ∧ SqL K H a ys ∧ flatV y = true ∧ ys.all flatV = true ∧ Q (.int ((ys.countP fun z => eqV z y : Nat) : Int)) H
theorem mt_countF : MtR X "list.count" (rCountF X.K) := by
  intro pins s σ H x xs v us Q I rx rxs h
  obtain ⟨a, ys, y, rfl, rfl, hs, fy, fys, q⟩ := h
  cases rx
  cases rxs with
  | cons ry rt =>
    rename_i uy ut
    cases rt
    obtain ⟨its, rv, ⟨⟨cls, dd, data, sl⟩, n, ho, hc, hdn, hd⟩, hlen⟩ := I.list hs
    simp only at hc hd
    subst hc hd
    refine call_meets PySem.F.slot_list_count ⟨_, ho, rfl⟩ PySem.F.entry_list_count (PySem.F.args_list_count_2 _ _)
      (SeqAt.list_countAt a its.toArray n dd sl uy (eqU y)) ⟨ho, fun u' hu' => mem_eqAt ry fy rv fys u' (by simpa using hu'), ?_⟩
    have ec : its.toArray.toList.countP (eqU y) = ys.countP fun z => eqV z y := count_of rv fys
    refine ⟨.int ((ys.countP fun z => eqV z y : Nat) : Int), H, I.tok _, ⟨s.toks, ?_⟩, q⟩
    show Value.int ((its.toArray.toList.countP (eqU y) : Nat) : Int) s.toks = _
    rw [ec]
theorem m_lcount {p : Addr} {ys : List V} {y : V} (h : Ls X.K B L p ys) (fy : flatV y = true) (fys : ys.all flatV = true) (q : Q (.int ((ys.countP fun z => eqV z y : Nat) : Int)) B L) : kMt X "list.count" (.ref p) [y] B L Q :=
  ⟨_, mt_countF, fun H s => ⟨p, ys, y, rfl, rfl, h.at s, fy, fys, _, _, s, q⟩⟩
theorem m_lindex {p : Addr} {ys : List V} {y z : V} (j : Nat) (h : Ls X.K B L p ys) (fy : flatV y = true) (fys : ys.all flatV = true) (hz : ys[j]? = some z) (e : eqV z y = true) (hno : ∀ (m : Nat) (z' : V), m < j → ys[m]? = some z' → eqV z' y = false) (q : Q (.int (j : Nat)) B L) : kMt X "list.index" (.ref p) [y] B L Q :=
  ⟨_, mt_index, fun H s => ⟨p, ys, y, j, z, rfl, rfl, h.at s, fy, fys, hz, e, hno, _, _, s, q⟩⟩
/-- {'a': 1} -/
theorem k_dict1 {k v : Expr} {pos : Pos} (h : ∀ D, kE X k σ B ((D, .dK []) :: L) fun x B1 L1 => ∃ (z : Str), x = .str z ∧ kE X v σ B1 L1 fun y B2 L2 => ∃ L', L2 = (D, .dK []) :: L' ∧ Q (.ref D) B2 ((D, .dK [(.inr z, y)]) :: L')) : kE X (.Dict [some k] [v] pos) σ B L Q :=
  ⟨_, pe_disp (pps_cons pe_c pe_c pps_nil) rfl rfl (by simp) (by simp), fun H s D hD => toE (s.new hD) (h D) fun x H1 B1 L1 s1 ⟨z, e1, h1⟩ => toE s1 h1 fun y H2 B2 L2 s2 ⟨L', e2, q⟩ => by
    subst e1 e2
    exact ⟨s2.own _ List.mem_cons_self, [(.inr z, y)], rfl, by simp, ⟨_, _, s2.rep Rep.here, q⟩⟩⟩
end
/-- all that stands goes to the base, but what is held by name -/
theorem Sat.grow {B : Hp} {L : HL} {H H' : Hp} (s : Sat B L H) (e : Le H H') : ∃ B', Le B B' ∧ Sat B' L H' ∧ ∀ H2, Sat B' L H2 → Le H' H2 := by
  classical
  refine ⟨fun b => if b ∈ L.map (·.1) then none else H' b, fun b o h => ?_, ⟨fun b o h => ?_, fun p hp => e _ _ (s.own p hp), fun p hp => ?_, s.nd⟩, fun H2 s2 b o h => ?_⟩
  · show (if b ∈ L.map (·.1) then none else H' b) = some o
    rw [if_neg fun hm => by
      obtain ⟨p, hp, rfl⟩ := List.mem_map.mp hm
      rw [s.nb p hp] at h; cases h]
    exact e _ _ (s.ext _ _ h)
  · have h' : (if b ∈ L.map (·.1) then none else H' b) = some o := h
    split at h'
    · cases h'
    · exact h'
  · show (if p.1 ∈ L.map (·.1) then none else H' p.1) = none
    rw [if_pos (List.mem_map.mpr ⟨p, hp, rfl⟩)]
  · by_cases hm : b ∈ L.map (·.1)
    · obtain ⟨p, hp, rfl⟩ := List.mem_map.mp hm
      have h1 := e _ _ (s.own p hp)
      rw [h] at h1
      rw [s2.own p hp, h1]
    · refine s2.ext b o ?_
      show (if b ∈ L.map (·.1) then none else H' b) = some o
      rw [if_neg hm]; exact h
section
variable {X : Cx} {σ : L2.St} {B : Hp} {L : HL} {Q : KQ} {p2 : Pos} {iter elt : Expr} {scope : Scope}
/-- [elt for x, y in a list of pairs that are held by name] -/
theorem k_lcm_v2 {x y : Str} {i j kk : Nat} {px py tpos : Pos} (g : V × V → V) (hN : X.N.Nodup) (ok : BlkOk X.N X.env.scope scope [(x, i), (y, j)])
    (h : kE X iter σ B L fun v B1 L1 => ∃ (a : Addr) (ts : List Addr) (ps : List (V × V)), v = .ref a ∧ Ls X.K B1 L1 a (ts.map V.ref) ∧ ts.length = ps.length ∧ ps.length ≤ 16777216 ∧ (∀ (k : Nat) t q, ts[k]? = some t → ps[k]? = some q → At B1 L1 t (.tup [q.1, q.2])) ∧ (∀ q ∈ ps, ∀ D acc s H0 C cl fp, kE (Bk X scope s H0 C cl fp) elt ((σ.set i (some q.1)).set j (some q.2)) B1 ((D, .lst acc) :: L1) fun y B3 L3 => y = g q ∧ B3 = B1 ∧ L3 = (D, .lst acc) :: L1) ∧
      ∀ D, Q (.ref D) B1 ((D, .lst (ps.map g)) :: L1))
    (hp : ∀ s H0 C cl fp, Loc (Bk X scope s H0 C cl fp).env.scope x ∧ Loc (Bk X scope s H0 C cl fp).env.scope y := by intro _ _ _ _ _; exact ⟨Or.inl rfl, Or.inl rfl⟩) (hf : ∀ s H0 C cl fp, (Bk X scope s H0 C cl fp).env.scope.names.lookup x = some .local ∧ (Bk X scope s H0 C cl fp).env.scope.names.lookup y = some .local := by intro _ _ _ _ _; exact ⟨rfl, rfl⟩)
    (hn : ∀ s H0 C cl fp, (assignEach [.Name x px, .Name y py] (Bk X scope s H0 C cl fp).env).length = 2 := by intro _ _ _ _ _; rfl) (hfi : ∀ s H0 C cl fp, (assignEach [.Name x px, .Name y py] (Bk X scope s H0 C cl fp).env).findIdx? (·.1) = none := by intro _ _ _ _ _; rfl)
    (h1 : ∀ s H0 C cl fp, (assignEach [.Name x px, .Name y py] (Bk X scope s H0 C cl fp).env).map (·.2) = assign (.Name x px) (Bk X scope s H0 C cl fp).env :: (assignEach [.Name y py] (Bk X scope s H0 C cl fp).env).map (·.2) := by intro _ _ _ _ _; rfl)
    (h2 : ∀ s H0 C cl fp, (assignEach [.Name y py] (Bk X scope s H0 C cl fp).env).map (·.2) = assign (.Name y py) (Bk X scope s H0 C cl fp).env :: (assignEach [] (Bk X scope s H0 C cl fp).env).map (·.2) := by intro _ _ _ _ _; rfl)
    (hi : X.N[i]? = some x := by rfl) (hj : X.N[j]? = some y := by rfl) (hc : X.calm = true := by rfl) (hs : ∀ x, foldedSetIterable iter X.env x = pure x := by intro _; rfl) :
    kL X elt (.Tuple [.Name x px, .Name y py] kk tpos) iter [] scope [(x, i), (y, j)] σ B L Q :=
  k_lc hN ok (r_list (by
    obtain ⟨t, k1, k2⟩ := h
    refine ⟨_, pe_c, fun H s => toE s ⟨t, k1, k2⟩ fun v H' B1 L1 s' ⟨a, ts, ps, e, hls, hlen, hl, hat, ht, hd⟩ => ⟨B1, L1, s', a, ts.map V.ref, e, hls, (ts.map V.ref).length, _, _, fun i acc B L => B = B1 ∧ L = L1 ∧ acc = (ps.map g).take i, walk_list, ⟨rfl, rfl, by simp⟩, ?_, ?_, ?_⟩⟩
    · rintro i acc B L H hi ⟨rfl, rfl, _⟩ s
      exact hls.at s
    · rintro D n acc z B L H H' hn' ⟨rfl, rfl, rfl⟩ s ⟨rfl, hx⟩
      rw [List.getElem?_map] at hx
      obtain ⟨tn, htn, rfl⟩ := Option.map_eq_some_iff.mp hx
      have hnl := (List.getElem?_eq_some_iff.mp htn).1
      obtain ⟨q, hq⟩ : ∃ q, ps[n]? = some q := ⟨_, List.getElem?_eq_getElem (by omega)⟩
      have hqm := List.mem_of_getElem? hq
      have htup := hat n tn q htn hq
      refine ⟨_, _, s, fun sa Ha Ca cla fpa => ?_⟩
      have hT : Tp (Bk X scope sa Ha Ca cla fpa).K B ((D, .lst ((ps.map g).take n)) :: L) tn [q.1, q.2] := htup.elim (fun h => .inl (.inl (.inl h))) fun h => .inr (.tail _ h)
      refine g_tup (n := 2) hT rfl ?_ hc (hn sa Ha Ca cla fpa) (hfi sa Ha Ca cla fpa)
      refine gs_cons (g_name i ?_ hN hi (hp sa Ha Ca cla fpa).1 (.inr (hf sa Ha Ca cla fpa).1)) (h1 sa Ha Ca cla fpa)
      refine gs_cons (g_name j ?_ hN hj (hp sa Ha Ca cla fpa).2 (.inr (hf sa Ha Ca cla fpa).2)) (h2 sa Ha Ca cla fpa)
      refine gs_nil ⟨wipe2 σ i j _ _, fun sb Hb Cb clb fpb => ?_⟩
      show kE _ _ (((wipe σ [i, j]).set i _).set j _) _ _ _
      rw [wipe2']
      obtain ⟨t2, m1, m2⟩ := ht q hqm D ((ps.map g).take n) sb Hb Cb clb fpb
      refine ⟨_, pe_c, fun H s => toE s ⟨t2, m1, m2⟩ fun y H2 B2 L2 s2 ⟨e1, e2, e3⟩ => ⟨B2, L2, s2, ?_, L, e3, e2, rfl, ?_⟩⟩
      · simp; omega
      · rw [e1, List.take_add_one, List.getElem?_map, hq]; simp
    · rintro acc B L D ⟨rfl, rfl, rfl⟩
      have e2 : (ts.map V.ref).length = (ps.map g).length := by rw [List.length_map, List.length_map, hlen]
      rw [e2, List.take_length]
      exact hd D)) hc hs
end
section
variable {X : Cx} {σ : L2.St} {B : Hp} {L : HL} {Q : KQ} {e : Expr}
/-- all objects go to the base -/
theorem k_frz (h : kE X e σ B L fun v B1 L1 => ∀ B2, Le B1 B2 → (∀ p ∈ L1, B2 p.1 = some p.2) → Q v B2 []) : kE X e σ B L Q :=
  ⟨_, pe_c, fun H s => toE s h fun v H1 B1 L1 s1 q => ⟨H1, [], Sat.whole, q H1 s1.ext s1.own⟩⟩
end
/-- .. at a call -/
theorem frz_up {B : Hp} {L : HL} {H H' : Hp} {Q : KQ} {v : V} (s : Sat B L H) (e : Le H H') (q : ∀ B2, Le B B2 → (∀ p ∈ L, B2 p.1 = some p.2) → B2 = H' → Q v B2 []) : up Q v H' :=
  ⟨H', [], Sat.whole, q H' (fun b o h => e _ _ (s.ext _ _ h)) (fun p hp => e _ _ (s.own p hp)) rfl⟩
end Kv

/-! list(text) -/
namespace Kv
open PySem PySem.Spec PyProof.Rows L2
section
variable {X : Cx} {σ : L2.St} {B : Hp} {L : HL} {Q : KQ}
theorem call_listS (hcalm : X.calm = true) : CallR X (.type "list") (fun xs H Q => ∃ l : List Nat, xs = [.str (sOf l)] ∧ l.length ≤ sizeLine ∧ ∀ p, H p = none → Q (.ref p) (upd H p (.lst (l.map fun c => .str (sOf [c]))))) := by
  intro pins s σ H xs us Q I r q
  obtain ⟨l, ex, hl, q⟩ := q
  subst ex
  obtain ⟨u, eu, rx⟩ := vals1 r
  subst eu
  obtain ⟨t, rfl⟩ := rx
  refine call_list_str (I.ok.hd hcalm) (sOf l) t (fun h' tk acc c' hk hD hacc => ?_) hl
  have hv : Vals (l.map fun c => V.str (sOf [c])) acc.toList := vals_of_idx _ _ (by rw [Array.length_toList, List.length_map]; exact hacc.1) fun j u e => by
    obtain ⟨c, t', hc, rfl⟩ := hacc.2 j u (by rw [← Array.getElem?_toList]; exact e)
    refine ⟨.str (sOf [c]), ?_, t', rfl⟩
    rw [List.getElem?_map]
    have h1 : l[j]? = some c := by
      have h2 : (sOf l).cps.toList[j]? = some c := by rw [Array.getElem?_toList]; exact hc
      exact h2
    rw [h1]; rfl
  exact ⟨.ref s.heap.objs.size, upd H s.heap.objs.size (.lst (l.map fun c => .str (sOf [c]))), I.laid (t' := tk) hk (Nat.le_refl _)
    (show ObjOk X.prog X.w _ _ _ (.lst (l.map fun c => .str (sOf [c]))) from ⟨by rw [List.length_map]; exact hl, acc.toList, c', hv, by rw [Array.toArray_toList]; exact hD⟩), rfl, q _ (I.hok.fresh (Nat.le_refl _))⟩
theorem c_lists {l : List Nat} (q : ∀ p, Q (.ref p) B ((p, .lst (l.map fun c => .str (sOf [c]))) :: L)) (hl : l.length ≤ 16777216) (hc : X.calm = true := by rfl) : kC X (.type "list") [.str (sOf l)] B L Q :=
  ⟨_, call_listS hc, fun H s => ⟨l, rfl, small hl, fun p hp => ⟨_, _, s.new hp, q p⟩⟩⟩
end
end Kv

/-! divmod; d[k] = v; l.pop(i). -/
namespace Kv
open PySem PySem.Spec PyProof.Rows L2
section
variable {X : Cx} {σ : L2.St} {B : Hp} {L : HL} {Q : KQ} {a b : Expr} {pos : Pos}
theorem c_divmod {i j : Int} (q : ∀ p, Q (.ref p) B ((p, .tup [.int (i / j), .int (i % j)]) :: L)) (h : 0 < j ∧ j < 1073741824) : kC X (.builtin "divmod") [.int i, .int j] B L Q :=
  ⟨_, call_divmod, fun H s => ⟨i, j, rfl, h, fun p hp => ⟨_, _, s.new hp, q p⟩⟩⟩
/-- l.pop(i), l ours -/
theorem m_popAt {p : Addr} {xs : List V} {i : Int} {k : Nat} {y : V} {L' : HL} (hi : -(2 ^ 63) ≤ i ∧ i < 2 ^ 63) (hk : seqIndex? i xs.length = some k) (hy : xs[k]? = some y) (r : Rep L p (.lst xs) (.lst (xs.eraseIdx k)) L') (q : Q y B L') : kMt X "list.pop" (.ref p) [.int i] B L Q :=
  ⟨_, mt_popAt, fun H s => ⟨p, xs, i, k, y, rfl, rfl, s.own _ r.mem, hi.1, hi.2, hk, hy, _, _, s.rep r, q⟩⟩
/-- d[k] = v, d ours -/
theorem g_setd {v : V} {Q : KN} (hu : X.A.units + 1 < cLine) (h : kE X a σ B L fun x B1 L1 => kE X b σ B1 L1 fun y B2 L2 => ∃ p kvs k L3, x = .ref p ∧ y = kV k ∧ Rep L2 p (.dK kvs) (.dK (putK kvs k v)) L3 ∧ kvs.length < 16777216 ∧ Q σ B2 L3)
    (ha : ∀ v, assign (.Subscript a b pos) X.env v = (do
      let ov ← holding [v] (eval a X.env)
      let iv ← holding [v, ov] (eval b X.env)
      standAt pos
      holding [v, ov, iv] (setItem ov iv v)
      release [v, ov, iv] []) := by intro _; rfl) : kG X (.Subscript a b pos) v σ B L Q :=
  ⟨_, pg_sub pe_c pe_c (set_dict hu) ha, fun H s => toE s h fun _ _ _ _ s q => toE s q fun _ _ _ _ s ⟨p, kvs, k, L3, e1, e2, r, hl, q⟩ => ⟨p, _, e1, by rw [e2]; exact DPut.k (s.own _ r.mem) (small' hl), _, _, s.rep r, q⟩⟩
end
section
variable {X : Cx} {σ : L2.St} {pos : Pos}
/-- the pairs of a dict display -/
def kPs (X : Cx) : List (Expr × Expr) → L2.St → Hp → HL → (List (V × V) → Hp → HL → Prop) → Prop
  | [], _, B, L, Q => Q [] B L
  | (k, v) :: r, σ, B, L, Q => kE X k σ B L fun x B1 L1 => kE X v σ B1 L1 fun y B2 L2 => kPs X r σ B2 L2 fun ps B3 L3 => Q ((x, y) :: ps) B3 L3
theorem pps_c : ∀ l : List (Expr × Expr), PPs X pos (l.map fun p => some p.1) (l.map (·.2)) (l.map fun p => (cE X p.1, cE X p.2))
  | [] => pps_nil
  | (k, v) :: r => pps_cons pe_c pe_c (pps_c r)
theorem toPs : ∀ {l : List (Expr × Expr)} {B : Hp} {L : HL} {H : Hp} {Q : List (V × V) → Hp → HL → Prop} {T : List (V × V) → Hp → Prop}, Sat B L H → kPs X l σ B L Q → (∀ ps H' B' L', Sat B' L' H' → Q ps B' L' → T ps H') → tPairs (l.map fun p => (cE X p.1, cE X p.2)) σ H T
  | [], _, _, _, _, _, s, h, k => k _ _ _ _ s h
  | (a, b) :: r, _, _, _, _, _, s, h, k => toE s h fun _ _ _ _ s1 h1 => toE s1 h1 fun _ _ _ _ s2 h2 => toPs s2 h2 fun _ _ _ _ s3 q => k _ _ _ _ s3 q
/-- {k: v, ..}: at most 15 pairs -/
theorem k_dict {B : Hp} {L : HL} {Q : KQ} (l : List (Expr × Expr)) (hn : l ≠ []) (h15 : l.length ≤ 15) (h : ∀ D, kPs X l σ B ((D, .dK []) :: L) fun ps B2 L2 => ∃ (kvs : List (Key × V)) (L3 : HL), ps = kvs.map (fun kv => (kV kv.1, kv.2)) ∧ kvs.length ≤ 15 ∧ Rep L2 D (.dK []) (.dK (mergeK [] kvs)) L3 ∧ Q (.ref D) B2 L3) :
    kE X (.Dict (l.map fun p => some p.1) (l.map (·.2)) pos) σ B L Q :=
  ⟨_, pe_disp (pps_c l) (by rw [List.all_map]; simp) (by rw [List.length_map, List.length_map]) (by simpa using hn) (by rw [List.length_map]; exact h15), fun H s D hD => toPs (s.new hD) (h D) fun ps H2 B2 L2 s2 ⟨kvs, L3, e, hl, r, q⟩ =>
    ⟨s2.own _ r.mem, kvs, e, hl, ⟨_, _, s2.rep r, q⟩⟩⟩
end
section
variable {X : Cx} {B : Hp} {L : HL} {Q : KQ}
/-- x in a tuple, in a list, of flat items -/
theorem o_intup {x : V} {p : Addr} {xs : List V} (h : Tp X.K B L p xs) (fx : flatV x = true) (fs : xs.all flatV = true) (q : Q (.bl (inV x xs)) B L) : kO X (compareOp .In) x (.ref p) B L Q :=
  ⟨_, op_in_seq, fun H s => ⟨p, xs, rfl, .inr (h.at s), fx, fs, _, _, s, q⟩⟩
theorem o_inlst {x : V} {p : Addr} {xs : List V} (h : Ls X.K B L p xs) (fx : flatV x = true) (fs : xs.all flatV = true) (q : Q (.bl (inV x xs)) B L) : kO X (compareOp .In) x (.ref p) B L Q :=
  ⟨_, op_in_seq, fun H s => ⟨p, xs, rfl, .inl (h.at s), fx, fs, _, _, s, q⟩⟩
end
end Kv

/-! Objects that go to the base by name; what is new in a heap; a drawing that is held in a dict. -/
namespace Kv
open PySem PySem.Spec PyProof.Rows L2
section
variable {X : Cx} {σ : L2.St} {B : Hp} {L : HL} {Q : KQ} {D : KD} {ss : List Stmt} {e : Expr}
/-- the first named object goes to the base -/
theorem Sat.fz {p : Addr} {o : HO} {H : Hp} (s : Sat B ((p, o) :: L) H) : Le B (upd B p o) ∧ upd B p o p = some o ∧ Sat (upd B p o) L H := by
  have hb : B p = none := s.nb _ List.mem_cons_self
  have hnd := s.nd
  rw [List.map_cons, List.nodup_cons] at hnd
  refine ⟨fun b u h => ?_, upd_same, ?_, fun q hq => s.own q (List.mem_cons_of_mem _ hq), fun q hq => ?_, hnd.2⟩
  · rw [upd_ne (fun z => by rw [z, hb] at h; cases h)]; exact h
  · intro b u h
    by_cases hz : b = p
    · subst hz
      rw [upd_same] at h
      cases h
      exact s.own _ List.mem_cons_self
    · rw [upd_ne hz] at h; exact s.ext _ _ h
  · rw [upd_ne (fun z : q.1 = p => hnd.1 (by rw [show (p, o).1 = q.1 from z.symm]; exact List.mem_map.mpr ⟨q, hq, rfl⟩))]
    exact s.nb q (List.mem_cons_of_mem _ hq)
theorem k_fz {p : Addr} {o : HO} (h : ∀ B', Le B B' → B p = none → B' p = some o → kSs X ss σ B' L D) : kSs X ss σ B ((p, o) :: L) D :=
  ⟨_, pss_c, fun H s => ⟨_, L, D, s.fz.2.2, h _ s.fz.1 (s.nb _ List.mem_cons_self) s.fz.2.1, fun _ _ q => q, fun _ _ q => q, fun _ _ q => q, fun _ _ q => q⟩⟩
/-- .. in an expression -/
theorem e_fz {p : Addr} {o : HO} (h : ∀ B', Le B B' → B p = none → B' p = some o → kE X e σ B' L Q) : kE X e σ B ((p, o) :: L) Q :=
  ⟨_, pe_c, fun H s => ⟨_, L, Q, s.fz.2.2, h _ s.fz.1 (s.nb _ List.mem_cons_self) s.fz.2.1, fun _ _ q => q⟩⟩
/-- .. the first of what an expression leaves -/
theorem e_fz1 (h : kE X e σ B L fun v B1 L1 => ∃ p o L2, L1 = (p, o) :: L2 ∧ ∀ B', Le B1 B' → B1 p = none → B' p = some o → Q v B' L2) : kE X e σ B L Q :=
  ⟨_, pe_c, fun H s => toE s h fun v H1 B1 L1 s1 ⟨p, o, L2, e, q⟩ => by
    subst e
    exact ⟨_, L2, s1.fz.2.2, q _ s1.fz.1 (s1.nb _ List.mem_cons_self) s1.fz.2.1⟩⟩
end
section
variable {X : Cx} {σ : L2.St} {B : Hp} {L : HL} {D : KD} {a b c : Expr} {pos : Pos}
/-- a, b = x, y; a, b, c = x, y, z: plain local names -/
theorem k_par (i j : Nat) {x y : Str} {px py pt : Pos} {kt k2 pt2} (h : kA X [a, b] σ B L fun vs B1 L1 => ∃ v w, vs = [v, w] ∧ D.nx ((σ.set i (some v)).set j (some w)) B1 L1) (hN : X.N.Nodup) (hi : X.N[i]? = some x := by rfl) (hj : X.N[j]? = some y := by rfl) (hij : i ≠ j := by decide)
    (hx : X.env.scope.names.lookup x = some .local := by rfl) (hy : X.env.scope.names.lookup y = some .local := by rfl)
    (hw : swappedStores [.Tuple [.Name x px, .Name y py] kt pt] (.Tuple [a, b] k2 pt2) X.env = pure (some [x, y]) := by rfl)
    (hs : swapsWithSole [.Tuple [.Name x px, .Name y py] kt pt] (.Tuple [a, b] k2 pt2) pos.line X.env = pure false := by rfl) (hc : X.calm = true := by rfl) :
    kS X (.Assign [.Tuple [.Name x px, .Name y py] kt pt] (.Tuple [a, b] k2 pt2) pos) σ B L D :=
  ⟨_, ps_par hc hN hi hj hij hx hy pa_c hw hs, fun H s => toA s h fun _ _ _ _ s ⟨v, w, e, q⟩ => ⟨v, w, e, _, _, s, q⟩⟩
theorem k_par3 (i j l : Nat) {x y z : Str} {px py pz pt : Pos} {kt k2 pt2} (h : kA X [a, b, c] σ B L fun vs B1 L1 => ∃ u v w, vs = [u, v, w] ∧ D.nx (((σ.set i (some u)).set j (some v)).set l (some w)) B1 L1) (hN : X.N.Nodup) (hi : X.N[i]? = some x := by rfl) (hj : X.N[j]? = some y := by rfl) (hl : X.N[l]? = some z := by rfl) (hij : i ≠ j := by decide) (hil : i ≠ l := by decide) (hjl : j ≠ l := by decide)
    (hx : X.env.scope.names.lookup x = some .local := by rfl) (hy : X.env.scope.names.lookup y = some .local := by rfl) (hz : X.env.scope.names.lookup z = some .local := by rfl)
    (hw : swappedStores [.Tuple [.Name x px, .Name y py, .Name z pz] kt pt] (.Tuple [a, b, c] k2 pt2) X.env = pure (some [x, y, z]) := by rfl)
    (hs : swapsWithSole [.Tuple [.Name x px, .Name y py, .Name z pz] kt pt] (.Tuple [a, b, c] k2 pt2) pos.line X.env = pure false := by rfl) (hc : X.calm = true := by rfl) :
    kS X (.Assign [.Tuple [.Name x px, .Name y py, .Name z pz] kt pt] (.Tuple [a, b, c] k2 pt2) pos) σ B L D :=
  ⟨_, ps_par3 hc hN hi hj hl hij hil hjl hx hy hz pa_c hw hs, fun H s => toA s h fun _ _ _ _ s ⟨u, v, w, e, q⟩ => ⟨u, v, w, e, _, _, s, q⟩⟩
end
/-- what stands in the second heap alone -/
def nwH (H H' : Hp) : Hp := fun b => if (H b).isSome then none else H' b
theorem nw_some {H H' : Hp} {b : Addr} {o : HO} (h : nwH H H' b = some o) : H b = none ∧ H' b = some o := by
  unfold nwH at h
  cases e : H b with
  | some u => rw [e] at h; simp at h
  | none => rw [e] at h; exact ⟨rfl, by simpa using h⟩
theorem nw_of {H H' : Hp} {b : Addr} {o : HO} (h1 : H b = none) (h2 : H' b = some o) : nwH H H' b = some o := by
  unfold nwH; rw [h1]; simpa using h2
theorem nw_le {H H' : Hp} : Le (nwH H H') H' := fun _ _ h => (nw_some h).2
theorem nw_mono {H H' H2 : Hp} (e : Le H' H2) : Le (nwH H H') (nwH H H2) := fun _ _ h => nw_of (nw_some h).1 (e _ _ (nw_some h).2)
section
variable {X : Cx} {B : Hp} {L : HL} {Q : KQ}
theorem c_inti {i : Int} (q : Q (.int i) B L) : kC X (.type "int") [.int i] B L Q := ⟨_, call_int1, fun H s => .inl ⟨i, rfl, _, _, s, q⟩⟩
end
/-! a drawing: a dict of five keys, its list of great numbers, the script's cells -/
def kLg : List Nat := [108, 97, 114, 103, 101]
def kCl : List Nat := [99, 101, 108, 108, 115]
def kRs : List Nat := [114, 101, 115, 116]
def kTn : List Nat := [116, 117, 114, 110]
def kMx : List Nat := [109, 105, 120]
structure Ds where
  r : Int
  t : Int
  m : Int
  ls : List Int
abbrev dK5 (p1 p2 : Addr) (s : Ds) : List (Key × V) := [(.inr (sOf kLg), .ref p1), (.inr (sOf kCl), .ref p2), (.inr (sOf kRs), .int s.r), (.inr (sOf kTn), .int s.t), (.inr (sOf kMx), .int s.m)]
def dO (p1 p2 : Addr) (s : Ds) : HO := .dK (dK5 p1 p2 s)
def lO (s : Ds) : HO := .lst (s.ls.map V.int)
structure DSt (s : Ds) : Prop where
  r0 : 0 ≤ s.r
  m0 : 0 ≤ s.m
  m1 : s.m < 2147483629
  l0 : ∀ x ∈ s.ls, 0 ≤ x
  ln : s.ls.length ≤ 63
section
variable {p1 p2 : Addr} {s : Ds}
theorem kne {a b : List Nat} (h : a ≠ b) : ¬ ((.inr (sOf a) : Key) = .inr (sOf b)) := fun e => h (sOf_inj.mp (congrArg V.str (Sum.inr.inj e)))
theorem dv_lg : valV (dK5 p1 p2 s) (.inr (sOf kLg) : Key) = some (.ref p1) := by
  unfold dK5
  rw [valV_pos rfl]
theorem dv_cl : valV (dK5 p1 p2 s) (.inr (sOf kCl) : Key) = some (.ref p2) := by
  unfold dK5
  rw [valV_neg (kne (by decide)), valV_pos rfl]
theorem dv_rs : valV (dK5 p1 p2 s) (.inr (sOf kRs) : Key) = some (.int s.r) := by
  unfold dK5
  rw [valV_neg (kne (by decide)), valV_neg (kne (by decide)), valV_pos rfl]
theorem dv_tn : valV (dK5 p1 p2 s) (.inr (sOf kTn) : Key) = some (.int s.t) := by
  unfold dK5
  rw [valV_neg (kne (by decide)), valV_neg (kne (by decide)), valV_neg (kne (by decide)), valV_pos rfl]
theorem dv_mx : valV (dK5 p1 p2 s) (.inr (sOf kMx) : Key) = some (.int s.m) := by
  unfold dK5
  rw [valV_neg (kne (by decide)), valV_neg (kne (by decide)), valV_neg (kne (by decide)), valV_neg (kne (by decide)), valV_pos rfl]
theorem dp_rs {x : Int} : putK (dK5 p1 p2 s) (.inr (sOf kRs) : Key) (.int x) = dK5 p1 p2 { s with r := x } := by
  unfold putK
  rw [if_pos (List.any_eq_true.mpr ⟨(.inr (sOf kRs), .int s.r), by simp, by simp⟩)]
  unfold dK5
  rw [List.map_cons, List.map_cons, List.map_cons, List.map_cons, List.map_cons, List.map_nil]
  rw [if_neg (kne (by decide)), if_neg (kne (by decide)), if_pos rfl, if_neg (kne (by decide)), if_neg (kne (by decide))]
theorem dp_tn {x : Int} : putK (dK5 p1 p2 s) (.inr (sOf kTn) : Key) (.int x) = dK5 p1 p2 { s with t := x } := by
  unfold putK
  rw [if_pos (List.any_eq_true.mpr ⟨(.inr (sOf kTn), .int s.t), by simp, by simp⟩)]
  unfold dK5
  rw [List.map_cons, List.map_cons, List.map_cons, List.map_cons, List.map_cons, List.map_nil]
  rw [if_neg (kne (by decide)), if_neg (kne (by decide)), if_neg (kne (by decide)), if_pos rfl, if_neg (kne (by decide))]
theorem dp_mx {x : Int} : putK (dK5 p1 p2 s) (.inr (sOf kMx) : Key) (.int x) = dK5 p1 p2 { s with m := x } := by
  unfold putK
  rw [if_pos (List.any_eq_true.mpr ⟨(.inr (sOf kMx), .int s.m), by simp, by simp⟩)]
  unfold dK5
  rw [List.map_cons, List.map_cons, List.map_cons, List.map_cons, List.map_cons, List.map_nil]
  rw [if_neg (kne (by decide)), if_neg (kne (by decide)), if_neg (kne (by decide)), if_neg (kne (by decide)), if_pos rfl]
end
/-- the drawing in a heap -/
structure DrH (H : Hp) (D p1 p2 : Addr) (s : Ds) (ns : List Int) : Prop where
  hD : H D = some (dO p1 p2 s)
  h1 : H p1 = some (lO s)
  h2 : H p2 = some (.lst (ns.map V.int))
  n1 : D ≠ p1
  n2 : p2 ≠ D
  n3 : p2 ≠ p1
  st : DSt s
  nl : ns.length ≤ 63
/-- all but the drawing's two objects is kept -/
def Kp (H H' : Hp) (D p1 : Addr) : Prop := ∀ b o, b ≠ D → b ≠ p1 → H b = some o → H' b = some o
def rm2 (H : Hp) (D p1 : Addr) : Hp := fun b => if b = D then none else if b = p1 then none else H b
theorem rm2_ne {H : Hp} {D p1 b : Addr} (h1 : b ≠ D) (h2 : b ≠ p1) : rm2 H D p1 b = H b := by unfold rm2; rw [if_neg h1, if_neg h2]
theorem rm2_some {H : Hp} {D p1 b : Addr} {o : HO} (h : rm2 H D p1 b = some o) : b ≠ D ∧ b ≠ p1 ∧ H b = some o := by
  unfold rm2 at h
  by_cases h1 : b = D
  · rw [if_pos h1] at h; cases h
  · rw [if_neg h1] at h
    by_cases h2 : b = p1
    · rw [if_pos h2] at h; cases h
    · rw [if_neg h2] at h; exact ⟨h1, h2, h⟩
section
variable {H H' B : Hp} {L : HL} {D p1 p2 : Addr} {s s' : Ds} {ns : List Int}
theorem DrH.sat (h : DrH H D p1 p2 s ns) : Sat (rm2 H D p1) [(D, dO p1 p2 s), (p1, lO s)] H := by
  refine ⟨fun b o e => (rm2_some e).2.2, fun p hp => ?_, fun p hp => ?_, ?_⟩
  · simp only [List.mem_cons, List.not_mem_nil, or_false] at hp
    rcases hp with rfl | rfl
    · exact h.hD
    · exact h.h1
  · simp only [List.mem_cons, List.not_mem_nil, or_false] at hp
    unfold rm2
    rcases hp with rfl | rfl
    · exact if_pos rfl
    · rw [if_neg h.n1.symm]; exact if_pos rfl
  · simp only [List.map_cons, List.map_nil, List.nodup_cons, List.mem_cons, List.not_mem_nil, or_false, not_false_eq_true, and_true, List.nodup_nil]
    exact h.n1
theorem DrH.b2 (h : DrH H D p1 p2 s ns) : rm2 H D p1 p2 = some (.lst (ns.map V.int)) := by rw [rm2_ne h.n2 h.n3]; exact h.h2
theorem sat_kp (h : Sat (rm2 H D p1) L H') : Kp H H' D p1 := fun b o h1 h2 e => h.ext _ _ (by rw [rm2_ne h1 h2]; exact e)
theorem Kp.refl : Kp H H D p1 := fun _ _ _ _ e => e
/-- the drawing among the named objects -/
theorem DrH.of (sat : Sat B L H) (hD : (D, dO p1 p2 s) ∈ L) (h1 : (p1, lO s) ∈ L) (h2 : At B L p2 (.lst (ns.map V.int))) (n2 : p2 ≠ D) (n3 : p2 ≠ p1) (n1 : D ≠ p1) (st : DSt s) (nl : ns.length ≤ 63) : DrH H D p1 p2 s ns :=
  ⟨sat.own _ hD, sat.own _ h1, h2.at sat, n1, n2, n3, st, nl⟩
/-- at a def's end -/
theorem DrH.nx {H0 : Hp} (h : DrH H0 D p1 p2 s ns) (sat : Sat B L H) (e : Le (rm2 H0 D p1) B) (hD : (D, dO p1 p2 s') ∈ L) (h1 : (p1, lO s') ∈ L) (st : DSt s') : DrH H D p1 p2 s' ns :=
  ⟨sat.own _ hD, sat.own _ h1, sat.ext _ _ (e _ _ h.b2), h.n1, h.n2, h.n3, st, h.nl⟩
theorem kp_of {H0 : Hp} (sat : Sat B L H) (e : Le (rm2 H0 D p1) B) : Kp H0 H D p1 := fun b o h1 h2 q => sat.ext _ _ (e _ _ (by rw [rm2_ne h1 h2]; exact q))
/-- behind a call that draws -/
theorem Sat.dr {L1 L' : HL} {o o' u u' : HO} (sat : Sat B L H) (r1 : Rep L D o o' L1) (r2 : Rep L1 p1 u u' L') (k : Kp H H' D p1) (e1 : H' D = some o') (e2 : H' p1 = some u') : Sat B L' H' := by
  refine ((sat.rep r1).rep r2).keep fun b x q => ?_
  by_cases h2 : b = p1
  · subst h2; rw [upd_same] at q; rw [e2]; exact q
  · rw [upd_ne h2] at q
    by_cases h1 : b = D
    · subst h1; rw [upd_same] at q; rw [e1]; exact q
    · rw [upd_ne h1] at q; exact k b x h1 h2 q
/-- .. and leaves new objects: they go to the base -/
theorem Sat.drG {L1 L' : HL} {o o' u u' : HO} (sat : Sat B L H) (r1 : Rep L D o o' L1) (r2 : Rep L1 p1 u u' L') (k : Kp H H' D p1) (e1 : H' D = some o') (e2 : H' p1 = some u') : ∃ B', Le B B' ∧ Le (nwH H H') B' ∧ Sat B' L' H' := by
  have s2 := sat.dr r1 r2 k e1 e2
  have hm : L'.map (·.1) = L.map (·.1) := by
    obtain ⟨a1, b1, e1, e2⟩ := r1.split
    obtain ⟨a2, b2, e3, e4⟩ := r2.split
    rw [e4, List.map_append, List.map_cons]
    have : L1.map (·.1) = L.map (·.1) := by rw [e1, e2]; simp
    rw [← this, e3]; simp
  refine ⟨fun b => if b ∈ L'.map (·.1) then none else H' b, fun b x h => ?_, fun b x h => ?_, fun b x h => ?_, s2.own, fun p hp => if_pos (List.mem_map.mpr ⟨p, hp, rfl⟩), s2.nd⟩
  · have h3 : b ∉ L'.map (·.1) := fun z => by
      obtain ⟨p, hp, rfl⟩ := List.mem_map.mp z
      rw [s2.nb p hp] at h; cases h
    show (if b ∈ L'.map (·.1) then none else H' b) = some x
    rw [if_neg h3]
    exact s2.ext _ _ h
  · obtain ⟨g1, g2⟩ := nw_some h
    have h3 : b ∉ L'.map (·.1) := fun z => by
      rw [hm] at z
      obtain ⟨p, hp, rfl⟩ := List.mem_map.mp z
      rw [sat.own p hp] at g1; cases g1
    show (if b ∈ L'.map (·.1) then none else H' b) = some x
    rw [if_neg h3]; exact g2
  · change (if b ∈ L'.map (·.1) then none else H' b) = some x at h
    by_cases h3 : b ∈ L'.map (·.1)
    · rw [if_pos h3] at h; cases h
    · rw [if_neg h3] at h; exact h
theorem rep_dom {L L' : HL} {p : Addr} {o o' : HO} (r : Rep L p o o' L') : L'.map (·.1) = L.map (·.1) := by
  obtain ⟨a1, b1, e1, e2⟩ := r.split
  rw [e1, e2]; simp
/-- .. and leaves one new object -/
theorem Sat.drN {L1 L' : HL} {o o' u u' x : HO} {q : Addr} (sat : Sat B L H) (r1 : Rep L D o o' L1) (r2 : Rep L1 p1 u u' L') (k : Kp H H' D p1) (e1 : H' D = some o') (e2 : H' p1 = some u') (g1 : H q = none) (g2 : H' q = some x) : Sat B ((q, x) :: L') H' := by
  have s2 := sat.dr r1 r2 k e1 e2
  refine ⟨s2.ext, fun p hp => ?_, fun p hp => ?_, ?_⟩
  · rcases List.mem_cons.mp hp with rfl | hp
    · exact g2
    · exact s2.own p hp
  · rcases List.mem_cons.mp hp with rfl | hp
    · exact sat.free g1
    · exact s2.nb p hp
  · rw [List.map_cons, List.nodup_cons]
    refine ⟨fun z => ?_, s2.nd⟩
    rw [rep_dom r2, rep_dom r1] at z
    obtain ⟨y, hy, hy2⟩ := List.mem_map.mp z
    have := sat.own y hy
    rw [hy2, g1] at this; cases this
/-- an object named first is new to the heap of the def's start -/
theorem new_of {o : HO} {p : Addr} {H0 : Hp} (sat : Sat B ((p, o) :: L) H) (e : Le (rm2 H0 D p1) B) (hD : D ∈ L.map (·.1)) (h1 : p1 ∈ L.map (·.1)) : H0 p = none := by
  have hnd := sat.nd
  rw [List.map_cons, List.nodup_cons] at hnd
  have n1 : p ≠ D := fun z => hnd.1 (by rw [show (p, o).1 = D from z]; exact hD)
  have n2 : p ≠ p1 := fun z => hnd.1 (by rw [show (p, o).1 = p1 from z]; exact h1)
  cases h : H0 p with
  | none => rfl
  | some u =>
    have := sat.nb _ List.mem_cons_self
    rw [e p u (by rw [rm2_ne n1 n2]; exact h)] at this; cases this
/-- at the end of a def that leaves new objects in its base -/
theorem nw_end {H0 B1 : Hp} (sat : Sat B1 L H) (e : Le (rm2 H0 D p1) B1) (hD : D ∈ L.map (·.1)) (h1 : p1 ∈ L.map (·.1)) : Le (nwH (rm2 H0 D p1) B1) (nwH H0 H) := fun b o h => by
  obtain ⟨g1, g2⟩ := nw_some h
  have nb : ∀ q ∈ L.map (·.1), b ≠ q := fun q hq z => by
    obtain ⟨p, hp, rfl⟩ := List.mem_map.mp hq
    rw [z, sat.nb p hp] at g2; cases g2
  rw [rm2_ne (nb D hD) (nb p1 h1)] at g1
  exact nw_of g1 (sat.ext _ _ g2)
end
/-! xs != [], xs == [], whatever the items are -/
section
variable {X : Cx}
def rNeE (K : PySem.W.Frag) : R2 := fun x y H Q => ∃ a b xs, x = V.ref a ∧ y = V.ref b ∧ SqL K H a xs ∧ SqL K H b [] ∧ Q (.bl (!decide (xs = []))) H
theorem op_neE (hu : X.A.units < cLine) : OpR X (compareOp .NotEq) (rNeE X.K) := by
  intro pins s σ H x y v u Q I rx ry h
  obtain ⟨a, b, xs, rfl, rfl, h1, h2, q⟩ := h
  cases rx
  cases ry
  obtain ⟨its, rv, hl, _⟩ := I.list h1
  obtain ⟨its2, rv2, hl2, _⟩ := I.list h2
  have e2 : its2 = [] := by cases rv2; rfl
  subst e2
  by_cases hx : xs = []
  · subst hx
    have e1 : its = [] := by cases rv; rfl
    subst e1
    exact SeqAt.RcNeAt.lists (e := fun _ => true) hl.isList hl2.isList rfl hu (fun j h1 _ => absurd h1 (by simp)) _ _ _ _ ⟨.bl _, H, I, rfl, q⟩
  · have e1 : its ≠ [] := fun z => by subst z; cases rv; exact hx rfl
    have e3 : (its.toArray.size != (#[] : Array Value).size) = true := by
      cases its with
      | nil => exact absurd rfl e1
      | cons a l => simp
    refine SeqAt.RcNeAt.lists_lengths hl.isList hl2.isList e3 hu _ _ _ _ ⟨.bl _, H, I, rfl, ?_⟩
    have e4 : (!decide (xs = [])) = true := by simpa using hx
    rw [e4] at q; exact q
theorem o_neE {B : Hp} {L : HL} {Q : KQ} {p q : Addr} {xs : List V} (hu : X.A.units < cLine) (h1 : Ls X.K B L p xs) (h2 : Ls X.K B L q []) (hq : Q (.bl (!decide (xs = []))) B L) : kO X (compareOp .NotEq) (.ref p) (.ref q) B L Q :=
  ⟨_, op_neE hu, fun H s => ⟨p, q, xs, rfl, rfl, h1.at s, h2.at s, _, _, s, hq⟩⟩
theorem o_neS {B : Hp} {L : HL} {Q : KQ} {x y : V} (h : scal x y = true) (hq : Q (.bl (!decide (x = y))) B L) : kO X (compareOp .NotEq) x y B L Q :=
  ⟨_, op_ne, fun H s => ⟨h, _, _, s, hq⟩⟩
theorem o_eqS {B : Hp} {L : HL} {Q : KQ} {x y : V} (h : scal x y = true) (hq : Q (.bl (decide (x = y))) B L) : kO X (compareOp .Eq) x y B L Q :=
  ⟨_, op_eq, fun H s => ⟨h, _, _, s, hq⟩⟩
end
section
variable {X : Cx} {σ : L2.St} {B : Hp} {L : HL} {Q : KQ} {a b : Expr} {pos : Pos}
theorem k_get_lg (hu : X.A.units + 64 < cLine) (h : kE X a σ B L fun x B1 L1 => kE X b σ B1 L1 fun y B2 L2 => ∃ q p1 p2 s, x = .ref q ∧ y = .str (sOf kLg) ∧ At B2 L2 q (dO p1 p2 s) ∧ Q (.ref p1) B2 L2)
    (hs : NoSl b := by exact fun _ _ => rfl) : kE X (.Subscript a b pos) σ B L Q :=
  ⟨_, pe_dget (by omega) pe_c pe_c hs, fun H s => toE s h fun _ _ _ _ s q => toE s q fun _ _ _ _ s ⟨q, p1, p2, st, e1, e2, hat, hq⟩ => ⟨q, _, e1, .inl ⟨dK5 p1 p2 st, .inr (sOf kLg), .inl (hat.at s), e2, (dv_lg).symm⟩, _, _, s, hq⟩⟩
theorem k_get_cl (hu : X.A.units + 64 < cLine) (h : kE X a σ B L fun x B1 L1 => kE X b σ B1 L1 fun y B2 L2 => ∃ q p1 p2 s, x = .ref q ∧ y = .str (sOf kCl) ∧ At B2 L2 q (dO p1 p2 s) ∧ Q (.ref p2) B2 L2)
    (hs : NoSl b := by exact fun _ _ => rfl) : kE X (.Subscript a b pos) σ B L Q :=
  ⟨_, pe_dget (by omega) pe_c pe_c hs, fun H s => toE s h fun _ _ _ _ s q => toE s q fun _ _ _ _ s ⟨q, p1, p2, st, e1, e2, hat, hq⟩ => ⟨q, _, e1, .inl ⟨dK5 p1 p2 st, .inr (sOf kCl), .inl (hat.at s), e2, (dv_cl).symm⟩, _, _, s, hq⟩⟩
theorem k_get_rs (hu : X.A.units + 64 < cLine) (h : kE X a σ B L fun x B1 L1 => kE X b σ B1 L1 fun y B2 L2 => ∃ q p1 p2 s, x = .ref q ∧ y = .str (sOf kRs) ∧ At B2 L2 q (dO p1 p2 s) ∧ Q (.int s.r) B2 L2)
    (hs : NoSl b := by exact fun _ _ => rfl) : kE X (.Subscript a b pos) σ B L Q :=
  ⟨_, pe_dget (by omega) pe_c pe_c hs, fun H s => toE s h fun _ _ _ _ s q => toE s q fun _ _ _ _ s ⟨q, p1, p2, st, e1, e2, hat, hq⟩ => ⟨q, _, e1, .inl ⟨dK5 p1 p2 st, .inr (sOf kRs), .inl (hat.at s), e2, (dv_rs).symm⟩, _, _, s, hq⟩⟩
theorem k_get_tn (hu : X.A.units + 64 < cLine) (h : kE X a σ B L fun x B1 L1 => kE X b σ B1 L1 fun y B2 L2 => ∃ q p1 p2 s, x = .ref q ∧ y = .str (sOf kTn) ∧ At B2 L2 q (dO p1 p2 s) ∧ Q (.int s.t) B2 L2)
    (hs : NoSl b := by exact fun _ _ => rfl) : kE X (.Subscript a b pos) σ B L Q :=
  ⟨_, pe_dget (by omega) pe_c pe_c hs, fun H s => toE s h fun _ _ _ _ s q => toE s q fun _ _ _ _ s ⟨q, p1, p2, st, e1, e2, hat, hq⟩ => ⟨q, _, e1, .inl ⟨dK5 p1 p2 st, .inr (sOf kTn), .inl (hat.at s), e2, (dv_tn).symm⟩, _, _, s, hq⟩⟩
theorem k_get_mx (hu : X.A.units + 64 < cLine) (h : kE X a σ B L fun x B1 L1 => kE X b σ B1 L1 fun y B2 L2 => ∃ q p1 p2 s, x = .ref q ∧ y = .str (sOf kMx) ∧ At B2 L2 q (dO p1 p2 s) ∧ Q (.int s.m) B2 L2)
    (hs : NoSl b := by exact fun _ _ => rfl) : kE X (.Subscript a b pos) σ B L Q :=
  ⟨_, pe_dget (by omega) pe_c pe_c hs, fun H s => toE s h fun _ _ _ _ s q => toE s q fun _ _ _ _ s ⟨q, p1, p2, st, e1, e2, hat, hq⟩ => ⟨q, _, e1, .inl ⟨dK5 p1 p2 st, .inr (sOf kMx), .inl (hat.at s), e2, (dv_mx).symm⟩, _, _, s, hq⟩⟩
theorem g_set_rs {i : Int} {Q : KN} (hu : X.A.units + 64 < cLine) (h : kE X a σ B L fun x B1 L1 => kE X b σ B1 L1 fun y B2 L2 => ∃ p p1 p2 s L3, x = .ref p ∧ y = .str (sOf kRs) ∧ Rep L2 p (dO p1 p2 s) (dO p1 p2 { s with r := i }) L3 ∧ Q σ B2 L3)
    (ha : ∀ v, assign (.Subscript a b pos) X.env v = (do
      let ov ← holding [v] (eval a X.env)
      let iv ← holding [v, ov] (eval b X.env)
      standAt pos
      holding [v, ov, iv] (setItem ov iv v)
      release [v, ov, iv] []) := by intro _; rfl) : kG X (.Subscript a b pos) (.int i) σ B L Q :=
  g_setd (by omega) (by
    obtain ⟨t, h1, h2⟩ := h
    refine ⟨_, pe_c, fun H s => toE s ⟨t, h1, h2⟩ fun v H' B' L' s' q => ⟨B', L', s', ?_⟩⟩
    obtain ⟨t2, h3, h4⟩ := q
    refine ⟨_, pe_c, fun H s => toE s ⟨t2, h3, h4⟩ fun v H' B' L' s' q => ⟨B', L', s', ?_⟩⟩
    obtain ⟨p, p1, p2, st, L3, e1, e2, r, q⟩ := q
    refine ⟨p, dK5 p1 p2 st, .inr (sOf kRs), L3, e1, e2, ?_, by simp, q⟩
    rw [dp_rs]; exact r) ha
theorem g_set_tn {i : Int} {Q : KN} (hu : X.A.units + 64 < cLine) (h : kE X a σ B L fun x B1 L1 => kE X b σ B1 L1 fun y B2 L2 => ∃ p p1 p2 s L3, x = .ref p ∧ y = .str (sOf kTn) ∧ Rep L2 p (dO p1 p2 s) (dO p1 p2 { s with t := i }) L3 ∧ Q σ B2 L3)
    (ha : ∀ v, assign (.Subscript a b pos) X.env v = (do
      let ov ← holding [v] (eval a X.env)
      let iv ← holding [v, ov] (eval b X.env)
      standAt pos
      holding [v, ov, iv] (setItem ov iv v)
      release [v, ov, iv] []) := by intro _; rfl) : kG X (.Subscript a b pos) (.int i) σ B L Q :=
  g_setd (by omega) (by
    obtain ⟨t, h1, h2⟩ := h
    refine ⟨_, pe_c, fun H s => toE s ⟨t, h1, h2⟩ fun v H' B' L' s' q => ⟨B', L', s', ?_⟩⟩
    obtain ⟨t2, h3, h4⟩ := q
    refine ⟨_, pe_c, fun H s => toE s ⟨t2, h3, h4⟩ fun v H' B' L' s' q => ⟨B', L', s', ?_⟩⟩
    obtain ⟨p, p1, p2, st, L3, e1, e2, r, q⟩ := q
    refine ⟨p, dK5 p1 p2 st, .inr (sOf kTn), L3, e1, e2, ?_, by simp, q⟩
    rw [dp_tn]; exact r) ha
theorem g_set_mx {i : Int} {Q : KN} (hu : X.A.units + 64 < cLine) (h : kE X a σ B L fun x B1 L1 => kE X b σ B1 L1 fun y B2 L2 => ∃ p p1 p2 s L3, x = .ref p ∧ y = .str (sOf kMx) ∧ Rep L2 p (dO p1 p2 s) (dO p1 p2 { s with m := i }) L3 ∧ Q σ B2 L3)
    (ha : ∀ v, assign (.Subscript a b pos) X.env v = (do
      let ov ← holding [v] (eval a X.env)
      let iv ← holding [v, ov] (eval b X.env)
      standAt pos
      holding [v, ov, iv] (setItem ov iv v)
      release [v, ov, iv] []) := by intro _; rfl) : kG X (.Subscript a b pos) (.int i) σ B L Q :=
  g_setd (by omega) (by
    obtain ⟨t, h1, h2⟩ := h
    refine ⟨_, pe_c, fun H s => toE s ⟨t, h1, h2⟩ fun v H' B' L' s' q => ⟨B', L', s', ?_⟩⟩
    obtain ⟨t2, h3, h4⟩ := q
    refine ⟨_, pe_c, fun H s => toE s ⟨t2, h3, h4⟩ fun v H' B' L' s' q => ⟨B', L', s', ?_⟩⟩
    obtain ⟨p, p1, p2, st, L3, e1, e2, r, q⟩ := q
    refine ⟨p, dK5 p1 p2 st, .inr (sOf kMx), L3, e1, e2, ?_, by simp, q⟩
    rw [dp_mx]; exact r) ha
end
/-- what stays of a drawing -/
structure DrC (D p1 p2 : Addr) (ns : List Int) : Prop where
  n1 : D ≠ p1
  n2 : p2 ≠ D
  n3 : p2 ≠ p1
  nl : ns.length ≤ 63
theorem DrH.c {H : Hp} {D p1 p2 : Addr} {s : Ds} {ns : List Int} (h : DrH H D p1 p2 s ns) : DrC D p1 p2 ns := ⟨h.n1, h.n2, h.n3, h.nl⟩
theorem DrC.h {B H : Hp} {L : HL} {D p1 p2 : Addr} {s : Ds} {ns : List Int} (c : DrC D p1 p2 ns) (sat : Sat B L H) (hD : (D, dO p1 p2 s) ∈ L) (h1 : (p1, lO s) ∈ L) (h2 : At B L p2 (.lst (ns.map V.int))) (st : DSt s) : DrH H D p1 p2 s ns :=
  .of sat hD h1 h2 c.n2 c.n3 c.n1 st c.nl
/-- the same items in another order, by their origins -/
theorem perm_map {α β : Type} {f : α → β} : ∀ {ys xs : List β}, ys.Perm xs → ∀ zs : List α, xs = zs.map f → ∃ zs' : List α, zs'.Perm zs ∧ ys = zs'.map f := by
  intro ys xs h
  induction h with
  | nil => intro zs e; exact ⟨zs, .refl _, e⟩
  | cons a _ ih =>
    intro zs e
    cases zs with
    | nil => cases e
    | cons z zs =>
      rw [List.map_cons] at e
      obtain ⟨e1, e2⟩ := List.cons.inj e
      obtain ⟨zs', p, e3⟩ := ih zs e2
      exact ⟨z :: zs', p.cons z, by rw [List.map_cons, e3, e1]⟩
  | swap a b l =>
    intro zs e
    match zs, e with
    | [], e => cases e
    | [_], e => cases e
    | x :: y :: zs, e =>
      simp only [List.map_cons, List.cons.injEq] at e
      obtain ⟨e1, e2, e3⟩ := e
      exact ⟨y :: x :: zs, .swap _ _ _, by rw [List.map_cons, List.map_cons, e1, e2, e3]⟩
  | trans _ _ ih1 ih2 =>
    intro zs e
    obtain ⟨z1, p1, e1⟩ := ih2 zs e
    obtain ⟨z2, p2, e2⟩ := ih1 z1 e1
    exact ⟨z2, p2.trans p1, e2⟩
theorem erase_perm {α : Type} : ∀ {l : List α} {k : Nat} {y : α}, l[k]? = some y → (y :: l.eraseIdx k).Perm l
  | [], _, _, h => by simp at h
  | a :: l, 0, y, h => by
    have : a = y := by simpa using h
    subst this; exact .refl _
  | a :: l, k + 1, y, h => by
    have ih := erase_perm (l := l) (k := k) (y := y) (by simpa using h)
    show (y :: a :: l.eraseIdx k).Perm (a :: l)
    exact (List.Perm.swap _ _ _).trans (ih.cons a)
section
variable {X : Cx} {B : Hp} {L : HL} {Q : KQ}
theorem shaped_st {a : List (List Nat)} (h : ∀ l ∈ a, ∀ c ∈ l, c < 1114112) : SeqAt.shaped (.tuple (dSs a)) = true := by
  unfold SeqAt.shaped
  have e1 : PyData.canLay0 (.tuple (dSs a)) = true := by unfold PyData.canLay0; exact lay_ss h
  have e2 : PyData.depth (.tuple (dSs a)) = 1 := by unfold PyData.depth; rw [depth_ss]
  rw [e1, e2]; rfl
/-- tuples of texts compared -/
theorem o_nets {p q : Addr} {a b : List (List Nat)} (hu : X.A.units + 64 < cLine) (h1 : Tp X.K B L p (a.map fun l => V.str (sOf l))) (h2 : Tp X.K B L q (b.map fun l => V.str (sOf l))) (hq : Q (.bl (!decide (a = b))) B L) (ha : ∀ l ∈ a, ∀ c ∈ l, c < 1114112) (hb : ∀ l ∈ b, ∀ c ∈ l, c < 1114112) :
    kO X (compareOp .NotEq) (.ref p) (.ref q) B L Q := o_neD hu (dd_t h1 (da_map (fun _ => dd_s) a)) (dd_t h2 (da_map (fun _ => dd_s) b)) (by show Q (.bl (!PyData.eqvAll (dSs a) (dSs b))) B L; rw [eqv_ss]; exact hq) (shaped_st ha) (shaped_st hb)
theorem o_eqts {p q : Addr} {a b : List (List Nat)} (hu : X.A.units + 64 < cLine) (h1 : Tp X.K B L p (a.map fun l => V.str (sOf l))) (h2 : Tp X.K B L q (b.map fun l => V.str (sOf l))) (hq : Q (.bl (decide (a = b))) B L) (ha : ∀ l ∈ a, ∀ c ∈ l, c < 1114112) (hb : ∀ l ∈ b, ∀ c ∈ l, c < 1114112) :
    kO X (compareOp .Eq) (.ref p) (.ref q) B L Q := o_eqD hu (dd_t h1 (da_map (fun _ => dd_s) a)) (dd_t h2 (da_map (fun _ => dd_s) b)) (by show Q (.bl (PyData.eqvAll (dSs a) (dSs b))) B L; rw [eqv_ss]; exact hq) (shaped_st ha) (shaped_st hb)
end
theorem at_in {α : Type} {l : List α} {r : Int} (h0 : 0 ≤ r) (h1 : r < l.length) : ∃ c, c ∈ l ∧ atI l r = some c := by
  obtain ⟨n, rfl⟩ : ∃ n : Nat, r = n := ⟨r.toNat, by omega⟩
  have hn : n < l.length := by omega
  exact ⟨l[n], List.getElem_mem hn, by rw [atI_n]; exact List.getElem?_eq_getElem hn⟩
theorem le64 {n : Nat} (h : n + 64 < cLine) : n < cLine := Nat.lt_of_le_of_lt (Nat.le_add_right _ _) h
end Kv

/-! Tables of sets with greater masks too: each slot is met, a first empty one, one more, laid anew. -/
namespace KvT
open PySem PySem.Spec PyProof.Rows L2
def nx (m x : Nat) : Nat := (x * 5 + 1) % (m + 1)
def it (m : Nat) : Nat → Nat → Nat
  | 0, x => x
  | n + 1, x => it m n (nx m x)
theorem it_add (m a : Nat) : ∀ (b x : Nat), it m b (it m a x) = it m (a + b) x := fun b => by
  induction a with
  | zero => intro x; rw [Nat.zero_add]; rfl
  | succ a ih => intro x; rw [show a + 1 + b = (a + b) + 1 by omega]; exact ih (nx m x)
theorem it_last (m n x : Nat) : it m (n + 1) x = nx m (it m n x) := by rw [← it_add m n 1 x]; rfl
theorem it_lcg (m x : Nat) : ∀ n, it m n x = lcgI m x n
  | 0 => rfl
  | n + 1 => by rw [it_last, it_lcg m x n]; rfl
/-- what is met, as the bits of a number -/
def met (m : Nat) : Nat → Nat → Nat → Nat
  | 0, _, acc => acc
  | n + 1, x, acc => met m n (nx m x) (acc ||| 1 <<< x)
theorem met_bit (m : Nat) : ∀ (n x acc j : Nat), (met m n x acc).testBit j = true → acc.testBit j = true ∨ ∃ b, b < n ∧ it m b x = j
  | 0, _, _, _, h => .inl h
  | n + 1, x, acc, j, h => by
    rcases met_bit m n _ _ j h with g | ⟨b, hb, e⟩
    · rw [Nat.testBit_or, Bool.or_eq_true] at g
      rcases g with g | g
      · exact .inl g
      · refine .inr ⟨0, Nat.succ_pos _, ?_⟩
        rw [Nat.shiftLeft_eq, Nat.one_mul, Nat.testBit_two_pow] at g
        exact of_decide_eq_true g
    · exact .inr ⟨b + 1, by omega, e⟩
/-- the masks that come -/
def MaskG (m : Nat) : Prop := m = 7 ∨ m = 31 ∨ m = 127 ∨ m = 511 ∨ m = 2047
theorem round_of {m : Nat} (hm : MaskG m) : met m (m + 1) 0 0 = 2 ^ (m + 1) - 1 ∧ it m (m + 1) 0 = 0 := by
  rcases hm with rfl | rfl | rfl | rfl | rfl
  · exact ⟨by decide +kernel, by decide +kernel⟩
  · exact ⟨by decide +kernel, by decide +kernel⟩
  · exact ⟨by decide +kernel, by decide +kernel⟩
  · exact ⟨by decide +kernel, by decide +kernel⟩
  · exact ⟨by decide +kernel, by decide +kernel⟩
theorem from0 {m j : Nat} (hm : MaskG m) (hj : j ≤ m) : ∃ b, b ≤ m ∧ it m b 0 = j := by
  have h : (met m (m + 1) 0 0).testBit j = true := by
    rw [(round_of hm).1, Nat.testBit_two_pow_sub_one]
    exact decide_eq_true (by omega)
  rcases met_bit m (m + 1) 0 0 j h with g | ⟨b, hb, e⟩
  · rw [Nat.zero_testBit] at g; cases g
  · exact ⟨b, by omega, e⟩
theorem from_any {m i j : Nat} (hm : MaskG m) (hi : i ≤ m) (hj : j ≤ m) : ∃ b, b ≤ m ∧ it m b i = j := by
  obtain ⟨a, ha, rfl⟩ := from0 hm hi
  obtain ⟨c, hc, rfl⟩ := from0 hm hj
  by_cases hac : a ≤ c
  · exact ⟨c - a, by omega, by rw [it_add, Nat.add_sub_cancel' hac]⟩
  · refine ⟨m + 1 - a + c, by omega, ?_⟩
    rw [it_add, show a + (m + 1 - a + c) = (m + 1) + c by omega, ← it_add m (m + 1) c 0, (round_of hm).2]
theorem runs_meet {m j : Nat} (hm : MaskG m) (h : Int) (hj : j ≤ m) : ∃ n, n ≤ m + 12 ∧ runI m (SetTable.bits h) n = j := by
  obtain ⟨b, hb, e⟩ := from_any hm (runI_le m (SetTable.bits h) 12) hj
  rw [it_lcg] at e
  exact ⟨12 + b, by omega, (runI_tail (bits_lt h) b).trans e⟩
theorem way_meets {m j : Nat} (hm : MaskG m) (h : Int) (hj : j ≤ m) : ∃ k, k < 10 * SetTable.turns m ∧ way m h k = j := by
  obtain ⟨n, hn, e⟩ := runs_meet hm h hj
  obtain ⟨k, hk, e2⟩ := run_nth m (SetTable.bits h) n
  exact ⟨k, by unfold SetTable.turns; omega, (congrArg SetTable.Probe.j e2).trans e⟩
theorem in_table (m : Nat) (h : Int) (k : Nat) : way m h k ≤ m := by
  have h0 : SetTable.bits h % (m + 1) ≤ m := Nat.le_of_lt_succ (Nat.mod_lt _ (Nat.succ_pos m))
  have q := nth_in (m := m) k (runAt m (SetTable.bits h % (m + 1)) (SetTable.bits h)) (by
    have g := runEnd_bd h0
    unfold runAt
    dsimp only
    omega)
  exact Nat.le_trans (Nat.le_add_right _ _) q
/-- a table whose slots are found again from their hashes -/
structure TabG (t : SetTable) (hs : List Int) : Prop where
  ris : Ris t.place.toList
  dm : t.dummies = #[]
  sz : t.place.size = hs.length
  mok : MaskG t.mask
  bd : ∀ x ∈ t.place.toList, x ≤ t.mask
  reach : ∀ (i : Nat) (h : Int) (j : Nat), hs[i]? = some h → t.place.toList[i]? = some j → ∃ k, way t.mask h k = j ∧ ∀ d, d < k → way t.mask h d ∈ t.place.toList
theorem mask_oddG {m : Nat} (h : MaskG m) : m % 2 = 1 := by rcases h with rfl | rfl | rfl | rfl | rfl <;> decide
section
variable {t : SetTable} {hs : List Int}
theorem TabG.first (T : TabG t hs) (hl : hs.length ≤ t.mask) (h : Int) : ∃ N, N < 10 * SetTable.turns t.mask ∧ way t.mask h N ∉ t.place.toList ∧ ∀ d, d < N → way t.mask h d ∈ t.place.toList := by
  have hlen : t.place.toList.length < t.mask + 1 := by
    have := T.sz
    rw [Array.length_toList]; omega
  obtain ⟨j, hj, hn⟩ := st_missing _ _ hlen
  obtain ⟨k, hk, rfl⟩ := way_meets T.mok h (show j ≤ t.mask by omega)
  obtain ⟨N, hN, h1, h2⟩ := st_least (p := fun d => way t.mask h d ∉ t.place.toList) k hn
  exact ⟨N, by omega, h1, fun d hd => Classical.byContradiction (h2 d hd)⟩
theorem TabG.before (T : TabG t hs) {h : Int} {N i j : Nat} (hN : way t.mask h N ∉ t.place.toList) (hi : hs[i]? = some h) (hj : t.place.toList[i]? = some j) : ∃ k, k < N ∧ way t.mask h k = j := by
  obtain ⟨k, rfl, hb⟩ := T.reach i h j hi hj
  refine ⟨k, Nat.lt_of_not_le fun hle => ?_, rfl⟩
  rcases Nat.lt_or_eq_of_le hle with lt | rfl
  · exact hN (hb N lt)
  · exact hN (List.mem_of_getElem? hj)
theorem TabG.put (T : TabG t hs) {h : Int} {N : Nat} (hN : way t.mask h N ∉ t.place.toList) (hb : ∀ d, d < N → way t.mask h d ∈ t.place.toList) :
    (t.put (way t.mask h N)).2 = SetTable.below t.place (way t.mask h N) ∧ SetTable.below t.place (way t.mask h N) ≤ hs.length ∧
    TabG (t.put (way t.mask h N)).1 (hs.take (SetTable.below t.place (way t.mask h N)) ++ h :: hs.drop (SetTable.below t.place (way t.mask h N))) ∧
    (t.put (way t.mask h N)).1.mask = t.mask ∧ (t.put (way t.mask h N)).1.led = t.led ∧ (t.put (way t.mask h N)).1.fill = hs.length + 1 := by
  have hjm := in_table t.mask h N
  generalize ej : way t.mask h N = j at hN hjm ⊢
  have c1 : SetTable.below t.place j ≤ t.place.size := (below_cut T.ris j).1
  generalize eb : SetTable.below t.place j = b at c1
  have lb : b ≤ t.place.toList.length := by rw [Array.length_toList]; exact c1
  have lh : b ≤ hs.length := by rw [← T.sz]; exact c1
  have pp : (t.put j).1.place.toList = t.place.toList.take b ++ j :: t.place.toList.drop b := by rw [← eb]; exact put_place t j
  have fresh : t.place[SetTable.below t.place j]? ≠ some j := fun e => hN (List.mem_of_getElem? (by rw [Array.getElem?_toList]; exact e))
  have psz : (t.put j).1.place.size = hs.length + 1 := by
    rw [← Array.length_toList, pp, len_ins _ lb, Array.length_toList, T.sz]
  have old : ∀ {x : Nat}, x ∈ t.place.toList → x ∈ (t.put j).1.place.toList := fun hx => by rw [pp]; exact mem_ins.mpr (.inr hx)
  refine ⟨eb, lh, ⟨ris_insert T.ris fresh, put_dm T.dm j, by rw [psz, len_ins _ lh], T.mok, fun x hx => ?_, fun i g y h1 h2 => ?_⟩, rfl, rfl, ?_⟩
  · rw [pp] at hx
    exact (mem_ins.mp hx).elim (fun e => by rw [e]; exact hjm) (T.bd x)
  · rw [tins_get hs lh] at h1
    rw [pp, tins_get _ lb] at h2
    by_cases a1 : i < b
    · rw [if_pos a1] at h1 h2
      obtain ⟨k, k1, k2⟩ := T.reach i g y h1 h2
      exact ⟨k, k1, fun d hd => old (k2 d hd)⟩
    · rw [if_neg a1] at h1 h2
      by_cases a2 : i = b
      · rw [if_pos a2] at h1 h2
        cases h1
        cases h2
        exact ⟨N, ej, fun d hd => old (hb d hd)⟩
      · rw [if_neg a2] at h1 h2
        obtain ⟨k, k1, k2⟩ := T.reach (i - 1) g y h1 h2
        exact ⟨k, k1, fun d hd => old (k2 d hd)⟩
  · unfold SetTable.fill
    rw [put_dm T.dm j, psz]; rfl
end
/-! laid anew -/
theorem free_at {m j : Nat} (hm : MaskG m) (owner : Array (Option Nat)) (h : Int) (hj : j ≤ m) (hf : oAt owner j = none) :
    ∃ N, SetTable.layClean.free m owner (SetTable.turns m) (SetTable.bits h % (m + 1)) (SetTable.bits h) = some (way m h N) ∧ oAt owner (way m h N) = none ∧ ∀ d, d < N → oAt owner (way m h d) ≠ none := by
  obtain ⟨n, hn, e⟩ := runs_meet hm h hj
  have hw : way m h (off m (SetTable.bits h % (m + 1)) (SetTable.bits h) n) = j := by
    have g := congrArg SetTable.Probe.j (nth_off m n (SetTable.bits h % (m + 1)) (SetTable.bits h))
    rw [itL_run] at g
    exact g.trans e
  obtain ⟨N, n1, n2, n3⟩ := st_least (p := fun d => oAt owner (way m h d) = none) _ (by show oAt owner (way m h _) = none; rw [hw]; exact hf)
  refine ⟨N, free_spec m owner (SetTable.turns m) n _ _ N (by unfold SetTable.turns; omega) n1 (fun d hd => ?_) (Option.isNone_iff_eq_none.mpr n2), n2, n3⟩
  cases z : oAt owner (way m h d) with
  | none => exact absurd z (n3 d hd)
  | some _ => rfl
theorem own_one {m : Nat} (hm : MaskG m) {done : List Int} {owner : Array (Option Nat)} (W : Own m done owner) (hl : done.length ≤ m) (h : Int) :
    ∃ j, SetTable.layClean.free m owner (SetTable.turns m) (SetTable.bits h % (m + 1)) (SetTable.bits h) = some j ∧ Own m (done ++ [h]) (owner.setIfInBounds j (some done.length)) := by
  obtain ⟨ps, p1, p2⟩ := W.ps
  obtain ⟨j0, q1, q2⟩ := st_missing ps (m + 1) (by omega)
  have free0 : oAt owner j0 = none := Classical.byContradiction fun z => q2 (p2 j0 (by omega) z)
  obtain ⟨N, e1, e2, e3⟩ := free_at hm owner h (by omega) free0
  have jm := in_table m h N
  generalize ej : way m h N = j at e1 e2 jm
  have self := oAt_set_self (owner := owner) (some done.length) (show j < owner.size by rw [W.sz]; omega)
  have full : ∀ {i : Nat}, oAt owner i ≠ none → oAt (owner.setIfInBounds j (some done.length)) i ≠ none := fun {i} hi => by
    by_cases c : i = j
    · rw [c, self]; simp
    · rw [oAt_set_ne _ c]; exact hi
  refine ⟨j, e1, by rw [Array.size_setIfInBounds]; exact W.sz, fun y k hy e => ?_, fun k hk => ?_, j :: ps, by simp [p1], fun y hy e => ?_⟩
  · by_cases c : y = j
    · rw [c, self] at e
      cases e
      exact ⟨h, N, by simp, ej.trans c.symm, fun d hd => full (e3 d hd)⟩
    · rw [oAt_set_ne _ c] at e
      obtain ⟨g, d, a1, a2, a3⟩ := W.at_ y k hy e
      have hk := (List.getElem?_eq_some_iff.mp a1).1
      exact ⟨g, d, by rw [List.getElem?_append_left hk]; exact a1, a2, fun d' hd => full (a3 d' hd)⟩
  · by_cases c : k < done.length
    · obtain ⟨y, hy, e⟩ := W.all k c
      have hyj : y ≠ j := fun z => by rw [z, e2] at e; cases e
      exact ⟨y, hy, by rw [oAt_set_ne _ hyj]; exact e⟩
    · have hk2 : k = done.length := by
        rw [List.length_append, List.length_singleton] at hk; omega
      exact ⟨j, jm, by rw [hk2]; exact self⟩
  · by_cases c : y = j
    · rw [c]; exact List.mem_cons_self
    · rw [oAt_set_ne _ c] at e
      exact .tail _ (p2 y hy e)
theorem own_all {m : Nat} (hm : MaskG m) : ∀ (rest done : List Int) (owner : Array (Option Nat)), Own m done owner → done.length + rest.length ≤ m →
    ∃ o2, rest.foldl (stepF m) (some (owner, done.length)) = some (o2, done.length + rest.length) ∧ Own m (done ++ rest) o2
  | [], done, owner, W, _ => ⟨owner, rfl, by rw [List.append_nil]; exact W⟩
  | h :: rest, done, owner, W, hl => by
    have hl2 : done.length + (rest.length + 1) ≤ m := hl
    obtain ⟨j, e, W1⟩ := own_one hm W (by omega) h
    have s1 : (done ++ [h]).length = done.length + 1 := by simp
    obtain ⟨o2, f, W2⟩ := own_all hm rest (done ++ [h]) _ W1 (by rw [s1]; omega)
    refine ⟨o2, ?_, by rw [show done ++ h :: rest = done ++ [h] ++ rest by simp]; exact W2⟩
    rw [List.foldl_cons, stepF_some e, ← s1, f, s1]
    congr 2
    show done.length + 1 + rest.length = done.length + (rest.length + 1)
    omega
theorem laid_ok {m : Nat} (hm : MaskG m) {hs : Array Int} (hn : hs.size ≤ m) : ∃ owner, SetTable.layClean m hs = some owner ∧ Own m hs.toList owner := by
  obtain ⟨o2, f, W⟩ := own_all hm hs.toList [] _ (Own.init m) (by simpa using hn)
  refine ⟨o2, ?_, W⟩
  have f0 : hs.toList.foldl (stepF m) (some (Array.replicate (m + 1) none, 0)) = _ := f
  rw [layClean_eq, f0]; rfl
theorem relaidG (t : SetTable) {hs : Array Int} {wanted M : Nat} (hw : SetTable.sizeAbove wanted - 1 = M) (hM : MaskG M) (hn : hs.size ≤ M) :
    ∃ t2 order, t.relaid hs wanted = some (t2, order) ∧ order.toList.Perm (List.range hs.size) ∧ TabG t2 (order.toList.map fun i => hs.getD i 0) ∧ t2.mask = M ∧ t2.led = t.led := by
  obtain ⟨owner, e, W⟩ := laid_ok hM hn
  have live := fun {j k : Nat} => mem_live (m := M) W.sz (j := j) (k := k)
  obtain ⟨r1, r2⟩ := ris_live (fun j => owner.getD j none) (List.range (M + 1)) List.pairwise_lt_range
  have r1 : Ris ((liveOf M owner).map (·.1)) := r1
  have nd : ((liveOf M owner).map (·.1)).Nodup := List.Pairwise.imp (fun h => Nat.ne_of_lt h) r1
  have seats : (liveOf M owner).length ≤ hs.size := by
    obtain ⟨ps, p1, p2⟩ := W.ps
    have g := nat_nodup_len _ ps nd fun x hx => by
      obtain ⟨⟨y, k⟩, hq, rfl⟩ := List.mem_map.mp hx
      obtain ⟨b1, b2⟩ := live.mp hq
      exact p2 y b1 (by rw [b2]; simp)
    rw [List.length_map, p1, Array.length_toList] at g
    exact g
  have has : ∀ k, k < hs.size → k ∈ (liveOf M owner).map (·.2) := fun k hk => by
    obtain ⟨j, b1, b2⟩ := W.all k (by rw [Array.length_toList]; exact hk)
    exact List.mem_map.mpr ⟨(j, k), live.mpr ⟨b1, b2⟩, rfl⟩
  have len : (liveOf M owner).length = hs.size := by
    have g := nat_nodup_len (List.range hs.size) _ List.nodup_range fun k hk => has k (List.mem_range.mp hk)
    rw [List.length_range, List.length_map] at g
    omega
  refine ⟨tabOf t M owner, ((liveOf M owner).map (·.2)).toArray, by rw [relaid_eq, hw, e]; rfl, ?_, ⟨r1, rfl, ?_, hM, fun x hx => ?_, fun i h j h1 h2 => ?_⟩, rfl, rfl⟩
  · exact perm_range hs.size _ (by rw [List.length_map]; exact len) has
  · show (((liveOf M owner).map (·.1)).toArray).size = _
    simp
  · obtain ⟨⟨y, k⟩, hq, rfl⟩ := List.mem_map.mp (show x ∈ (liveOf M owner).map (·.1) from hx)
    exact (live.mp hq).1
  · have h1 : (((liveOf M owner).map (·.2)).map fun i => hs.getD i 0)[i]? = some h := h1
    have h2 : ((liveOf M owner).map (·.1))[i]? = some j := h2
    rw [List.getElem?_map, List.getElem?_map] at h1
    rw [List.getElem?_map] at h2
    cases hq : (liveOf M owner)[i]? with
    | none => rw [hq] at h2; cases h2
    | some z =>
      obtain ⟨y, k⟩ := z
      rw [hq] at h1 h2
      have h1 : some (hs.getD k 0) = some h := h1
      have h2 : y = j := Option.some.inj h2
      subst h2
      obtain ⟨b1, b2⟩ := live.mp (List.mem_of_getElem? hq)
      obtain ⟨g, d, a1, a2, a3⟩ := W.at_ y k b1 b2
      have eg : hs.getD k 0 = g := by rw [Array.getD_eq_getD_getElem?, ← Array.getElem?_toList, a1]; rfl
      rw [eg] at h1
      cases h1
      refine ⟨d, a2, fun d' hd => ?_⟩
      show way M h d' ∈ (liveOf M owner).map (·.1)
      cases z : oAt owner (way M h d') with
      | none => exact absurd z (a3 d' hd)
      | some k2 => exact List.mem_map.mpr ⟨(way M h d', k2), live.mpr ⟨in_table M h d', z⟩, rfl⟩
theorem size_5 : SetTable.sizeAbove (SetTable.grown 5) = 32 := by decide +kernel
theorem size_19 : SetTable.sizeAbove (SetTable.grown 19) = 128 := by decide +kernel
theorem size_77 : SetTable.sizeAbove (SetTable.grown 77) = 512 := by decide +kernel
theorem size_307 : SetTable.sizeAbove (SetTable.grown 307) = 2048 := by decide +kernel
end KvT

/-! Sets of tuples whose items are keys of any kind (numbers, texts): filled one by one, walked, sorted. -/
namespace KvT
open PySem PySem.Spec PyProof.Rows L2
section
variable {K : Type} [DecidableEq K] {P : Program} {w : World} (kd : PySem.KeyKind P w K)
/-- what a tuple hashes to -/
abbrev hk (u : List K) : Int := tupleKeyHash kd u
/-- b holds the tuple u -/
abbrev Is (h : Heap) (u : List K) (b : Addr) : Prop := IsTupleKey kd h u b
/-- the rows that a table keeps -/
def rows (L : List (Addr × List K)) : List (Int × Value) := L.map fun z => (hk kd z.2, Value.ref z.1)
/-- a set's object whose members are told by L -/
structure Held (h : Heap) (a : Addr) (L : List (Addr × List K)) (es : Array (Int × Value)) (ep : Nat) (t : SetTable) : Prop where
  obj : ∃ o, h.get? a = some o ∧ o.ExactSet ∧ o.data = .set es ep t
  ent : es.toList = rows kd L
  tab : TabG t (L.map fun z => hk kd z.2)
  one : (L.map (·.2)).Nodup
  mem : ∀ z ∈ L, Is kd h z.2 z.1
  led : w.params.followText "set-order" = true ∨ t.led = true
  gap : L.length * 5 < t.mask * 3
  few : L.length < 1200
variable {kd}
variable {A : Around} {E : Value → Shared → Prop} {s : Shared}
theorem item_cls {v : Value} (c : carriedByValue v = true) (n : Nat) : ofAClassStatement n v = pure false := by
  cases v <;> first | (cases n <;> rfl) | cases c
theorem item_hash {v : Value} (c : carriedByValue v = true) (n : Nat) : ∃ b, hashByValue n v = pure b := by
  cases v <;> first | (cases n <;> exact ⟨_, rfl⟩) | cases c
theorem tup_cls {u : List K} {b : Addr} {Q : Bool → Shared → Prop} (x : Is kd s.heap u b) (q : Q false s) : wpAny (model P w) A (ofAClassStatement 8 (.ref b)) Q E s := by
  have ty := x.typeIs
  obtain ⟨o, its, n, e1, _, e2, all⟩ := x
  unfold ofAClassStatement
  refine wpAny_bind (wpAny_typeOf ty ?_)
  dsimp only
  simp only [show (("tuple" : String) == "tuple") = true from by decide, if_true, Bool.not_true, Bool.false_eq_true, if_false]
  try refine wpAny_bind (wpAny_pure ?_)
  try simp only [Bool.not_true, Bool.false_eq_true, if_false]
  show wpAny _ _ (seqItems? (.ref b) >>= _) _ _ s
  refine wpAny_bind (wpAny_seqItems e1 e2 ?_)
  dsimp only
  refine wpAny_bind ?_
  show wpAny _ _ (forIn its _ _) _ _ s
  rw [← Array.forIn_toList]
  refine wpAny_forIn_list _ (fun left r s1 => r.1 = none ∧ s1 = s ∧ ∀ v ∈ left, carriedByValue v = true) _ ?_ ?_ _ _ ⟨rfl, rfl, all.byValue⟩
  · rintro v left r s1 ⟨_, rfl, hv⟩
    rw [item_cls (hv v List.mem_cons_self)]
    refine wpAny_bind (wpAny_pure ?_)
    simp only [Bool.false_eq_true, if_false]
    exact wpAny_pure ⟨rfl, rfl, fun y hy => hv y (.tail _ hy)⟩
  · rintro ⟨r1, r2⟩ s1 ⟨er, rfl, _⟩
    cases er
    exact wpAny_pure q
theorem tup_hash {u : List K} {b : Addr} {Q : Bool → Shared → Prop} (x : Is kd s.heap u b) (q : ∀ c, Q c s) : wpAny (model P w) A (hashByValue 8 (.ref b)) Q E s := by
  have ty := x.typeIs
  obtain ⟨o, its, n, e1, _, e2, all⟩ := x
  unfold hashByValue
  refine wpAny_bind (wpAny_specialOf ty F.slot_tuple_hash.lookup ?_)
  show wpAny _ _ (seqItems? (.ref b) >>= _) _ _ s
  refine wpAny_bind (wpAny_seqItems e1 e2 ?_)
  refine wpAny_bind ?_
  show wpAny _ _ (forIn its _ _) _ _ s
  rw [← Array.forIn_toList]
  refine wpAny_forIn_list _ (fun left r s1 => r.1 = none ∧ s1 = s ∧ ∀ v ∈ left, carriedByValue v = true) _ ?_ ?_ _ _ ⟨rfl, rfl, all.byValue⟩
  · rintro v left r s1 ⟨_, rfl, hv⟩
    obtain ⟨c, ec⟩ := item_hash (hv v List.mem_cons_self) 7
    rw [ec]
    refine wpAny_bind (wpAny_pure ?_)
    cases c
    · simp only [Bool.not_false, if_true]
      exact wpAny_pure (wpAny_pure (q _))
    · simp only [Bool.not_true, Bool.false_eq_true, if_false]
      exact wpAny_pure ⟨rfl, rfl, fun y hy => hv y (.tail _ hy)⟩
  · rintro ⟨r1, r2⟩ s1 ⟨er, rfl, _⟩
    cases er
    exact wpAny_pure (q _)
/-- a search among tuples is seen by nobody -/
theorem tup_unseen {u : List K} {b : Addr} {Q : Bool → Shared → Prop} (x : Is kd s.heap u b) {ys : List Value} (hy : ∀ y ∈ ys, ∃ v c, y = Value.ref c ∧ Is kd s.heap v c) (q : Q false s) :
    wpAny (model P w) A (searchCouldBeSeen (.ref b) ys) Q E s := by
  unfold searchCouldBeSeen
  refine wpAny_bind ?_
  refine wpAny_forIn_list _ (fun left r s1 => r.1 = none ∧ s1 = s ∧ ∀ y ∈ left, ∃ v c, y = Value.ref c ∧ Is kd s.heap v c) _ ?_ ?_ _ _ ⟨rfl, rfl, hy⟩
  · rintro y left r s1 ⟨_, rfl, hl⟩
    obtain ⟨v, c, rfl, xc⟩ := hl y List.mem_cons_self
    have more : r.1 = none → ∀ z ∈ left, ∃ v c, z = Value.ref c ∧ Is kd s1.heap v c := fun _ z hz => hl z (.tail _ hz)
    dsimp only
    by_cases same : (b == c || (carriedByValue (.ref b) && carriedByValue (.ref c))) = true
    · exact wp_if_pos same (wpAny_pure ⟨rfl, rfl, fun z hz => hl z (.tail _ hz)⟩)
    · refine wp_if_neg same (wpAny_bind (wpAny_eqIsQuiet_tuple x ?_))
      simp only [Bool.not_true, Bool.false_eq_true, if_false]
      refine wpAny_bind (wpAny_eqIsQuiet_tuple xc ?_)
      simp only [Bool.not_true, Bool.false_eq_true, if_false]
      refine wpAny_bind (tup_cls x ?_)
      simp only [Bool.false_eq_true, if_false]
      refine wpAny_bind (tup_cls xc ?_)
      simp only [Bool.false_eq_true, if_false]
      exact wpAny_pure ⟨rfl, rfl, fun z hz => hl z (.tail _ hz)⟩
  · rintro ⟨r1, r2⟩ s1 ⟨er, rfl, _⟩
    cases er
    exact wpAny_pure q
variable {a : Addr} {L : List (Addr × List K)} {es : Array (Int × Value)} {ep : Nat} {t : SetTable}
theorem rows_len : (rows kd L).length = L.length := List.length_map _
theorem ent_size (e : es.toList = rows kd L) : es.size = L.length := by rw [← Array.length_toList, e, rows_len]
theorem fits_of (hd : t.dummies = #[]) (h1 : t.place.size = es.size) (h2 : es.size ≤ t.mask) : t.fits es.size = true := by
  unfold SetTable.fits SetTable.fill
  rw [hd, Bool.and_eq_true, beq_iff_eq, decide_eq_true_eq]
  refine ⟨h1, ?_⟩
  show t.place.size + 0 ≤ t.mask
  omega
theorem Held.places (R : Held kd s.heap a L es ep t) : t.place.size = es.size := by
  rw [ent_size R.ent, R.tab.sz, List.length_map]
theorem Held.fits (R : Held kd s.heap a L es ep t) : t.fits es.size = true := fits_of R.tab.dm R.places (by have := ent_size R.ent; have := R.gap; omega)
theorem Held.at_ (R : Held kd s.heap a L es ep t) {i : Nat} {z : Addr × List K} (h : L[i]? = some z) : es[i]? = some (hk kd z.2, Value.ref z.1) := by
  rw [← Array.getElem?_toList, R.ent, rows, List.getElem?_map, h]; rfl
theorem Held.stays (R : Held kd s.heap a L es ep t) : ¬ t.gaveWay = true := by
  unfold SetTable.gaveWay; rw [mask_oddG R.tab.mok]; decide
/-- the probe behind c steps -/
abbrev prb (t : SetTable) (x : Int) (c : Nat) : SetTable.Probe := nth t.mask (runAt t.mask (SetTable.bits x % (t.mask + 1)) (SetTable.bits x)) c
theorem prb_dummy (t : SetTable) (x : Int) (c : Nat) : (prb t x c).dummy = none := by
  have g : ∀ (n : Nat) (p : SetTable.Probe), p.dummy = none → (nth t.mask p n).dummy = none := fun n => by
    induction n with
    | zero => exact fun _ e => e
    | succ n ih => exact fun p e => ih _ (by unfold adv; split <;> exact e)
  exact g c _ rfl
theorem prb_add (t : SetTable) (x : Int) (c d : Nat) : nth t.mask (prb t x c) d = prb t x (c + d) := (nth_add t.mask c _ d).symm
theorem own_mem (t : SetTable) : t.sameMemory t.moves t.mask = some true := by
  unfold SetTable.sameMemory; rw [if_pos (beq_self_eq_true _)]
/-- the slots on the way that hold the word itself are still ahead -/
def Ahead (L : List (Addr × List K)) (t : SetTable) (u : List K) (x : Int) (c N : Nat) : Prop := ∀ (i : Nat) z, L[i]? = some z → z.2 = u → ∃ d, c ≤ d ∧ d < N ∧ t.place.toList[i]? = some (way t.mask x d)
/-- where a search goes from a step of its way -/
theorem seek (R : Held kd s.heap a L es ep t) {b : Addr} {u : List K} (x : Is kd s.heap u b) (hu : A.units < cLine) {N : Nat} (lim : N < 10 * SetTable.turns t.mask)
    (emp : way t.mask (hk kd u) N ∉ t.place.toList) (occ : ∀ c, c < N → way t.mask (hk kd u) c ∈ t.place.toList) {Q : SetFound → Shared → Prop}
    (yes : u ∈ L.map (·.2) → Q (.there none) s) (no : u ∉ L.map (·.2) → Q (.free (way t.mask (hk kd u) N) false) s) :
    ∀ (f c : Nat) (st : Option SetTable.Probe), st.getD (t.probeStart (hk kd u)) = prb t (hk kd u) c → c ≤ N → N - c < f → Ahead L t u (hk kd u) c N →
      wpAny (model P w) A (setSearchFrom a (.ref b) (hk kd u) true f st) Q E s := by
  intro f
  induction f with
  | zero => exact fun c st _ _ z _ => absurd z (Nat.not_lt_zero _)
  | succ f ih =>
    intro c st est hc hf hA
    obtain ⟨o, ho, _, hd⟩ := R.obj
    rw [setSearchFrom_succ]
    refine wpAny_bind (wpAny_setState_of ho hd R.fits ?_)
    dsimp only
    refine wp_if_neg R.stays ?_
    try refine wpAny_bind (wpAny_pure ?_)
    have jj : ∀ d, (nth t.mask (prb t (hk kd u) c) d).j = way t.mask (hk kd u) (c + d) := fun d => congrArg SetTable.Probe.j (prb_add t _ c d)
    have hsh : ∀ (i : Nat) z, L[i]? = some z → (es[i]?.map (·.1)).getD 0 = hk kd z.2 := fun i z hz => by rw [R.at_ hz]; rfl
    have sp := go_spec t R.tab.ris R.tab.dm (fun i => (es[i]?.map (·.1)).getD 0) (hk kd u) (10 * SetTable.turns t.mask) (N - c) (prb t (hk kd u) c) (prb_dummy t _ c) (Nat.lt_of_le_of_lt (Nat.sub_le _ _) lim) (fun d hd' => by rw [jj]; exact occ _ (by omega)) (by rw [jj, Nat.add_sub_cancel' hc]; exact emp)
    rcases sp with ⟨d, i, hdN, hi, _, hnone, hgo⟩ | ⟨hnone, hgo⟩
    · rw [jj] at hi
      have hcand : t.probe (fun i => (es[i]?.map (·.1)).getD 0) (hk kd u) (st.getD (t.probeStart (hk kd u))) = some (.candidate (way t.mask (hk kd u) (c + d)) i (prb t (hk kd u) (c + (d + 1)))) := by
        rw [est, ← jj, ← prb_add]; exact hgo
      rw [hcand]
      dsimp only
      have hlt : i < L.length := by
        have e1 := (List.getElem?_eq_some_iff.mp hi).1
        have e2 := R.places
        have e3 := ent_size R.ent
        rw [Array.length_toList] at e1
        omega
      obtain ⟨z, hz, hzm⟩ : ∃ z, L[i]? = some z ∧ z ∈ L := ⟨_, List.getElem?_eq_getElem hlt, List.getElem_mem hlt⟩
      have xz := R.mem z hzm
      have hlive : t.slot (way t.mask (hk kd u) (c + d)) = .live i := slot_live R.tab.ris hi
      have tail : wpAny (model P w) A (searchRest a (.ref b) (hk kd u) true f es t (way t.mask (hk kd u) (c + d)) i (prb t (hk kd u) (c + (d + 1)))) Q E s := by
        unfold searchRest
        rw [R.at_ hz]
        dsimp only
        refine wpAny_bind (wpAny_holding (wpAny_eqBool_tuple hu xz x ?_))
        refine wpAny_bind (wpAny_setState_of ho hd R.fits ?_)
        dsimp only
        by_cases eq : z.2 = u
        · exact wp_if_pos (by simp [eq]) (wpAny_pure (yes (List.mem_map.mpr ⟨z, hzm, eq⟩)))
        · refine wp_if_neg (by simp [eq]) ?_
          try refine wpAny_bind (wpAny_pure ?_)
          rw [own_mem]
          dsimp only
          simp only [if_true, hlive, R.at_ hz]
          refine wpAny_bind (wpAny_isSame_ref_self (wpAny_bind (wpAny_pure ?_)))
          simp only [if_true]
          refine wp_if_neg (by simp [eq]) ?_
          refine ih (c + (d + 1)) _ rfl (by omega) (by omega) fun i0 z0 h0 e0 => ?_
          obtain ⟨m, m1, m2, m3⟩ := hA i0 z0 h0 e0
          refine ⟨m, ?_, m2, m3⟩
          rcases Nat.lt_trichotomy m (c + d) with lt | rfl | gt
          · refine absurd ((hsh i0 z0 h0).trans (congrArg (hk kd) e0)) (hnone (m - c) i0 (by omega) ?_)
            rw [jj, Nat.add_sub_cancel' m1]; exact m3
          · have l2 := slot_live R.tab.ris m3
            rw [hlive] at l2
            injection l2 with l2
            rw [← l2, hz] at h0
            exact absurd ((congrArg Prod.snd (Option.some.inj h0)).trans e0) eq
          · omega
      by_cases hl : t.led = true
      · refine wp_if_neg (by simp [hl]) ?_
        try refine wpAny_bind (wpAny_pure ?_)
        exact tail
      · refine wp_if_pos (by simp [hl]) (wpAny_bind (tup_unseen x (fun y hy => ?_) ?_))
        · obtain ⟨e, he, rfl⟩ := List.mem_map.mp hy
          have he2 : e ∈ es.toList := by
            have : e ∈ es ∧ e.1 = hk kd u := by simpa using he
            simpa using this.1
          rw [R.ent] at he2
          obtain ⟨z2, hz2, rfl⟩ := List.mem_map.mp he2
          exact ⟨z2.2, z2.1, rfl, R.mem z2 hz2⟩
        · refine wp_if_neg (by decide) ?_
          try refine wpAny_bind (wpAny_pure ?_)
          exact tail
    · have hemp : t.probe (fun i => (es[i]?.map (·.1)).getD 0) (hk kd u) (st.getD (t.probeStart (hk kd u))) = some (.empty (way t.mask (hk kd u) N) none) := by
        have e : way t.mask (hk kd u) N = (nth t.mask (prb t (hk kd u) c) (N - c)).j := by rw [jj, Nat.add_sub_cancel' hc]
        rw [est, e]; exact hgo
      rw [hemp]
      dsimp only
      refine wpAny_pure (no fun hm => ?_)
      obtain ⟨z0, hz0, e0⟩ := List.mem_map.mp hm
      obtain ⟨i0, hi0, rfl⟩ := List.getElem_of_mem hz0
      have h0 : L[i0]? = some L[i0] := List.getElem?_eq_getElem hi0
      obtain ⟨m, m1, m2, m3⟩ := hA i0 _ h0 e0
      refine absurd ((hsh i0 _ h0).trans (congrArg (hk kd) e0)) (hnone (m - c) i0 (by omega) ?_)
      rw [jj, Nat.add_sub_cancel' m1]; exact m3
/-- .. as `add` asks -/
theorem seek_add (R : Held kd s.heap a L es ep t) {b : Addr} {u : List K} (x : Is kd s.heap u b) (hu : A.units < cLine) {Q : SetFound → Shared → Prop} (yes : u ∈ L.map (·.2) → Q (.there none) s)
    (no : ∀ N, u ∉ L.map (·.2) → way t.mask (hk kd u) N ∉ t.place.toList → (∀ c, c < N → way t.mask (hk kd u) c ∈ t.place.toList) → Q (.free (way t.mask (hk kd u) N) false) s) :
    wpAny (model P w) A (setSearch a (.ref b) (hk kd u) true) Q E s := by
  have hg := R.gap
  obtain ⟨N, lim, emp, occ⟩ := R.tab.first (by rw [List.length_map]; omega) (hk kd u)
  have small : 10 * SetTable.turns t.mask ≤ 21000 := by
    unfold SetTable.turns
    rcases R.tab.mok with e | e | e | e | e <;> rw [e] <;> decide
  unfold setSearch
  refine seek R x hu lim emp occ yes (fun hn => no N hn emp occ) 100000 0 none rfl (Nat.zero_le _) (by omega) fun i z hz e => ?_
  have e1 : (L.map fun z => hk kd z.2)[i]? = some (hk kd u) := by rw [List.getElem?_map, hz, ← e]; rfl
  have hil : i < t.place.toList.length := by
    have h1 := (List.getElem?_eq_some_iff.mp hz).1
    have h2 := R.places
    have h3 := ent_size R.ent
    rw [Array.length_toList]
    omega
  have e2 := List.getElem?_eq_getElem hil
  obtain ⟨d, hd, e3⟩ := R.tab.before emp e1 e2
  exact ⟨d, Nat.zero_le _, hd, by rw [e2, e3]⟩
theorem TabG.alike {t1 t2 : SetTable} {hs : List Int} (T : TabG t1 hs) (e1 : t2.place = t1.place) (e2 : t2.dummies = t1.dummies) (e3 : t2.mask = t1.mask) : TabG t2 hs := by
  refine ⟨by rw [e1]; exact T.ris, by rw [e2]; exact T.dm, by rw [e1]; exact T.sz, by rw [e3]; exact T.mok, fun y hy => ?_, fun i h j h1 h2 => ?_⟩
  · rw [e1] at hy; rw [e3]; exact T.bd y hy
  · rw [e1] at h2
    obtain ⟨c, c1, c2⟩ := T.reach i h j h1 h2
    exact ⟨c, by rw [e3]; exact c1, fun d hd => by rw [e1, e3]; exact c2 d hd⟩
theorem range_pick {α : Type} (l : List α) : (List.range l.length).filterMap (fun i => l[i]?) = l := by
  have g : ∀ n, n ≤ l.length → (List.range n).filterMap (fun i => l[i]?) = l.take n := fun n => by
    induction n with
    | zero => exact fun _ => by simp
    | succ n ih =>
      intro hn
      rw [List.range_succ, List.filterMap_append, ih (by omega), List.take_add_one]
      have : l[n]? = some l[n] := List.getElem?_eq_getElem hn
      simp [this]
  rw [g _ (Nat.le_refl _), List.take_length]
/-- the rows in another order -/
theorem pick_rows (order : Array Nat) (e : es.toList = rows kd L) (pm : order.toList.Perm (List.range L.length)) :
    ∃ L2, (order.filterMap (es[·]?)).toList = rows kd L2 ∧ L2.Perm L ∧ L2.map (fun z => hk kd z.2) = order.toList.map fun i => (es.map (·.1)).getD i 0 := by
  have ea : ∀ i : Nat, es[i]? = (L[i]?).map fun z => (hk kd z.2, Value.ref z.1) := fun i => by rw [← Array.getElem?_toList, e, rows, List.getElem?_map]
  have eh : ∀ i : Nat, i < L.length → (es.map (·.1)).getD i 0 = (L[i]?.map fun z => hk kd z.2).getD 0 := fun i hi => by
    rw [Array.getD_eq_getD_getElem?, Array.getElem?_map, ea i, List.getElem?_eq_getElem hi]; rfl
  have lt : ∀ i ∈ order.toList, i < L.length := fun i hi => List.mem_range.mp (pm.mem_iff.mp hi)
  refine ⟨order.toList.filterMap fun i => L[i]?, ?_, ?_, ?_⟩
  · rw [Array.toList_filterMap, rows, List.map_filterMap]
    congr 1
    funext i
    exact ea i
  · have h1 := pm.filterMap fun i => L[i]?
    rw [range_pick] at h1
    exact h1
  · generalize order.toList = l at lt
    induction l with
    | nil => rfl
    | cons i l ih =>
      have hi := lt i List.mem_cons_self
      rw [List.map_cons, ← ih fun j hj => lt j (.tail _ hj), eh i hi, List.filterMap_cons_some (List.getElem?_eq_getElem hi), List.getElem?_eq_getElem hi]
      rfl
theorem set_not_tup {h h' : Heap} {u : List K} {b : Addr} {o : Obj} (x : Is kd h u b) (ho : h.get? a = some o) (hd : o.data = .set es ep t) (sb : Heap.SameBut a h h') : Is kd h' u b := by
  obtain ⟨o2, its, n, h1, h2, h3, h4⟩ := x
  refine ⟨o2, its, n, (sb.2 b ?_).trans h1, h2, h3, h4⟩
  rintro rfl
  rw [h1] at ho
  cases ho
  rw [hd] at h3
  cases h3
/-- laid anew -/
theorem relay {o : Obj} (ho : s.heap.get? a = some o) (hx : o.ExactSet) (hd : o.data = .set es ep t) (e : es.toList = rows kd L) (hp : t.place.size = es.size) (hm : t.dummies = #[]) (hf : es.size ≤ t.mask)
    (one : (L.map (·.2)).Nodup) (mem : ∀ z ∈ L, Is kd s.heap z.2 z.1) (led : w.params.followText "set-order" = true ∨ t.led = true) (few : L.length < 1200) {want M : Nat}
    (hw : SetTable.sizeAbove want - 1 = M) (hM : MaskG M) (hs : SetTable.sizeAbove want ≤ 2048) (gap : L.length * 5 < M * 3) {Q : Unit → Shared → Prop}
    (q : ∀ h' L2 es2 ep2 t2, Heap.SameBut a s.heap h' → Held kd h' a L2 es2 ep2 t2 → L2.Perm L → Q () { s with heap := h' }) : wpAny (model P w) A (setRelay a want) Q E s := by
  have sz := ent_size e
  obtain ⟨t2, order, e1, pm, T, m2, l2⟩ := relaidG t (hs := es.map (·.1)) hw hM (by rw [Array.size_map, sz]; omega)
  rw [Array.size_map, sz] at pm
  obtain ⟨L2, r1, r2, r3⟩ := pick_rows order e pm
  rw [← r3] at T
  have sz2 : (order.filterMap (es[·]?)).size = es.size := by rw [ent_size r1, r2.length_eq, sz]
  rw [setRelay_eq]
  refine wpAny_bind (wpAny_setState_of ho hd (fits_of hm hp hf) ?_)
  dsimp only
  refine wp_if_neg (by rw [sizeLine_eq]; omega) ?_
  try refine wpAny_bind (wpAny_pure ?_)
  rw [e1]
  dsimp only
  refine wpAny_bind (wp_if_neg (by rw [sz2]; simp) ?_)
  try refine wpAny_bind (wpAny_pure ?_)
  refine wpAny_pure ?_
  dsimp only
  refine wpAny_storeSet_of ho hd ?_ (by rw [sz2, sz, sizeLine_eq]; omega)
  have sb : Heap.SameBut a s.heap (s.heap.update a (Obj.putSet (order.filterMap (es[·]?)) t2)) := Heap.SameBut.update ..
  refine q _ L2 _ (ep + 1) t2 sb ⟨⟨_, store_at ho hd, ⟨hx.1, hx.2.1, hx.2.2⟩, rfl⟩, r1, T, (r2.map (·.2)).nodup_iff.mpr one, fun z hz => set_not_tup (mem z (r2.mem_iff.mp hz)) ho hd sb, by rw [l2]; exact led, by rw [r2.length_eq, m2]; exact gap, by rw [r2.length_eq]; exact few⟩ r2
theorem ins_perm {α : Type} (l : List α) (p : Nat) (x : α) : (l.take p ++ x :: l.drop p).Perm (x :: l) := by
  have g := List.perm_middle (a := x) (l₁ := l.take p) (l₂ := l.drop p)
  rwa [List.take_append_drop] at g
/-- one more -/
theorem add (R : Held kd s.heap a L es ep t) {b : Addr} {u : List K} (x : Is kd s.heap u b) (hu : A.units < cLine) (few : L.length + 1 < 1200) {Q : Bool → Shared → Prop}
    (q : ∀ r h' L2 es2 ep2 t2, Heap.SameBut a s.heap h' → Held kd h' a L2 es2 ep2 t2 → (u ∈ L.map (·.2) → L2 = L) → (u ∉ L.map (·.2) → L2.Perm ((b, u) :: L)) → Q r { s with heap := h' }) :
    wpAny (model P w) A (setAddHashed a (.ref b) (hk kd u)) Q E s := by
  obtain ⟨o, ho, hx, hd⟩ := R.obj
  have sz := ent_size R.ent
  have gap := R.gap
  unfold setAddHashed
  refine wpAny_holding ?_
  rw [show (100000 : Nat) = 99999 + 1 from rfl, setAddHashedIn_succ]
  refine wpAny_bind (wpAny_setState_of ho hd R.fits ?_)
  dsimp only
  refine wp_if_neg (by simp [byScan, Value.scannable]) ?_
  try refine wpAny_bind (wpAny_pure ?_)
  refine wpAny_bind (seek_add R x hu (fun hm => ?_) fun N hm emp occ => ?_)
  · exact wpAny_pure (q false s.heap L es ep t (.refl a s.heap) R (fun _ => rfl) fun z => absurd hm z)
  dsimp only
  refine wpAny_bind (wpAny_setState_of ho hd R.fits ?_)
  dsimp only
  obtain ⟨b1, b2, T1, m1, l1, f1⟩ := R.tab.put emp occ
  have ins : (SetTable.insertAt es (SetTable.below t.place (way t.mask (hk kd u) N)) (hk kd u, Value.ref b)).toList = rows kd (L.take (SetTable.below t.place (way t.mask (hk kd u) N)) ++ (b, u) :: L.drop (SetTable.below t.place (way t.mask (hk kd u) N))) := by
    rw [SetTable.toList_insertAt, R.ent]
    simp only [rows, List.map_append, List.map_cons, List.map_take, List.map_drop]
  have hmap : (L.take (SetTable.below t.place (way t.mask (hk kd u) N)) ++ (b, u) :: L.drop (SetTable.below t.place (way t.mask (hk kd u) N))).map (fun z => hk kd z.2) = (L.map fun z => hk kd z.2).take (SetTable.below t.place (way t.mask (hk kd u) N)) ++ hk kd u :: (L.map fun z => hk kd z.2).drop (SetTable.below t.place (way t.mask (hk kd u) N)) := by
    simp only [List.map_append, List.map_cons, List.map_take, List.map_drop]
  rw [← hmap] at T1
  generalize hpt : t.put (way t.mask (hk kd u) N) = pt at b1 T1 m1 l1 f1 ⊢
  obtain ⟨t1, p1⟩ := pt
  dsimp only at b1 T1 m1 l1 f1 ⊢
  subst b1
  generalize hbl : SetTable.below t.place (way t.mask (hk kd u) N) = pos at b2 T1 ins ⊢
  have pm := ins_perm L pos (b, u)
  generalize L.take pos ++ (b, u) :: L.drop pos = L1 at pm T1 ins
  have len1 : L1.length = L.length + 1 := pm.length_eq
  have one1 : (L1.map (·.2)).Nodup := (pm.map (·.2)).nodup_iff.mpr (by rw [List.map_cons]; exact List.nodup_cons.mpr ⟨hm, R.one⟩)
  have sz1 := ent_size ins
  generalize SetTable.insertAt es pos (hk kd u, Value.ref b) = es1 at ins sz1 ⊢
  rw [sz]
  have go : ∀ t2 : SetTable, t2.place = t1.place → t2.dummies = t1.dummies → t2.mask = t1.mask → t2.led = t1.led → wpAny (model P w) A (storeSet a es1 t2 >>= fun _ => if (!false && t2.tooFull) = true then (setRelay a (SetTable.grown (L.length + 1)) >>= fun _ => pure true) else pure true) Q E s := by
    intro t2 g1 g2 g3 g4
    have T2 := TabG.alike T1 g1 g2 g3
    refine wpAny_bind (wpAny_storeSet_of ho hd ?_ (by rw [sz1, len1, sizeLine_eq]; omega))
    have sb : Heap.SameBut a s.heap (s.heap.update a (Obj.putSet es1 t2)) := Heap.SameBut.update ..
    have ho1 := store_at (es' := es1) (t' := t2) ho hd
    generalize s.heap.update a (Obj.putSet es1 t2) = h1 at sb ho1 ⊢
    have mem1 : ∀ z ∈ L1, Is kd h1 z.2 z.1 := fun z hz => by
      rcases List.mem_cons.mp (pm.mem_iff.mp hz) with e | hz
      · rw [e]; exact set_not_tup x ho hd sb
      · exact set_not_tup (R.mem z hz) ho hd sb
    have led1 : w.params.followText "set-order" = true ∨ t2.led = true := by rw [g4, l1]; exact R.led
    have pl2 : t2.place.size = es1.size := by rw [T2.sz, List.length_map, sz1]
    have fill2 : t2.fill = L.length + 1 := by
      unfold SetTable.fill
      rw [g1, g2]
      rw [List.length_map] at f1
      exact f1
    by_cases full : t2.tooFull = true
    · have big : (L.length + 1) * 5 ≥ t2.mask * 3 := by
        have h := full
        unfold SetTable.tooFull at h
        rw [decide_eq_true_eq, fill2] at h
        exact h
      rw [g3, m1] at big
      have at2 : (t.mask = 7 ∧ L.length = 4) ∨ (t.mask = 31 ∧ L.length = 18) ∨ (t.mask = 127 ∧ L.length = 76) ∨ (t.mask = 511 ∧ L.length = 306) := by
        rcases R.tab.mok with e | e | e | e | e
        · rw [e] at big gap; exact .inl ⟨e, by omega⟩
        · rw [e] at big gap; exact .inr (.inl ⟨e, by omega⟩)
        · rw [e] at big gap; exact .inr (.inr (.inl ⟨e, by omega⟩))
        · rw [e] at big gap; exact .inr (.inr (.inr ⟨e, by omega⟩))
        · rw [e] at big; omega
      have lay : ∀ M, SetTable.sizeAbove (SetTable.grown (L.length + 1)) = M + 1 → MaskG M → M ≤ 2047 → (L.length + 1) * 5 < M * 3 →
          wpAny (model P w) A (setRelay a (SetTable.grown (L.length + 1))) (fun _ s1 => wpAny (model P w) A (pure true) Q E s1) E { s with heap := h1 } := fun M k1 k2 k3 k4 =>
        relay (s := { s with heap := h1 }) ho1 ⟨hx.1, hx.2.1, hx.2.2⟩ rfl ins pl2 T2.dm (by rw [sz1, len1, g3, m1]; rcases at2 with ⟨e, e2⟩ | ⟨e, e2⟩ | ⟨e, e2⟩ | ⟨e, e2⟩ <;> omega) one1 mem1 led1 (by rw [len1]; exact few) (by rw [k1]; rfl) k2 (by rw [k1]; omega) (by rw [len1]; exact k4)
          fun h2 L2 es2 ep2 t3 sb2 R2 pm2 => wpAny_pure (q true h2 L2 es2 ep2 t3 (sb.trans sb2) R2 (fun z => absurd z hm) fun _ => pm2.trans pm)
      have hc : (!false && t2.tooFull) = true := by rw [full]; rfl
      refine wp_if_pos hc (wpAny_bind ?_)
      rcases at2 with ⟨_, e2⟩ | ⟨_, e2⟩ | ⟨_, e2⟩ | ⟨_, e2⟩
      · exact lay 31 (by rw [e2]; exact size_5) (.inr (.inl rfl)) (by decide) (by omega)
      · exact lay 127 (by rw [e2]; exact size_19) (.inr (.inr (.inl rfl))) (by decide) (by omega)
      · exact lay 511 (by rw [e2]; exact size_77) (.inr (.inr (.inr (.inl rfl)))) (by decide) (by omega)
      · exact lay 2047 (by rw [e2]; exact size_307) (.inr (.inr (.inr (.inr rfl)))) (by decide) (by omega)
    · have hc : ¬ (!false && t2.tooFull) = true := by simpa using full
      refine wp_if_neg hc ?_
      refine wpAny_pure (q true h1 L1 es1 (ep + 1) t2 sb ⟨⟨_, ho1, ⟨hx.1, hx.2.1, hx.2.2⟩, rfl⟩, ins, T2, one1, mem1, led1, ?_, by rw [len1]; exact few⟩ (fun z => absurd z hm) fun _ => pm)
      have h := full
      unfold SetTable.tooFull at h
      rw [decide_eq_true_eq, fill2] at h
      rw [len1]; omega
  by_cases hp : t1.plain = true
  · refine wp_if_pos hp (wpAny_bind (tup_hash x fun c => ?_))
    cases c
    · exact go { t1 with plain := false } rfl rfl rfl rfl
    · exact go t1 rfl rfl rfl rfl
  · refine wp_if_neg hp (wpAny_bind (wpAny_pure ?_))
    exact go t1 rfl rfl rfl rfl
theorem Is.more {h h' : Heap} {u : List K} {b : Addr} (x : Is kd h u b) (e : ∀ c o, h.get? c = some o → h'.get? c = some o) : Is kd h' u b := by
  obtain ⟨o, its, n, h1, r⟩ := x
  exact ⟨o, its, n, e _ _ h1, r⟩
theorem Held.more {h h' : Heap} (R : Held kd h a L es ep t) (e : ∀ o, h.get? a = some o → h'.get? a = some o) (m : ∀ z ∈ L, Is kd h' z.2 z.1) : Held kd h' a L es ep t := by
  obtain ⟨⟨o, ho, r⟩, r1, r2, r3, _, r5, r6, r7⟩ := R
  exact ⟨⟨o, e o ho, r⟩, r1, r2, r3, m, r5, r6, r7⟩
/-- what L has of the first i of ks -/
structure Took (ks : List (Addr × List K)) (i : Nat) (L : List (Addr × List K)) : Prop where
  sub : ∀ z ∈ L, z ∈ ks.take i
  all : ∀ z ∈ ks.take i, z.2 ∈ L.map (·.2)
  len : L.length ≤ i
theorem Took.step {ks L L2 : List (Addr × List K)} {i : Nat} {z : Addr × List K} (g : Took ks i L) (h : ks[i]? = some z) (h1 : z.2 ∈ L.map (·.2) → L2 = L) (h2 : z.2 ∉ L.map (·.2) → L2.Perm (z :: L)) : Took ks (i + 1) L2 := by
  have e : ks.take (i + 1) = ks.take i ++ [z] := by rw [List.take_add_one, h]; rfl
  by_cases hm : z.2 ∈ L.map (·.2)
  · rw [h1 hm]
    refine ⟨fun y hy => e ▸ List.mem_append_left _ (g.sub y hy), fun y hy => ?_, Nat.le_succ_of_le g.len⟩
    rw [e] at hy
    rcases List.mem_append.mp hy with hy | hy
    · exact g.all y hy
    · rw [List.mem_singleton.mp hy]; exact hm
  · have pm := h2 hm
    refine ⟨fun y hy => e ▸ ?_, fun y hy => ?_, by rw [pm.length_eq]; exact Nat.succ_le_succ g.len⟩
    · rcases List.mem_cons.mp (pm.mem_iff.mp hy) with rfl | hy
      · exact List.mem_append_right _ List.mem_cons_self
      · exact List.mem_append_left _ (g.sub y hy)
    · rw [(pm.map (·.2)).mem_iff, List.map_cons]
      rw [e] at hy
      rcases List.mem_append.mp hy with hy | hy
      · exact List.mem_cons_of_mem _ (g.all y hy)
      · rw [List.mem_singleton.mp hy]; exact List.mem_cons_self
/-- what adding an item is asked: G tells what the set at S has got from the first items -/
def Adds (P : Program) (w : World) (A : Around) (S : Addr) (h0 : Heap) (n : Nat) (Pv : Nat → Value → Prop) (G : Nat → Heap → Prop) : Prop :=
  (∀ i h h', G i h → (∀ o, h.get? S = some o → h'.get? S = some o) → (∀ b o, h0.get? b = some o → h'.get? b = some o) → G i h') ∧
  ∀ i v (s : Shared) (Q : Bool → Shared → Prop) (E : Value → Shared → Prop), i < n → Pv i v → G i s.heap → (∀ b o, h0.get? b = some o → s.heap.get? b = some o) →
    (∀ r h' tk, s.toks ≤ tk → Heap.SameBut S s.heap h' → G (i + 1) h' → Q r { s with heap := h', toks := tk }) → wpAny (model P w) A (setAdd S v) Q E s
/-- the loop that fills a set -/
theorem fill_loop {I S : Addr} {fp wr : List Addr} {Gn : Array GenState → Array GenState → Prop} {n : Nat} {Pv : Nat → Value → Prop} {St : Nat → Shared → Prop} {R : Result → Shared → Prop} (W : WalksS P w A.in1 I fp wr Gn n Pv St) (out : S ∉ fp) {h0 : Heap} (nw : ∀ b ∈ wr, h0.get? b = none) (nS : h0.get? S = none) {G : Nat → Heap → Prop}
    (ad : Adds P w A.in1 S h0 n Pv G) :
    ∀ (k i : Nat) (s : Shared), n - i = k → i ≤ n → St i s → (∀ b o, h0.get? b = some o → s.heap.get? b = some o) → G i s.heap →
      (∀ s1, Moved (S :: wr) Gn s s1 → G n s1.heap → (∀ b o, h0.get? b = some o → s1.heap.get? b = some o) → R (.ok (.ret .none)) s1) →
      codeAny (model P w) A (.builtin "set.update.loop" ⟨[.ref S, .ref I], []⟩) R s := by
  have wide : ∀ b ∈ wr, b ∈ S :: wr := fun b hb => .tail _ hb
  have notw : S ∉ wr := fun z => out (W.sub _ z)
  have old : ∀ {s1 s2 : Shared}, Moved wr Gn s1 s2 → (∀ b o, h0.get? b = some o → s1.heap.get? b = some o) → ∀ b o, h0.get? b = some o → s2.heap.get? b = some o := fun m e b o q => m.heap b o (fun z => by rw [nw b z] at q; cases q) (e b o q)
  intro k
  induction k with
  | zero =>
    intro i s ek hi st e0 H done
    obtain rfl : i = n := by omega
    refine codeAny_builtin F.entry_set_update_loop ?_
    rw [Around.under_plainId F.plain_set_update_loop _]
    show wpAny _ A.in1 (pyNext (.ref I) >>= _) _ _ s
    refine wpAny_bind (W.done s _ _ st fun s1 m => ?_)
    show wpAny _ A.in1 (ret Value.none) _ _ s1
    have e1 := old m e0
    exact wpAny_pure (done s1 (m.mono wide) (ad.1 _ _ _ H (fun o q => m.heap S o notw q) e1) e1)
  | succ k ih =>
    intro i s ek hi st e0 H done
    have lt : i < n := by omega
    refine codeAny_builtin F.entry_set_update_loop ?_
    rw [Around.under_plainId F.plain_set_update_loop _]
    show wpAny _ A.in1 (pyNext (.ref I) >>= _) _ _ s
    refine wpAny_bind (W.item i s _ _ lt st fun v s1 pv st1 m => ?_)
    have e1 := old m e0
    have H1 := ad.1 _ _ _ H (fun o q => m.heap S o notw q) e1
    show wpAny _ A.in1 (holding [v] (setAdd S v) >>= _) _ _ s1
    refine wpAny_bind (wpAny_holding (ad.2 i v s1 _ _ lt pv H1 e1 fun r h' tk ht sb H2 => ?_))
    have e2 : ∀ b o, h0.get? b = some o → h'.get? b = some o := fun b o q => (sb.2 b fun z => by rw [z, nS] at q; cases q).trans (e1 b o q)
    have fr : ∀ b, b ≠ S → ∀ o, s1.heap.get? b = some o → h'.get? b = some o := fun b hb o q => (sb.2 b hb).trans q
    refine wpAny_pure ⟨plainId_quiet F.plain_set_update_loop _, ih (i + 1) _ (by omega) lt (W.frame _ s1 _ _ st1 ht fun b hb o q => fr b (fun z => out (z ▸ hb)) o q) e2 H2 fun s2 m3 H3 e3 => ?_⟩
    exact done s2 (Moved.trans W.gtrans ((m.mono wide).then_heap ht fun b o hb q => fr b (fun z => hb (z ▸ List.mem_cons_self)) o q) m3) H3 e3
abbrev newO (w : World) : Obj := { cls := .type "set", dict := none, data := .set #[] 0 (.fresh 0 0 (!w.params.followText "set-order")) }
theorem held_new {h : Heap} (ho : h.get? a = some (newO w)) : Held kd h a [] #[] 0 (.fresh 0 0 (!w.params.followText "set-order")) := by
  refine ⟨⟨_, ho, ⟨rfl, rfl, rfl⟩, rfl⟩, rfl, ⟨List.Pairwise.nil, rfl, rfl, .inl rfl, fun y hy => (by cases hy), fun i x j hi => (by simp at hi)⟩, List.nodup_nil, fun z hz => (by cases hz), ?_, (by decide : 0 * 5 < 7 * 3), (by decide : 0 < 1200)⟩
  cases h1 : w.params.followText "set-order"
  · right; rfl
  · left; rfl
/-- set(xs), xs a list -/
theorem call_set_by {l : Addr} {its : Array Value} {Q : Value → Shared → Prop} (hh : A.handled = none) (hl : s.heap.IsList l its) {G : Nat → Heap → Prop} (g0 : ∀ h, h.get? s.heap.objs.size = some (newO w) → (∀ b o, s.heap.get? b = some o → h.get? b = some o) → G 0 h)
    (ads : Adds P w A.in1.in1.in1 s.heap.objs.size s.heap its.size (fun i v => its[i]? = some v) G)
    (q : ∀ (h' : Heap) (tk : Nat), G its.size h' → (∀ b o, s.heap.get? b = some o → h'.get? b = some o) → Q (.ref s.heap.objs.size) { s with heap := h', toks := tk }) :
    wpAny (model P w) A (call (.type "set") [.ref l]) Q E s := by
  obtain ⟨mc, mt, hmro⟩ := F.called_set.mro
  have c1 := F.called_set.made
  have c2 := F.called_set.sub
  have c3 := F.called_set.notType
  have c4 := F.called_set.canCreate
  have c5 := F.typeCall_set_1 (.ref l)
  refine wpAny_call (codeAny_of_tree ?_)
  show wpAny _ _ (callAny (.type "set") _) _ _ _
  refine wpAny_pure ⟨Code.quiet_builtin _ (by decide +kernel), codeAny_builtin F.entry_type_call ?_⟩
  rw [Around.under_plain (weight_type_call_type "set" [.ref l] []) rfl]
  repeat (any_goals (first | assumption | wp_step))
  refine codeAny_mono (code_set_led1 (.ref l) (E := E) (Q₁ := fun v s1 => v = .ref s.heap.objs.size ∧ s1 = { s with heap := s.heap.push (newO w) }) ⟨rfl, rfl⟩) fun r s1 hr => ?_
  cases r with
  | error e => exact hr
  | ok fl =>
    cases fl with
    | ret v =>
      obtain ⟨rfl, rfl⟩ := hr
      have hS : (s.heap.push (newO w)).get? s.heap.objs.size = some (newO w) := Heap.get?_push_size _ rfl
      have ty : Shared.TypeIs { s with heap := s.heap.push (newO w) } (.ref s.heap.objs.size) "set" := ⟨_, hS, rfl⟩
      have i1 := F.called_set.init.lookup
      have i2 := F.called_set.init.bind (.ref s.heap.objs.size)
      repeat (any_goals (first | assumption | wp_step))
      refine codeAny_mono (codeAny_call_builtin (R := wants (fun r s2 => r = .none ∧ ∃ h' tk, s2 = { s with heap := h', toks := tk } ∧ G its.size h' ∧ ∀ b o, s.heap.get? b = some o → h'.get? b = some o) E) F.called_set.init.plain F.entry_set_init (check_set_init_1 ty ?_)) fun r2 s2 hr2 => ?_
      · have old : ∀ b o, s.heap.get? b = some o → (s.heap.push (newO w)).get? b = some o := fun b o e => Heap.get?_push_of_some _ e
        have size1 : (s.heap.push (newO w)).objs.size = s.heap.objs.size + 1 := Heap.size_push ..
        have hl1 : (s.heap.push (newO w)).IsList l its := hl.push _
        have lS : l < s.heap.objs.size := by obtain ⟨o, ho, _⟩ := hl; exact Heap.lt_size ho
        obtain ⟨⟨ac, ad, adt, asl⟩, ho, hc, n, hd⟩ := hl
        simp only at hc hd
        subst hc; subst hd
        have ho1 := old l _ ho
        have n1 := F.sub_list_set
        have n2 := F.sub_list_frozenset
        have n3 : (Value.type "list" == Value.type "dict") = false := by decide
        unfold Builtin.«set.__init__» noKeywords Builtin.Frozenset.updateFrom
        generalize hPI : pyIter = PI
        wp_walk
        subst hPI
        refine wpAny_pyIter_list hl1 ?_
        refine wpAny_bind (wpAny_runValue ?_)
        have h3 : A.in1.in1.in1.handled = none := by simp [hh]
        have ln : l ≠ (s.heap.push (newO w)).objs.size := by rw [size1]; exact Nat.ne_of_lt (Nat.lt_succ_of_lt lS)
        have out : s.heap.objs.size ∉ [(s.heap.push (newO w)).objs.size, l] := by
          rw [size1]
          simp only [List.mem_cons, List.not_mem_nil, or_false, not_or]
          exact ⟨Nat.ne_of_lt (Nat.lt_succ_self _), Nat.ne_of_gt lS⟩
        have none_at : ∀ b, s.heap.objs.size ≤ b → s.heap.get? b = none := fun b hb => by
          cases e : s.heap.get? b with
          | none => rfl
          | some o => exact absurd (Heap.lt_size e) (Nat.not_lt.mpr hb)
        refine fill_loop ((Walks.list h3 _ l ln its).toS) out (fun b hb => none_at b (by rw [List.mem_singleton.mp hb, size1]; exact Nat.le_succ _)) (none_at _ (Nat.le_refl _)) ads (its.size - 0) 0 _ (by omega) (Nat.zero_le _)
          ⟨⟨_, Heap.get?_push_size _ rfl, rfl, rfl⟩, hl1.push _⟩ (fun b o e => Heap.get?_push_of_some _ (old b o e)) (g0 _ (Heap.get?_push_of_some _ hS) fun b o e => Heap.get?_push_of_some _ (old b o e)) ?_
        intro s3 m H e3
        obtain ⟨h', g2, d2, tk, os2⟩ := s3
        obtain rfl : g2 = s.gens := m.gens
        obtain rfl : d2 = s.drawn := m.drawn
        obtain rfl : os2 = s.os := m.os
        show wpAny _ _ _ _ _ _
        refine wpAny_pure ?_
        show wpAny _ _ (ret Value.none) _ _ _
        exact wpAny_pure ⟨rfl, h', tk, rfl, H, e3⟩
      · cases r2 with
        | error e => exact hr2
        | ok fl2 =>
          cases fl2 with
          | ret r =>
            obtain ⟨rfl, h', tk, rfl, H, e3⟩ := hr2
            repeat (any_goals (first | assumption | wp_step))
            exact q _ _ H e3
          | _ => exact hr2.elim
    | _ => exact hr.elim
/-- .. a list of tuples of keys -/
theorem call_set {l : Addr} {its : Array Value} {ks : List (Addr × List K)} {Q : Value → Shared → Prop} (hh : A.handled = none) (hl : s.heap.IsList l its) (ei : its.toList = ks.map fun z => Value.ref z.1) (hk0 : ∀ z ∈ ks, Is kd s.heap z.2 z.1) (few : ks.length < 1200) (hu : A.units + 3 < cLine)
    (q : ∀ (h' : Heap) (tk : Nat) L es ep t, Held kd h' s.heap.objs.size L es ep t → Took ks ks.length L → (∀ b o, s.heap.get? b = some o → h'.get? b = some o) → Q (.ref s.heap.objs.size) { s with heap := h', toks := tk }) :
    wpAny (model P w) A (call (.type "set") [.ref l]) Q E s := by
  have isz : its.size = ks.length := by rw [← Array.length_toList, ei, List.length_map]
  refine call_set_by hh hl (G := fun i h => ∃ L es ep t, Held kd h s.heap.objs.size L es ep t ∧ Took ks i L) (fun h e _ => ⟨[], #[], 0, _, held_new e, ⟨fun z hz => (nomatch hz), fun z hz => (by simp at hz), Nat.le_refl _⟩⟩) ⟨?_, ?_⟩ fun h' tk ⟨L, es, ep, t, H, g⟩ e => q h' tk L es ep t H (isz ▸ g) e
  · rintro i h h' ⟨L, es, ep, t, H, g⟩ e1 e2
    exact ⟨L, es, ep, t, H.more e1 fun z hz => (hk0 z (List.mem_of_mem_take (g.sub z hz))).more e2, g⟩
  · rintro i v s1 Q E lt hv ⟨L, es, ep, t, H, g⟩ e1 k
    rw [← Array.getElem?_toList, ei, List.getElem?_map] at hv
    obtain ⟨z, hz, rfl⟩ := Option.map_eq_some_iff.mp hv
    have xz : Is kd s1.heap z.2 z.1 := (hk0 z (List.mem_of_getElem? hz)).more e1
    have hu3 : A.in1.in1.in1.units < cLine := by show A.units + 1 + 1 + 1 < cLine; omega
    unfold setAdd
    refine wpAny_holding (wpAny_bind (wpAny_pyHash_tuple hu3 xz ?_))
    refine add (s := { s1 with toks := s1.toks + (z.2.length + 1) }) H xz hu3 (by have := g.len; omega) fun r h' L2 es2 ep2 t2 sb H2 c1 c2 => ?_
    exact k r h' _ (Nat.le_add_right _ _) sb ⟨L2, es2, ep2, t2, H2, g.step hz c1 c2⟩
end
end KvT

/-! sorted(set of tuples), and the rules for callers -/
namespace KvT
open PySem PySem.Spec PyProof.Rows L2
open PySem.W (EachIs AllAlike Sortable dataLe dataLt)
def kD : Key → PyData
  | .inl i => .int i
  | .inr x => .str x
def tD (u : List Key) : PyData := .tuple (u.map kD)
theorem dep_all : ∀ u : List Key, PyData.depthAll (u.map kD) = 0
  | [] => rfl
  | .inl i :: u => by
    show PyData.depthAll (.int i :: u.map kD) = 0
    unfold PyData.depthAll; rw [dep_all u]; rfl
  | .inr x :: u => by
    show PyData.depthAll (.str x :: u.map kD) = 0
    unfold PyData.depthAll; rw [dep_all u]; rfl
theorem dep_tD (u : List Key) : (tD u).depth = 1 := by
  unfold tD PyData.depth; rw [dep_all]
section
variable {P : Program} {w : World}
theorem items_read {h : Heap} {u : List Key} {vs : List Value} (x : ItemsAre (mixKind P w) u vs) : ReadsAll h vs (u.map kD) [] := by
  induction x with
  | nil => exact .nil
  | @cons k v u vs h1 _ ih =>
    rcases keyIs_shape h1 with ⟨i, t, rfl, rfl⟩ | ⟨y, t, rfl, rfl⟩
    · exact .cons (as := []) (.int i t) ih
    · exact .cons (as := []) (.str y t) ih
theorem Is.reads {h : Heap} {u : List Key} {b : Addr} (x : Is (mixKind P w) h u b) : Reads h (.ref b) (tD u) [] := by
  obtain ⟨o, its, n, h1, h2, h3, h4⟩ := x
  exact .tuple h1 h2 h3 (items_read h4)
variable {A : Around} {E : Value → Shared → Prop} {s : Shared} {a : Addr} {L : List (Addr × List Key)} {es : Array (Int × Value)} {ep : Nat} {t : SetTable}
theorem each_ref : ∀ bs : List (Addr × List Key), EachIs (fun (v : Value) (z : Addr × List Key) => v = .ref z.1) (bs.map fun z => Value.ref z.1) bs
  | [] => .nil
  | z :: bs => .cons rfl (each_ref bs)
theorem ref_each : ∀ {vs : List Value} {bs : List (Addr × List Key)}, EachIs (fun (v : Value) (z : Addr × List Key) => v = .ref z.1) vs bs → vs = bs.map fun z => Value.ref z.1
  | _, _, .nil => rfl
  | _, _, .cons h t => by rw [h, ref_each t]; rfl
theorem each_read {h : Heap} : ∀ (bs : List (Addr × List Key)) {p : Addr}, (∀ z ∈ bs, Is (mixKind P w) h z.2 z.1) → EachIs (fun v (z : Addr × List Key) => ∃ as, Reads h v (tD z.2) as ∧ p ∉ as) (bs.map fun z => Value.ref z.1) bs
  | [], _, _ => .nil
  | z :: bs, p, hz => .cons ⟨[], (hz z List.mem_cons_self).reads, List.not_mem_nil⟩ (each_read bs fun y hy => hz y (.tail _ hy))
/-- sorted(a set of such tuples) -/
theorem call_sorted (R : Held (mixKind P w) s.heap a L es ep t) (hh : A.handled = none) (hal : AllAlike (L.map fun z => tD z.2)) (hso : Sortable (L.map fun z => tD z.2)) (hu : A.units + 20 < cLine) {Q : Value → Shared → Prop}
    (q : ∀ s1 p (out : Array Value) (c : Nat) (L2 : List (Addr × List Key)), (∀ b o, s.heap.get? b = some o → s1.heap.get? b = some o) → s1.gens = s.gens → s1.os = s.os → s.heap.objs.size ≤ p → s1.heap.get? p = some (seqObj "list" out c) →
      out.toList = L2.map (fun z => Value.ref z.1) → L2.Perm L → L2.Pairwise (fun y z => dataLt (tD z.2) (tD y.2) = false) → Q (.ref p) s1) : wpAny (model P w) A (call (.builtin "sorted") [.ref a]) Q E s := by
  obtain ⟨o, ho, hx, hd⟩ := R.obj
  have few := R.few
  have sz := ent_size R.ent
  refine Calls.call_function_entry (E := E) kind_sorted plain_sorted entry_sorted (args_sorted1 _) ?_
  unfold Builtin.«sorted»
  refine wpAny_bind (m := checkCount "sorted" 1 1 _) (wpAny_pure ?_)
  refine wpAny_bind (collect_set (A := A.in1) hh ⟨o, ho, hx.1, hd⟩ R.fits (by rw [sz]; unfold scanBound; omega) R.tab.ris R.led fun s1 vs k1 hz g1 o1 pm => ?_)
  have em : es.toList.map (·.2) = L.map fun z => Value.ref z.1 := by
    rw [R.ent, rows, List.map_map]; rfl
  obtain ⟨bs, pb, rfl⟩ := Kv.perm_map pm L em
  have lb : bs.length = L.length := pb.length_eq
  refine wpAny_bind (wpAny_newList ?_ (by rw [List.length_map, lb, sizeLine_eq]; omega))
  have hp : (s1.heap.push (seqObj "list" (bs.map fun z => Value.ref z.1).toArray 0)).get? s1.heap.objs.size = some (seqObj "list" (bs.map fun z => Value.ref z.1).toArray 0) := Heap.get?_push_size _ rfl
  have old : ∀ b u, s.heap.get? b = some u → (s1.heap.push (seqObj "list" (bs.map fun z => Value.ref z.1).toArray 0)).get? b = some u := fun b u e => Heap.get?_push_of_some _ (k1 b u e)
  have er := each_read (P := P) (w := w) bs (p := s1.heap.objs.size) fun z hz => (R.mem z (pb.mem_iff.mp hz)).more old
  have pd : (bs.map fun z => tD z.2).Perm (L.map fun z => tD z.2) := pb.map _
  refine wpAny_bind (wpAny_holding (PySem.W.list_sort_data (s := { s1 with heap := s1.heap.push (seqObj "list" (bs.map fun z => Value.ref z.1).toArray 0) }) (enc := fun z : Addr × List Key => tD z.2) hp (each_ref bs) er
    (fun d hd d' hd' => hal d (pd.mem_iff.mp hd) d' (pd.mem_iff.mp hd')) (hso.imp (fun h d hd => h d (pd.mem_iff.mp hd)) fun h d hd => h d (pd.mem_iff.mp hd)) (by rw [lb, sizeLine_eq]; omega) (fun z _ => by rw [dep_tD]; show A.units + 1 + 1 + 1 < cLine; omega) fun out _ e2 => ?_))
  obtain ⟨c, hc⟩ := sortedHeap_at (out := out.toArray) hp
  refine wpAny_pure ⟨_, rfl, q _ s1.heap.objs.size out.toArray c (bs.mergeSort (dataLe false fun z => tD z.2)) (fun b u e => ?_) g1 o1 hz hc (ref_each e2) ((List.mergeSort_perm _ _).trans pb) ?_⟩
  · have lt := Heap.lt_size (k1 b u e)
    show (sortedHeap (s1.heap.push _) s1.heap.objs.size _ out.toArray).get? b = some u
    rw [sortedHeap_old (Nat.ne_of_lt lt) (by rw [size_push']; exact Nat.lt_succ_of_lt lt)]
    exact old b u e
  · refine (PySem.W.sort_pairwise (PySem.W.sortLe_total _ false _) bs).imp fun {y z} h => ?_
    have h2 : (!dataLt (tD z.2) (tD y.2)) = true := h
    simpa using h2
end
end KvT

/-! Sets of texts: set(list of texts), sorted of it. -/
namespace KvW
open PySem PySem.Spec PyProof.Rows L2
open PySem.W (EachIs AllAlike Sortable dataLe dataLt)
section
variable {P : Program} {w : World} {A : Around} {E : Value → Shared → Prop} {s : Shared} {a : Addr} {es : Array (Int × Value)} {ep : Nat} {t : SetTable}
/-- the text of an entry -/
def txt (e : Int × Value) : Str := match e.2 with | .str x _ => x | _ => ⟨#[]⟩
def Txe (P : Program) (w : World) (e : Int × Value) : Prop := ∃ x k, e = ((strKind P w).hash x, Value.str x k)
/-- a set's object of texts -/
structure Held (P : Program) (w : World) (h : Heap) (a : Addr) (es : Array (Int × Value)) (ep : Nat) (t : SetTable) : Prop where
  obj : ∃ o, h.get? a = some o ∧ o.ExactSet ∧ o.data = .set es ep t
  ent : ∀ e ∈ es.toList, Txe P w e
  one : (es.toList.map txt).Nodup
  fit : t.fits es.size = true
  ris : Ris t.place.toList
  led : w.params.followText "set-order" = true ∨ t.led = true
  few : es.size < scanBound
theorem is_text {e : Int × Value} (g : Txe P w e) (x : Str) : (strKind P w).is x e.2 = true ↔ txt e = x := by
  obtain ⟨y, k, rfl⟩ := g
  show (strKind P w).is x (Value.str y k) = true ↔ y = x
  constructor
  · intro h
    exact (strKind P w).inj _ _ _ (strKind_is P w y k) h
  · rintro rfl; exact strKind_is P w y k
theorem elems {l : List (Int × Value)} (g : ∀ e ∈ l, Txe P w e) : ElemsOf (strKind P w) l := fun e he => by
  obtain ⟨x, k, rfl⟩ := g e he
  exact ⟨⟨x, strKind_is P w x k, rfl⟩, rfl⟩
/-- one text more -/
theorem add {x : Str} {k : Tok} {Q : Bool → Shared → Prop} (R : Held P w s.heap a es ep t) (room : es.size + 1 < scanBound)
    (q : ∀ r h' es2 ep2 t2, Heap.SameBut a s.heap h' → Held P w h' a es2 ep2 t2 → (x ∈ es.toList.map txt → (es2.toList.map txt).Perm (es.toList.map txt)) → (x ∉ es.toList.map txt → (es2.toList.map txt).Perm (x :: es.toList.map txt)) → Q r { s with heap := h' }) :
    wpAny (model P w) A (setAddHashed a (.str x k) ((strKind P w).hash x)) Q E s := by
  obtain ⟨o, ho, hx, hd⟩ := R.obj
  have el := elems R.ent
  unfold setAddHashed setAddHashedIn
  refine wpAny_holding (wpAny_bind (wpAny_setState_of ho hd R.fit ?_))
  dsimp only
  rw [byScan_of (show (Value.str x k).scannable = true from rfl) R.few el]
  simp only [↓reduceIte]
  unfold setAddByScan
  refine wpAny_bind (wpAny_bind (wpAny_rule (wpAny_bind (wpAny_setScan_of (strKind_is P w x k) ho hd R.fit el ?_))))
  cases found : List.findIdx? (fun e => (strKind P w).is x e.2) es.toList with
  | some j =>
    dsimp only
    obtain ⟨hj, pj, _⟩ := List.findIdx?_eq_some_iff_getElem.mp found
    have hm : x ∈ es.toList.map txt := List.mem_map.mpr ⟨_, List.getElem_mem hj, (is_text (R.ent _ (List.getElem_mem hj)) x).mp pj⟩
    exact wpAny_pure (wpAny_pure (q false s.heap es ep t (.refl a s.heap) R (fun _ => .refl _) fun z => absurd hm z))
  | none =>
    dsimp only
    have hm : x ∉ es.toList.map txt := fun z => by
      obtain ⟨e, he, rfl⟩ := List.mem_map.mp z
      have h1 := List.findIdx?_eq_none_iff.mp found e he
      rw [(is_text (R.ent e he) _).mpr rfl] at h1
      cases h1
    have quiet : ∀ (b : Bool) {s1 : Shared} {Q' : Unit → Shared → Prop}, Q' () s1 → wpAny (model P w) A (match b with | true => rule "set.scan.the-table-gave-way" | false => pure ()) Q' E s1 := fun b _ _ q => by
      cases b
      · exact wpAny_pure q
      · exact wpAny_rule q
    have pm := layNew_perm t es ((strKind P w).hash x) (.str x k)
    have f1 := layNew_fits t es ((strKind P w).hash x) (.str x k)
    have r1 := layNew_ris t es ((strKind P w).hash x) (.str x k) R.ris
    have l1 := layNew_led t es ((strKind P w).hash x) (.str x k)
    generalize layNew t es ((strKind P w).hash x) (.str x k) = Z at pm f1 r1 l1 ⊢
    obtain ⟨es1, t1, was, gave⟩ := Z
    dsimp only at pm f1 r1 l1 ⊢
    rw [Array.toList_push] at pm
    have pc := pm.trans (List.perm_append_singleton ((strKind P w).hash x, Value.str x k) es.toList)
    have pt : (es1.toList.map txt).Perm (x :: es.toList.map txt) := pc.map txt
    have sz : es1.size = es.size + 1 := by rw [← Array.length_toList, pc.length_eq, List.length_cons, Array.length_toList]
    have few1 : es1.size < scanBound := by rw [sz]; exact room
    have ent1 : ∀ e ∈ es1.toList, Txe P w e := fun e he => by
      rcases List.mem_cons.mp (pc.mem_iff.mp he) with rfl | he
      · exact ⟨x, k, rfl⟩
      · exact R.ent e he
    have one1 : (es1.toList.map txt).Nodup := pt.nodup_iff.mpr (List.nodup_cons.mpr ⟨hm, R.one⟩)
    have tail : ∀ t2 : SetTable, t2.fits es1.size = true → Ris t2.place.toList → t2.led = t1.led → wpAny (model P w) A (storeSet a es1 t2 >>= fun _ =>
        if (!was && t2.tooFull) = true then ((match (relayAll t2 es1 (SetTable.grown es1.size)).2.2 with | true => rule "set.scan.the-table-gave-way" | false => pure ()) >>= fun _ => storeSet a (relayAll t2 es1 (SetTable.grown es1.size)).1 (relayAll t2 es1 (SetTable.grown es1.size)).2.1 >>= fun _ => pure (some true)) else pure (some true))
        (fun r s1 => wpAny (model P w) A (match r with | some added => pure added | none => setAddHashedIn a (.str x k) ((strKind P w).hash x) 99999) Q E s1) E s := by
      intro t2 g1 g2 g3
      have led2 : w.params.followText "set-order" = true ∨ t2.led = true := R.led.imp id fun z => by rw [g3, l1]; exact z
      refine wpAny_bind (wpAny_storeSet_of ho hd ?_ (fits_of_scanBound few1))
      have ho1 := store_at (es' := es1) (t' := t2) ho hd
      have sb := Heap.SameBut.update s.heap a (Obj.putSet es1 t2)
      generalize s.heap.update a (Obj.putSet es1 t2) = h1 at ho1 sb ⊢
      by_cases full : (!was && t2.tooFull) = true
      · rw [if_pos full]
        have pr := relayAll_perm t2 es1 (SetTable.grown es1.size)
        have fr := relayAll_fits t2 es1 (SetTable.grown es1.size)
        have rr := relayAll_ris t2 es1 (SetTable.grown es1.size)
        have lr := relayAll_led t2 es1 (SetTable.grown es1.size)
        generalize relayAll t2 es1 (SetTable.grown es1.size) = Y at pr fr rr lr ⊢
        obtain ⟨es2, t3, gave2⟩ := Y
        dsimp only at pr fr rr lr ⊢
        have sz2 : es2.size = es1.size := by rw [← Array.length_toList, pr.length_eq, Array.length_toList]
        refine wpAny_bind (quiet gave2 (wpAny_bind (wpAny_storeSet_of ho1 rfl ?_ (fits_of_scanBound (by rw [sz2]; exact few1)))))
        have ho2 := store_at (es' := es2) (t' := t3) ho1 rfl
        refine wpAny_pure (wpAny_pure (q true _ es2 _ t3 (sb.trans (Heap.SameBut.update _ a _)) ⟨⟨_, ho2, ⟨hx.1, hx.2.1, hx.2.2⟩, rfl⟩, fun e he => ent1 e (pr.mem_iff.mp he), (pr.map txt).nodup_iff.mpr one1, fr, rr, led2.imp id fun z => by rw [lr]; exact z, by rw [sz2]; exact few1⟩ (fun z => absurd z hm) fun _ => (pr.map txt).trans pt))
      · rw [if_neg full]
        exact wpAny_pure (wpAny_pure (q true h1 es1 _ t2 sb ⟨⟨_, ho1, ⟨hx.1, hx.2.1, hx.2.2⟩, rfl⟩, ent1, one1, g1, g2, led2, few1⟩ (fun z => absurd z hm) fun _ => pt))
    refine wpAny_bind (quiet gave ?_)
    split
    · refine wpAny_bind ?_
      rw [hashByValue_scannable 8 (show (Value.str x k).scannable = true from rfl)]
      refine wpAny_pure ?_
      exact tail { t1 with plain := false } (SetTable.fits_plain_off f1) r1 rfl
    · refine wpAny_bind (wpAny_pure ?_)
      simp only [↓reduceIte]
      exact tail t1 f1 r1 rfl
theorem Held.more {h h' : Heap} (R : Held P w h a es ep t) (e : ∀ o, h.get? a = some o → h'.get? a = some o) : Held P w h' a es ep t := by
  obtain ⟨⟨o, ho, r⟩, r1, r2, r3, r4, r5, r6⟩ := R
  exact ⟨⟨o, e o ho, r⟩, r1, r2, r3, r4, r5, r6⟩
theorem held_new {h : Heap} (ho : h.get? a = some (KvT.newO w)) : Held P w h a #[] 0 (.fresh 0 0 (!w.params.followText "set-order")) := by
  refine ⟨⟨_, ho, ⟨rfl, rfl, rfl⟩, rfl⟩, fun e he => (by cases he), List.nodup_nil, rfl, List.Pairwise.nil, ?_, (by decide : 0 < 4096)⟩
  cases h1 : w.params.followText "set-order"
  · right; rfl
  · left; rfl
/-- set(xs), xs a list of texts -/
theorem call_set {l : Addr} {its : Array Value} {xs : List Str} {Q : Value → Shared → Prop} (hh : A.handled = none) (hl : s.heap.IsList l its) (ei : EachIs (fun (v : Value) x => ∃ k, v = .str x k) its.toList xs) (few : xs.length + 1 < scanBound) 
    (q : ∀ (h' : Heap) (tk : Nat) es ep t, Held P w h' s.heap.objs.size es ep t → (∀ x, x ∈ es.toList.map txt ↔ x ∈ xs) → (∀ b o, s.heap.get? b = some o → h'.get? b = some o) → Q (.ref s.heap.objs.size) { s with heap := h', toks := tk }) :
    wpAny (model P w) A (call (.type "set") [.ref l]) Q E s := by
  have isz : its.size = xs.length := by rw [← Array.length_toList, ei.length]
  refine KvT.call_set_by hh hl (G := fun i h => ∃ es ep t, Held P w h s.heap.objs.size es ep t ∧ (∀ x, x ∈ es.toList.map txt ↔ x ∈ xs.take i) ∧ es.size ≤ i) (fun h e _ => ⟨#[], 0, _, held_new e, fun x => by simp, Nat.le_refl _⟩) ⟨?_, ?_⟩ fun h' tk ⟨es, ep, t, H, g, _⟩ e => q h' tk es ep t H (by rw [isz, List.take_length] at g; exact g) e
  · rintro i h h' ⟨es, ep, t, H, g⟩ e1 e2
    exact ⟨es, ep, t, H.more e1, g⟩
  · rintro i v s1 Q E lt hv ⟨es, ep, t, H, g, gs⟩ e1 k
    have key : ∀ {vs : List Value} {xs : List Str}, EachIs (fun (v : Value) x => ∃ k, v = .str x k) vs xs → ∀ {i : Nat} {v : Value}, vs[i]? = some v → ∃ x k, xs[i]? = some x ∧ v = .str x k := by
      intro vs xs h
      induction h with
      | nil => intro i v e; simp at e
      | cons h1 _ ih =>
        intro i v e
        cases i with
        | zero => cases e; obtain ⟨k, rfl⟩ := h1; exact ⟨_, k, rfl, rfl⟩
        | succ i => exact ih (by simpa using e)
    obtain ⟨x, tk, hx, rfl⟩ := key ei (show its.toList[i]? = some v by rw [Array.getElem?_toList]; exact hv)
    have et : ∀ y, y ∈ xs.take (i + 1) ↔ y ∈ xs.take i ∨ y = x := fun y => by
      rw [List.take_add_one, hx, List.mem_append]
      simp
    unfold setAdd
    refine wpAny_holding (wpAny_bind ((strKind P w).pyHash (k := x) (strKind_is P w x tk) ?_))
    refine add (s := { s1 with toks := s1.toks + 1 }) H (by rw [isz] at lt; omega) fun r h' es2 ep2 t2 sb H2 c1 c2 => k r h' _ (Nat.le_succ _) sb ⟨es2, ep2, t2, H2, fun y => ?_, ?_⟩
    · rw [et]
      by_cases hm : x ∈ es.toList.map txt
      · rw [(c1 hm).mem_iff, g]
        refine ⟨.inl, fun z => z.elim id ?_⟩
        rintro rfl; exact (g _).mp hm
      · rw [(c2 hm).mem_iff, List.mem_cons, g]
        exact Or.comm
    · have hl : ∀ z : Array (Int × Value), (z.toList.map txt).length = z.size := fun z => by rw [List.length_map, Array.length_toList]
      by_cases hm : x ∈ es.toList.map txt
      · have := (c1 hm).length_eq; rw [hl, hl] at this; omega
      · have := (c2 hm).length_eq; rw [hl, List.length_cons, hl] at this; omega
theorem texts_alike (xs : List Str) : AllAlike (xs.map fun x => PyData.str x) := fun d hd d' hd' => by
  obtain ⟨x, _, rfl⟩ := List.mem_map.mp hd
  obtain ⟨y, _, rfl⟩ := List.mem_map.mp hd'
  rfl
theorem texts_sortable (xs : List Str) : Sortable (xs.map fun x => PyData.str x) := .inr fun d hd => by
  obtain ⟨x, _, rfl⟩ := List.mem_map.mp hd
  exact ⟨fun z => (nomatch z), fun _ z => (nomatch z)⟩
/-- sorted(a set of texts) -/
theorem call_sorted (R : Held P w s.heap a es ep t) (hh : A.handled = none) (hu : A.units + 20 < cLine) {Q : Value → Shared → Prop}
    (q : ∀ s1 p (out : Array Value) (c : Nat) (zs : List Str), (∀ b o, s.heap.get? b = some o → s1.heap.get? b = some o) → s1.gens = s.gens → s1.os = s.os → s.heap.objs.size ≤ p → s1.heap.get? p = some (seqObj "list" out c) →
      EachIs (fun (v : Value) x => ∃ k, v = .str x k) out.toList zs → zs.Perm (es.toList.map txt) → zs.Pairwise (fun x y => x.cps.toList ≤ y.cps.toList) → Q (.ref p) s1) : wpAny (model P w) A (call (.builtin "sorted") [.ref a]) Q E s := by
  obtain ⟨o, ho, hx, hd⟩ := R.obj
  refine Calls.call_function_entry (E := E) kind_sorted plain_sorted entry_sorted (args_sorted1 _) ?_
  unfold Builtin.«sorted»
  refine wpAny_bind (m := checkCount "sorted" 1 1 _) (wpAny_pure ?_)
  refine wpAny_bind (collect_set (A := A.in1) hh ⟨o, ho, hx.1, hd⟩ R.fit R.few R.ris R.led fun s1 vs k1 hz g1 o1 pm => ?_)
  have each : ∀ l : List (Int × Value), (∀ e ∈ l, Txe P w e) → EachIs (fun (v : Value) x => ∃ k, v = .str x k) (l.map (·.2)) (l.map txt) := fun l => by
    induction l with
    | nil => exact fun _ => .nil
    | cons e l ih =>
      intro h
      obtain ⟨x, k, rfl⟩ := h e List.mem_cons_self
      exact .cons ⟨k, rfl⟩ (ih fun e he => h e (.tail _ he))
  obtain ⟨l2, p2, rfl⟩ := Kv.perm_map pm es.toList rfl
  have e0 := each l2 fun e he => R.ent e (p2.mem_iff.mp he)
  have ll : l2.length = es.size := by rw [p2.length_eq, Array.length_toList]
  have few := R.few
  have hsb : scanBound = 4096 := rfl
  generalize hbs : l2.map txt = bs at e0
  have lb : bs.length = es.size := by rw [← hbs, List.length_map, ll]
  refine wpAny_bind (wpAny_newList ?_ (by rw [List.length_map, ll, sizeLine_eq]; omega))
  have hp : (s1.heap.push (seqObj "list" (l2.map (·.2)).toArray 0)).get? s1.heap.objs.size = some (seqObj "list" (l2.map (·.2)).toArray 0) := Heap.get?_push_size _ rfl
  have old : ∀ b u, s.heap.get? b = some u → (s1.heap.push (seqObj "list" (l2.map (·.2)).toArray 0)).get? b = some u := fun b u e => Heap.get?_push_of_some _ (k1 b u e)
  have er : EachIs (fun v (x : Str) => ∃ as, Reads (s1.heap.push (seqObj "list" (l2.map (·.2)).toArray 0)) v (.str x) as ∧ s1.heap.objs.size ∉ as) (l2.map (·.2)) bs := e0.mono fun v x ⟨k, hk⟩ => by
    subst hk; exact ⟨[], .str x k, List.not_mem_nil⟩
  refine wpAny_bind (wpAny_holding (PySem.W.list_sort_data (s := { s1 with heap := s1.heap.push (seqObj "list" (l2.map (·.2)).toArray 0) }) (enc := fun x : Str => .str x) hp e0 er (texts_alike bs) (texts_sortable bs) (by rw [lb, sizeLine_eq]; omega) (fun x _ => by show A.units + 1 + 1 + 0 < cLine; omega) fun out _ e2 => ?_))
  obtain ⟨c, hc⟩ := sortedHeap_at (out := out.toArray) hp
  refine wpAny_pure ⟨_, rfl, q _ s1.heap.objs.size out.toArray c (bs.mergeSort (dataLe false fun x => .str x)) (fun b u e => ?_) g1 o1 hz hc e2 ((List.mergeSort_perm _ _).trans (hbs ▸ p2.map txt)) ?_⟩
  · have lt := Heap.lt_size (k1 b u e)
    show (sortedHeap (s1.heap.push _) s1.heap.objs.size _ out.toArray).get? b = some u
    rw [sortedHeap_old (Nat.ne_of_lt lt) (by rw [size_push']; exact Nat.lt_succ_of_lt lt)]
    exact old b u e
  · refine (PySem.W.sort_pairwise (PySem.W.sortLe_total _ false _) bs).imp fun {x y} h => ?_
    have h2 : dataLe false (fun x : Str => PyData.str x) x y = true := h
    rw [PySem.W.dataLe_str] at h2
    simpa using h2
end
/-- a set's object of the texts ys -/
def SetO (P : Program) (w : World) (a : Addr) (ys : List Str) : HO := .ext fun h => ∃ es ep t, Held P w h a es ep t ∧ (es.toList.map txt).Perm ys
theorem set_new {P : Program} {w : World} {H : Hp} {h : Heap} {a : Addr} {ys : List Str} {es : Array (Int × Value)} {ep : Nat} {t : SetTable} (R : Held P w h a es ep t) (pm : (es.toList.map txt).Perm ys) : ObjOk P w H h a (SetO P w a ys) := by
  obtain ⟨o, ho, _⟩ := R.obj
  refine ⟨⟨es, ep, t, R, pm⟩, ⟨o, ho⟩, fun h1 h2 p k => ?_⟩
  obtain ⟨es, ep, t, R, pm⟩ := (p : ∃ es ep t, Held P w h1 a es ep t ∧ (es.toList.map txt).Perm ys)
  exact ⟨es, ep, t, R.more k, pm⟩
theorem each_vals : ∀ {xs : List Str} {us : List Value}, Vals (xs.map V.str) us → EachIs (fun (v : Value) x => ∃ k, v = .str x k) us xs
  | [], _, .nil => .nil
  | _ :: _, _, .cons r t => .cons r (each_vals t)
theorem vals_of : ∀ {xs : List Str} {us : List Value}, EachIs (fun (v : Value) x => ∃ k, v = .str x k) us xs → Vals (xs.map V.str) us
  | _, _, .nil => .nil
  | _, _, .cons r t => .cons r (vals_of t)
section
variable {X : Cx}
def rSet (K : PySem.W.Frag) (P : Program) (w : World) : List V → Hp → VK → Prop := fun vs H Q => ∃ (l : Addr) (xs : List Str), vs = [V.ref l] ∧ SqL K H l (xs.map V.str) ∧ xs.length + 1 < 4096 ∧ ∀ (a : Addr) (ys : List Str), H a = none → ys.Nodup → (∀ x, x ∈ ys ↔ x ∈ xs) → Q (.ref a) (upd H a (SetO P w a ys))
theorem cr_set (hc : X.calm = true) : CallR X (.type "set") (rSet X.K X.prog X.w) := by
  intro ps s σ H vs us Q I r h
  obtain ⟨l, xs, rfl, hl, few, q⟩ := h
  obtain ⟨its, rv, pl, _⟩ := I.list hl
  rw [Vals.ref1 r]
  refine call_set (P := X.prog) (w := X.w) (I.ok.hd hc) pl.isList (by simpa using each_vals rv) few fun h' tk es ep t R g old => ?_
  exact ⟨.ref s.heap.objs.size, _, I.laid (t' := tk) old (Nat.le_refl _) (set_new R (.refl _)), rfl, q _ _ (I.hok.fresh (Nat.le_refl _)) R.one g⟩
def rSorted (P : Program) (w : World) : List V → Hp → VK → Prop := fun vs H Q => ∃ (a : Addr) (ys : List Str), vs = [V.ref a] ∧ H a = some (SetO P w a ys) ∧ ∀ (p : Addr) (zs : List Str), H p = none → zs.Perm ys → zs.Pairwise (fun x y => x.cps.toList ≤ y.cps.toList) → Q (.ref p) (upd H p (.lst (zs.map V.str)))
theorem cr_sorted (hc : X.calm = true) (hu : X.A.units + 64 < cLine) : CallR X (.builtin "sorted") (rSorted X.prog X.w) := by
  intro ps s σ H vs us Q I r h
  obtain ⟨a, ys, rfl, ha, q⟩ := h
  obtain ⟨es, ep, t, R, pm⟩ := ((I.hok a _ ha).1 : ∃ es ep t, Held X.prog X.w s.heap a es ep t ∧ (es.toList.map txt).Perm ys)
  rw [Vals.ref1 r]
  refine call_sorted R (I.ok.hd hc) (by omega) fun s1 p out c zs old g o hp at_ e pz pw => ?_
  have nn : H p = none := I.hok.fresh hp
  have few := R.few
  have hsb : scanBound = 4096 := rfl
  have len : (zs.map V.str).length ≤ sizeLine := by rw [List.length_map, pz.length_eq, List.length_map, Array.length_toList, sizeLine_eq]; omega
  have ok : ObjOk X.prog X.w (upd H p (.lst (zs.map V.str))) s1.heap p (.lst (zs.map V.str)) := ⟨len, out.toList, c, vals_of e, at_⟩
  exact ⟨.ref p, _, I.call' (ch := []) o (Un.laid old hp nn) (I.hok.laid old hp ok) (by rw [g]; exact I.bare) (fun _ z => nomatch z), rfl, q p zs nn (pz.trans pm) pw⟩
end
end KvW
namespace Kv
open PySem PySem.Spec PyProof.Rows L2
section
variable {X : Cx} {B : Hp} {L : HL} {Q : KQ}
/-- set(list of texts) -/
theorem c_setS {l : Addr} {xs : List Str} (hl : Ls X.K B L l (xs.map V.str)) (few : xs.length + 1 < 4096) (q : ∀ (a : Addr) (ys : List Str), ys.Nodup → (∀ x, x ∈ ys ↔ x ∈ xs) → Q (.ref a) B ((a, KvW.SetO X.prog X.w a ys) :: L)) (hc : X.calm = true := by rfl) : kC X (.type "set") [.ref l] B L Q :=
  ⟨_, KvW.cr_set hc, fun H s => ⟨l, xs, rfl, hl.at s, few, fun a ys n h1 h2 => ⟨_, _, s.new n, q a ys h1 h2⟩⟩⟩
/-- sorted of it -/
theorem c_sortedSS {a : Addr} {ys : List Str} (ha : At B L a (KvW.SetO X.prog X.w a ys)) (hu : X.A.units + 64 < cLine) (q : ∀ (p : Addr) (zs : List Str), zs.Perm ys → zs.Pairwise (fun x y => x.cps.toList ≤ y.cps.toList) → Q (.ref p) B ((p, .lst (zs.map V.str)) :: L)) (hc : X.calm = true := by rfl) : kC X (.builtin "sorted") [.ref a] B L Q :=
  ⟨_, KvW.cr_sorted hc hu, fun H s => ⟨a, ys, rfl, ha.at s, fun p zs n h1 h2 => ⟨_, _, s.new n, q p zs h1 h2⟩⟩⟩
/-- sorted(list of alike data) -/
theorem c_sortedD {a : Addr} {ys : List V} {kf : V → PyData} (hl : Ls X.K B L a ys) (hd : ∀ y ∈ ys, Dd X B L y (kf y) ∧ (kf y).depth ≤ 60) (hal : PySem.W.AllAlike (ys.map kf)) (hso : PySem.W.Sortable (ys.map kf)) (hu : X.A.units + 100 < cLine) (q : ∀ p, Q (.ref p) B ((p, .lst (ys.mergeSort (PySem.W.dataLe false kf))) :: L)) : kC X (.builtin "sorted") [.ref a] B L Q :=
  ⟨_, cr_sortedD hu, fun H s => ⟨a, ys, kf, rfl, hl.at s, fun y hy => ⟨(hd y hy).1 H s, (hd y hy).2⟩, hal, hso, fun p n => ⟨_, _, s.new n, q p⟩⟩⟩
end
end Kv


/-! sorted(xs, key=f), dict(list of pairs), list(dict). -/
namespace Kv
open PySem PySem.Spec PyProof.Rows L2
section
variable {X : Cx} {σ : L2.St} {B : Hp} {L : HL} {Q : KQ} {e : Expr} {pos p1 p2 p3 : Pos}
theorem k_sortedK {x : Str} {k : Nat} {sp : Sp} (F : Fn X.prog X.w X.K X.mg X.base k x sp) (hr : Room k X.A.in1.in1) (hm : X.mg "sorted" = none)
    (h : kE X e σ B L fun v B1 L1 => ∃ (a : Addr) (ys : List V) (kf : V → PyData), v = .ref a ∧ Ls X.K B1 L1 a ys ∧ (∀ y ∈ ys, (kf y).depth ≤ 60 ∧ ∀ H, Sat B1 L1 H → KeyGiven X.K sp y (kf y) H) ∧ PySem.W.AllAlike (ys.map kf) ∧ PySem.W.Sortable (ys.map kf) ∧ ∀ p, Q (.ref p) B1 ((p, .lst (ys.mergeSort (PySem.W.dataLe false kf))) :: L1))
    (hg : Gl X "sorted" := by rfl) (hx : Gl X x := by rfl) (hxd : (x == ("__debug__" : Str)) = false := by decide) (hse : starEach [e] X.env = (false, eval e X.env) :: starEach [] X.env := by rfl) (hst : backTo pos (starEach [e] X.env) = (false, eval e X.env) :: backTo pos (starEach [] X.env) := by rfl) (hpl : (backTo pos (starEach [e] X.env)).any (·.1) = false := by rfl)
    (hall : (backToKw pos (keywordEach [⟨some "key", .Name x p2, p3⟩] X.env)).all (·.1.isSome) = true := by rfl) (hnone : (backToKw pos (keywordEach [⟨some "key", .Name x p2, p3⟩] X.env)).any (·.1.isNone) = false := by rfl) (hks : (backToKw pos (keywordEach [⟨some "key", .Name x p2, p3⟩] X.env)).filterMap (·.1) = [Str.ofString "key"] := by rfl) :
    kE X (.Call (.Name "sorted" p1) [e] [⟨some "key", .Name x p2, p3⟩] pos) σ B L Q := by
  obtain ⟨f, hf, ⟨fd, ps, F1, _, F3⟩⟩ := F.val
  refine ⟨_, pe_callBK cr_sortedF hg hm (by rfl) (pa_cons pe_c pa_nil (hs := hse)) (pk_cons pe_c pk_nil) (by decide) (by decide) hst hpl hall hnone hks, fun H s => ?_⟩
  refine toE s h fun v H1 B1 L1 s1 ⟨a, ys, kf, ev, hl, hk, hal, hso, q⟩ => ?_
  subst ev
  refine toE s1 (k_g (v := .ref f) (Q := fun z B2 L2 => z = .ref f ∧ B2 = B1 ∧ L2 = L1) hf (show Value.ref f = Value.ref f from rfl) ⟨rfl, rfl, rfl⟩ hx (hd := hxd)) fun z H2 B2 L2 s2 ⟨ez, eB, eL⟩ => ?_
  subst ez eB eL
  exact ⟨a, f, ys, kf, k, fd, ps, sp, rfl, rfl, hl.at s2, F1, F3, hr, fun y hy => ⟨(hk y hy).1, (hk y hy).2 _ s2⟩, hal, hso, fun H' p e n => ⟨_, _, (s2.keep e).new n, q p⟩⟩
/-- dict(list of pairs) -/
theorem c_dictP {a : Addr} {ps : List Addr} {kvs : List (Key × V)} (hl : Ls X.K B L a (ps.map V.ref)) (hp : Paired (fun p (kv : Key × V) => Tp X.K B L p [kV kv.1, kv.2]) ps kvs) (q : ∀ d, Q (.ref d) B ((d, .dK (mergeK [] kvs)) :: L)) (hc : X.calm = true := by rfl) : kC X (.type "dict") [.ref a] B L Q :=
  ⟨_, call_dictP hc, fun H s => ⟨a, ps, kvs, rfl, hl.at s, Paired.mapP hp fun _ _ h => h.at s, fun d n => ⟨_, _, s.new n, q d⟩⟩⟩
/-- list(dict) -/
theorem c_listD {a : Addr} {kvs : List (Key × V)} (ha : At B L a (.dK kvs)) (q : ∀ p, Q (.ref p) B ((p, .lst (kvs.map fun kv => kV kv.1)) :: L)) (hc : X.calm = true := by rfl) : kC X (.type "list") [.ref a] B L Q :=
  ⟨_, call_listD hc, fun H s => ⟨a, kvs, rfl, .inl (ha.at s), fun p n => ⟨_, _, s.new n, q p⟩⟩⟩
/-- [elt for z in a list], the element's work may change the heap -/
theorem k_lcv_l {L : HL} {Q : KQ} {B : Hp} {elt iter : Expr} {scope : Scope} {x : Str} {j : Nat} {px : Pos} (Pv : Nat → List V → Hp → HL → Prop) (hN : X.N.Nodup) (ok : BlkOk X.N X.env.scope scope [(x, j)])
    (h : kE X iter σ B L fun v B1 L1 => ∃ a xs, v = .ref a ∧ xs.length ≤ 16777216 ∧ Pv 0 [] B1 L1 ∧ (∀ i acc B L, Pv i acc B L → Ls X.K B L a xs ∧ acc.length = i) ∧ (∀ i acc B L z, xs[i]? = some z → Pv i acc B L → ∀ D s H0 C cl fp, kE (Bk X scope s H0 C cl fp) elt (σ.set j (some z)) B ((D, .lst acc) :: L) fun y B3 L3 => ∃ L4, L3 = (D, .lst acc) :: L4 ∧ Pv (i + 1) (acc ++ [y]) B3 L4) ∧
      ∀ acc B L D, Pv xs.length acc B L → Q (.ref D) B ((D, .lst acc) :: L))
    (hp : ∀ s H0 C cl fp, Loc (Bk X scope s H0 C cl fp).env.scope x := by intro _ _ _ _ _; first | exact Or.inl rfl | exact Or.inr rfl) (hf : ∀ s H0 C cl fp, (Bk X scope s H0 C cl fp).fn x = true ∨ (Bk X scope s H0 C cl fp).env.scope.names.lookup x = some .local := by intro _ _ _ _ _; first | exact .inr rfl | exact .inl rfl)
    (hj : X.N[j]? = some x := by rfl) (hc : X.calm = true := by rfl) (hs : ∀ x, foldedSetIterable iter X.env x = pure x := by intro _; rfl) : kL X elt (.Name x px) iter [] scope [(x, j)] σ B L Q :=
  k_lc hN ok (r_list (by
    obtain ⟨t, h1, h2⟩ := h
    refine ⟨_, pe_c, fun H s => toE s ⟨t, h1, h2⟩ fun v H' B1 L1 s' ⟨a, xs, e, hl, p0, hpv, ht, hd⟩ => ⟨B1, L1, s', a, xs, e, (hpv _ _ _ _ p0).1, xs.length, _, _, fun i acc B L => Pv i acc B L, walk_list, p0, ?_, ?_, ?_⟩⟩
    · intro i acc B L H hi p s
      exact (hpv _ _ _ _ p).1.at s
    · rintro D i acc x B L H H' hi p s ⟨rfl, hx⟩
      refine ⟨_, _, s, fun sa Ha Ca cla fpa => g_name j ?_ hN hj (hp sa Ha Ca cla fpa) (hf sa Ha Ca cla fpa)⟩
      refine ⟨wipe1 σ j _, fun sb Hb Cb clb fpb => ?_⟩
      show kE _ _ ((wipe σ [j]).set j _) _ _ _
      rw [wipe1']
      obtain ⟨t2, k1, k2⟩ := ht i acc B L x hx p D sb Hb Cb clb fpb
      have hac := (hpv _ _ _ _ p).2
      refine ⟨_, pe_c, fun H s => toE s ⟨t2, k1, k2⟩ fun y H2 B2 L2 s2 ⟨L4, e1, q⟩ => ⟨B2, L2, s2, by omega, L4, e1, q⟩⟩
    · intro acc B L D p
      exact hd acc B L D p)) hc hs
end
end Kv

/-! set(list of tuples) and sorted of it, as rules -/
namespace KvT
open PySem PySem.Spec PyProof.Rows L2
open PySem.W (EachIs AllAlike Sortable dataLe dataLt)
/-- a set's own object, its members told, the tuples apart -/
def Bare (P : Program) (w : World) (h : Heap) (a : Addr) (L : List (Addr × List Key)) : Prop := ∃ es ep t, (∃ o, h.get? a = some o ∧ o.ExactSet ∧ o.data = .set es ep t) ∧ es.toList = rows (mixKind P w) L ∧ TabG t (L.map fun z => hk (mixKind P w) z.2) ∧ (L.map (·.2)).Nodup ∧
  (w.params.followText "set-order" = true ∨ t.led = true) ∧ L.length * 5 < t.mask * 3 ∧ L.length < 1200
def SetO (P : Program) (w : World) (a : Addr) (L : List (Addr × List Key)) : HO := .ext fun h => Bare P w h a L
theorem bare_new {P : Program} {w : World} {H : Hp} {h : Heap} {a : Addr} {L : List (Addr × List Key)} (R : Bare P w h a L) : ObjOk P w H h a (SetO P w a L) := by
  have ⟨_, _, _, ⟨o, ho, _⟩, _⟩ := R
  refine ⟨R, ⟨o, ho⟩, fun h1 h2 p k => ?_⟩
  obtain ⟨es, ep, t, ⟨o, ho, r⟩, q⟩ := (p : Bare P w h1 a L)
  exact ⟨es, ep, t, ⟨o, k o ho, r⟩, q⟩
theorem items_are {P : Program} {w : World} : ∀ {u : List Key} {vs : List Value}, Vals (u.map kV) vs → ItemsAre (mixKind P w) u vs
  | [], _, .nil => .nil
  | .inl i :: u, _, .cons r t => by obtain ⟨k, rfl⟩ := r; exact .cons (keyIs_int i k) (items_are t)
  | .inr x :: u, _, .cons r t => by obtain ⟨k, rfl⟩ := r; exact .cons (keyIs_str x k) (items_are t)
theorem vals_refs : ∀ {ks : List (Addr × List Key)} {us : List Value}, Vals (ks.map fun z => V.ref z.1) us → us = ks.map fun z => Value.ref z.1
  | [], _, .nil => rfl
  | z :: ks, _, .cons r t => by cases r; rw [vals_refs t]; rfl
theorem refs_vals : ∀ ks : List (Addr × List Key), Vals (ks.map fun z => V.ref z.1) (ks.map fun z => Value.ref z.1)
  | [] => .nil
  | _ :: ks => .cons rfl (refs_vals ks)
section
variable {X : Cx}
theorem inv_is {pins : List (Addr × Obj)} {σ : L2.St} {H : Hp} {s : Shared} {b : Addr} {u : List Key} (I : Inv X pins σ H s) (h : SqT X.K H b (u.map kV)) : Is (mixKind X.prog X.w) s.heap u b := by
  obtain ⟨its, r, ⟨o, ho, hc, n, hd⟩, _⟩ := I.tuple h
  exact ⟨o, its.toArray, n, ho, hc, hd, by simpa using items_are r⟩
def rSet (K : PySem.W.Frag) (P : Program) (w : World) : List V → Hp → VK → Prop := fun xs H Q => ∃ (l : Addr) (ks : List (Addr × List Key)), xs = [V.ref l] ∧ SqL K H l (ks.map fun z => V.ref z.1) ∧ (∀ z ∈ ks, SqT K H z.1 (z.2.map kV)) ∧ ks.length < 1200 ∧
  ∀ a L, H a = none → (∀ z ∈ L, z ∈ ks) → (∀ z ∈ ks, z.2 ∈ L.map (·.2)) → (L.map (·.2)).Nodup → Q (.ref a) (upd H a (SetO P w a L))
theorem cr_set (hc : X.calm = true) (hu : X.A.units + 64 < cLine) : CallR X (.type "set") (rSet X.K X.prog X.w) := by
  intro ps s σ H xs us Q I r h
  obtain ⟨l, ks, rfl, hl, hks, few, q⟩ := h
  obtain ⟨its, rv, pl, _⟩ := I.list hl
  rw [Vals.ref1 r]
  refine call_set (I.ok.hd hc) pl.isList (by simpa using vals_refs rv) (fun z hz => inv_is I (hks z hz)) few (by omega) fun h' tk L es ep t R g old => ?_
  refine ⟨.ref s.heap.objs.size, upd H s.heap.objs.size (SetO X.prog X.w s.heap.objs.size L), I.laid (t' := tk) old (Nat.le_refl _) (bare_new ⟨es, ep, t, R.obj, R.ent, R.tab, R.one, R.led, R.gap, R.few⟩), rfl, ?_⟩
  exact q _ L (I.hok.fresh (Nat.le_refl _)) (fun z hz => List.mem_of_mem_take (g.sub z hz)) (fun z hz => g.all z (by rw [List.take_length]; exact hz)) R.one
def rSorted (K : PySem.W.Frag) (P : Program) (w : World) : List V → Hp → VK → Prop := fun xs H Q => ∃ (a : Addr) (L : List (Addr × List Key)), xs = [V.ref a] ∧ H a = some (SetO P w a L) ∧ (∀ z ∈ L, SqT K H z.1 (z.2.map kV)) ∧ AllAlike (L.map fun z => tD z.2) ∧ Sortable (L.map fun z => tD z.2) ∧
  ∀ (p : Addr) (L2 : List (Addr × List Key)), H p = none → L2.Perm L → L2.Pairwise (fun y z => dataLt (tD z.2) (tD y.2) = false) → Q (.ref p) (upd H p (.lst (L2.map fun z => V.ref z.1)))
theorem cr_sorted (hc : X.calm = true) (hu : X.A.units + 64 < cLine) : CallR X (.builtin "sorted") (rSorted X.K X.prog X.w) := by
  intro ps s σ H xs us Q I r h
  obtain ⟨a, L, rfl, ha, hks, hal, hso, q⟩ := h
  obtain ⟨es, ep, t, r1, r2, r3, r4, r5, r6, r7⟩ := ((I.hok a _ ha).1 : Bare X.prog X.w s.heap a L)
  rw [Vals.ref1 r]
  refine call_sorted ⟨r1, r2, r3, r4, fun z hz => inv_is I (hks z hz), r5, r6, r7⟩ (I.ok.hd hc) hal hso (by omega) fun s1 p out c L2 old g o hp at_ e pm pw => ?_
  have nn : H p = none := I.hok.fresh hp
  have len : (L2.map fun z => V.ref z.1).length ≤ sizeLine := by rw [List.length_map, pm.length_eq, sizeLine_eq]; omega
  have v : Vals (L2.map fun z => V.ref z.1) out.toList := by rw [e]; exact refs_vals L2
  have ok : ObjOk X.prog X.w (upd H p (.lst (L2.map fun z => V.ref z.1))) s1.heap p (.lst (L2.map fun z => V.ref z.1)) := ⟨len, out.toList, c, v, at_⟩
  exact ⟨.ref p, _, I.call' (ch := []) o (Un.laid old hp nn) (I.hok.laid old hp ok) (by rw [g]; exact I.bare) (fun _ z => nomatch z), rfl, q p L2 nn pm pw⟩
end
end KvT
namespace Kv
open PySem PySem.Spec PyProof.Rows L2
section
variable {X : Cx} {B : Hp} {L : HL} {Q : KQ}
/-- set(list of tuples of numbers and texts) -/
theorem c_setT {l : Addr} {ks : List (Addr × List Key)} (hl : Ls X.K B L l (ks.map fun z => V.ref z.1)) (ht : ∀ z ∈ ks, Tp X.K B L z.1 (z.2.map kV)) (few : ks.length < 1200) (hu : X.A.units + 64 < cLine)
    (q : ∀ a M, (∀ z ∈ M, z ∈ ks) → (∀ z ∈ ks, z.2 ∈ M.map (·.2)) → (M.map (·.2)).Nodup → Q (.ref a) B ((a, KvT.SetO X.prog X.w a M) :: L)) (hc : X.calm = true := by rfl) : kC X (.type "set") [.ref l] B L Q :=
  ⟨_, KvT.cr_set hc hu, fun H s => ⟨l, ks, rfl, hl.at s, fun z hz => (ht z hz).at s, few, fun a M n h1 h2 h3 => ⟨_, _, s.new n, q a M h1 h2 h3⟩⟩⟩
/-- sorted of it -/
theorem c_sortedT {a : Addr} {M : List (Addr × List Key)} (ha : At B L a (KvT.SetO X.prog X.w a M)) (ht : ∀ z ∈ M, Tp X.K B L z.1 (z.2.map kV)) (hal : PySem.W.AllAlike (M.map fun z => KvT.tD z.2)) (hso : PySem.W.Sortable (M.map fun z => KvT.tD z.2)) (hu : X.A.units + 64 < cLine)
    (q : ∀ (p : Addr) (M2 : List (Addr × List Key)), M2.Perm M → M2.Pairwise (fun y z => PySem.W.dataLt (KvT.tD z.2) (KvT.tD y.2) = false) → Q (.ref p) B ((p, .lst (M2.map fun z => V.ref z.1)) :: L)) (hc : X.calm = true := by rfl) : kC X (.builtin "sorted") [.ref a] B L Q :=
  ⟨_, KvT.cr_sorted hc hu, fun H s => ⟨a, M, rfl, ha.at s, fun z hz => (ht z hz).at s, hal, hso, fun p M2 n h1 h2 => ⟨_, _, s.new n, q p M2 h1 h2⟩⟩⟩
end
end Kv

/-! Dicts whose keys are tuples of numbers and texts: {}, d.setdefault(k, v), d.get(k), k in d, d[k] = v. -/
namespace KvU
open PySem PySem.Spec PyProof.Rows L2
section
variable {X : Cx} {pins : List (Addr × Obj)} {σ : L2.St} {H : Hp} {s : Shared} {a b : Addr} {r : Value} {d : V} {k : List Key} {A : Around} {E : Value → Shared → Prop}
theorem setd_at {kvs : List (List Key × V)} {Q : Value → Shared → Prop} (hu : A.units + 1 < cLine) (I : Inv X pins σ H s) (e : H a = some (.dT kvs)) (eb : H b = some (.tup (k.map kV))) (rd : RelV d r) (hl : kvs.length < sizeLine)
    (there : ∀ v, valV kvs k = some v → ∀ (u : Value) (s1 : Shared), Inv X pins σ H s1 → RelV v u → Q u s1) (new : valV kvs k = none → ∀ (u : Value) (s1 : Shared), Inv X pins σ (upd H a (.dT (putK kvs k d))) s1 → RelV d u → Q u s1) :
    wpAny (model X.prog X.w) A (call (.builtin "dict.setdefault") [.ref a, .ref b, r]) Q E s := by
  obtain ⟨z, na, xs, rel, D⟩ := dt_of I.hok e
  have val := rel.val k
  refine call_setdefault_heap (tupleKind_room_in1 hu) (key_of I.hok eb) na D (fun p hp => ?_) (fun hn h' D2 sb => ?_) (by rw [← Paired.length rel]; exact z)
  · rw [hp] at val
    cases hv : valV kvs k with
    | none => rw [hv] at val; exact (show False from val).elim
    | some v => rw [hv] at val; exact there v hv _ _ (I.tok _) val
  · rw [hn] at val
    cases hv : valV kvs k with
    | some v => rw [hv] at val; exact (show False from val).elim
    | none =>
      have len : (putK kvs k d).length ≤ sizeLine := by have := length_putK kvs k d; omega
      obtain ⟨o, es, ep, h1, h2, h3, h4, _, h5⟩ := D2
      refine new hv _ _ (d_write I (by rw [e]; exact True.intro) sb ⟨o, h1⟩ ⟨len, na, _, (rel.put k eb rd).keeps fun c ys ec => ?_, o, es, ep, h1, h2, h3, h4, h5⟩) rd
      rw [upd_ne (ne_of ec e fun z => nomatch z)]
      exact ec
end
def tSetd (td ty tx : TE) : TE := fun σ H Q => td σ H fun x H1 => ∃ a, x = .ref a ∧ IsD H1 a ∧ ty σ H1 fun y H2 => tx σ H2 fun z H3 => ∃ (kvs : List (List Key × V)) (k : List Key) (b : Addr), H3 a = some (.dT kvs) ∧ y = .ref b ∧ H3 b = some (.tup (k.map kV)) ∧ kvs.length < sizeLine ∧
  (∀ v, valV kvs k = some v → Q v H3) ∧ (valV kvs k = none → Q z (upd H3 a (.dT (putK kvs k z))))
section
variable {X : Cx} {o e f : Expr} {td ty tx : TE} {apos cpos : Pos}
theorem pe_setd (hu : X.A.units + 1 < cLine) (ho : PE X o td) (he : PE X e ty) (hf : PE X f tx) (m : M2 X o "setdefault" apos e f cpos) : PE X (.Call (.Attribute o "setdefault" apos) [e, f] [] cpos) (tSetd td ty tx) := by
  refine ⟨fun pins s σ H Q I h => ?_⟩
  refine wpAny_Call_method m.base m.few m.line PySem.F.plainAttrs_dict PySem.F.slot_dict_setdefault PySem.F.type_dict_setdefault (thn (ho.run pins s σ H _ I h) fun u s1 ⟨x, H1, I1, rx, a, ex, isd, q1⟩ => ?_)
  subst ex
  obtain rfl : u = Value.ref a := rx
  obtain ⟨g1, g2, _⟩ := isD_at I1 isd
  refine ⟨g1, g2, ?_⟩
  rw [m.trees]
  refine Calls.callWith_builtin rfl (Calls.evalArgs_plain (Calls.spliced_cons (thn (he.run pins s1 σ H1 _ I1 q1) fun kv s2 ⟨y, H2, I2, ry, q2⟩ =>
    Calls.spliced_cons (thn (hf.run pins s2 σ H2 _ I2 q2) fun fv s3 ⟨z, H3, I3, rz, kvs, k, b, ea, ey, eb, hl, q3, q4⟩ => Calls.spliced_nil ?_))))
  subst ey
  obtain rfl : kv = Value.ref b := ry
  exact setd_at hu I3 ea eb rz hl (fun v hv u s4 I4 ru => ⟨v, _, I4, ru, q3 v hv⟩) fun hn u s4 I4 ru => ⟨z, _, I4, ru, q4 hn⟩
def rIn (neg : Bool) : R2 := fun y x H Q => ∃ a o, x = .ref a ∧ DGet H a y o ∧ Q (.bl (if neg then !o.isSome else o.isSome)) H
theorem op_in (hu : X.A.units + 1 < cLine) : OpR X (compareOp .In) (rIn false) := by
  intro ps s σ H y x v u Q I ry rx h
  obtain ⟨a, o, rfl, g, q⟩ := h
  obtain rfl : u = Value.ref a := rx
  exact d_in hu I g ry fun s1 I1 => ⟨.bl _, H, I1, rfl, q⟩
theorem op_nin (hu : X.A.units + 1 < cLine) : OpR X (compareOp .NotIn) (rIn true) := by
  intro ps s σ H y x v u Q I ry rx h
  obtain ⟨a, o, rfl, g, q⟩ := h
  obtain rfl : u = Value.ref a := rx
  exact d_notIn hu I g ry fun s1 I1 => ⟨.bl _, H, I1, rfl, q⟩
end
end KvU
namespace Kv
open PySem PySem.Spec PyProof.Rows L2
section
variable {X : Cx} {σ : L2.St} {B : Hp} {L : HL} {Q : KQ} {o e f : Expr} {pos apos : Pos}
/-- {} to be a dict with tuple keys -/
theorem k_dT0 (q : ∀ p, Q (.ref p) B ((p, .dT []) :: L)) : kE X (.Dict [] [] pos) σ B L Q :=
  ⟨_, pe_dnewT, fun H s p hp => ⟨_, _, s.new hp, q p⟩⟩
/-- d.setdefault(k, v), d ours -/
theorem k_setd (hu : X.A.units + 64 < cLine) (h : kE X o σ B L fun x B1 L1 => ∃ p kv0, x = .ref p ∧ At B1 L1 p (.dT kv0) ∧ kE X e σ B1 L1 fun y B2 L2 => kE X f σ B2 L2 fun z B3 L3 => ∃ kvs k b, (p, HO.dT kvs) ∈ L3 ∧ y = .ref b ∧ At B3 L3 b (.tup (k.map kV)) ∧ kvs.length < 16777216 ∧
      (∀ v, valV kvs k = some v → Q v B3 L3) ∧ (valV kvs k = none → ∃ L4, Rep L3 p (.dT kvs) (.dT (putK kvs k z)) L4 ∧ Q z B3 L4))
    (m : M2 X o "setdefault" apos e f pos := by exact ⟨rfl, rfl, rfl, rfl⟩) : kE X (.Call (.Attribute o "setdefault" apos) [e, f] [] pos) σ B L Q :=
  ⟨_, KvU.pe_setd (by omega) pe_c pe_c pe_c m, fun H s => toE s h fun _ _ _ _ s ⟨p, kv0, ex, h0, q⟩ => ⟨p, ex, .inr ⟨kv0, .inl (h0.at s)⟩, toE s q fun _ _ _ _ s q => toE s q fun _ _ _ _ s ⟨kvs, k, b, hp, ey, hb, hl, q1, q2⟩ =>
    ⟨kvs, k, b, s.own _ hp, ey, hb.at s, small' hl, fun v hv => ⟨_, _, s, q1 v hv⟩, fun hn => let ⟨L4, r, q⟩ := q2 hn; ⟨_, L4, s.rep r, q⟩⟩⟩⟩
/-- d.get(k) -/
theorem k_getT (hu : X.A.units + 64 < cLine) (h : kE X o σ B L fun x B1 L1 => ∃ p kv0, x = .ref p ∧ At B1 L1 p (.dT kv0) ∧ kE X e σ B1 L1 fun y B2 L2 => ∃ kvs k b, At B2 L2 p (.dT kvs) ∧ y = .ref b ∧ At B2 L2 b (.tup (k.map kV)) ∧ Q ((valV kvs k).getD .non) B2 L2)
    (m : M1 X o "get" apos e pos := by exact ⟨rfl, rfl, rfl, rfl⟩) : kE X (.Call (.Attribute o "get" apos) [e] [] pos) σ B L Q :=
  ⟨_, pe_dget1 (by omega) pe_c pe_c m, fun H s => toE s h fun _ _ _ _ s ⟨p, kv0, ex, h0, q⟩ => ⟨p, ex, .inr ⟨kv0, .inl (h0.at s)⟩, toE s q fun _ _ _ _ s ⟨kvs, k, b, hp, ey, hb, q⟩ =>
    ⟨_, ey ▸ DGet.t (hp.at s) (hb.at s), _, _, s, q⟩⟩⟩
/-- k in d, k not in d -/
theorem o_inT {b p : Addr} {kvs : List (List Key × V)} {k : List Key} (hu : X.A.units + 64 < cLine) (hp : At B L p (.dT kvs)) (hb : At B L b (.tup (k.map kV))) (q : Q (.bl (valV kvs k).isSome) B L) : kO X (compareOp .In) (.ref b) (.ref p) B L Q :=
  ⟨_, KvU.op_in (by omega), fun H s => ⟨p, _, rfl, DGet.t (hp.at s) (hb.at s), _, _, s, q⟩⟩
theorem o_ninT {b p : Addr} {kvs : List (List Key × V)} {k : List Key} (hu : X.A.units + 64 < cLine) (hp : At B L p (.dT kvs)) (hb : At B L b (.tup (k.map kV))) (q : Q (.bl (!(valV kvs k).isSome)) B L) : kO X (compareOp .NotIn) (.ref b) (.ref p) B L Q :=
  ⟨_, KvU.op_nin (by omega), fun H s => ⟨p, _, rfl, DGet.t (hp.at s) (hb.at s), _, _, s, q⟩⟩
/-- d[k] = v, d ours -/
theorem g_setT {v : V} {Q : KN} (hu : X.A.units + 64 < cLine) (h : kE X o σ B L fun x B1 L1 => kE X e σ B1 L1 fun y B2 L2 => ∃ p b kvs k L3, x = .ref p ∧ y = .ref b ∧ At B2 L2 b (.tup (k.map kV)) ∧ Rep L2 p (.dT kvs) (.dT (putK kvs k v)) L3 ∧ kvs.length < 16777216 ∧ Q σ B2 L3)
    (ha : ∀ v, assign (.Subscript o e pos) X.env v = (do
      let ov ← holding [v] (eval o X.env)
      let iv ← holding [v, ov] (eval e X.env)
      standAt pos
      holding [v, ov, iv] (setItem ov iv v)
      release [v, ov, iv] []) := by intro _; rfl) : kG X (.Subscript o e pos) v σ B L Q :=
  ⟨_, pg_sub pe_c pe_c (set_dict (by omega)) ha, fun H s => toE s h fun _ _ _ _ s q => toE s q fun _ _ _ _ s ⟨p, b, kvs, k, L3, e1, e2, hb, r, hl, q⟩ => ⟨p, _, e1, by rw [e2]; exact DPut.t (s.own _ r.mem) (hb.at s) (small' hl), _, _, s.rep r, q⟩⟩
end
end Kv

/-! Values that read as data: what their types say. Objects found by membership. -/
namespace Kv
open PySem PySem.Spec PyProof.Rows L2
def tyN : PyData → String
  | .none => "NoneType" | .bool _ => "bool" | .int _ => "int" | .str _ => "str" | .list _ => "list" | .tuple _ => "tuple" | _ => "NoneType"
theorem tyx_d {K : PySem.W.Frag} {H : Hp} {v : V} {d : PyData} (h : Dp K H v d) : TyX K H v (.type (tyN d)) := by
  cases h with
  | non => exact .base .non
  | bl b => exact .base (.bl b)
  | int i => exact .base (.int i)
  | str s => exact .base (.str s)
  | lst h _ => exact tyx_l h
  | tup h _ => exact tyx_t h
def isTup : PyData → Bool | .tuple _ => true | _ => false
def isStr : PyData → Bool | .str _ => true | _ => false
def isInt : PyData → Bool | .int _ => true | .bool _ => true | _ => false
def isBool : PyData → Bool | .bool _ => true | _ => false
def isList : PyData → Bool | .list _ => true | _ => false
/-- whether it is a whole number -/
def whlD : PyData → Bool | .int _ => true | _ => false
theorem kit_tup (d : PyData) : kitB (tyN d) "tuple" = some (isTup d) := by cases d <;> (dsimp only [tyN, isTup]; decide +kernel)
theorem kit_str (d : PyData) : kitB (tyN d) "str" = some (isStr d) := by cases d <;> (dsimp only [tyN, isStr]; decide +kernel)
theorem kit_int (d : PyData) : kitB (tyN d) "int" = some (isInt d) := by cases d <;> (dsimp only [tyN, isInt]; decide +kernel)
theorem kit_bool (d : PyData) : kitB (tyN d) "bool" = some (isBool d) := by cases d <;> (dsimp only [tyN, isBool]; decide +kernel)
theorem kit_list (d : PyData) : kitB (tyN d) "list" = some (isList d) := by cases d <;> (dsimp only [tyN, isList]; decide +kernel)
theorem whl_eq (d : PyData) : (isInt d && !isBool d) = whlD d := by cases d <;> rfl
section
variable {X : Cx} {B : Hp} {L : HL} {Q : KQ}
theorem c_isD {v : V} {d : PyData} {T : String} {k : Bool} (h : Dd X B L v d) (hk : kitB (tyN d) T = some k) (q : Q (.bl k) B L) : kC X (.builtin "isinstance") [v, .ty T] B L Q := c_isi (.ty T) (fun H s => tyx_d (h H s)) (kit_ty hk) q
end
theorem rep_of {L : HL} {p : Addr} {o : HO} (o' : HO) (h : (p, o) ∈ L) : ∃ L', Rep L p o o' L' ∧ (p, o') ∈ L' := by
  induction L with
  | nil => cases h
  | cons q L ih =>
    rcases List.mem_cons.mp h with e | h
    · subst e; exact ⟨_, .here, List.mem_cons_self⟩
    · obtain ⟨L', r, m⟩ := ih h
      exact ⟨_, .there r, .tail _ m⟩
end Kv

/-! Objects made where what is raised is wished for at the slots; methods with one default. -/
namespace Kv
open PySem PySem.Spec PyProof.Rows L2
section
variable {X : Cx} {CX : CXT} {k : Nat} {f C : Addr} {fd : FuncData} {ps : List Str} {sp : Sp}
/-- C(..) behind its arguments -/
theorem made {pins : List (Addr × Obj)} {σ : L2.St} {H : Hp} {s : Shared} {Q : VK} {us : List Value} {vs : List V} {E : XK} (M : Mk X.K C f) (F : FnOk X.prog X.w X.K X.mg X.base CX k f fd ps sp) (hr : Room (k + 1) X.A) (hb : Binds X.K fd ps []) (hx : PassesAt CX X σ E) (I : Inv X pins σ H s) (r : Vals vs us)
    (h : ∀ x dx, H x = none → H dx = none → dx ≠ x → sp (.ref x :: vs) (upd (upd H dx (.own x)) x (.ins C dx [])) (fun v H2 => v = .non ∧ Q (.ref x) H2) E) : wpAny (model X.prog X.w) X.A (call (.ref C) us) (EP X pins σ Q) X.xe s := by
  have n1 : H (s.heap.objs.size + 1) = none := I.hok.fresh (Nat.le_add_right _ 1)
  have n0 : H s.heap.objs.size = none := I.hok.fresh (Nat.le_refl _)
  have hsp := h _ _ n1 n0 (Nat.ne_of_lt (Nat.lt_add_one _))
  have I2 := Inv.made (C := C) I
  have rr : Vals (V.ref (s.heap.objs.size + 1) :: vs) (Value.ref (s.heap.objs.size + 1) :: us) := .cons rfl r
  have hl : (Value.ref (s.heap.objs.size + 1) :: us).length = ps.length := (Vals.length rr).symm.trans (F.len _ _ _ _ hsp)
  have b := hb _ (Value.ref (s.heap.objs.size + 1) :: us) I2.kIn (by rw [List.append_nil]; exact hl)
  rw [List.append_nil] at b
  have run := F.run _ X.stack _ _ ⟨Value.ref (s.heap.objs.size + 1) :: us, []⟩ _ _ _ E (hr.make C us []) (I2.env0.make C us []) b rr hsp
  refine wpAny_call (make_map (f := f) I.kIn M.makes M.init (beq_iff_eq.mp M.fn) (codeAny_mono run fun z s' hz => ?_))
  match z, hz with
  | .error e, hz => exact hx pins _ _ e s' I2 hz
  | .ok (.ret u), hz =>
    obtain ⟨v, H', I3, rv, ev, q⟩ := I2.after hz
    subst ev
    exact ⟨rv, .ref (s.heap.objs.size + 1), H', I3, rfl, q⟩
end
section
variable {X : Cx} {σ : L2.St} {B : Hp} {L : HL} {Q : KQ} {a e : Expr} {es : List Expr} {pos p2 : Pos}
/-- C(e, ..), what is raised goes to W -/
theorem k_makeS {x : Str} {C : Addr} {k : Nat} {sp : Sp} {W : WX} (F : Mkr X.prog X.w X.K X.mg X.base k x C sp) (hr : Room (k + 1) X.A) (tk : Takes X W)
    (h : kA X (e :: es) σ B L fun vs B1 L1 => ∀ x dx, ∀ H, Sat B1 ((x, .ins C dx []) :: (dx, .own x) :: L1) H → sp (.ref x :: vs) H (fun v H2 => v = .non ∧ up Q (.ref x) H2) (WE W σ))
    (hg : Gl X x := by rfl) (hdb : (x == ("__debug__" : Str)) = false := by decide) (he : starEach (e :: es) X.env = (false, eval e X.env) :: starEach es X.env := by rfl) (hpl : (backTo pos (starEach es X.env)).any (·.1) = false := by rfl) : kE X (.Call (.Name x p2) (e :: es) [] pos) σ B L Q := by
  obtain ⟨f, fd, ps, hF, hm, hb⟩ := F.ex
  refine ⟨fun σ H Q => cA X (e :: es) σ H fun vs H1 => ∀ x dx, H1 x = none → H1 dx = none → dx ≠ x → sp (.ref x :: vs) (upd (upd H1 dx (.own x)) x (.ins C dx [])) (fun v H2 => v = .non ∧ Q (.ref x) H2) (WE W σ), ⟨fun pins s σ H Q I h => ?_⟩, fun H s => toA s h fun vs H' B' L' s' q => fun x dx nx ndx nex => ?_⟩
  · refine wpAny_Call_Name_kw (ld_glob I hg F.mg ?_ hdb)
    refine PySem.W.callWith_K (h₀ := X.base) I.ok.mod.kin hm.kp (thn (pa_c.run pos pins s σ H _ I h) fun us s1 ⟨vs, H1, I1, r, q⟩ => ⟨I1.kIn, ?_⟩) he hpl
    exact made hm hF hr hb (passAt tk σ) I1 r q
  · have s2 := s'.new (o := .own x) ndx
    have nx2 : (upd H' dx (.own x)) x = none := by rw [upd_ne (Ne.symm nex)]; exact nx
    exact q x dx _ (s2.new (o := .ins C dx []) nx2)
/-- a method with one default -/
structure MtD (P : Program) (w : World) (K : PySem.W.Frag) (mg : Str → Option Value) (base : Heap) (k : Nat) (C : Addr) (m : Str) (d : V) (sp : Sp) : Prop where
  ex : ∃ f fd ps ds, FnOk P w K mg base (L2.CX P w) k f fd ps sp ∧ Meth K C m f ∧ Binds K fd ps ds ∧ Vals [d] ds
  cls : Cls K C
/-- o.m(e, ..) without the last argument -/
theorem k_methD {m : Str} {C : Addr} {k : Nat} {sp : Sp} {d : V} {W : WX} {apos : Pos} {pl : Sem Bool} (F : MtD X.prog X.w X.K X.mg X.base k C m d sp) (hr : Room k X.A) (tk : Takes X W)
    (h : kE X a σ B L fun x B1 L1 => ∃ p dx fs, x = .ref p ∧ At B1 L1 p (.ins C dx fs) ∧ fs.lookup m = none ∧ kA X (e :: es) σ B1 L1 fun vs B2 L2 => ∀ H, Sat B2 L2 H → sp (.ref p :: (vs ++ [d])) H (up Q) (WE W σ))
    (hst : starEach (e :: es) X.env = (false, eval e X.env) :: starEach es X.env := by rfl) (hpl : (backTo pos (starEach es X.env)).any (·.1) = false := by rfl)
    (ht : eval (.Call (.Attribute a m apos) (e :: es) [] pos) X.env = (do
      let ov ← eval a X.env
      standAt apos.atName
      let (f, first) ← holding [ov] (getMethod ov m pl)
      callWith pos f first (backTo pos (starEach (e :: es) X.env)) (backToKw pos (keywordEach [] X.env))) := by rfl) : kE X (.Call (.Attribute a m apos) (e :: es) [] pos) σ B L Q := by
  obtain ⟨f, fd, ps, ds, hF, hm, hb, hd⟩ := F.ex
  refine ⟨fun σ H Q => cE X a σ H fun x H1 => ∃ p dx fs, x = .ref p ∧ H1 p = some (.ins C dx fs) ∧ fs.lookup m = none ∧ cA X (e :: es) σ H1 fun vs H2 => sp (.ref p :: (vs ++ [d])) H2 Q (WE W σ), ⟨fun pins s σ H Q I h => ?_⟩, fun H s => toE s h fun _ _ _ _ s ⟨p, dx, fs, e, ha, hl, q⟩ => ⟨p, dx, fs, e, ha.at s, hl, toA s q fun _ _ _ _ s q => q _ s⟩⟩
  refine PySem.W.methodCall_KW (pl := pl) (thn (pe_c.run pins s σ H _ I h) fun u s1 ⟨x, H1, I1, rx, p, dx, fs, ex, ea, l, q⟩ => ?_) ht
  subst ex
  obtain rfl : u = Value.ref p := rx
  refine getmeth_ok I1 ea F.cls hm l ?_
  refine PySem.W.callWith_K (first := [.ref p]) (h₀ := X.base) I.ok.mod.kin hm.kp (thn (pa_c.run pos pins s1 σ H1 _ I1 q) fun us s2 ⟨vs, H2, I2, r, q2⟩ => ⟨I2.kIn, ?_⟩) hst hpl
  exact run_fnSD (E := WE W) (us := .ref p :: us) (vs := .ref p :: vs) hF hr hb hd (passAt tk σ) I2 (.cons rfl r) q2
end
/-- the promise of a def with defaults, by its body -/
theorem fn_okFD {P : Program} {w : World} {K : PySem.W.Frag} {mg : Str → Option Value} {base : Heap} {x qual : Str} {st : Stmt} {f : Addr} {fd : FuncData} {dvs : List V} {kws : List (Str × V)} {N ps : List Str} {k : Nat} {sp : Sp} (F : FunD K x qual (defArgs st) (defBody st) (defScope st) dvs kws f fd) (S : FnScope N ps (defScope st))
    (len : ∀ vs H Q E, sp vs H Q E → vs.length = ps.length)
    (hbody : ∀ (cdv : Value) (A : Around) (outer : List Env) (s : Shared) (H : Hp) (vs : List V) (Q : VK) (E : XK), Room k (A.deeper (envOfC qual (defScope st) s.heap.objs.size f cdv)) → sp vs H Q E →
      Takes (cxOf (L2.CX P w) P w K mg base N qual (defScope st) f cdv A outer s H E) (fun cls d _ H => E cls d H) →
      PassesOwn (model P w) (A.deeper (envOfC qual (defScope st) s.heap.objs.size f cdv)) (envOfC qual (defScope st) s.heap.objs.size f cdv) (cxOf (L2.CX P w) P w K mg base N qual (defScope st) f cdv A outer s H E).xe →
      ∃ B L, Sat B L H ∧ kSs (cxOf (L2.CX P w) P w K mg base N qual (defScope st) f cdv A outer s H E) (defBody st) (start N vs) B L (fD Q)) : FnOk P w K mg base (L2.CX P w) (k + 1) f fd ps sp := by
  refine FunD.ok F S len fun cdv A outer s H vs Q E hr h => ?_
  obtain ⟨B, L, sat, t, h1, h2⟩ := hbody cdv A outer s H vs Q E hr h (takes_of rfl rfl rfl rfl) (passes_of rfl)
  refine ⟨_, pss_c, B, L, fD Q, sat, ⟨t, h1, h2⟩, ?_, ?_, ?_, ?_⟩
  · rintro σ' H' ⟨B', L', s', q⟩
    exact q H' s'
  · rintro v H' ⟨B', L', s', q⟩
    exact q H' s'
  · rintro σ' H' ⟨B', L', s', q⟩
    exact q.elim
  · rintro σ' H' ⟨B', L', s', q⟩
    exact q.elim
section
variable {X : Cx} {σ : L2.St} {B : Hp} {L : HL} {Q : KQ} {a : Expr} {pos : Pos}
/-- s.upper() -/
theorem k_supper {apos : Pos} (h : kE X a σ B L fun x B1 L1 => ∃ l, x = .str (sOf l) ∧ kMt X "str.upper" x [] B1 L1 Q)
    (hbase : attributeBase a "upper" X.env (eval a X.env) = eval a X.env := by rfl) (hline : (apos.endLine == pos.line) = true := by rfl) : kE X (.Call (.Attribute a "upper" apos) [] [] pos) σ B L Q := by
  refine k_m0 PySem.F.plainAttrs_str PySem.F.slot_str_upper PySem.F.type_str_upper ?_ hbase hline
  obtain ⟨t, h1, h2⟩ := h
  refine ⟨_, pe_c, fun H s => toE s ⟨t, h1, h2⟩ fun x H' B' L' s' ⟨z, e, q⟩ => ⟨B', L', s', ?_, q⟩⟩
  subst e
  exact ty_s
theorem m_upper {x y : Str} (hy : Txt.upper x = y) (q : Q (.str y) B L) (hl : x.length ≤ 1000) : kMt X "str.upper" (.str x) [] B L Q := ⟨_, mt_upper, fun H s => ⟨x, rfl, rfl, by omega, by rw [hy]; exact ⟨_, _, s, q⟩⟩⟩
end
end Kv

/-! [elt for x in a list if c], the list's items told by things of another kind. -/
namespace Kv
open PySem PySem.Spec PyProof.Rows L2
section
variable {X : Cx} {σ : L2.St} {B : Hp} {L : HL} {Q : KQ} {elt iter c : Expr} {scope : Scope}
theorem k_lcfA {α : Type} {x : Str} {j : Nat} {px : Pos} (M : List α) (val : α → V) (pr : α → Bool) (g : α → V) (hN : X.N.Nodup) (ok : BlkOk X.N X.env.scope scope [(x, j)])
    (h : kE X iter σ B L fun v B1 L1 => ∃ a, v = .ref a ∧ Ls X.K B1 L1 a (M.map val) ∧ M.length ≤ 16777216 ∧ (∀ z ∈ M, ∀ D acc s H0 C cl fp, kT (Bk X scope s H0 C cl fp) c (σ.set j (some (val z))) B1 ((D, .lst acc) :: L1) fun k B3 L3 => k = pr z ∧ B3 = B1 ∧ L3 = (D, .lst acc) :: L1) ∧
      (∀ z ∈ M, pr z = true → ∀ D acc s H0 C cl fp, kE (Bk X scope s H0 C cl fp) elt (σ.set j (some (val z))) B1 ((D, .lst acc) :: L1) fun y B3 L3 => y = g z ∧ B3 = B1 ∧ L3 = (D, .lst acc) :: L1) ∧
      ∀ D, Q (.ref D) B1 ((D, .lst ((M.filter pr).map g)) :: L1))
    (hp : ∀ s H0 C cl fp, Loc (Bk X scope s H0 C cl fp).env.scope x := by intro _ _ _ _ _; first | exact Or.inl rfl | exact Or.inr rfl) (hf : ∀ s H0 C cl fp, (Bk X scope s H0 C cl fp).fn x = true ∨ (Bk X scope s H0 C cl fp).env.scope.names.lookup x = some .local := by intro _ _ _ _ _; first | exact .inr rfl | exact .inl rfl)
    (hj : X.N[j]? = some x := by rfl) (hc : X.calm = true := by rfl) (hs : ∀ x, foldedSetIterable iter X.env x = pure x := by intro _; rfl) : kL X elt (.Name x px) iter [c] scope [(x, j)] σ B L Q :=
  k_lcf hN ok (r_list (by
    obtain ⟨t, h1, h2⟩ := h
    refine ⟨_, pe_c, fun H s => toE s ⟨t, h1, h2⟩ fun v H' B1 L1 s' ⟨a, e, hls, hl, ht, hg, hd⟩ => ⟨B1, L1, s', a, M.map val, e, hls, (M.map val).length, _, _, fun i acc B L => B = B1 ∧ L = L1 ∧ acc = ((M.take i).filter pr).map g, walk_list, ⟨rfl, rfl, by simp⟩, ?_, ?_, ?_⟩⟩
    · rintro i acc B L H hi ⟨rfl, rfl, _⟩ s
      exact hls.at s
    · rintro D i acc x B L H H' hi ⟨rfl, rfl, rfl⟩ s ⟨rfl, hx⟩
      obtain ⟨z, hz, rfl⟩ : ∃ z, M[i]? = some z ∧ x = val z := by
        rw [List.getElem?_map] at hx
        cases h : M[i]? with
        | none => rw [h] at hx; cases hx
        | some z => rw [h] at hx; exact ⟨z, rfl, (Option.some.inj hx).symm⟩
      have hzm := List.mem_of_getElem? hz
      have hiM : i < M.length := (List.getElem?_eq_some_iff.mp hz).1
      refine ⟨_, _, s, fun sa Ha Ca cla fpa => g_name j ?_ hN hj (hp sa Ha Ca cla fpa) (hf sa Ha Ca cla fpa)⟩
      refine ⟨wipe1 σ j _, fun sb Hb Cb clb fpb => ?_⟩
      show kT _ _ ((wipe σ [j]).set j _) _ _ _
      rw [wipe1']
      have hsucc : (M.take (i + 1)).filter pr = (M.take i).filter pr ++ (if pr z = true then [z] else []) := by
        rw [List.take_add_one, hz, List.filter_append]
        congr 1
        by_cases hfi : pr z = true <;> simp [hfi]
      have hlen : (((M.take i).filter pr).map g).length ≤ i := by
        rw [List.length_map]
        exact Nat.le_trans (List.length_filter_le _ _) (by rw [List.length_take]; omega)
      obtain ⟨t2, k1, k2⟩ := ht z hzm D (((M.take i).filter pr).map g) sb Hb Cb clb fpb
      refine ⟨_, pt_c, fun H s => toT s ⟨t2, k1, k2⟩ fun k H2 B2 L2 s2 ⟨e1, e2, e3⟩ => ⟨B2, L2, s2, fun hk => fun sc Hc Cc clc fpc => ?_, fun hk => ?_⟩⟩
      · subst e2 e3
        have hfx : pr z = true := by rw [← e1]; exact hk
        obtain ⟨t3, k3, k4⟩ := hg z hzm hfx D (((M.take i).filter pr).map g) sc Hc Cc clc fpc
        show kE _ _ ((wipe σ [j]).set j _) _ _ _
        rw [wipe1']
        refine ⟨_, pe_c, fun H s => toE s ⟨t3, k3, k4⟩ fun y H3 B3 L3 s3 ⟨e4, e5, e6⟩ => ⟨B3, L3, s3, by omega, L, e6, e5, rfl, ?_⟩⟩
        rw [hsucc, if_pos hfx, List.map_append, e4]; rfl
      · refine ⟨L, e3, e2, rfl, ?_⟩
        rw [hsucc, if_neg (by rw [← e1, hk]; decide), List.append_nil]
    · rintro acc B L D ⟨rfl, rfl, rfl⟩
      rw [List.length_map, List.take_length]
      exact hd D)) hc hs
/-- .. of a tuple -/
theorem k_lcfAt {α : Type} {x : Str} {j : Nat} {px : Pos} (M : List α) (val : α → V) (pr : α → Bool) (g : α → V) (hN : X.N.Nodup) (ok : BlkOk X.N X.env.scope scope [(x, j)])
    (h : kE X iter σ B L fun v B1 L1 => ∃ a, v = .ref a ∧ Tp X.K B1 L1 a (M.map val) ∧ M.length ≤ 16777216 ∧ (∀ z ∈ M, ∀ D acc s H0 C cl fp, kT (Bk X scope s H0 C cl fp) c (σ.set j (some (val z))) B1 ((D, .lst acc) :: L1) fun k B3 L3 => k = pr z ∧ B3 = B1 ∧ L3 = (D, .lst acc) :: L1) ∧
      (∀ z ∈ M, pr z = true → ∀ D acc s H0 C cl fp, kE (Bk X scope s H0 C cl fp) elt (σ.set j (some (val z))) B1 ((D, .lst acc) :: L1) fun y B3 L3 => y = g z ∧ B3 = B1 ∧ L3 = (D, .lst acc) :: L1) ∧
      ∀ D, Q (.ref D) B1 ((D, .lst ((M.filter pr).map g)) :: L1))
    (hp : ∀ s H0 C cl fp, Loc (Bk X scope s H0 C cl fp).env.scope x := by intro _ _ _ _ _; first | exact Or.inl rfl | exact Or.inr rfl) (hf : ∀ s H0 C cl fp, (Bk X scope s H0 C cl fp).fn x = true ∨ (Bk X scope s H0 C cl fp).env.scope.names.lookup x = some .local := by intro _ _ _ _ _; first | exact .inr rfl | exact .inl rfl)
    (hj : X.N[j]? = some x := by rfl) (hc : X.calm = true := by rfl) (hs : ∀ x, foldedSetIterable iter X.env x = pure x := by intro _; rfl) : kL X elt (.Name x px) iter [c] scope [(x, j)] σ B L Q :=
  k_lcf hN ok (r_tup (by
    obtain ⟨t, h1, h2⟩ := h
    refine ⟨_, pe_c, fun H s => toE s ⟨t, h1, h2⟩ fun v H' B1 L1 s' ⟨a, e, hls, hl, ht, hg, hd⟩ => ⟨B1, L1, s', a, M.map val, e, hls, (M.map val).length, _, _, fun i acc B L => B = B1 ∧ L = L1 ∧ acc = ((M.take i).filter pr).map g, walk_tup, ⟨rfl, rfl, by simp⟩, ?_, ?_, ?_⟩⟩
    · rintro i acc B L H hi ⟨rfl, rfl, _⟩ s
      exact hls.at s
    · rintro D i acc x B L H H' hi ⟨rfl, rfl, rfl⟩ s ⟨rfl, hx⟩
      obtain ⟨z, hz, rfl⟩ : ∃ z, M[i]? = some z ∧ x = val z := by
        rw [List.getElem?_map] at hx
        cases h : M[i]? with
        | none => rw [h] at hx; cases hx
        | some z => rw [h] at hx; exact ⟨z, rfl, (Option.some.inj hx).symm⟩
      have hzm := List.mem_of_getElem? hz
      have hiM : i < M.length := (List.getElem?_eq_some_iff.mp hz).1
      refine ⟨_, _, s, fun sa Ha Ca cla fpa => g_name j ?_ hN hj (hp sa Ha Ca cla fpa) (hf sa Ha Ca cla fpa)⟩
      refine ⟨wipe1 σ j _, fun sb Hb Cb clb fpb => ?_⟩
      show kT _ _ ((wipe σ [j]).set j _) _ _ _
      rw [wipe1']
      have hsucc : (M.take (i + 1)).filter pr = (M.take i).filter pr ++ (if pr z = true then [z] else []) := by
        rw [List.take_add_one, hz, List.filter_append]
        congr 1
        by_cases hfi : pr z = true <;> simp [hfi]
      have hlen : (((M.take i).filter pr).map g).length ≤ i := by
        rw [List.length_map]
        exact Nat.le_trans (List.length_filter_le _ _) (by rw [List.length_take]; omega)
      obtain ⟨t2, k1, k2⟩ := ht z hzm D (((M.take i).filter pr).map g) sb Hb Cb clb fpb
      refine ⟨_, pt_c, fun H s => toT s ⟨t2, k1, k2⟩ fun k H2 B2 L2 s2 ⟨e1, e2, e3⟩ => ⟨B2, L2, s2, fun hk => fun sc Hc Cc clc fpc => ?_, fun hk => ?_⟩⟩
      · subst e2 e3
        have hfx : pr z = true := by rw [← e1]; exact hk
        obtain ⟨t3, k3, k4⟩ := hg z hzm hfx D (((M.take i).filter pr).map g) sc Hc Cc clc fpc
        show kE _ _ ((wipe σ [j]).set j _) _ _ _
        rw [wipe1']
        refine ⟨_, pe_c, fun H s => toE s ⟨t3, k3, k4⟩ fun y H3 B3 L3 s3 ⟨e4, e5, e6⟩ => ⟨B3, L3, s3, by omega, L, e6, e5, rfl, ?_⟩⟩
        rw [hsucc, if_pos hfx, List.map_append, e4]; rfl
      · refine ⟨L, e3, e2, rfl, ?_⟩
        rw [hsucc, if_neg (by rw [← e1, hk]; decide), List.append_nil]
    · rintro acc B L D ⟨rfl, rfl, rfl⟩
      rw [List.length_map, List.take_length]
      exact hd D)) hc hs
end
end Kv

/-! Dicts with number and text keys: k in d, {k: v}; comprehensions whose target is three names. -/
namespace Kv
open PySem PySem.Spec PyProof.Rows L2
section
variable {X : Cx} {B : Hp} {L : HL} {Q : KQ}
theorem o_inK {p : Addr} {kvs : List (Key × V)} {k : Key} (hu : X.A.units + 64 < cLine) (hp : At B L p (.dK kvs)) (q : Q (.bl (valV kvs k).isSome) B L) : kO X (compareOp .In) (kV k) (.ref p) B L Q :=
  ⟨_, KvU.op_in (by omega), fun H s => ⟨p, _, rfl, .inl ⟨kvs, k, .inl (hp.at s), rfl, rfl⟩, _, _, s, q⟩⟩
theorem o_ninK {p : Addr} {kvs : List (Key × V)} {k : Key} (hu : X.A.units + 64 < cLine) (hp : At B L p (.dK kvs)) (q : Q (.bl (!(valV kvs k).isSome)) B L) : kO X (compareOp .NotIn) (kV k) (.ref p) B L Q :=
  ⟨_, KvU.op_nin (by omega), fun H s => ⟨p, _, rfl, .inl ⟨kvs, k, .inl (hp.at s), rfl, rfl⟩, _, _, s, q⟩⟩
end
section
variable {X : Cx} {σ : L2.St} {B : Hp} {L : HL} {Q : KQ} {pos p2 pos' : Pos} {elt iter a b : Expr} {scope : Scope}
theorem t_sub {L' : HL} {c : Expr} {R : KB} (h : List.Sublist L' L) (k : kT X c σ B L' R) : kT X c σ B L R := by
  obtain ⟨t, h1, h2⟩ := k
  exact ⟨t, h1, fun H s => h2 H (Sat.sub h s)⟩
theorem e_sub {L' : HL} {c : Expr} (h : List.Sublist L' L) (k : kE X c σ B L' Q) : kE X c σ B L Q := by
  obtain ⟨t, h1, h2⟩ := k
  exact ⟨t, h1, fun H s => h2 H (Sat.sub h s)⟩
/-- {a: b} -/
theorem k_dK1 (h : ∀ D, kE X a σ B ((D, .dK []) :: L) fun x B1 L1 => ∃ k, x = kV k ∧ kE X b σ B1 L1 fun y B2 L2 => ∃ L3, Rep L2 D (.dK []) (.dK [(k, y)]) L3 ∧ Q (.ref D) B2 L3) : kE X (.Dict [some a] [b] pos) σ B L Q := by
  refine k_dict [(a, b)] (by simp) (by simp) fun D => ?_
  obtain ⟨t, h1, h2⟩ := h D
  refine ⟨_, pe_c, fun H s => toE s ⟨t, h1, h2⟩ fun x H1 B1 L1 s1 ⟨k, e, h3⟩ => ⟨B1, L1, s1, ?_⟩⟩
  obtain ⟨t2, h4, h5⟩ := h3
  refine ⟨_, pe_c, fun H s => toE s ⟨t2, h4, h5⟩ fun y H2 B2 L2 s2 ⟨L3, r, q⟩ => ⟨B2, L2, s2, [(k, y)], L3, by rw [e]; rfl, by simp, ?_, q⟩⟩
  exact r
/-- d[key], d a dict with tuple keys -/
theorem k_dgetT (hu : X.A.units + 1 < cLine) (h : kE X a σ B L fun x B1 L1 => kE X b σ B1 L1 fun y B2 L2 => ∃ q kvs k t v, x = .ref q ∧ y = .ref t ∧ At B2 L2 q (.dT kvs) ∧ At B2 L2 t (.tup (k.map kV)) ∧ valV kvs k = some v ∧ Q v B2 L2)
    (hs : NoSl b := by exact fun _ _ => rfl) : kE X (.Subscript a b pos) σ B L Q :=
  ⟨_, pe_dget hu pe_c pe_c hs, fun H s => toE s h fun _ _ _ _ s q => toE s q fun _ _ _ _ s ⟨q, kvs, k, t, v, e1, e2, hat, hbt, hv, hq⟩ => ⟨q, v, e1, by have g := DGet.t (hat.at s) (hbt.at s); rw [hv] at g; rw [e2]; exact g, _, _, s, hq⟩⟩
theorem putK_new {κ : Type} [DecidableEq κ] {kvs : List (κ × V)} {k : κ} {v : V} (h : valV kvs k = none) : putK kvs k v = kvs ++ [(k, v)] := by
  unfold putK
  rw [if_neg (by rw [valV_any, h]; decide)]
theorem wipe3 (σ : L2.St) (i j k : Nat) (x y z : V) : wipe ((((wipe σ [i, j, k]).set i (some x)).set j (some y)).set k (some z)) [i, j, k] = wipe σ [i, j, k] := by
  apply List.ext_getElem?
  intro n
  simp only [wipe, List.getElem?_set, List.length_set]
  repeat' split
  all_goals first | rfl | omega | simp_all
theorem wipe3' (σ : L2.St) (i j k : Nat) (x y z : V) : (((wipe σ [i, j, k]).set i (some x)).set j (some y)).set k (some z) = ((σ.set i (some x)).set j (some y)).set k (some z) := by
  apply List.ext_getElem?
  intro n
  simp only [wipe, List.getElem?_set, List.length_set]
  repeat' split
  all_goals first | rfl | omega | simp_all
/-- [elt for x, y, z in a list], the items told by things of another kind -/
theorem k_lcv_l3 {α : Type} {x y z : Str} {i j k kk : Nat} {px py pz tpos : Pos} (val : α → V) (it : α → List V) (hN : X.N.Nodup) (ok : BlkOk X.N X.env.scope scope [(x, i), (y, j), (z, k)])
    (h : kE X iter σ B L fun v B1 L1 => ∃ (a : Addr) (M : List α) (Pv : Nat → List V → Hp → HL → Prop), v = .ref a ∧ M.length ≤ 16777216 ∧ Pv 0 [] B1 L1 ∧ (∀ n acc B L, Pv n acc B L → Ls X.K B L a (M.map val) ∧ acc.length = n) ∧
      (∀ n acc B L m, M[n]? = some m → Pv n acc B L → ∃ t u v w, val m = .ref t ∧ Tp X.K B L t (it m) ∧ it m = [u, v, w] ∧ ∀ D s H0 C cl fp, kE (Bk X scope s H0 C cl fp) elt (((σ.set i (some u)).set j (some v)).set k (some w)) B ((D, .lst acc) :: L) fun r B3 L3 => ∃ L4, L3 = (D, .lst acc) :: L4 ∧ Pv (n + 1) (acc ++ [r]) B3 L4) ∧
      ∀ acc B L D, Pv M.length acc B L → Q (.ref D) B ((D, .lst acc) :: L))
    (hp : ∀ s H0 C cl fp, Loc (Bk X scope s H0 C cl fp).env.scope x ∧ Loc (Bk X scope s H0 C cl fp).env.scope y ∧ Loc (Bk X scope s H0 C cl fp).env.scope z := by intro _ _ _ _ _; exact ⟨Or.inl rfl, Or.inl rfl, Or.inl rfl⟩)
    (hf : ∀ s H0 C cl fp, (Bk X scope s H0 C cl fp).env.scope.names.lookup x = some .local ∧ (Bk X scope s H0 C cl fp).env.scope.names.lookup y = some .local ∧ (Bk X scope s H0 C cl fp).env.scope.names.lookup z = some .local := by intro _ _ _ _ _; exact ⟨rfl, rfl, rfl⟩)
    (hn : ∀ s H0 C cl fp, (assignEach [.Name x px, .Name y py, .Name z pz] (Bk X scope s H0 C cl fp).env).length = 3 := by intro _ _ _ _ _; rfl) (hfi : ∀ s H0 C cl fp, (assignEach [.Name x px, .Name y py, .Name z pz] (Bk X scope s H0 C cl fp).env).findIdx? (·.1) = none := by intro _ _ _ _ _; rfl)
    (h1 : ∀ s H0 C cl fp, (assignEach [.Name x px, .Name y py, .Name z pz] (Bk X scope s H0 C cl fp).env).map (·.2) = assign (.Name x px) (Bk X scope s H0 C cl fp).env :: (assignEach [.Name y py, .Name z pz] (Bk X scope s H0 C cl fp).env).map (·.2) := by intro _ _ _ _ _; rfl)
    (h2 : ∀ s H0 C cl fp, (assignEach [.Name y py, .Name z pz] (Bk X scope s H0 C cl fp).env).map (·.2) = assign (.Name y py) (Bk X scope s H0 C cl fp).env :: (assignEach [.Name z pz] (Bk X scope s H0 C cl fp).env).map (·.2) := by intro _ _ _ _ _; rfl)
    (h3 : ∀ s H0 C cl fp, (assignEach [.Name z pz] (Bk X scope s H0 C cl fp).env).map (·.2) = assign (.Name z pz) (Bk X scope s H0 C cl fp).env :: (assignEach [] (Bk X scope s H0 C cl fp).env).map (·.2) := by intro _ _ _ _ _; rfl)
    (hi : X.N[i]? = some x := by rfl) (hj : X.N[j]? = some y := by rfl) (hk : X.N[k]? = some z := by rfl) (hc : X.calm = true := by rfl) (hs : ∀ x, foldedSetIterable iter X.env x = pure x := by intro _; rfl) :
    kL X elt (.Tuple [.Name x px, .Name y py, .Name z pz] kk tpos) iter [] scope [(x, i), (y, j), (z, k)] σ B L Q :=
  k_lc hN ok (r_list (by
    obtain ⟨t, k1, k2⟩ := h
    refine ⟨_, pe_c, fun H s => toE s ⟨t, k1, k2⟩ fun v H' B1 L1 s' ⟨a, M, Pv, e, hl, p0, hpv, ht, hd⟩ => ⟨B1, L1, s', a, M.map val, e, (hpv _ _ _ _ p0).1, (M.map val).length, _, _, fun n acc B L => Pv n acc B L, walk_list, p0, ?_, ?_, ?_⟩⟩
    · intro n acc B L H _ p s
      exact (hpv _ _ _ _ p).1.at s
    · rintro D n acc r B L H H' hn' p s ⟨rfl, hx⟩
      obtain ⟨m, hm, rfl⟩ : ∃ m, M[n]? = some m ∧ r = val m := by
        rw [List.getElem?_map] at hx
        cases hq : M[n]? with
        | none => rw [hq] at hx; cases hx
        | some m => rw [hq] at hx; exact ⟨m, rfl, (Option.some.inj hx).symm⟩
      obtain ⟨t, u, v, w, e1, hT, e2, hE⟩ := ht n acc B L m hm p
      have hnl := (List.getElem?_eq_some_iff.mp hm).1
      have hac := (hpv _ _ _ _ p).2
      refine ⟨_, _, s, fun sa Ha Ca cla fpa => ?_⟩
      rw [e1]
      refine g_tup (n := 3) (xs := it m) (show Tp (Bk X scope sa Ha Ca cla fpa).K B ((D, .lst acc) :: L) t (it m) from hT.imp id fun z => List.mem_cons_of_mem _ z) (by rw [e2]; rfl) ?_ hc (hn sa Ha Ca cla fpa) (hfi sa Ha Ca cla fpa)
      rw [e2]
      refine gs_cons (g_name i ?_ hN hi (hp sa Ha Ca cla fpa).1 (.inr (hf sa Ha Ca cla fpa).1)) (h1 sa Ha Ca cla fpa)
      refine gs_cons (g_name j ?_ hN hj (hp sa Ha Ca cla fpa).2.1 (.inr (hf sa Ha Ca cla fpa).2.1)) (h2 sa Ha Ca cla fpa)
      refine gs_cons (g_name k ?_ hN hk (hp sa Ha Ca cla fpa).2.2 (.inr (hf sa Ha Ca cla fpa).2.2)) (h3 sa Ha Ca cla fpa)
      refine gs_nil ⟨wipe3 σ i j k _ _ _, fun sb Hb Cb clb fpb => ?_⟩
      show kE _ _ ((((wipe σ [i, j, k]).set i _).set j _).set k _) _ _ _
      rw [wipe3']
      obtain ⟨t2, m1, m2⟩ := hE D sb Hb Cb clb fpb
      exact ⟨_, pe_c, fun H s => toE s ⟨t2, m1, m2⟩ fun r H2 B2 L2 s2 ⟨L4, e4, q⟩ => ⟨B2, L2, s2, by omega, L4, e4, q⟩⟩
    · intro acc B L D p
      rw [List.length_map] at p
      exact hd acc B L D p)) hc hs
/-- [elt for x, y in a list], the items told by things of another kind -/
theorem k_lcv_l2 {α : Type} {x y : Str} {i j kk : Nat} {px py tpos : Pos} (val : α → V) (it : α → List V) (hN : X.N.Nodup) (ok : BlkOk X.N X.env.scope scope [(x, i), (y, j)])
    (h : kE X iter σ B L fun v B1 L1 => ∃ (a : Addr) (M : List α) (Pv : Nat → List V → Hp → HL → Prop), v = .ref a ∧ M.length ≤ 16777216 ∧ Pv 0 [] B1 L1 ∧ (∀ n acc B L, Pv n acc B L → Ls X.K B L a (M.map val) ∧ acc.length = n) ∧
      (∀ n acc B L m, M[n]? = some m → Pv n acc B L → ∃ t u v, val m = .ref t ∧ Tp X.K B L t (it m) ∧ it m = [u, v] ∧ ∀ D s H0 C cl fp, kE (Bk X scope s H0 C cl fp) elt ((σ.set i (some u)).set j (some v)) B ((D, .lst acc) :: L) fun r B3 L3 => ∃ L4, L3 = (D, .lst acc) :: L4 ∧ Pv (n + 1) (acc ++ [r]) B3 L4) ∧
      ∀ acc B L D, Pv M.length acc B L → Q (.ref D) B ((D, .lst acc) :: L))
    (hp : ∀ s H0 C cl fp, Loc (Bk X scope s H0 C cl fp).env.scope x ∧ Loc (Bk X scope s H0 C cl fp).env.scope y := by intro _ _ _ _ _; exact ⟨Or.inl rfl, Or.inl rfl⟩)
    (hf : ∀ s H0 C cl fp, (Bk X scope s H0 C cl fp).env.scope.names.lookup x = some .local ∧ (Bk X scope s H0 C cl fp).env.scope.names.lookup y = some .local := by intro _ _ _ _ _; exact ⟨rfl, rfl⟩)
    (hn : ∀ s H0 C cl fp, (assignEach [.Name x px, .Name y py] (Bk X scope s H0 C cl fp).env).length = 2 := by intro _ _ _ _ _; rfl) (hfi : ∀ s H0 C cl fp, (assignEach [.Name x px, .Name y py] (Bk X scope s H0 C cl fp).env).findIdx? (·.1) = none := by intro _ _ _ _ _; rfl)
    (h1 : ∀ s H0 C cl fp, (assignEach [.Name x px, .Name y py] (Bk X scope s H0 C cl fp).env).map (·.2) = assign (.Name x px) (Bk X scope s H0 C cl fp).env :: (assignEach [.Name y py] (Bk X scope s H0 C cl fp).env).map (·.2) := by intro _ _ _ _ _; rfl)
    (h2 : ∀ s H0 C cl fp, (assignEach [.Name y py] (Bk X scope s H0 C cl fp).env).map (·.2) = assign (.Name y py) (Bk X scope s H0 C cl fp).env :: (assignEach [] (Bk X scope s H0 C cl fp).env).map (·.2) := by intro _ _ _ _ _; rfl)
    (hi : X.N[i]? = some x := by rfl) (hj : X.N[j]? = some y := by rfl) (hc : X.calm = true := by rfl) (hs : ∀ x, foldedSetIterable iter X.env x = pure x := by intro _; rfl) :
    kL X elt (.Tuple [.Name x px, .Name y py] kk tpos) iter [] scope [(x, i), (y, j)] σ B L Q :=
  k_lc hN ok (r_list (by
    obtain ⟨t, k1, k2⟩ := h
    refine ⟨_, pe_c, fun H s => toE s ⟨t, k1, k2⟩ fun v H' B1 L1 s' ⟨a, M, Pv, e, hl, p0, hpv, ht, hd⟩ => ⟨B1, L1, s', a, M.map val, e, (hpv _ _ _ _ p0).1, (M.map val).length, _, _, fun n acc B L => Pv n acc B L, walk_list, p0, ?_, ?_, ?_⟩⟩
    · intro n acc B L H _ p s
      exact (hpv _ _ _ _ p).1.at s
    · rintro D n acc r B L H H' hn' p s ⟨rfl, hx⟩
      obtain ⟨m, hm, rfl⟩ : ∃ m, M[n]? = some m ∧ r = val m := by
        rw [List.getElem?_map] at hx
        cases hq : M[n]? with
        | none => rw [hq] at hx; cases hx
        | some m => rw [hq] at hx; exact ⟨m, rfl, (Option.some.inj hx).symm⟩
      obtain ⟨t, u, v, e1, hT, e2, hE⟩ := ht n acc B L m hm p
      have hnl := (List.getElem?_eq_some_iff.mp hm).1
      have hac := (hpv _ _ _ _ p).2
      refine ⟨_, _, s, fun sa Ha Ca cla fpa => ?_⟩
      rw [e1]
      refine g_tup (n := 2) (xs := it m) (show Tp (Bk X scope sa Ha Ca cla fpa).K B ((D, .lst acc) :: L) t (it m) from hT.imp id fun z => List.mem_cons_of_mem _ z) (by rw [e2]; rfl) ?_ hc (hn sa Ha Ca cla fpa) (hfi sa Ha Ca cla fpa)
      rw [e2]
      refine gs_cons (g_name i ?_ hN hi (hp sa Ha Ca cla fpa).1 (.inr (hf sa Ha Ca cla fpa).1)) (h1 sa Ha Ca cla fpa)
      refine gs_cons (g_name j ?_ hN hj (hp sa Ha Ca cla fpa).2 (.inr (hf sa Ha Ca cla fpa).2)) (h2 sa Ha Ca cla fpa)
      refine gs_nil ⟨wipe2 σ i j _ _, fun sb Hb Cb clb fpb => ?_⟩
      show kE _ _ (((wipe σ [i, j]).set i _).set j _) _ _ _
      rw [wipe2']
      obtain ⟨t2, m1, m2⟩ := hE D sb Hb Cb clb fpb
      exact ⟨_, pe_c, fun H s => toE s ⟨t2, m1, m2⟩ fun r H2 B2 L2 s2 ⟨L4, e4, q⟩ => ⟨B2, L2, s2, by omega, L4, e4, q⟩⟩
    · intro acc B L D p
      rw [List.length_map] at p
      exact hd acc B L D p)) hc hs
end
section
variable {X : Cx} {σ : L2.St} {B : Hp} {L : HL} {D : KD} {pos p2 pos' : Pos} {e : Expr} {body : List Stmt}
/-- for i, v in enumerate(list made in the head) -/
theorem k_for_en2 (hp : PassesOwn (model X.prog X.w) X.A X.env X.xe) (hm : X.mg "enumerate" = none) {t u : Expr} {kk : Nat} {tpos : Pos}
    (h : kE X e σ B L fun v B1 L1 => ∃ a xs, ∃ Pv : Nat → KN, v = .ref a ∧ Ls X.K B1 L1 a xs ∧ Pv 0 σ B1 L1 ∧ (∀ i σ B L, i ≤ xs.length → Pv i σ B L → Ls X.K B L a xs) ∧
      (∀ (i : Nat) x σ B L, xs[i]? = some x → Pv i σ B L → kGs X [t, u] [.int i, x] σ B L fun σ2 B2 L2 => kSs X body σ2 B2 L2 { D with nx := Pv (i + 1), ct := Pv (i + 1), bk := D.nx }) ∧ ∀ σ B L, Pv xs.length σ B L → D.nx σ B L)
    (hg : Gl X "enumerate" := by rfl) (hst : starEach [e] X.env = (false, eval e X.env) :: starEach [] X.env := by rfl) (hst' : starEach [e] X.env = [(false, eval e X.env)] := by rfl) (hc : X.calm = true := by rfl) (hs : ∀ x, foldedSetIterable (.Call (.Name "enumerate" p2) [e] [] pos) X.env x = pure x := by intro _; rfl)
    (hn : (assignEach [t, u] X.env).length = 2 := by rfl) (hfi : (assignEach [t, u] X.env).findIdx? (·.1) = none := by rfl) : kS X (.For (.Tuple [t, u] kk tpos) (.Call (.Name "enumerate" p2) [e] [] pos) body [] pos') σ B L D :=
  k_for hp (r_enum hm (by
    obtain ⟨te, h1, h2⟩ := h
    refine ⟨_, pe_c, fun H s => toE s ⟨te, h1, h2⟩ fun v H' B' L' s' ⟨a, xs, Pv, e, hl, p0, hL, ht, hd⟩ => ⟨B', L', s', a, xs, e, hl, xs.length, _, _, Pv, walk_enum, p0, fun i σ B L H hi p s => (hL i σ B L hi p).at s, fun i x σ B L H H' hi p s y => ?_, hd⟩⟩
    obtain ⟨T, x1, y1, rfl, hT, rfl, e1, e2⟩ := y
    cases e1
    exact ⟨B, _, s.new hT, g_pair (ht i y1 σ B L e2 p) hc hn hfi⟩) hg hst hst') hc hs
end
end Kv

/-! i ^ j; repr of a number, a truth value, None, a text. -/
namespace Kv
open PySem PySem.Spec PyProof PyProof.Rows L2
/-- what repr shows -/
inductive ShR : V → Str → Prop
  | int {i : Int} : i.natAbs.log2 < 1920 → ShR (.int i) (toString i)
  | bl (b : Bool) : ShR (.bl b) (if b then "True" else "False")
  | non : ShR .non "None"
  | str {x : Str} : (reprText x).length ≤ sizeLine → ShR (.str x) (reprText x)
section
variable {X : Cx} {B : Hp} {L : HL} {Q : KQ}
theorem o_xor {i j : Int} (q : Q (.int (Builtin.bitXor i j)) B L) : kO X (binaryOp .BitXor) (.int i) (.int j) B L Q := ⟨_, op_xor, fun H s => ⟨i, j, rfl, rfl, _, _, s, q⟩⟩
theorem call_reprS : CallR X (.builtin "repr") (fun xs H Q => ∃ v t, xs = [v] ∧ ShR v t ∧ Q (.str t) H) := by
  intro ps s σ H xs us Q I r h
  obtain ⟨v, t, rfl, hs, q⟩ := h
  cases r with
  | cons rx rr =>
    cases rr
    cases hs with
    | int ha =>
      obtain ⟨tk, rfl⟩ := rx
      exact P.repr_of_int ha ⟨.str _, H, I.kept (t' := s.toks + 1) fun _ _ z => z, ⟨_, rfl⟩, q⟩
    | bl b =>
      cases rx
      exact P.repr_of_bool ⟨.str _, H, I.kept (t' := s.toks + 1) fun _ _ z => z, ⟨_, rfl⟩, q⟩
    | non =>
      cases rx
      exact P.repr_of_none ⟨.str _, H, I.kept (t' := s.toks + 1) fun _ _ z => z, ⟨_, rfl⟩, q⟩
    | str hx =>
      obtain ⟨tk, rfl⟩ := rx
      exact P.repr_of_str (hsz := hx) ⟨.str _, H, I.kept (t' := s.toks + 1) fun _ _ z => z, ⟨_, rfl⟩, q⟩
theorem c_repr {v : V} {t : Str} (h : ShR v t) (q : Q (.str t) B L) : kC X (.builtin "repr") [v] B L Q := ⟨_, call_reprS, fun H s => ⟨v, t, rfl, h, _, _, s, q⟩⟩
end
end Kv

/-! The head: facts of the top by names. -/
namespace Kv
open PySem PySem.Spec PyProof.Rows L2
section
variable {K : PySem.W.Frag} {h : Heap} {mg : Str → Option Value}
theorem fun_d {x qual : Str} {st : Stmt} {f : Addr} {fd : FuncData} (F : FunD K x qual (defArgs st) (defBody st) (defScope st) [] [] f fd) : Fun K x qual st f fd := by
  obtain ⟨u, v, dV, kV, doc, pm, an, cv, t, sl, e, q, hc, hD, _⟩ := F.ex
  rcases hD with ⟨_, e2⟩ | ⟨e2, _⟩
  · subst e2
    exact ⟨⟨u, v, kV, doc, pm, an, cv, t, sl, e, q, hc⟩, F.kp⟩
  · exact absurd rfl e2
/-- a def of the top, a method -/
abbrev dTop (x : Str) (st : Stmt) : He.DefD := ⟨(x, none), x, x, defArgs st, defBody st, defScope st, [], []⟩
abbrev dMth (C m q : Str) (st : Stmt) : He.DefD := ⟨(C, some m), m, q, defArgs st, defBody st, defScope st, [], []⟩
theorem d_top {fa : List He.Fa} {fn : List He.DefD} {x : Str} {st : Stmt} (c : He.SaysD fa fn K) (i : Nat) (h : fn[i]? = some (dTop x st)) : ∃ fd, FunD K x x (defArgs st) (defBody st) (defScope st) [] [] (He.ga K x) fd := c.def_ i h
theorem d_mth {fa : List He.Fa} {fn : List He.DefD} {C m q : Str} {st : Stmt} (c : He.SaysD fa fn K) (i : Nat) (h : fn[i]? = some (dMth C m q st)) : ∃ fd, FunD K m q (defArgs st) (defBody st) (defScope st) [] [] (He.ma K (He.ga K C) m) fd := c.def_ i h
def isoB (K : PySem.W.Frag) (x : Str) : Bool :=
  (He.eqO (PySem.W.findIn K (.ref (He.ga K x)) "__class__") (some (some (.builtin "object.__class__"))) && He.eqO (PySem.W.specialIn K (.builtin "object.__class__") "__get__") (some (some (.builtin "getset_descriptor.__get__")))) &&
  ((decide (PySem.W.takesIn K (.builtin "object.__class__") = some true) && decide (PySem.W.mroIn K (He.ga K x) (.type "object") = some true)) && decide (PySem.W.kitOne K (.ref (He.ga K x)) (.ref (He.ga K x)) = some true))
theorem iso_of {x : Str} (c : (He.Fa.cls x).ok K = true) (e : isoB K x = true) : IsO K (He.ga K x) := by
  unfold isoB at e
  obtain ⟨e1, e2⟩ := He.ba e
  obtain ⟨a1, a2⟩ := He.ba e1
  obtain ⟨e3, a5⟩ := He.ba e2
  obtain ⟨a3, a4⟩ := He.ba e3
  exact ⟨He.cls_ok c, He.eqO_ok a1, He.eqO_ok a2, of_decide_eq_true a3, of_decide_eq_true a4, of_decide_eq_true a5⟩
theorem exk_of (X : K.In h) (G : h.Ns mainGlobals mg) {x : Str} (c1 : (He.Fa.glo x).ok K = true) (c2 : (He.Fa.exc x).ok K = true) : ExK K mg x (He.ga K x) := by
  obtain ⟨a1, a2, a3, a4⟩ := He.exc_ok c2
  exact ⟨He.glo_ok X G c1, a1, a2, a3, a4⟩
theorem cx_end {P : Program} {w : World} {H : Hp} {s : Shared} {e : Value} {s' : Shared} (h : L2.CX P w [] H s (fun _ _ _ => False) e s') : False := by
  obtain ⟨_, _, _, _, _, _, _, _, _, _, _, _, z⟩ := h
  exact z
end
/-- the law's def, all that is known of it -/
theorem walk_end {l : PySem.W.OpenLaw} {n k : Nat} {q : Program} {loose : List Str} {XP : (Str → Option Value) → Heap → Prop} {YP : World → Heap → Prop} {d : DefRec} {x : Str} (hn : l.most = some n) (hn2 : n ≤ sizeLine) (hdf : d.params.defaults = []) (hr : Room k callerA)
    (F : ∀ (w : World) (mg : Str → Option Value) (fa : Addr) (h : Heap), YP w h → h.Ns mainGlobals mg → mg d.name = some (.ref fa) → ∃ (K : PySem.W.Frag) (fd : FuncData) (sp : Sp), K.In h ∧ (∀ (s : Shared) (u : Value), BindsTo s fd ⟨[u], []⟩ [(x, u)]) ∧
      (∀ (H : Hp) (a : Addr) (ns : List Int), ns.length ≤ n → Only H → SqL K H a (ns.map V.int) → sp [.ref a] H (fun v _ => v = .bl true) fun _ _ _ => False) ∧ ∀ base : Heap, K.In base → base.Ns mainGlobals mg → FnOk l.prog w K mg base (L2.CX l.prog w) k fa fd [x] sp) :
    PySem.W.WalkO q loose XP YP l.row.toRowW d [] (fun f vs => PySem.call f vs) := by
  refine Att.attach_call hn hdf fun w t0 t1 mg mb fa o u cv dc a vs ns G Y e1 e2 e3 e4 e5 e6 e7 e8 => ?_
  obtain ⟨K, fd, sp, KX, hb, hsp, hF⟩ := F w mg fa _ Y G.T.g e4
  exact law_call KX G.T.g G.T.b G.T.builtins G.T.nolimit e8 e5 e6 (Nat.le_trans e7 hn2) hr hF hb (fun H o1 o2 => hsp H a ns e7 o1 o2) fun H e s' z => cx_end z
end Kv
namespace Kv
open PySem PySem.Spec PyProof.Rows L2
def excB (K : PySem.W.Frag) (x : Str) : Bool :=
  (He.eqO (PySem.W.findIn K (.ref (He.ga K x)) "__getattribute__") (some (some (.builtin "BaseException.__getattribute__"))) && He.eqO (PySem.W.findIn K (.ref (He.ga K x)) "__getattr__") (some none)) &&
  ((decide (PySem.W.subIn K (.ref (He.ga K x)) (.type "BaseException") = some true) && PySem.W.hasDictIn K (He.ga K x)) &&
  ((He.eqO (PySem.W.findIn K (.ref (He.ga K x)) "__class__") (some (some (.builtin "object.__class__"))) && He.eqO (PySem.W.specialIn K (.builtin "object.__class__") "__get__") (some (some (.builtin "getset_descriptor.__get__")))) &&
  (decide (PySem.W.takesIn K (.builtin "object.__class__") = some true) && decide (PySem.W.mroIn K (He.ga K x) (.type "object") = some true))))
theorem excc_of {K : PySem.W.Frag} {x : Str} (e : excB K x = true) : ExcC K (He.ga K x) := by
  unfold excB at e
  obtain ⟨e1, e2⟩ := He.ba e
  obtain ⟨a1, a2⟩ := He.ba e1
  obtain ⟨e3, e4⟩ := He.ba e2
  obtain ⟨a3, a4⟩ := He.ba e3
  obtain ⟨e5, e6⟩ := He.ba e4
  obtain ⟨a5, a6⟩ := He.ba e5
  obtain ⟨a7, a8⟩ := He.ba e6
  exact ⟨He.eqO_ok a1, He.eqO_ok a2, of_decide_eq_true a3, a4, He.eqO_ok a5, He.eqO_ok a6, of_decide_eq_true a7, of_decide_eq_true a8⟩
/-- isinstance between own classes -/
def kitB2 (K : PySem.W.Frag) (x y : Str) (b : Bool) : Bool := decide (PySem.W.kitOne K (.ref (He.ga K x)) (.ref (He.ga K y)) = some b)
theorem kit2_of {K : PySem.W.Frag} {x y : Str} {b : Bool} (e : kitB2 K x y b = true) : PySem.W.kitOne K (.ref (He.ga K x)) (.ref (He.ga K y)) = some b := of_decide_eq_true e
/-- isinstance of an own class's thing, a built-in class -/
def kitBT (K : PySem.W.Frag) (x : Str) (y : String) (b : Bool) : Bool := decide (PySem.W.kitOne K (.ref (He.ga K x)) (.type y) = some b)
theorem kitT_of {K : PySem.W.Frag} {x : Str} {y : String} {b : Bool} (e : kitBT K x y b = true) : PySem.W.kitOne K (.ref (He.ga K x)) (.type y) = some b := of_decide_eq_true e
end Kv

/-! Dicts with int and text keys: get with a default, setdefault, pop; for k, v in d.items() (the dict stays meanwhile); xs.remove(n), xs.extend(ys); an object of the base becomes ours. -/
namespace Kv
open PySem PySem.Spec PyProof.Rows L2
section
variable {X : Cx} {σ : L2.St} {B : Hp} {L : HL} {Q : KQ} {D : KD} {o e f : Expr} {pos apos p2 pos' : Pos} {st : Stmt} {ss body : List Stmt}
/-- d.get(k, v) -/
theorem k_get2 (hu : X.A.units + 64 < cLine) (h : kE X o σ B L fun x B1 L1 => ∃ p kv0, x = .ref p ∧ At B1 L1 p (.dK kv0) ∧ kE X e σ B1 L1 fun y B2 L2 => kE X f σ B2 L2 fun z B3 L3 => ∃ kvs k, At B3 L3 p (.dK kvs) ∧ y = kV k ∧ Q ((valV kvs k).getD z) B3 L3)
    (m : M2 X o "get" apos e f pos := by exact ⟨rfl, rfl, rfl, rfl⟩) : kE X (.Call (.Attribute o "get" apos) [e, f] [] pos) σ B L Q :=
  ⟨_, pe_dget2 (by omega) pe_c pe_c pe_c m, fun H s => toE s h fun _ _ _ _ s ⟨p, kv0, ex, h0, q⟩ => ⟨p, ex, .inl ⟨kv0, .inl (h0.at s)⟩, toE s q fun _ _ _ _ s q => toE s q fun _ _ _ _ s ⟨kvs, k, hp, ey, q⟩ =>
    ⟨_, .inl ⟨kvs, k, .inl (hp.at s), ey, rfl⟩, _, _, s, q⟩⟩⟩
/-- d.setdefault(k, v), d ours -/
theorem k_setdK (h : kE X o σ B L fun x B1 L1 => ∃ p kv0, x = .ref p ∧ At B1 L1 p (.dK kv0) ∧ kE X e σ B1 L1 fun y B2 L2 => kE X f σ B2 L2 fun z B3 L3 => ∃ kvs k, (p, HO.dK kvs) ∈ L3 ∧ y = kV k ∧ kvs.length < 16777216 ∧
      (∀ v, valV kvs k = some v → Q v B3 L3) ∧ (valV kvs k = none → ∃ L4, Rep L3 p (.dK kvs) (.dK (putK kvs k z)) L4 ∧ Q z B3 L4))
    (m : M2 X o "setdefault" apos e f pos := by exact ⟨rfl, rfl, rfl, rfl⟩) : kE X (.Call (.Attribute o "setdefault" apos) [e, f] [] pos) σ B L Q :=
  ⟨_, pe_dsetd pe_c pe_c pe_c m, fun H s => toE s h fun _ _ _ _ s ⟨p, kv0, ex, h0, q⟩ => ⟨p, ex, .inl ⟨kv0, .inl (h0.at s)⟩, toE s q fun _ _ _ _ s q => toE s q fun _ _ _ _ s ⟨kvs, k, hp, ey, hl, q1, q2⟩ =>
    ⟨kvs, k, s.own _ hp, ey, small' hl, fun v hv => ⟨_, _, s, q1 v hv⟩, fun hn => let ⟨L4, r, q⟩ := q2 hn; ⟨_, L4, s.rep r, q⟩⟩⟩⟩
/-- d.pop(k), d ours, k there -/
theorem k_dpop (h : kE X o σ B L fun x B1 L1 => ∃ p kv0, x = .ref p ∧ At B1 L1 p (.dK kv0) ∧ kE X e σ B1 L1 fun y B2 L2 => ∃ kvs k v L3, y = kV k ∧ valV kvs k = some v ∧ Rep L2 p (.dK kvs) (.dK (dropK kvs k)) L3 ∧ Q v B2 L3)
    (m : M1 X o "pop" apos e pos := by exact ⟨rfl, rfl, rfl, rfl⟩) : kE X (.Call (.Attribute o "pop" apos) [e] [] pos) σ B L Q :=
  ⟨_, pe_dpop1 pe_c pe_c m, fun H s => toE s h fun _ _ _ _ s ⟨p, kv0, ex, h0, q⟩ => ⟨p, ex, .inl ⟨kv0, .inl (h0.at s)⟩, toE s q fun _ _ _ _ s ⟨kvs, k, v, L3, ey, hv, r, q⟩ =>
    ⟨kvs, k, v, s.own _ r.mem, ey, hv, _, L3, s.rep r, q⟩⟩⟩
/-- the statement runs while an object of ours is only read -/
theorem k_lock {d : Addr} {u : HO} (hm : (d, u) ∈ L) (mu : Mut (some u)) (h : ∀ od, ∃ L1, Rep L d u (.frz od u) L1 ∧ kS X st σ B L1 { nx := fun σ' B' L' => ∃ L2, Rep L' d (.frz od u) u L2 ∧ D.nx σ' B' L2, rt := fun v B' L' => ∃ L2, Rep L' d (.frz od u) u L2 ∧ D.rt v B' L2, bk := fun σ' B' L' => ∃ L2, Rep L' d (.frz od u) u L2 ∧ D.bk σ' B' L2, ct := fun σ' B' L' => ∃ L2, Rep L' d (.frz od u) u L2 ∧ D.ct σ' B' L2 }) : kS X st σ B L D :=
  ⟨_, ps_lock ps_c, fun H s => ⟨d, u, s.own _ hm, mu, fun od => by
    obtain ⟨L1, r, k⟩ := h od
    exact toS (s.rep r) k (fun σ' H' B' L' s' ⟨L2, r2, q⟩ => ⟨s'.own _ r2.mem, B', L2, s'.rep r2, q⟩) (fun v H' ⟨B', L', s', L2, r2, q⟩ => ⟨s'.own _ r2.mem, B', L2, s'.rep r2, q⟩)
      (fun v H' ⟨B', L', s', L2, r2, q⟩ => ⟨s'.own _ r2.mem, B', L2, s'.rep r2, q⟩) (fun v H' ⟨B', L', s', L2, r2, q⟩ => ⟨s'.own _ r2.mem, B', L2, s'.rep r2, q⟩)⟩⟩
theorem r_items {elts : List Expr} {kk : Nat} {tpos : Pos} {R : It → Hp → HL → Prop} (h : kE X e σ B L fun v B1 L1 => ∃ d od kvs, v = .ref d ∧ (d, HO.frz od (.dK kvs)) ∈ L1 ∧ R (Iti d od kvs) B1 L1)
    (hbase : attributeBase e "items" X.env (eval e X.env) = eval e X.env := by rfl) (hline : (apos.endLine == pos.line) = true := by rfl) : kR X (.Tuple elts kk tpos) (.Call (.Attribute e "items" apos) [] [] pos) σ B L R :=
  ⟨_, pi_items pe_c hbase hline, fun H s => toE s h fun _ _ _ _ s ⟨d, od, kvs, ev, hm, q⟩ => ⟨d, od, kvs, ev, s.own _ hm, _, _, s, q⟩⟩
/-- for k, v in d.items(), d locked -/
theorem k_for_items (hp : PassesOwn (model X.prog X.w) X.A X.env X.xe) {t u : Expr} {kk : Nat} {tpos : Pos}
    (h : kE X e σ B L fun v B1 L1 => ∃ d od kvs, ∃ Pv : Nat → KN, v = .ref d ∧ (d, HO.frz od (.dK kvs)) ∈ L1 ∧ Pv 0 σ B1 L1 ∧ (∀ i σ B L, i ≤ kvs.length → Pv i σ B L → (d, HO.frz od (.dK kvs)) ∈ L) ∧
      (∀ (i : Nat) k y σ B L, kvs[i]? = some (k, y) → Pv i σ B L → kGs X [t, u] [kV k, y] σ B L fun σ2 B2 L2 => kSs X body σ2 B2 L2 { D with nx := Pv (i + 1), ct := Pv (i + 1), bk := D.nx }) ∧ ∀ σ B L, Pv kvs.length σ B L → D.nx σ B L)
    (hbase : attributeBase e "items" X.env (eval e X.env) = eval e X.env := by rfl) (hline : (apos.endLine == pos.line) = true := by rfl) (hc : X.calm = true := by rfl) (hs : ∀ x, foldedSetIterable (.Call (.Attribute e "items" apos) [] [] pos) X.env x = pure x := by intro _; rfl)
    (hn : (assignEach [t, u] X.env).length = 2 := by rfl) (hfi : (assignEach [t, u] X.env).findIdx? (·.1) = none := by rfl) : kS X (.For (.Tuple [t, u] kk tpos) (.Call (.Attribute e "items" apos) [] [] pos) body [] pos') σ B L D :=
  k_for hp (r_items (by
    obtain ⟨te, h1, h2⟩ := h
    refine ⟨_, pe_c, fun H s => toE s ⟨te, h1, h2⟩ fun v H' B' L' s' ⟨d, od, kvs, Pv, ev, hm, p0, hL, ht, hd⟩ => ⟨B', L', s', d, od, kvs, ev, hm, kvs.length, _, _, Pv, walk_items, p0, fun i σ B L H hi p s => s.own _ (hL i σ B L hi p), fun i x σ B L H H' hi p s y => ?_, hd⟩⟩
    obtain ⟨T, x1, y1, rfl, hT, rfl, e1, e2⟩ := y
    dsimp only at e1 e2
    cases hq : kvs[i]? with
    | none => rw [hq] at e1; cases e1
    | some kv =>
      rw [hq] at e1 e2
      cases e1
      cases e2
      exact ⟨B, _, s.new hT, g_pair (ht i kv.1 kv.2 σ B L hq p) hc hn hfi⟩) hbase hline) hc hs
/-- xs.extend(ys), xs ours -/
theorem m_extend {p q : Addr} {xs ys : List V} {L' : HL} (r : Rep L p (.lst xs) (.lst (xs ++ ys)) L') (h : At B L q (.lst ys)) (hq : Q .non B L') (hl : xs.length + ys.length ≤ 16777216) : kMt X "list.extend" (.ref p) [.ref q] B L Q :=
  ⟨_, mt_extend, fun H s => ⟨p, q, xs, ys, rfl, rfl, s.own _ r.mem, h.at s, small hl, _, _, s.rep r, hq⟩⟩
/-- xs.remove(n), xs ours, n there -/
theorem k_remove {W : WX} (hc : X.calm = true) (tk : Takes X W) (h : kE X o σ B L fun x B1 L1 => ∃ l, x = .ref l ∧ (∀ H, Sat B1 L1 H → tyV X.K "list" (.ref l) H) ∧ kE X e σ B1 L1 fun y B2 L2 => ∃ (ms : List Int) (k : Int) (L3 : HL), y = .int k ∧ k ∈ ms ∧ Rep L2 l (.lst (ms.map V.int)) (.lst ((ms.erase k).map V.int)) L3 ∧ Q .non B2 L3)
    (hbase : attributeBase o "remove" X.env (eval o X.env) = eval o X.env := by rfl)
    (hfew : ((backTo pos (starEach [e] X.env)).all (fun x => !x.1) && (backToKw pos (keywordEach [] X.env)).all (fun x => x.1.isSome)
      && decide (([e] : List Expr).length + ([] : List Keyword).length + (if ([] : List Keyword).isEmpty then 0 else 1) < 30)) = true := by rfl)
    (hline : (apos.endLine == pos.line) = true := by rfl) (hs : starEach [e] X.env = (false, eval e X.env) :: starEach [] X.env := by rfl) (hplain : (backTo pos (starEach [] X.env)).any (·.1) = false := by rfl) :
    kE X (.Call (.Attribute o "remove" apos) [e] [] pos) σ B L Q :=
  ⟨_, pe_remX hc tk pe_c pe_c hbase hfew hline hs hplain, fun H s => toE s h fun _ _ _ _ s ⟨l, ex, ty, q⟩ => ⟨ex ▸ ty _ s, toE s q fun _ _ _ _ s ⟨ms, k, L3, ey, hk, r, q⟩ => ⟨l, ms, k, ex, ey, s.own _ r.mem, fun _ => ⟨_, L3, s.rep r, q⟩, fun hn => absurd hk hn⟩⟩⟩
end
/-- an object of the base becomes ours -/
theorem Sat.pull {B : Hp} {L : HL} {H : Hp} {p : Addr} {o : HO} (s : Sat B L H) (h : B p = some o) : Sat (fun b => if b = p then none else B b) ((p, o) :: L) H := by
  refine ⟨fun a u e => ?_, fun q hq => ?_, fun q hq => ?_, ?_⟩
  · have e : (if a = p then none else B a) = some u := e
    split at e
    · cases e
    · exact s.ext _ _ e
  · rcases List.mem_cons.mp hq with rfl | hq
    · exact s.ext _ _ h
    · exact s.own q hq
  · show (if q.1 = p then none else B q.1) = none
    split
    · rfl
    · rename_i hn
      rcases List.mem_cons.mp hq with rfl | hq
      · exact absurd rfl hn
      · exact s.nb q hq
  · rw [List.map_cons, List.nodup_cons]
    refine ⟨fun hm => ?_, s.nd⟩
    obtain ⟨q, hq, e⟩ := List.mem_map.mp hm
    have := s.nb q hq
    rw [e, h] at this
    cases this
section
variable {X : Cx} {σ : L2.St} {B : Hp} {L : HL} {Q : KQ} {D : KD} {e : Expr} {ss : List Stmt}
theorem k_pull {p : Addr} {o : HO} (h : B p = some o) (k : kSs X ss σ (fun b => if b = p then none else B b) ((p, o) :: L) D) : kSs X ss σ B L D :=
  ⟨_, pss_c, fun H s => toSs0 (s.pull h) k⟩
theorem e_pull {p : Addr} {o : HO} (h : B p = some o) (k : kE X e σ (fun b => if b = p then none else B b) ((p, o) :: L) Q) : kE X e σ B L Q :=
  ⟨_, pe_c, fun H s => ⟨_, _, Q, s.pull h, k, fun _ _ q => q⟩⟩
end
/-- {} -/
theorem k_dnew {X : Cx} {σ : L2.St} {B : Hp} {L : HL} {Q : KQ} {pos : Pos} (q : ∀ p, Q (.ref p) B ((p, .dK []) :: L)) : kE X (.Dict [] [] pos) σ B L Q :=
  ⟨_, pe_dnewK, fun H s p hp => ⟨_, _, s.new hp, q p⟩⟩
theorem ixN_n {n j : Nat} (h : j < n) : ixN n (j : Int) = some j := by
  have := atI_n (l := List.range n) (j := j)
  unfold atI at this
  rw [List.length_range, List.getElem?_range h] at this
  cases e : ixN n (j : Int) with
  | none => rw [e] at this; cases this
  | some k =>
    rw [e] at this
    have h2 : (List.range n)[k]? = some j := this
    obtain ⟨h3, h4⟩ := List.getElem?_eq_some_iff.mp h2
    rw [List.getElem_range] at h4
    rw [h4]
theorem Rep.back {L L' : HL} {p : Addr} {o o' : HO} (r : Rep L p o o' L') : Rep L' p o' o L := by
  induction r with
  | here => exact .here
  | there _ ih => exact .there ih
/-- list(range(n)) -/
theorem k_lrange {X : Cx} {σ : L2.St} {B : Hp} {L : HL} {Q : KQ} {a : Expr} {p p2 pos pos2 : Pos} (hm : X.mg "list" = none) (hr : X.mg "range" = none)
    (h : kE X a σ B L fun x B1 L1 => ∃ n : Nat, x = .int n ∧ n ≤ 16777216 ∧ ∀ q, Q (.ref q) B1 ((q, .lst ((List.range n).map fun i : Nat => V.int i)) :: L1))
    (hc : X.calm = true := by rfl) (hg : Gl X "list" := by rfl) (hg2 : Gl X "range" := by rfl) (na : starEach [a] X.env = (false, eval a X.env) :: starEach [] X.env := by rfl)
    (na2 : starEach [.Call (.Name "range" p2) [a] [] pos2] X.env = (false, eval (.Call (.Name "range" p2) [a] [] pos2) X.env) :: starEach [] X.env := by rfl) :
    kE X (.Call (.Name "list" p) [.Call (.Name "range" p2) [a] [] pos2] [] pos) σ B L Q :=
  ⟨_, pe_listRg hc hg hm (prg_1 hg2 hr pe_c na) na2, fun H s => toE s h fun _ _ _ _ s ⟨n, e, hn, q⟩ => ⟨n, e, RgOk.of_le (by omega) (by omega) (by omega) (by omega), fun z hz => ⟨_, _, s.new hz, by
    have e2 : rgV 0 (n : Int) = (List.range n).map fun i : Nat => V.int i := by
      unfold rgV
      rw [show ((n : Int) - 0).toNat = n by omega]
      exact List.map_congr_left fun i _ => by rw [Int.zero_add]
    rw [e2]; exact q z⟩⟩⟩
section
variable {X : Cx} {σ : L2.St} {B : Hp} {L : HL} {Q : KQ} {pos p2 pos' : Pos} {elt iter c : Expr} {scope : Scope}
/-- [elt for x in a text if c], the element's work changes the heap -/
theorem k_lcvf_s {x : Str} {j : Nat} {px : Pos} (Pv : Nat → List V → Hp → HL → Prop) (hN : X.N.Nodup) (ok : BlkOk X.N X.env.scope scope [(x, j)])
    (h : kE X iter σ B L fun v B1 L1 => ∃ l, v = .str (sOf l) ∧ Pv 0 [] B1 L1 ∧
      (∀ i acc B L k, l[i]? = some k → Pv i acc B L → acc.length < 16777216 ∧ ∀ D s H0 C cl fp, kT (Bk X scope s H0 C cl fp) c (σ.set j (some (.str (sOf [k])))) B ((D, .lst acc) :: L) fun b B3 L3 => (b = true → ∀ s H0 C cl fp, kE (Bk X scope s H0 C cl fp) elt (σ.set j (some (.str (sOf [k])))) B3 L3 fun y B4 L4 => ∃ L5, L4 = (D, .lst acc) :: L5 ∧ Pv (i + 1) (acc ++ [y]) B4 L5) ∧ (b = false → ∃ L5, L3 = (D, .lst acc) :: L5 ∧ Pv (i + 1) acc B3 L5)) ∧
      ∀ acc B L D, Pv l.length acc B L → Q (.ref D) B ((D, .lst acc) :: L))
    (hp : ∀ s H0 C cl fp, Loc (Bk X scope s H0 C cl fp).env.scope x := by intro _ _ _ _ _; first | exact Or.inl rfl | exact Or.inr rfl) (hf : ∀ s H0 C cl fp, (Bk X scope s H0 C cl fp).fn x = true ∨ (Bk X scope s H0 C cl fp).env.scope.names.lookup x = some .local := by intro _ _ _ _ _; first | exact .inr rfl | exact .inl rfl)
    (hj : X.N[j]? = some x := by rfl) (hc : X.calm = true := by rfl) (hs : ∀ x, foldedSetIterable iter X.env x = pure x := by intro _; rfl) : kL X elt (.Name x px) iter [c] scope [(x, j)] σ B L Q :=
  k_lcf hN ok (r_str (by
    obtain ⟨t, h1, h2⟩ := h
    refine ⟨_, pe_c, fun H s => toE s ⟨t, h1, h2⟩ fun v H' B1 L1 s' ⟨l, e, p0, ht, hd⟩ => ⟨B1, L1, s', l, e, (sOf l).cps.size, _, _, Pv, walk_str, p0, fun i acc B L H hi p s => trivial, ?_, ?_⟩⟩
    · rintro D i acc x B L H H' hi p s ⟨rfl, k, hx, rfl⟩
      have hx' : l[i]? = some k := by simpa [sOf] using hx
      refine ⟨_, _, s, fun sa Ha Ca cla fpa => g_name j ?_ hN hj (hp sa Ha Ca cla fpa) (hf sa Ha Ca cla fpa)⟩
      refine ⟨wipe1 σ j _, fun sb Hb Cb clb fpb => ?_⟩
      show kT _ _ ((wipe σ [j]).set j _) _ _ _
      rw [wipe1']
      obtain ⟨hal, hkt⟩ := ht i acc B L k hx' p
      obtain ⟨t2, k1, k2⟩ := hkt D sb Hb Cb clb fpb
      refine ⟨_, pt_c, fun H s => toT s ⟨t2, k1, k2⟩ fun b H2 B2 L2 s2 ⟨q1, q2⟩ => ⟨B2, L2, s2, fun hk => fun sc Hc Cc clc fpc => ?_, fun hk => q2 hk⟩⟩
      show kE _ _ ((wipe σ [j]).set j _) _ _ _
      rw [wipe1']
      obtain ⟨t3, k3, k4⟩ := q1 hk sc Hc Cc clc fpc
      exact ⟨_, pe_c, fun H s => toE s ⟨t3, k3, k4⟩ fun y H3 B3 L3 s3 ⟨L5, e5, p5⟩ => ⟨B3, L3, s3, hal, L5, e5, p5⟩⟩
    · intro acc B L D p
      rw [sOf_size] at p
      exact hd acc B L D p)) hc hs
end
/-- the order of the named objects does not matter -/
theorem Sat.perm {B : Hp} {L L' : HL} {H : Hp} (s : Sat B L H) (p : L.Perm L') : Sat B L' H :=
  ⟨s.ext, fun q hq => s.own q (p.mem_iff.mpr hq), fun q hq => s.nb q (p.mem_iff.mpr hq), (p.map (·.1)).nodup_iff.mp s.nd⟩
theorem k_perm {X : Cx} {σ : L2.St} {B : Hp} {L L' : HL} {D : KD} {ss : List Stmt} (p : L.Perm L') (k : kSs X ss σ B L' D) : kSs X ss σ B L D :=
  ⟨_, pss_c, fun H s => toSs0 (s.perm p) k⟩
theorem e_perm {X : Cx} {σ : L2.St} {B : Hp} {L L' : HL} {Q : KQ} {e : Expr} (p : L.Perm L') (k : kE X e σ B L' Q) : kE X e σ B L Q :=
  ⟨_, pe_c, fun H s => ⟨_, _, Q, s.perm p, k, fun _ _ q => q⟩⟩
end Kv

/-! told(lambda: body): a lambda handed to a def that calls it and tells its error. -/
namespace Kv
open PySem PySem.Spec PyProof.Rows L2 LamX
theorem takes_len {X : Cx} {W : WX} (tk : Takes X W) : Takes X (fun cls d σ H => σ.length = X.N.length → W cls d σ H) := fun u s' ⟨a, B, sI, pins, σ, H, cls, d, e, I, nb, up, sky, na, os, ag, w⟩ =>
  tk u s' ⟨a, B, sI, pins, σ, H, cls, d, e, I, nb, up, sky, na, os, ag, w I.len⟩
/-! ### one named object, taken out -/
inductive Pul : HL → (Addr × HO) → HL → Prop
  | here {x : Addr × HO} {L : HL} : Pul (x :: L) x L
  | there {x y : Addr × HO} {L L' : HL} : Pul L x L' → Pul (y :: L) x (y :: L')
theorem Pul.perm {L L' : HL} {x : Addr × HO} (h : Pul L x L') : L.Perm (x :: L') := by
  induction h with
  | here => exact .refl _
  | there _ ih => exact (ih.cons _).trans (List.Perm.swap _ _ _)
/-! ### tables -/
def noTb (H : Hp) : Hp := fun b => match H b with
  | some (.tbl _) => none
  | o => o
def NoT (B : Hp) : Prop := ∀ b ps, B b ≠ some (.tbl ps)
theorem noTb_of {H : Hp} {b : Addr} {o : HO} (h : H b = some o) (n : ∀ ps, o ≠ .tbl ps) : noTb H b = some o := by
  unfold noTb
  rw [h]
  cases o with
  | tbl ps => exact absurd rfl (n ps)
  | _ => rfl
theorem noTb_some {H : Hp} {b : Addr} {o : HO} (h : noTb H b = some o) : H b = some o ∧ ∀ ps, o ≠ .tbl ps := by
  unfold noTb at h
  cases e : H b with
  | none => rw [e] at h; cases h
  | some u =>
    rw [e] at h
    cases u with
    | tbl ps => cases h
    | _ => cases h; exact ⟨rfl, fun ps z => (nomatch z)⟩
theorem noT_noTb (H : Hp) : NoT (noTb H) := fun b ps h => (noTb_some h).2 ps rfl
/-- what a table tells -/
def TabI (B : Hp) (q : Str) (ps : Array Value) : Prop := TriplesOk ps.toList ∧ ∀ (pos : Pos) (cv : Value), codeAmong pos ps.toList = some cv → ∃ c, cv = .ref c ∧ B c = some (CodeO c q)
theorem TabI.nil (B : Hp) (q : Str) : TabI B q #[] := ⟨True.intro, fun pos cv hc => by
  have z : codeAmong pos [] = some cv := hc
  simp [codeAmong] at z⟩
theorem TabI.le {B B' : Hp} {q : Str} {ps : Array Value} (h : TabI B q ps) (l : Le B B') : TabI B' q ps := ⟨h.1, fun pos cv hc => by
  obtain ⟨c, e1, e2⟩ := h.2 pos cv hc
  exact ⟨c, e1, l _ _ e2⟩⟩
/-- an object that a table's growth leaves -/
def Pln (o : HO) : Prop := (∀ ps, o ≠ .tbl ps) ∧ ∀ c q, o ≠ CodeO c q
theorem pln_lst (xs : List V) : Pln (.lst xs) := ⟨fun _ z => (nomatch z), fun c q z => by unfold CodeO at z; cases z⟩
theorem pln_tup (xs : List V) : Pln (.tup xs) := ⟨fun _ z => (nomatch z), fun c q z => by unfold CodeO at z; cases z⟩
/-- behind the making of a lambda -/
theorem sat_tab {B : Hp} {L L0 : HL} {H H1 : Hp} {P : Addr} {q : Str} {ps : Array Value} (s : Sat B L H) (pl : Pul L (P, .tbl ps) L0) (nB : NoT B) (nL : ∀ p ∈ L0, Pln p.2) (eN : ExtN H H1) (T1 : Tabs [(P, q)] H1) : ∃ B' ps', Le B B' ∧ NoT B' ∧ TabI B' q ps' ∧ Sat B' ((P, .tbl ps') :: L0) H1 := by
  have s1 := s.perm pl.perm
  obtain ⟨ps1, hP, ht, ha⟩ := T1 (P, q) List.mem_cons_self
  have hown : ∀ p ∈ ((P, HO.tbl ps1) :: L0 : HL), H1 p.1 = some p.2 := fun p hp => by
    rcases List.mem_cons.mp hp with rfl | hp
    · exact hP
    · exact eN _ _ (s1.own p (.tail _ hp)) (nL p hp).1
  have hnames : ∀ b : Addr, (∃ p ∈ ((P, HO.tbl ps) :: L0 : HL), p.1 = b) ↔ ∃ p ∈ ((P, HO.tbl ps1) :: L0 : HL), p.1 = b := fun b => by
    simp only [List.mem_cons]
    constructor
    · rintro ⟨p, rfl | hp, e⟩
      · exact ⟨_, .inl rfl, e⟩
      · exact ⟨p, .inr hp, e⟩
    · rintro ⟨p, rfl | hp, e⟩
      · exact ⟨_, .inl rfl, e⟩
      · exact ⟨p, .inr hp, e⟩
  classical
  obtain ⟨F, hF⟩ : ∃ F : Hp, ∀ b, F b = if ∃ p ∈ ((P, HO.tbl ps1) :: L0 : HL), p.1 = b then none else noTb H1 b := ⟨_, fun _ => rfl⟩
  refine ⟨F, ps1, fun b o e => ?_, fun b qs e => ?_, ⟨ht, fun pos cv hc => ?_⟩, ⟨fun b o e => ?_, hown, fun p hp => by rw [hF, if_pos ⟨p, hp, rfl⟩], ?_⟩⟩
  · have hn : ¬ ∃ p ∈ ((P, HO.tbl ps1) :: L0 : HL), p.1 = b := fun z => by
      obtain ⟨p, hp, rfl⟩ := (hnames b).mpr z
      rw [s1.nb p hp] at e
      cases e
    rw [hF, if_neg hn]
    have no : ∀ qs, o ≠ .tbl qs := fun qs z => nB b qs (by rw [e, z])
    exact noTb_of (eN _ _ (s1.ext _ _ e) no) no
  · by_cases z : ∃ p ∈ ((P, HO.tbl ps1) :: L0 : HL), p.1 = b
    · rw [hF, if_pos z] at e; cases e
    · rw [hF, if_neg z] at e
      exact noT_noTb H1 b qs e
  · obtain ⟨c, e1, e2⟩ := ha pos cv hc
    refine ⟨c, e1, ?_⟩
    have hn : ¬ ∃ p ∈ ((P, HO.tbl ps1) :: L0 : HL), p.1 = c := fun z => by
      obtain ⟨p, hp, rfl⟩ := z
      have h1 := hown p hp
      rw [e2] at h1
      have h2 := Option.some.inj h1
      rcases List.mem_cons.mp hp with rfl | hp
      · exact codeO_ne _ h2
      · exact (nL p hp).2 _ _ h2.symm
    rw [hF, if_neg hn]
    exact noTb_of e2 fun qs => codeO_ne qs
  · by_cases z : ∃ p ∈ ((P, HO.tbl ps1) :: L0 : HL), p.1 = b
    · rw [hF, if_pos z] at e; cases e
    · rw [hF, if_neg z] at e
      exact (noTb_some e).1
  · have := s1.nd
    simpa using this
/-! ### the def that tells -/
/-- the wish at an error: a text told -/
def EL (ER : Addr → List Nat → Prop) (Q : VK) : XK := fun cls d H' => d = none ∧ ∃ D l, cls = .ref D ∧ ER D l ∧ ∀ H'', (∀ b o, H' b = some o → H'' b = some o) → Q (.str (sOf l)) H''
def TTl (ER : Addr → List Nat → Prop) : (XK → Hp → VK → Prop) → Hp → VK → Prop := fun tl H Q => (∀ v (H' H'' : Hp), (∀ b o, H' b = some o → H'' b = some o) → Q v H' → Q v H'') ∧ ∀ H1 : Hp, (∀ b o, H b = some o → H1 b = some o) → ∀ Q2 : VK, (∀ v H', Q v H' → Q2 v H') → tl (EL ER Q) H1 Q2
structure Told (P : Program) (w : World) (K : PySem.W.Frag) (mg : Str → Option Value) (base : Heap) (k : Nat) (x : Str) (ER : Addr → List Nat → Prop) : Prop where
  ex : ∃ (g : Addr) (a : Str) (pg : Arguments) (bg : List Stmt) (sg : Scope) (dV kV doc pm cdv ct oc : Value) (an od : Option Addr) (osl : Array (Option Value)) (Ng : List Str),
    mg x = some (.ref g) ∧ PySem.W.keepIn K (.ref g) = true ∧ K.lookup g = some ⟨oc, od, .func (PySem.W.fnOf x x pg bg sg dV kV doc pm an cdv ct), osl⟩ ∧ PySem.W.codeIn K cdv x = true ∧ L2.Binds K (PySem.W.fnOf x x pg bg sg dV kV doc pm an cdv ct) [a] [] ∧ FnScope Ng [a] sg ∧ Ng[0]? = some a ∧ Vis sg a ∧ (a == ("__debug__" : Str)) = false ∧ (a == ("__classdict__" : Str)) = false ∧
    ∀ X : Cx, X.prog = P → X.w = w → X.K = K → X.mg = mg → X.base = base → Room (k + 2) X.A → ∀ q, GivesTo X Ng x sg g cdv bg a q (TTl ER)
theorem PE.imp {X : Cx} {e : Expr} {t t' : TE} (h : PE X e t) (m : ∀ σ H Q, t' σ H Q → t σ H Q) : PE X e t' := ⟨fun pins s σ H Q I z => h.run pins s σ H Q I (m σ H Q z)⟩
section
variable {X : Cx} {σ : L2.St} {B : Hp} {L L0 : HL} {Q : KQ} {ER : Addr → List Nat → Prop} {k : Nat} {x : Str} {c P : Addr} {params : Arguments} {body : Expr} {scope : Scope} {p lpos pos : Pos} {ps : Array Value}
/-- told(lambda: body) -/
theorem k_told (Tk : Told X.prog X.w X.K X.mg X.base k x ER) (hr : Room (k + 2) X.A) (TB : TabB X.base X.mg c P) (hcode : X.env.code = .ref c) (pl : Pul L (P, .tbl ps) L0) (tab : TabI B (X.env.qual ++ "<lambda>") ps) (nB : NoT B) (nL : ∀ p ∈ L0, Pln p.2)
    (h : ∀ B' ps', Le B B' → NoT B' → TabI B' (X.env.qual ++ "<lambda>") ps' → ∀ (A : Around) (outer : List Env) (s : Shared) (H0 : Hp) (f c' : Addr), Room k (A.deeper (lamEnv X scope s.heap.objs.size f c')) → Takes (lamCx X A outer s H0 (EL ER (up Q)) scope f c') (fun cls d _ H => EL ER (up Q) cls d H) →
      kE (lamCx X A outer s H0 (EL ER (up Q)) scope f c') body σ B' ((P, .tbl ps') :: L0) Q)
    (hL : LamS X.env.scope scope := by exact LamX.lamS_by (by kernel_rfl)) (hg : Gl X x := by rfl) (hdef : defaultsOf params X.env = ([], []) := by rfl)
    (hbind : ∀ (q : Str) (cl : List (Str × Addr)) (pm cv ctv : Value), bindArgs (PySem.W.kla_fn "<lambda>" q params body scope cl pm cv ctv) ⟨[], []⟩ = pure [] := by intros; rfl) (hdb : (x == ("__debug__" : Str)) = false := by decide) :
    kE X (.Call (.Name x p) [.Lambda params body scope lpos] [] pos) σ B L Q := by
  obtain ⟨g, a, pg, bg, sg, dV, kV, doc, pm, cdv, ct, oc, an, od, osl, Ng, hm, hk, lk, hcg, hb, Sg, hNg, hva, hd, hcd, hG⟩ := Tk.ex
  refine ⟨_, pe_lamcall (T := [(P, X.env.qual ++ "<lambda>")]) (TT := TTl ER) (k := k) (t := fun E σ H Q => ∀ (A : Around) (outer : List Env) (s : Shared) (H0 : Hp) (f c' : Addr), Room k (A.deeper (lamEnv X scope s.heap.objs.size f c')) → cE (lamCx X A outer s H0 E scope f c') body σ H Q) hg hm hk lk hcg hb Sg hNg hva (hG X rfl rfl rfl rfl rfl hr _) TB hcode (List.mem_singleton.mpr rfl) (fun z hz _ => by rw [List.mem_singleton.mp hz]) hr hL hdef hbind (fun A outer s H E f c' hr2 => PE.imp pe_c fun σ H' Q z => z A outer s H f c' hr2) hdb hd hcd, fun H sat => ?_⟩
  refine ⟨fun z hz => ?_, fun H1 eN T1 => ?_⟩
  · rw [List.mem_singleton.mp hz]
    refine ⟨ps, (sat.perm pl.perm).own _ List.mem_cons_self, tab.1, fun pos cv hc => ?_⟩
    obtain ⟨c0, e1, e2⟩ := tab.2 pos cv hc
    exact ⟨c0, e1, sat.ext _ _ e2⟩
  · obtain ⟨B', ps', l, n, t, s'⟩ := sat_tab sat pl nB nL eN T1
    refine ⟨fun v H' H'' e ⟨B2, L2, s2, q2⟩ => ⟨B2, L2, s2.keep e, q2⟩, fun H2 e2 Q2 m => ?_⟩
    intro A outer s H0 f c' hr2
    exact ⟨B', _, Q, s'.keep e2, h B' ps' l n t A outer s H0 f c' hr2 (takes_of rfl rfl rfl rfl), fun v H' z => m v H' z⟩
/-- the base without its tables; the objects in another order; a weaker wish -/
theorem k_noT {ss : List Stmt} {D : KD} (k : kSs X ss σ (noTb B) L D) : kSs X ss σ B L D :=
  ⟨_, pss_c, fun H s => ⟨noTb B, L, D, ⟨fun b o e => s.ext _ _ (noTb_some e).1, s.own, fun q hq => by unfold noTb; rw [s.nb q hq], s.nd⟩, k, fun _ _ q => q, fun _ _ q => q, fun _ _ q => q, fun _ _ q => q⟩⟩
theorem k_mono {e : Expr} {Q1 : KQ} (h : kE X e σ B L Q1) (m : ∀ v B' L', Q1 v B' L' → Q v B' L') : kE X e σ B L Q :=
  ⟨_, pe_c, fun H s => toE s h fun v _ B' L' s' q => ⟨B', L', s', m v B' L' q⟩⟩
theorem noTb_le {B B' : Hp} (n : NoT B) (l : Le B B') : Le B (noTb B') := fun b o e => noTb_of (l _ _ e) fun qs z => n b qs (by rw [e, z])
theorem sqlT {K : PySem.W.Frag} {H : Hp} {a : Addr} {xs : List V} (h : SqL K H a xs) : SqL K (noTb H) a xs := by
  rcases h with (h | ⟨o, h⟩) | h
  · exact .inl (.inl (noTb_of h fun _ z => (nomatch z)))
  · exact .inl (.inr ⟨o, noTb_of h fun _ z => (nomatch z)⟩)
  · exact .inr h
theorem sqtT {K : PySem.W.Frag} {H : Hp} {a : Addr} {xs : List V} (h : SqT K H a xs) : SqT K (noTb H) a xs := by
  rcases h with (h | ⟨o, h⟩) | h
  · exact .inl (.inl (noTb_of h fun _ z => (nomatch z)))
  · exact .inl (.inr ⟨o, noTb_of h fun _ z => (nomatch z)⟩)
  · exact .inr h
end
end Kv

/-! a def known by its code object; the end with tables. -/
namespace Kv
open PySem PySem.Spec PyProof.Rows L2 LamX
section
variable {P : Program} {w : World} {K : PySem.W.Frag} {mg : Str → Option Value} {base : Heap} {x qual : Str} {st : Stmt} {f : Addr} {fd : FuncData} {N ps : List Str} {k : Nat} {sp : Sp} {q : He.Defn}
theorem fn_okC (F : Fun K x qual st f fd) (hf : f = He.fAd K q) (S : FnScope N ps (defScope st)) (len : ∀ vs H Q E, sp vs H Q E → vs.length = ps.length)
    (hbody : ∀ (A : Around) (outer : List Env) (s : Shared) (H : Hp) (vs : List V) (Q : VK) (E : XK), Room k (A.deeper (envOfC qual (defScope st) s.heap.objs.size f (.ref (He.codeOf K q)))) → sp vs H Q E →
      Takes (cxOf (L2.CX P w) P w K mg base N qual (defScope st) f (.ref (He.codeOf K q)) A outer s H E) (fun cls d _ H => E cls d H) →
      PassesOwn (model P w) (A.deeper (envOfC qual (defScope st) s.heap.objs.size f (.ref (He.codeOf K q)))) (envOfC qual (defScope st) s.heap.objs.size f (.ref (He.codeOf K q))) (cxOf (L2.CX P w) P w K mg base N qual (defScope st) f (.ref (He.codeOf K q)) A outer s H E).xe →
      ∃ B L, Sat B L H ∧ kSs (cxOf (L2.CX P w) P w K mg base N qual (defScope st) f (.ref (He.codeOf K q)) A outer s H E) (defBody st) (start N vs) B L (fD Q)) : FnOk P w K mg base (L2.CX P w) (k + 1) f fd ps sp := by
  obtain ⟨oc, od, kV, doc, pm, an, cdv, ct, osl, rfl, lk, hcd⟩ := F.ex
  obtain ⟨c, rfl⟩ := He.codeIn_ref hcd
  have hc : He.codeOf K q = c := He.codeOf_eq (p := q) (by rw [← hf]; exact lk) rfl
  rw [hc] at hbody
  refine fn_of lk hcd S len fun A outer s H vs Q E hr h => ?_
  obtain ⟨B, L, sat, t, h1, h2⟩ := hbody A outer s H vs Q E hr h (takes_of rfl rfl rfl rfl) (passes_of rfl)
  refine ⟨_, pss_c, B, L, fD Q, sat, ⟨t, h1, h2⟩, ?_, ?_, ?_, ?_⟩
  · rintro σ' H' ⟨B', L', s', q⟩
    exact q H' s'
  · rintro v H' ⟨B', L', s', q⟩
    exact q H' s'
  · rintro σ' H' ⟨B', L', s', q⟩
    exact q.elim
  · rintro σ' H' ⟨B', L', s', q⟩
    exact q.elim
theorem fn_okCn (F : Fun K x qual st f fd) (hf : f = He.fAd K q) (S : FnScope N ps (defScope st)) (hm : mg x = some (.ref f))
    (hb : ∀ (kV doc pm : Value) (an : Option Addr) (cdv ct : Value) (us : List Value), us.length = ps.length → bindArgs (PySem.W.fnOf x qual (defArgs st) (defBody st) (defScope st) .none kV doc pm an cdv ct) ⟨us, []⟩ = pure (ps.zip us))
    (len : ∀ vs H Q E, sp vs H Q E → vs.length = ps.length)
    (hbody : ∀ (A : Around) (outer : List Env) (s : Shared) (H : Hp) (vs : List V) (Q : VK) (E : XK), Room k (A.deeper (envOfC qual (defScope st) s.heap.objs.size f (.ref (He.codeOf K q)))) → sp vs H Q E →
      Takes (cxOf (L2.CX P w) P w K mg base N qual (defScope st) f (.ref (He.codeOf K q)) A outer s H E) (fun cls d _ H => E cls d H) →
      PassesOwn (model P w) (A.deeper (envOfC qual (defScope st) s.heap.objs.size f (.ref (He.codeOf K q)))) (envOfC qual (defScope st) s.heap.objs.size f (.ref (He.codeOf K q))) (cxOf (L2.CX P w) P w K mg base N qual (defScope st) f (.ref (He.codeOf K q)) A outer s H E).xe →
      ∃ B L, Sat B L H ∧ kSs (cxOf (L2.CX P w) P w K mg base N qual (defScope st) f (.ref (He.codeOf K q)) A outer s H E) (defBody st) (start N vs) B L (fD Q)) : Fn P w K mg base (k + 1) x sp := ⟨f, fd, ps, fn_okC F hf S len hbody, hm, F.kp, F.binds hb⟩
end
/-- the law's def, with tables -/
theorem walk_endT {l : PySem.W.OpenLaw} {n k : Nat} {q : Program} {loose : List Str} {XP : (Str → Option Value) → Heap → Prop} {YP : World → Heap → Prop} {d : DefRec} {x : Str} (hn : l.most = some n) (hn2 : n ≤ sizeLine) (hdf : d.params.defaults = []) (hr : Room k callerA)
    (F : ∀ (w : World) (mg : Str → Option Value) (fa : Addr) (h : Heap), YP w h → h.Ns mainGlobals mg → mg d.name = some (.ref fa) → ∃ (K : PySem.W.Frag) (fd : FuncData) (tf : List He.Defn) (sp : Sp), K.In h ∧
      (∀ p ∈ tf, PySem.W.codeHdIn K (He.cT K p).1 (He.cT K p).2 = true) ∧ (∀ p ∈ tf, K.lookup (He.cT K p).2 = none) ∧ (∀ p ∈ tf, h.get? (He.cT K p).2 = some { cls := .none, data := .fields #[] }) ∧ (∀ (s : Shared) (u : Value), BindsTo s fd ⟨[u], []⟩ [(x, u)]) ∧
      (∀ (H : Hp) (a : Addr) (ns : List Int), ns.length ≤ n → (∀ p ∈ tf, H (He.cT K p).2 = some (.tbl #[])) → SqL K H a (ns.map V.int) → sp [.ref a] H (fun v _ => v = .bl true) fun _ _ _ => False) ∧ ∀ base : Heap, K.In base → base.Ns mainGlobals mg → (∀ p ∈ tf, TabB base mg (He.cT K p).1 (He.cT K p).2) → FnOk l.prog w K mg base (L2.CX l.prog w) k fa fd [x] sp) :
    PySem.W.WalkO q loose XP YP l.row.toRowW d [] (fun f vs => PySem.call f vs) :=
  walk_ofTsE (CX := fun w => L2.CX l.prog w) hn hn2 hdf hr (fun w mg fa h Y G hm => by
    obtain ⟨K, fd, tf, sp, KX, c1, c2, c3, hb, hsp, hF⟩ := F w mg fa h Y G hm
    have ofm : ∀ {R : Addr × Addr → Prop}, (∀ p ∈ tf, R (He.cT K p)) → ∀ z ∈ tf.map (He.cT K), R z := fun {R} g z hz => by
      obtain ⟨p, hp, rfl⟩ := List.mem_map.mp hz
      exact g p hp
    have fm : ∀ {R : Addr × Addr → Prop}, (∀ z ∈ tf.map (He.cT K), R z) → ∀ p ∈ tf, R (He.cT K p) := fun {R} g p hp => g _ (List.mem_map.mpr ⟨p, hp, rfl⟩)
    exact ⟨K, KX, fd, tf.map (He.cT K), sp, ofm (R := fun z => h.get? z.2 = _) c3, ofm (R := fun z => K.lookup z.2 = none) c2, ofm (R := fun z => PySem.W.CodeHd h z.1 z.2) fun p hp => PySem.W.codeHd_of_K KX (c1 p hp), hb,
      fun H a ns hl _ hT hS => hsp H a ns hl (fm (R := fun z => H z.2 = _) hT) hS, fun base b1 b2 hB => hF base b1 b2 (fm (R := fun z => TabB base mg z.1 z.2) hB)⟩) fun w H s e s' z => cx_end z
end Kv

/-! Defs that are called where no repr is under way (guards known to be none): for repr of lists and tuples. -/
namespace Kv
open PySem PySem.Spec PyProof.Rows L2 LamX
structure FnOkG (P : Program) (w : World) (K : PySem.W.Frag) (mg : Str → Option Value) (base : Heap) (CX : CXT) (k : Nat) (f : Addr) (fd : FuncData) (ps : List Str) (sp : Sp) : Prop where
  len : ∀ vs H Q E, sp vs H Q E → vs.length = ps.length
  run : ∀ (A : Around) (outer : List Env) (s : Shared) (H : Hp) (args : Args) (us : List Value) (vs : List V) (Q : VK) (E : XK), Room k A → A.guards = some [] → Env0 P w K mg base A outer s H → BindsTo s fd args (ps.zip us) → Vals vs us → sp vs H Q E →
    codeAny (model P w) A (.call (.ref f) args) (CR CX outer P w H s Q E) s
theorem FnOk.toG {P : Program} {w : World} {K : PySem.W.Frag} {mg : Str → Option Value} {base : Heap} {CX : CXT} {k : Nat} {f : Addr} {fd : FuncData} {ps : List Str} {sp : Sp} (F : FnOk P w K mg base CX k f fd ps sp) : FnOkG P w K mg base CX k f fd ps sp :=
  ⟨F.len, fun A outer s H args us vs Q E hr _ => F.run A outer s H args us vs Q E hr⟩
theorem guards_deeper {A : Around} {e : Env} (h : A.guards = some []) : (A.deeper e).guards = some [] := h
section
variable {P : Program} {w : World} {K : PySem.W.Frag} {mg : Str → Option Value} {base : Heap} {x qual : Str} {st : Stmt} {f : Addr} {fd : FuncData} {N ps : List Str} {k : Nat} {sp : Sp} {q : He.Defn}
theorem fn_okCG (F : Fun K x qual st f fd) (hf : f = He.fAd K q) (S : FnScope N ps (defScope st)) (len : ∀ vs H Q E, sp vs H Q E → vs.length = ps.length)
    (hbody : ∀ (A : Around) (outer : List Env) (s : Shared) (H : Hp) (vs : List V) (Q : VK) (E : XK), Room k (A.deeper (envOfC qual (defScope st) s.heap.objs.size f (.ref (He.codeOf K q)))) → (A.deeper (envOfC qual (defScope st) s.heap.objs.size f (.ref (He.codeOf K q)))).guards = some [] → sp vs H Q E →
      Takes (cxOf (L2.CX P w) P w K mg base N qual (defScope st) f (.ref (He.codeOf K q)) A outer s H E) (fun cls d _ H => E cls d H) →
      PassesOwn (model P w) (A.deeper (envOfC qual (defScope st) s.heap.objs.size f (.ref (He.codeOf K q)))) (envOfC qual (defScope st) s.heap.objs.size f (.ref (He.codeOf K q))) (cxOf (L2.CX P w) P w K mg base N qual (defScope st) f (.ref (He.codeOf K q)) A outer s H E).xe →
      ∃ B L, Sat B L H ∧ kSs (cxOf (L2.CX P w) P w K mg base N qual (defScope st) f (.ref (He.codeOf K q)) A outer s H E) (defBody st) (start N vs) B L (fD Q)) : FnOkG P w K mg base (L2.CX P w) (k + 1) f fd ps sp := by
  obtain ⟨oc, od, kV, doc, pm, an, cdv, ct, osl, rfl, lk, hcd⟩ := F.ex
  obtain ⟨c, rfl⟩ := He.codeIn_ref hcd
  have hc : He.codeOf K q = c := He.codeOf_eq (p := q) (by rw [← hf]; exact lk) rfl
  rw [hc] at hbody
  refine ⟨len, fun A outer s H args us vs Q E hr hg e0 hb r hsp => ?_⟩
  -- the promise of fn_of at this one place: a spec that is told at it alone
  have hl := len _ _ _ _ hsp
  have KX : K.In s.heap := e0.mod.kin.keeps fun b o e => (e0.bs b o e).1
  have lim : s.heap.NoLimit := e0.mod.nolimit.keeps fun b o e => (e0.bs b o e).1
  refine codeAny_call_function hr.depth (KX _ _ lk) rfl S.co S.gen rfl (PySem.W.codeRec_of KX hcd) (hb _ _ _ _ ?_)
  refine wpAny_newFunctionEnv_cells S.kind (fun ⟨n, v⟩ hy => (S.par n (List.of_mem_zip hy).1).imp id fun q => ⟨q, PySem.W.cellsFrom_some _ _ _ (.inl q)⟩) fun env he s1 x1 => ?_
  subst he
  refine ⟨lim.keeps x1.toInCall.keep, codeAny_func ?_⟩
  obtain ⟨B, L, sat, t, h1, h2⟩ := hbody A outer s H vs Q E (hr.deeper _) hg hsp (takes_of rfl rfl rfl rfl) (passes_of rfl)
  have I : Inv (cxOf (L2.CX P w) P w K mg base N qual (defScope st) f (.ref c) A outer s H E) [] (start N vs) H s1 := inv_start S hr.hd e0 hl r x1
  have fin : ∀ {σ' : L2.St} {H' : Hp} {v : V} {u : Value} {s' : Shared}, Inv (cxOf (L2.CX P w) P w K mg base N qual (defScope st) f (.ref c) A outer s H E) [] σ' H' s' → RelV v u → Q v H' → CE outer P w H s Q u s' := fun J rv q => ⟨_, _, J.os, J.bare, J.base, J.hok, rv, q⟩
  refine wpAny_mono (pss_c.run [] s1 (start N vs) H { nx := fun _ H' => Q .non H', rt := Q } I ⟨B, L, fD Q, sat, ⟨t, h1, h2⟩, ?_, ?_, ?_, ?_⟩) (fun fl s' hs => ?_) fun e s' hs => hs
  · rintro σ' H' ⟨B', L', s', q⟩
    exact q H' s'
  · rintro v H' ⟨B', L', s', q⟩
    exact q H' s'
  · rintro σ' H' ⟨B', L', s', q⟩
    exact q.elim
  · rintro σ' H' ⟨B', L', s', q⟩
    exact q.elim
  · cases fl with
    | ret u =>
      obtain ⟨v, σ', H', J, rv, q⟩ := hs
      exact fin J rv q
    | next =>
      obtain ⟨σ', H', J, q⟩ := hs
      exact fin (v := V.non) (u := Value.none) J rfl q
    | brk => exact (hs.elim fun _ z => z.elim fun _ z => z.2.elim)
    | cont => exact (hs.elim fun _ z => z.elim fun _ z => z.2.elim)
end
/-- a def by its name -/
structure FnG (P : Program) (w : World) (K : PySem.W.Frag) (mg : Str → Option Value) (base : Heap) (k : Nat) (x : Str) (sp : Sp) : Prop where
  ex : ∃ f fd ps, FnOkG P w K mg base (L2.CX P w) k f fd ps sp ∧ mg x = some (.ref f) ∧ PySem.W.keepIn K (.ref f) = true ∧ L2.Binds K fd ps []
section
variable {X : Cx} {σ : L2.St} {B : Hp} {L : HL} {Q : KQ} {e : Expr} {es : List Expr} {p2 pos : Pos}
theorem k_callG {x : Str} {k : Nat} {sp : Sp} {W : WX} (F : FnG X.prog X.w X.K X.mg X.base k x sp) (hr : Room k X.A) (hgd : X.A.guards = some []) (tk : Takes X W) (h : kA X (e :: es) σ B L fun vs B1 L1 => ∀ H, Sat B1 L1 H → sp vs H (up Q) (WE W σ)) (hg : Gl X x := by rfl)
    (hdb : (x == ("__debug__" : Str)) = false := by decide) (he : starEach (e :: es) X.env = (false, eval e X.env) :: starEach es X.env := by rfl) (hpl : (backTo pos (starEach es X.env)).any (·.1) = false := by rfl) : kE X (.Call (.Name x p2) (e :: es) [] pos) σ B L Q := by
  obtain ⟨f, fd, ps, hF, hm, hk, hb⟩ := F.ex
  refine ⟨fun σ H Q => cA X (e :: es) σ H fun vs H1 => sp vs H1 Q (WE W σ), ⟨fun pins s σ H Q I h => ?_⟩, fun H s => toA s h fun _ _ _ _ s q => q _ s⟩
  refine wpAny_Call_Name_kw (ld_glob I hg hm ?_ hdb)
  refine PySem.W.callWith_K (h₀ := X.base) I.ok.mod.kin hk (thn (pa_c.run pos pins s σ H _ I h) fun us s1 ⟨vs, H1, I1, r, q⟩ => ⟨I1.kIn, ?_⟩) he hpl
  have hl : us.length = ps.length := by rw [← r.length]; exact hF.len _ _ _ _ q
  have b := hb s1 us I1.kIn (by rw [List.append_nil]; exact hl)
  rw [List.append_nil] at b
  refine wpAny_call (codeAny_mono (hF.run X.A X.stack s1 H1 ⟨us, []⟩ us vs Q (WE W σ) hr hgd I1.env0 b r q) fun r s' hq => ?_)
  cases r with
  | error e => exact passAt tk σ pins H1 s1 e s' I1 hq
  | ok fl =>
    cases fl with
    | ret u => exact I1.after hq
    | next => exact False.elim hq
    | brk => exact False.elim hq
    | cont => exact False.elim hq
end
/-! ### the end of a law -/
theorem endG {P : Program} {w : World} {K : PySem.W.Frag} {mg mb : Str → Option Value} {CX : CXT} {k : Nat} {fa a : Addr} {cs : List (Addr × Addr)} {fd : FuncData} {x : Str} {sp : Sp} {s₁ : Shared} {vs : List Value} {ns : List Int}
    (KX : K.In s₁.heap) (hns : s₁.heap.Ns mainGlobals mg) (hb : s₁.heap.Ns builtinsNs mb) (hbb : ∀ x : Str, x ≠ "__name__" → mb x = bootBuiltins x) (hlim : s₁.heap.NoLimit) (hg : s₁.gens = #[])
    (hT : ∀ p ∈ cs, s₁.heap.get? p.2 = some { cls := .none, data := .fields #[] }) (nT : ∀ p ∈ cs, K.lookup p.2 = none) (C : ∀ p ∈ cs, PySem.W.CodeHd s₁.heap p.1 p.2)
    (hbm : ∃ (bm : Addr) (ob : Obj), mg "__builtins__" = some (.ref bm) ∧ bm ≠ builtinsNs ∧ s₁.heap.get? bm = some ob ∧ ob.cls = .type "module" ∧ ob.dict = some builtinsNs ∧ ob.data = .plain)
    (ha : s₁.heap.get? a = some { cls := .type "list", data := .seq vs.toArray }) (hi : IntsAre vs ns) (hl : ns.length ≤ sizeLine) (hr : Room k callerA)
    (F : ∀ base : Heap, K.In base → base.Ns mainGlobals mg → (∀ p ∈ cs, TabB base mg p.1 p.2) → FnOkG P w K mg base CX k fa fd [x] sp) (hbind : ∀ (s : Shared) (u : Value), BindsTo s fd ⟨[u], []⟩ [(x, u)])
    (hsp : ∀ H : Hp, (∀ p ∈ cs, H p.2 = some (.tbl #[])) → SqL K H a (ns.map V.int) → sp [.ref a] H (fun v _ => v = .bl true) fun _ _ _ => False)
    (hCX : ∀ H e s', CX [] H s₁ (fun _ _ _ => False) e s' → False) :
    codeAny (model P w) callerA (.call (.ref fa) ⟨[.ref a], []⟩) (fun r s' => r = .ok (.ret (.bool true)) ∧ OldK s₁.heap s'.heap ∧ s'.os = s₁.os ∧ AllBare s'.gens) s₁ := by
  have vsR := vals_ints hi
  have vsL := hi.length
  have atT : ∀ b : Addr, b ∈ cs.map (·.2) → s₁.heap.get? b = some { cls := .none, data := .fields #[] } := fun b hb => by
    obtain ⟨p, hp, e⟩ := List.mem_map.mp hb
    rw [← e]
    exact hT p hp
  have aNot : a ∉ cs.map (·.2) := fun z => by
    have q := atT a z
    rw [ha] at q
    have z' : Data.seq vs.toArray _ = Data.fields #[] := congrArg Obj.data (Option.some.inj q)
    cases z'
  have tMem : ∀ p ∈ cs, p.2 ∈ cs.map (·.2) := fun p hp => List.mem_map.mpr ⟨p, hp, rfl⟩
  have main0 : ∀ H : Hp, (∀ p ∈ cs, H p.2 = some (.tbl #[])) → (∀ b, H b = none ∨ b ∈ cs.map (·.2) ∨ ∃ o xs, H b = some (.frz o (.lst xs))) → SqL K H a (ns.map V.int) → HOk P w H s₁.heap → (∀ b, H b ≠ none → b = a ∨ b ∈ cs.map (·.2)) → (H a ≠ none → K.lookup a = none) →
      codeAny (model P w) callerA (.call (.ref fa) ⟨[.ref a], []⟩) (fun r s' => r = .ok (.ret (.bool true)) ∧ OldK s₁.heap s'.heap ∧ s'.os = s₁.os ∧ AllBare s'.gens) s₁ := by
    intro H hH hO hS hok hA hK
    have ofBase : ∀ {b : Addr} {o : Obj}, s₁.heap.get? b = some o → H b = none → (hidT s₁.heap H).get? b = some o := fun e n => hidT_get e n
    have noEnt : ∀ {b : Addr} {o : Obj}, s₁.heap.get? b = some o → (∀ vs n, o.data ≠ .seq vs n) → o.data ≠ .fields #[] → H b = none := fun {b o} e h1 h2 => by
      cases q : H b with
      | none => rfl
      | some u =>
        rcases hA b (by rw [q]; simp) with e' | e'
        · rw [e', ha] at e
          cases e
          exact (h1 _ _ rfl).elim
        · rw [atT b e'] at e
          cases e
          exact (h2 rfl).elim
    have noDct : ∀ {b : Addr} {o : Obj} {es : Array DictEntry} {ep : Nat}, s₁.heap.get? b = some o → o.data = .dict es ep → H b = none := fun {b o es ep} e d => by
      refine noEnt e (fun vs n z => ?_) fun z => ?_
      · rw [d] at z
        cases z
      · rw [d] at z
        cases z
    have nsB : ∀ {b : Addr} {m : Str → Option Value}, s₁.heap.Ns b m → (hidT s₁.heap H).Ns b m := fun {b m} ⟨o, es, ep, e, d, r⟩ => ⟨o, es, ep, ofBase e (noDct e d), d, r⟩
    have inB : K.In (hidT s₁.heap H) := fun b o e => ofBase (KX b o e) (by
      cases q : H b with
      | none => rfl
      | some u =>
        rcases hA b (by rw [q]; simp) with e' | e'
        · rw [e'] at e q
          rw [hK (by rw [q]; simp)] at e
          cases e
        · obtain ⟨p, hp, ep⟩ := List.mem_map.mp e'
          rw [← ep, nT p hp] at e
          cases e)
    have modB : L2.Mod K mg (hidT s₁.heap H) := ⟨inB, nsB hns, ⟨mb, nsB hb, hbb⟩, let ⟨mc, h1, h2⟩ := hlim; ⟨mc, nsB h1, h2⟩⟩
    have tabs0 : ∀ p ∈ cs, TabB (hidT s₁.heap H) mg p.1 p.2 := fun p hp => by
      have hTp := hT p hp
      refine ⟨?_, ?_, fun z => ?_⟩
      · obtain ⟨o, us, file, tf, flags, tg, inF, text, tt, e1, r1, r2, r3, r4, r5, r6, r7, r8, hne⟩ := C p hp
        refine ⟨o, us, file, tf, flags, tg, inF, text, tt, ofBase e1 (noEnt e1 (fun vs n z => ?_) fun z => ?_), r1, r2, r3, r4, r5, r6, r7, r8, hne⟩
        · rw [r2] at z
          cases z
        · rw [r2] at z
          cases z
          simp at r3
      · obtain ⟨bm, ob, b1, b2, b3, b4, b5, b6⟩ := hbm
        have nG : bm ≠ mainGlobals := fun q => by
          obtain ⟨o, es, ep, e, hd, _⟩ := hns
          rw [q, e] at b3
          cases b3
          rw [hd] at b6
          cases b6
        have nP : bm ≠ p.2 := fun q => by
          rw [q, hTp] at b3
          cases b3
          cases b6
        refine ⟨bm, ob, b1, b2, nG, nP, ofBase b3 (noEnt b3 (fun vs n z => ?_) fun z => ?_), b4, b5, b6⟩
        · rw [b6] at z
          cases z
        · rw [b6] at z
          cases z
      · obtain ⟨o, es, ep, e, hd, _⟩ := hns
        rw [z, hTp] at e
        cases e
        cases hd
    have e0 : Env0 P w K mg (hidT s₁.heap H) callerA [] s₁ H := ⟨rfl, modB, fun b o e => of_hidT e, Nat.le_of_eq (hidT_size _ _), trivial, fun b hb => absurd (show b ∈ ([] : List Addr) from hb) (by simp), hok, .of_eq hg⟩
    refine codeAny_mono ((F _ inB (nsB hns) tabs0).run callerA [] s₁ H ⟨[.ref a], []⟩ [.ref a] [.ref a] _ _ hr rfl e0 (hbind s₁ (.ref a)) (.cons rfl .nil) (hsp H hH hS)) fun r s' h => ?_
    cases r with
    | error e => exact (hCX H e s' h).elim
    | ok fl =>
      cases fl with
      | next => exact False.elim h
      | brk => exact False.elim h
      | cont => exact False.elim h
      | ret u =>
        obtain ⟨v, H', os, bare, un, hok', r', q⟩ := h
        have q' : v = .bl true := q
        subst q'
        obtain rfl : u = Value.bool true := r'
        have kept0 : ∀ b o, b ∉ cs.map (·.2) → s₁.heap.get? b = some o → s'.heap.get? b = some o := fun b o nb e => by
          cases q : H b with
          | none => exact un.keep b o e q (by intro z; exact absurd (show b ∈ ([] : List Addr) from z) (by simp)) (by simp)
          | some u =>
            rcases hO b with z | z | ⟨ob, xs, z⟩
            · rw [q] at z; cases z
            · exact absurd z nb
            · have z2 := un.frzs b ob _ z
              obtain ⟨e1, _⟩ := hok b _ z
              obtain ⟨e2, _⟩ := hok' b _ z2
              rw [e] at e1; cases e1
              exact e2
        have moreT : ∀ p ∈ cs, ∃ more : Array Value, s'.heap.get? p.2 = some { cls := .none, data := .fields more } := fun p hp => by
          obtain ⟨more, z⟩ := un.tbls p.2 #[] (hH p hp)
          exact ⟨_, hok' p.2 _ z⟩
        refine ⟨rfl, ⟨fun b o e => ?_, fun b o e => ?_⟩, os, bare⟩
        · by_cases hb : b ∈ cs.map (·.2)
          · obtain ⟨p, hp, ep⟩ := List.mem_map.mp hb
            obtain ⟨more, hm⟩ := moreT p hp
            rw [← ep] at e ⊢
            rw [hT p hp] at e
            cases e
            exact .inr (.inl ⟨((C p hp).tab (hT p hp)).isCodeTable, rfl, #[], more, rfl, by rw [Array.empty_append]; exact hm⟩)
          · exact .inl (kept0 b o hb e)
        · by_cases hb : b ∈ cs.map (·.2)
          · obtain ⟨p, hp, ep⟩ := List.mem_map.mp hb
            obtain ⟨more, hm⟩ := moreT p hp
            rw [← ep]
            exact ⟨_, hm⟩
          · exact ⟨o, kept0 b o hb e⟩
  cases hk : K.lookup a with
  | some o =>
    have e := KX a o hk
    rw [ha] at e
    cases e
    refine main0 (fun b => if b ∈ cs.map (·.2) then some (.tbl #[]) else none) (fun p hp => if_pos (tMem p hp)) (fun b => ?_) (.inr ⟨_, vs.toArray, _, hk, rfl, rfl, rfl, by rw [List.size_toArray, vsL]; exact hl, by simpa using vsR⟩) (fun b u z => ?_) (fun b z => ?_) fun z => absurd (show (if a ∈ cs.map (·.2) then some (HO.tbl #[]) else none) = none from if_neg aNot) z
    · by_cases hb : b ∈ cs.map (·.2)
      · exact .inr (.inl hb)
      · exact .inl (if_neg hb)
    · by_cases hb : b ∈ cs.map (·.2)
      · have z' := (if_pos hb).symm.trans z
        cases z'
        exact atT b hb
      · have z' := (if_neg hb).symm.trans z
        cases z'
    · by_cases hb : b ∈ cs.map (·.2)
      · exact .inr hb
      · exact absurd (if_neg hb) z
  | none =>
    refine main0 (fun b => if b = a then some (.frz { cls := .type "list", data := .seq vs.toArray } (.lst (ns.map V.int))) else if b ∈ cs.map (·.2) then some (.tbl #[]) else none) (fun p hp => (if_neg (show ¬ p.2 = a from fun z => aNot (by rw [← z]; exact tMem p hp))).trans (if_pos (tMem p hp))) (fun b => ?_)
      (.inl (.inr ⟨{ cls := .type "list", data := .seq vs.toArray }, if_pos rfl⟩)) (fun b u z => ?_) (fun b z => ?_) fun _ => hk
    · by_cases hb : b = a
      · exact .inr (.inr ⟨_, _, if_pos hb⟩)
      · by_cases hb2 : b ∈ cs.map (·.2)
        · exact .inr (.inl hb2)
        · exact .inl ((if_neg hb).trans (if_neg hb2))
    · by_cases hb : b = a
      · have z' := (if_pos hb).symm.trans z
        cases z'
        rw [hb]
        exact ⟨ha, by rw [List.length_map]; exact hl, vs, _, vsR, ha⟩
      · have z1 := (if_neg hb).symm.trans z
        by_cases hb2 : b ∈ cs.map (·.2)
        · have z' := (if_pos hb2).symm.trans z1
          cases z'
          exact atT b hb2
        · have z' := (if_neg hb2).symm.trans z1
          cases z'
    · by_cases hb : b = a
      · exact .inl hb
      · by_cases hb2 : b ∈ cs.map (·.2)
        · exact .inr hb2
        · exact absurd ((if_neg hb).trans (if_neg hb2)) z

theorem walk_endG {l : PySem.W.OpenLaw} {n k : Nat} {q : Program} {loose : List Str} {XP : (Str → Option Value) → Heap → Prop} {YP : World → Heap → Prop} {d : DefRec} {x : Str} (hn : l.most = some n) (hn2 : n ≤ sizeLine) (hdf : d.params.defaults = []) (hr : Room k callerA)
    (F : ∀ (w : World) (mg : Str → Option Value) (fa : Addr) (h : Heap), YP w h → h.Ns mainGlobals mg → mg d.name = some (.ref fa) → ∃ (K : PySem.W.Frag) (fd : FuncData) (tf : List He.Defn) (sp : Sp), K.In h ∧
      (∀ p ∈ tf, PySem.W.codeHdIn K (He.cT K p).1 (He.cT K p).2 = true) ∧ (∀ p ∈ tf, K.lookup (He.cT K p).2 = none) ∧ (∀ p ∈ tf, h.get? (He.cT K p).2 = some { cls := .none, data := .fields #[] }) ∧ (∀ (s : Shared) (u : Value), BindsTo s fd ⟨[u], []⟩ [(x, u)]) ∧
      (∀ (H : Hp) (a : Addr) (ns : List Int), ns.length ≤ n → (∀ p ∈ tf, H (He.cT K p).2 = some (.tbl #[])) → SqL K H a (ns.map V.int) → sp [.ref a] H (fun v _ => v = .bl true) fun _ _ _ => False) ∧ ∀ base : Heap, K.In base → base.Ns mainGlobals mg → (∀ p ∈ tf, TabB base mg (He.cT K p).1 (He.cT K p).2) → FnOkG l.prog w K mg base (L2.CX l.prog w) k fa fd [x] sp) :
    PySem.W.WalkO q loose XP YP l.row.toRowW d [] (fun f vs => PySem.call f vs) := by
  refine Att.attach_callB hn hdf fun w s₀ s₁ mg mb fa o pm cd doc a vs ns G Y ho hd hcd hmg hobj hints hlen hbits hg => ?_
  obtain ⟨K, fd, tf, sp, KX, c1, c2, c3, hb, hsp, hF⟩ := F w mg fa _ Y G.T.g hmg
  have up1 : ∀ {R : Addr × Addr → Prop}, (∀ p ∈ tf, R (He.cT K p)) → ∀ z ∈ tf.map (He.cT K), R z := fun {R} g z hz => by
    obtain ⟨p, hp, rfl⟩ := List.mem_map.mp hz
    exact g p hp
  have dn1 : ∀ {R : Addr × Addr → Prop}, (∀ z ∈ tf.map (He.cT K), R z) → ∀ p ∈ tf, R (He.cT K p) := fun {R} g p hp => g _ (List.mem_map.mpr ⟨p, hp, rfl⟩)
  exact endG (cs := tf.map (He.cT K)) KX G.T.g G.T.b G.T.builtins G.T.nolimit hg (up1 (R := fun z => s₁.heap.get? z.2 = some { cls := .none, data := .fields #[] }) c3) (up1 (R := fun z => K.lookup z.2 = none) c2) (up1 (R := fun z => PySem.W.CodeHd _ z.1 z.2) fun p hp => PySem.W.codeHd_of_K KX (c1 p hp)) G.T.bmain hobj hints (Nat.le_trans hlen hn2) hr
    (fun base b1 b2 hB => hF base b1 b2 (dn1 (R := fun z => TabB base mg z.1 z.2) hB)) hb (fun H hH hS => hsp H a ns hlen (dn1 (R := fun z => H z.2 = _) hH) hS) fun H e s' z => cx_end z
end Kv

/-! [elt for k in d if c], d locked; many new objects at once. -/
namespace Kv
open PySem PySem.Spec PyProof.Rows L2
section
variable {X : Cx} {σ : L2.St} {B : Hp} {L : HL} {Q : KQ} {D : KD} {elt iter c tg : Expr} {scope : Scope}
theorem r_keys {R : It → Hp → HL → Prop} (h : kE X iter σ B L fun v B1 L1 => ∃ d od kvs, v = .ref d ∧ (d, HO.frz od (.dK kvs)) ∈ L1 ∧ R (Itk d od kvs) B1 L1) : kR X tg iter σ B L R :=
  ⟨_, pi_keys pe_c, fun H s => toE s h fun _ _ _ _ s ⟨d, od, kvs, ev, hm, q⟩ => ⟨d, od, ev, .inl ⟨kvs, s.own _ hm, _, _, s, q⟩⟩⟩
theorem k_lcf_dk {α : Type} {x : Str} {j : Nat} {px : Pos} (M : List α) (key : α → Key) (pr : α → Bool) (g : α → V) (hN : X.N.Nodup) (ok : BlkOk X.N X.env.scope scope [(x, j)])
    (h : kE X iter σ B L fun v B1 L1 => ∃ d od kvs, v = .ref d ∧ (d, HO.frz od (.dK kvs)) ∈ L1 ∧ kvs.map (·.1) = M.map key ∧ M.length ≤ 16777216 ∧ (∀ z ∈ M, ∀ D acc s H0 C cl fp, kT (Bk X scope s H0 C cl fp) c (σ.set j (some (kV (key z)))) B1 ((D, .lst acc) :: L1) fun k B3 L3 => k = pr z ∧ B3 = B1 ∧ L3 = (D, .lst acc) :: L1) ∧
      (∀ z ∈ M, pr z = true → ∀ D acc s H0 C cl fp, kE (Bk X scope s H0 C cl fp) elt (σ.set j (some (kV (key z)))) B1 ((D, .lst acc) :: L1) fun y B3 L3 => y = g z ∧ B3 = B1 ∧ L3 = (D, .lst acc) :: L1) ∧
      ∀ D, Q (.ref D) B1 ((D, .lst ((M.filter pr).map g)) :: L1))
    (hp : ∀ s H0 C cl fp, Loc (Bk X scope s H0 C cl fp).env.scope x := by intro _ _ _ _ _; first | exact Or.inl rfl | exact Or.inr rfl) (hf : ∀ s H0 C cl fp, (Bk X scope s H0 C cl fp).fn x = true ∨ (Bk X scope s H0 C cl fp).env.scope.names.lookup x = some .local := by intro _ _ _ _ _; first | exact .inr rfl | exact .inl rfl)
    (hj : X.N[j]? = some x := by rfl) (hc : X.calm = true := by rfl) (hs : ∀ x, foldedSetIterable iter X.env x = pure x := by intro _; rfl) : kL X elt (.Name x px) iter [c] scope [(x, j)] σ B L Q :=
  k_lcf hN ok (r_keys (by
    obtain ⟨t, h1, h2⟩ := h
    refine ⟨_, pe_c, fun H s => toE s ⟨t, h1, h2⟩ fun v H' B1 L1 s' ⟨d, od, kvs, e, hmm, hkm, hl, ht, hg, hd⟩ => ⟨B1, L1, s', d, od, kvs, e, hmm, kvs.length, _, _, fun i acc B L => B = B1 ∧ L = L1 ∧ acc = ((M.take i).filter pr).map g, walk_keys, ⟨rfl, rfl, by simp⟩, ?_, ?_, ?_⟩⟩
    · rintro i acc B L H hi ⟨rfl, rfl, _⟩ s
      exact s.own _ hmm
    · rintro D i acc x B L H H' hi ⟨rfl, rfl, rfl⟩ s ⟨rfl, k, v0, hx, rfl⟩
      obtain ⟨z, hz, rfl⟩ : ∃ z, M[i]? = some z ∧ k = key z := by
        have h9 : (kvs.map (·.1))[i]? = some k := by rw [List.getElem?_map, hx]; rfl
        rw [hkm, List.getElem?_map] at h9
        cases h : M[i]? with
        | none => rw [h] at h9; cases h9
        | some z => rw [h] at h9; exact ⟨z, rfl, (Option.some.inj h9).symm⟩
      have hzm := List.mem_of_getElem? hz
      have hiM : i < M.length := (List.getElem?_eq_some_iff.mp hz).1
      refine ⟨_, _, s, fun sa Ha Ca cla fpa => g_name j ?_ hN hj (hp sa Ha Ca cla fpa) (hf sa Ha Ca cla fpa)⟩
      refine ⟨wipe1 σ j _, fun sb Hb Cb clb fpb => ?_⟩
      show kT _ _ ((wipe σ [j]).set j _) _ _ _
      rw [wipe1']
      have hsucc : (M.take (i + 1)).filter pr = (M.take i).filter pr ++ (if pr z = true then [z] else []) := by
        rw [List.take_add_one, hz, List.filter_append]
        congr 1
        by_cases hfi : pr z = true <;> simp [hfi]
      have hlen : (((M.take i).filter pr).map g).length ≤ i := by
        rw [List.length_map]
        exact Nat.le_trans (List.length_filter_le _ _) (by rw [List.length_take]; omega)
      obtain ⟨t2, k1, k2⟩ := ht z hzm D (((M.take i).filter pr).map g) sb Hb Cb clb fpb
      refine ⟨_, pt_c, fun H s => toT s ⟨t2, k1, k2⟩ fun k H2 B2 L2 s2 ⟨e1, e2, e3⟩ => ⟨B2, L2, s2, fun hk => fun sc Hc Cc clc fpc => ?_, fun hk => ?_⟩⟩
      · subst e2 e3
        have hfx : pr z = true := by rw [← e1]; exact hk
        obtain ⟨t3, k3, k4⟩ := hg z hzm hfx D (((M.take i).filter pr).map g) sc Hc Cc clc fpc
        show kE _ _ ((wipe σ [j]).set j _) _ _ _
        rw [wipe1']
        refine ⟨_, pe_c, fun H s => toE s ⟨t3, k3, k4⟩ fun y H3 B3 L3 s3 ⟨e4, e5, e6⟩ => ⟨B3, L3, s3, by omega, L, e6, e5, rfl, ?_⟩⟩
        rw [hsucc, if_pos hfx, List.map_append, e4]; rfl
      · refine ⟨L, e3, e2, rfl, ?_⟩
        rw [hsucc, if_neg (by rw [← e1, hk]; decide), List.append_nil]
    · rintro acc B L D ⟨rfl, rfl, rfl⟩
      have h9 : kvs.length = M.length := by have := congrArg List.length hkm; simpa using this
      rw [h9, List.take_length]
      exact hd D)) hc hs
end
theorem c_lend {X : Cx} {B : Hp} {L : HL} {Q : KQ} {p : Addr} {kvs : List (Key × V)} (h : (p, HO.dK kvs) ∈ L) (q : Q (.int kvs.length) B L) : kC X (.builtin "len") [.ref p] B L Q := ⟨_, call_lenD, fun H s => ⟨p, kvs, rfl, s.own _ h, _, _, s, q⟩⟩
theorem lt1 {n : Nat} (h : n + 64 < cLine) : n + 1 < cLine := Nat.lt_of_le_of_lt (Nat.add_le_add_left (by decide) _) h
/-- many new objects at once -/
theorem Sat.newG {B : Hp} {L G : HL} {H H' : Hp} (s : Sat B L H) (e : ∀ b o, H b = some o → H' b = some o) (n : ∀ p ∈ G, H p.1 = none) (own : ∀ p ∈ G, H' p.1 = some p.2) (nd : (G.map (·.1)).Nodup) : Sat B (G ++ L) H' := by
  refine ⟨fun a o h => e _ _ (s.ext _ _ h), fun q hq => ?_, fun q hq => ?_, ?_⟩
  · rcases List.mem_append.mp hq with hq | hq
    · exact own q hq
    · exact e _ _ (s.own q hq)
  · rcases List.mem_append.mp hq with hq | hq
    · cases h : B q.1 with
      | none => rfl
      | some o => have := s.ext _ _ h; rw [n q hq] at this; cases this
    · exact s.nb q hq
  · rw [List.map_append, List.nodup_append]
    refine ⟨nd, s.nd, fun a ha b hb e => ?_⟩
    obtain ⟨p, hp, rfl⟩ := List.mem_map.mp ha
    obtain ⟨q, hq, rfl⟩ := List.mem_map.mp hb
    have := s.own q hq
    rw [← e, n p hp] at this
    cases this
end Kv

/-! min, max of a tuple of two numbers; for over a range with a step. -/
namespace Kv
open PySem PySem.Spec PyProof.Rows L2
section
variable {prog : Program} {w : World} {A : Around} {E : Value → Shared → Prop} {s : Shared} {l : Addr} {xs : Array (Int × Tok)}
theorem old_kept2 {o : Obj} {h' : Heap} (hk : ∀ b o', b ∉ [s.heap.objs.size] → (s.heap.push o).get? b = some o' → h'.get? b = some o') :
    ∀ b o', s.heap.get? b = some o' → h'.get? b = some o' := fun b o' e => by
  refine hk b o' (fun hm => ?_) (Heap.get?_push_of_some _ e)
  rcases List.mem_cons.mp hm with e1 | hm
  · exact absurd (e1 ▸ Heap.lt_size e) (Nat.lt_irrefl _)
  · cases hm
theorem min_intTup {Q : Value → Shared → Prop} (hh : A.handled = none) (hl : s.heap.IsTuple l (intItems xs)) (hlt : l < s.heap.objs.size) (hne : 0 < xs.size)
    (h : ∀ v h' tk, (intItems xs)[argBest (fun i j => decide (numAt xs i < numAt xs j)) (xs.size - 1)]? = some v → (∀ b o, s.heap.get? b = some o → h'.get? b = some o) → Q v { s with heap := h', toks := tk }) :
    wpAny (model prog w) A (call (.builtin "min") [.ref l]) Q E s := by
  refine call_min_walk (wpAny_pyIter_tuple hl ?_)
  refine ⟨_, [_, l], [_], _, _, _, _, rfl, Walks.tuple (A := A.in1) hh _ l (Nat.ne_of_lt hlt) (intItems xs),
    ⟨⟨_, Heap.get?_push_size _ rfl, rfl, rfl⟩, hl.push _⟩, fun c hc => ?_, by simpa [intItems] using hne, CmpOf.ints_lt (numAt xs) (fun _ _ => intItems_at), fun v h' tk hP hk => ?_⟩
  · show c < (s.heap.push _).objs.size
    rw [Heap.size_push]
    rcases List.mem_cons.mp hc with rfl | hc
    · exact Nat.lt_succ_self _
    · rcases List.mem_cons.mp hc with rfl | hc
      · exact Nat.lt_succ_of_lt hlt
      · cases hc
  · exact h v h' tk (by simpa [intItems] using hP) (old_kept2 hk)
theorem max_intTup {Q : Value → Shared → Prop} (hh : A.handled = none) (hl : s.heap.IsTuple l (intItems xs)) (hlt : l < s.heap.objs.size) (hne : 0 < xs.size)
    (h : ∀ v h' tk, (intItems xs)[argBest (fun i j => decide (numAt xs i > numAt xs j)) (xs.size - 1)]? = some v → (∀ b o, s.heap.get? b = some o → h'.get? b = some o) → Q v { s with heap := h', toks := tk }) :
    wpAny (model prog w) A (call (.builtin "max") [.ref l]) Q E s := by
  refine call_max_walk (wpAny_pyIter_tuple hl ?_)
  refine ⟨_, [_, l], [_], _, _, _, _, rfl, Walks.tuple (A := A.in1) hh _ l (Nat.ne_of_lt hlt) (intItems xs),
    ⟨⟨_, Heap.get?_push_size _ rfl, rfl, rfl⟩, hl.push _⟩, fun c hc => ?_, by simpa [intItems] using hne, CmpOf.ints_gt (numAt xs) (fun _ _ => intItems_at), fun v h' tk hP hk => ?_⟩
  · show c < (s.heap.push _).objs.size
    rw [Heap.size_push]
    rcases List.mem_cons.mp hc with rfl | hc
    · exact Nat.lt_succ_self _
    · rcases List.mem_cons.mp hc with rfl | hc
      · exact Nat.lt_succ_of_lt hlt
      · cases hc
  · exact h v h' tk (by simpa [intItems] using hP) (old_kept2 hk)
theorem minT_raw {its : List Value} {ns : List Int} {Q : Value → Shared → Prop} (hh : A.handled = none) (hl : s.heap.IsTuple l its.toArray) (hlt : l < s.heap.objs.size) (hi : IntsAre its ns) (hne : 0 < ns.length)
    (h : ∀ h' tk M t', (∀ b o, s.heap.get? b = some o → h'.get? b = some o) → M ∈ ns → (∀ a, a ∈ ns → M ≤ a) → Q (.int M t') { s with heap := h', toks := tk }) : wpAny (model prog w) A (call (.builtin "min") [.ref l]) Q E s := by
  obtain ⟨xs, e⟩ := hi.allInts.items
  have hn : numsOf (intItems xs).toList = ns := by rw [← e]; exact hi.numsOf
  rw [nums_intItems] at hn
  subst hn
  rw [e] at hl
  have hsz : 0 < xs.size := by simpa using hne
  refine min_intTup hh hl hlt hsz fun v h' tk hv hk => ?_
  obtain ⟨t, rfl⟩ := intItems_at hv
  obtain ⟨h1, h2⟩ := argBest_lt (numAt xs) (xs.size - 1)
  refine h h' tk _ t hk ?_ fun a ha => ?_
  · rw [numAt_eq]; exact PySem.getD_mem (by rw [List.length_map, Array.length_toList]; omega)
  · obtain ⟨j, hj, rfl⟩ := mem_getD ha
    rw [List.length_map, Array.length_toList] at hj
    rw [← numAt_eq]; exact h2 j (by omega)
theorem maxT_raw {its : List Value} {ns : List Int} {Q : Value → Shared → Prop} (hh : A.handled = none) (hl : s.heap.IsTuple l its.toArray) (hlt : l < s.heap.objs.size) (hi : IntsAre its ns) (hne : 0 < ns.length)
    (h : ∀ h' tk M t', (∀ b o, s.heap.get? b = some o → h'.get? b = some o) → M ∈ ns → (∀ a, a ∈ ns → a ≤ M) → Q (.int M t') { s with heap := h', toks := tk }) : wpAny (model prog w) A (call (.builtin "max") [.ref l]) Q E s := by
  obtain ⟨xs, e⟩ := hi.allInts.items
  have hn : numsOf (intItems xs).toList = ns := by rw [← e]; exact hi.numsOf
  rw [nums_intItems] at hn
  subst hn
  rw [e] at hl
  have hsz : 0 < xs.size := by simpa using hne
  refine max_intTup hh hl hlt hsz fun v h' tk hv hk => ?_
  obtain ⟨t, rfl⟩ := intItems_at hv
  obtain ⟨h1, h2⟩ := argBest_gt (numAt xs) (xs.size - 1)
  refine h h' tk _ t hk ?_ fun a ha => ?_
  · rw [numAt_eq]; exact PySem.getD_mem (by rw [List.length_map, Array.length_toList]; omega)
  · obtain ⟨j, hj, rfl⟩ := mem_getD ha
    rw [List.length_map, Array.length_toList] at hj
    rw [← numAt_eq]; exact h2 j (by omega)
end
section
variable {X : Cx} {B : Hp} {L : HL} {Q : KQ}
theorem cr_minT2 (hc : X.calm = true) : CallR X (.builtin "min") (fun vs H Q => ∃ (a : Addr) (i j : Int), vs = [V.ref a] ∧ SqT X.K H a [V.int i, V.int j] ∧ Q (.int (if j < i then j else i)) H) := by
  intro pins s σ H vs us Q I r h
  obtain ⟨a, i, j, rfl, hs, q⟩ := h
  obtain ⟨its, rv, hl, _⟩ := I.tuple hs
  rw [Vals.ref1 r]
  have hlt : a < s.heap.objs.size := by obtain ⟨_, e, _⟩ := hl; exact Heap.lt_size e
  have rv' : Vals ([i, j].map V.int) its := rv
  refine minT_raw (I.ok.hd hc) hl hlt rv'.ints (by simp) fun h' tk m t' hk h1 h2 => ⟨.int _, H, I.kept hk, ⟨_, rfl⟩, ?_⟩
  have e : m = if j < i then j else i := by
    have a1 := h2 i (by simp)
    have a2 := h2 j (by simp)
    rcases List.mem_cons.mp h1 with rfl | h1
    · split <;> omega
    · rw [List.mem_singleton.mp h1] at a1 ⊢
      split <;> omega
  rw [e]; exact q
theorem cr_maxT2 (hc : X.calm = true) : CallR X (.builtin "max") (fun vs H Q => ∃ (a : Addr) (i j : Int), vs = [V.ref a] ∧ SqT X.K H a [V.int i, V.int j] ∧ Q (.int (if j > i then j else i)) H) := by
  intro pins s σ H vs us Q I r h
  obtain ⟨a, i, j, rfl, hs, q⟩ := h
  obtain ⟨its, rv, hl, _⟩ := I.tuple hs
  rw [Vals.ref1 r]
  have hlt : a < s.heap.objs.size := by obtain ⟨_, e, _⟩ := hl; exact Heap.lt_size e
  have rv' : Vals ([i, j].map V.int) its := rv
  refine maxT_raw (I.ok.hd hc) hl hlt rv'.ints (by simp) fun h' tk m t' hk h1 h2 => ⟨.int _, H, I.kept hk, ⟨_, rfl⟩, ?_⟩
  have e : m = if j > i then j else i := by
    have a1 := h2 i (by simp)
    have a2 := h2 j (by simp)
    rcases List.mem_cons.mp h1 with rfl | h1
    · split <;> omega
    · rw [List.mem_singleton.mp h1] at a1 ⊢
      split <;> omega
  rw [e]; exact q
theorem c_minT2 {p : Addr} {i j : Int} (h : Tp X.K B L p [.int i, .int j]) (q : Q (.int (if j < i then j else i)) B L) (hc : X.calm = true := by rfl) : kC X (.builtin "min") [.ref p] B L Q := ⟨_, cr_minT2 hc, fun H s => ⟨p, i, j, rfl, h.at s, _, _, s, q⟩⟩
theorem c_maxT2 {p : Addr} {i j : Int} (h : Tp X.K B L p [.int i, .int j]) (q : Q (.int (if j > i then j else i)) B L) (hc : X.calm = true := by rfl) : kC X (.builtin "max") [.ref p] B L Q := ⟨_, cr_maxT2 hc, fun H s => ⟨p, i, j, rfl, h.at s, _, _, s, q⟩⟩
end
section
variable {X : Cx} {σ : L2.St} {B : Hp} {L : HL} {D : KD} {tg a b c : Expr} {body : List Stmt} {p2 pos pos' : Pos}
theorem r_rng3 {R : It → Hp → HL → Prop} (hm : X.mg "range" = none) (h : kA X [a, b, c] σ B L fun vs B1 L1 => ∃ (i j k : Int) (n : Nat), vs = [.int i, .int j, .int k] ∧ RgC i j k n ∧ R (Itc i k n) B1 L1) (hg : Gl X "range" := by rfl) (hs1 : starEach [a, b, c] X.env = (false, eval a X.env) :: starEach [b, c] X.env := by rfl) (hpl : (backTo pos (starEach [b, c] X.env)).any (·.1) = false := by rfl) : kR X tg (.Call (.Name "range" p2) [a, b, c] [] pos) σ B L R :=
  ⟨_, pi_range3 hg hm pa_c hs1 hpl, fun H s => toA s h fun _ _ _ _ s ⟨i, j, k, n, e, h1, q⟩ => ⟨i, j, k, n, e, h1, _, _, s, q⟩⟩
theorem k_for_r3 (Pv : Nat → KN) (hp : PassesOwn (model X.prog X.w) X.A X.env X.xe) (hm : X.mg "range" = none)
    (h : kA X [a, b, c] σ B L fun vs B1 L1 => ∃ (i0 j k : Int) (n : Nat), vs = [.int i0, .int j, .int k] ∧ RgC i0 j k n ∧ Pv 0 σ B1 L1 ∧
      (∀ (i : Nat) σ B L, i < n → Pv i σ B L → kG X tg (.int (i0 + i * k)) σ B L fun σ2 B2 L2 => kSs X body σ2 B2 L2 { D with nx := Pv (i + 1), ct := Pv (i + 1), bk := D.nx }) ∧ ∀ σ B L, Pv n σ B L → D.nx σ B L)
    (hg : Gl X "range" := by rfl) (hs1 : starEach [a, b, c] X.env = (false, eval a X.env) :: starEach [b, c] X.env := by rfl) (hpl : (backTo pos (starEach [b, c] X.env)).any (·.1) = false := by rfl) (hc : X.calm = true := by rfl) (hs : ∀ x, foldedSetIterable (.Call (.Name "range" p2) [a, b, c] [] pos) X.env x = pure x := by intro _; rfl) :
    kS X (.For tg (.Call (.Name "range" p2) [a, b, c] [] pos) body [] pos') σ B L D :=
  k_for hp (r_rng3 hm (by
    obtain ⟨t, h1, h2⟩ := h
    refine ⟨_, pa_c, fun H s => toA s ⟨t, h1, h2⟩ fun v H' B' L' s' ⟨i0, j, k, n, e, b1, p0, ht, hd⟩ => ⟨B', L', s', i0, j, k, n, e, b1, n, _, _, Pv, walk_rangeC, p0, fun i σ B L H hi p s => trivial, fun i x σ B L H H' hi p s y => ?_, hd⟩⟩
    obtain ⟨rfl, rfl⟩ := y
    exact ⟨B, L, s, ht i σ B L hi p⟩) hg hs1 hpl) hc hs
end
section
variable {X : Cx} {σ : L2.St} {B : Hp} {L : HL} {Q : KQ} {elt iter c : Expr} {scope : Scope}
/-- [elt for x, y, z in a list if c] -/
theorem k_lcvf_l3 {α : Type} {x y z : Str} {i j k kk : Nat} {px py pz tpos : Pos} (val : α → V) (it : α → List V) (hN : X.N.Nodup) (ok : BlkOk X.N X.env.scope scope [(x, i), (y, j), (z, k)])
    (h : kE X iter σ B L fun v B1 L1 => ∃ (a : Addr) (M : List α) (Pv : Nat → List V → Hp → HL → Prop), v = .ref a ∧ M.length ≤ 16777216 ∧ Pv 0 [] B1 L1 ∧ (∀ n acc B L, Pv n acc B L → Ls X.K B L a (M.map val) ∧ acc.length ≤ n) ∧
      (∀ n acc B L m, M[n]? = some m → Pv n acc B L → ∃ t u v w, val m = .ref t ∧ Tp X.K B L t (it m) ∧ it m = [u, v, w] ∧ ∀ D s H0 C cl fp, kT (Bk X scope s H0 C cl fp) c (((σ.set i (some u)).set j (some v)).set k (some w)) B ((D, .lst acc) :: L) fun b B3 L3 => (b = true → ∀ s H0 C cl fp, kE (Bk X scope s H0 C cl fp) elt (((σ.set i (some u)).set j (some v)).set k (some w)) B3 L3 fun r B4 L4 => ∃ L5, L4 = (D, .lst acc) :: L5 ∧ Pv (n + 1) (acc ++ [r]) B4 L5) ∧ (b = false → ∃ L5, L3 = (D, .lst acc) :: L5 ∧ Pv (n + 1) acc B3 L5)) ∧
      ∀ acc B L D, Pv M.length acc B L → Q (.ref D) B ((D, .lst acc) :: L))
    (hp : ∀ s H0 C cl fp, Loc (Bk X scope s H0 C cl fp).env.scope x ∧ Loc (Bk X scope s H0 C cl fp).env.scope y ∧ Loc (Bk X scope s H0 C cl fp).env.scope z := by intro _ _ _ _ _; exact ⟨Or.inl rfl, Or.inl rfl, Or.inl rfl⟩)
    (hf : ∀ s H0 C cl fp, (Bk X scope s H0 C cl fp).env.scope.names.lookup x = some .local ∧ (Bk X scope s H0 C cl fp).env.scope.names.lookup y = some .local ∧ (Bk X scope s H0 C cl fp).env.scope.names.lookup z = some .local := by intro _ _ _ _ _; exact ⟨rfl, rfl, rfl⟩)
    (hn : ∀ s H0 C cl fp, (assignEach [.Name x px, .Name y py, .Name z pz] (Bk X scope s H0 C cl fp).env).length = 3 := by intro _ _ _ _ _; rfl) (hfi : ∀ s H0 C cl fp, (assignEach [.Name x px, .Name y py, .Name z pz] (Bk X scope s H0 C cl fp).env).findIdx? (·.1) = none := by intro _ _ _ _ _; rfl)
    (h1 : ∀ s H0 C cl fp, (assignEach [.Name x px, .Name y py, .Name z pz] (Bk X scope s H0 C cl fp).env).map (·.2) = assign (.Name x px) (Bk X scope s H0 C cl fp).env :: (assignEach [.Name y py, .Name z pz] (Bk X scope s H0 C cl fp).env).map (·.2) := by intro _ _ _ _ _; rfl)
    (h2 : ∀ s H0 C cl fp, (assignEach [.Name y py, .Name z pz] (Bk X scope s H0 C cl fp).env).map (·.2) = assign (.Name y py) (Bk X scope s H0 C cl fp).env :: (assignEach [.Name z pz] (Bk X scope s H0 C cl fp).env).map (·.2) := by intro _ _ _ _ _; rfl)
    (h3 : ∀ s H0 C cl fp, (assignEach [.Name z pz] (Bk X scope s H0 C cl fp).env).map (·.2) = assign (.Name z pz) (Bk X scope s H0 C cl fp).env :: (assignEach [] (Bk X scope s H0 C cl fp).env).map (·.2) := by intro _ _ _ _ _; rfl)
    (hi : X.N[i]? = some x := by rfl) (hj : X.N[j]? = some y := by rfl) (hk : X.N[k]? = some z := by rfl) (hc : X.calm = true := by rfl) (hs : ∀ x, foldedSetIterable iter X.env x = pure x := by intro _; rfl) :
    kL X elt (.Tuple [.Name x px, .Name y py, .Name z pz] kk tpos) iter [c] scope [(x, i), (y, j), (z, k)] σ B L Q :=
  k_lcf hN ok (r_list (by
    obtain ⟨t, k1, k2⟩ := h
    refine ⟨_, pe_c, fun H s => toE s ⟨t, k1, k2⟩ fun v H' B1 L1 s' ⟨a, M, Pv, e, hl, p0, hpv, ht, hd⟩ => ⟨B1, L1, s', a, M.map val, e, (hpv _ _ _ _ p0).1, (M.map val).length, _, _, fun n acc B L => Pv n acc B L, walk_list, p0, ?_, ?_, ?_⟩⟩
    · intro n acc B L H _ p s
      exact (hpv _ _ _ _ p).1.at s
    · rintro D n acc r B L H H' hn' p s ⟨rfl, hx⟩
      obtain ⟨m, hm, rfl⟩ : ∃ m, M[n]? = some m ∧ r = val m := by
        rw [List.getElem?_map] at hx
        cases hq : M[n]? with
        | none => rw [hq] at hx; cases hx
        | some m => rw [hq] at hx; exact ⟨m, rfl, (Option.some.inj hx).symm⟩
      obtain ⟨t, u, v, w, e1, hT, e2, hE⟩ := ht n acc B L m hm p
      have hnl := (List.getElem?_eq_some_iff.mp hm).1
      have hac := (hpv _ _ _ _ p).2
      refine ⟨_, _, s, fun sa Ha Ca cla fpa => ?_⟩
      rw [e1]
      refine g_tup (n := 3) (xs := it m) (show Tp (Bk X scope sa Ha Ca cla fpa).K B ((D, .lst acc) :: L) t (it m) from hT.imp id fun z => List.mem_cons_of_mem _ z) (by rw [e2]; rfl) ?_ hc (hn sa Ha Ca cla fpa) (hfi sa Ha Ca cla fpa)
      rw [e2]
      refine gs_cons (g_name i ?_ hN hi (hp sa Ha Ca cla fpa).1 (.inr (hf sa Ha Ca cla fpa).1)) (h1 sa Ha Ca cla fpa)
      refine gs_cons (g_name j ?_ hN hj (hp sa Ha Ca cla fpa).2.1 (.inr (hf sa Ha Ca cla fpa).2.1)) (h2 sa Ha Ca cla fpa)
      refine gs_cons (g_name k ?_ hN hk (hp sa Ha Ca cla fpa).2.2 (.inr (hf sa Ha Ca cla fpa).2.2)) (h3 sa Ha Ca cla fpa)
      refine gs_nil ⟨wipe3 σ i j k _ _ _, fun sb Hb Cb clb fpb => ?_⟩
      show kT _ _ ((((wipe σ [i, j, k]).set i _).set j _).set k _) _ _ _
      rw [wipe3']
      obtain ⟨t2, m1, m2⟩ := hE D sb Hb Cb clb fpb
      refine ⟨_, pt_c, fun H s => toT s ⟨t2, m1, m2⟩ fun b H2 B2 L2 s2 ⟨q1, q2⟩ => ⟨B2, L2, s2, fun hk => fun sc Hc Cc clc fpc => ?_, fun hk => q2 hk⟩⟩
      show kE _ _ ((((wipe σ [i, j, k]).set i _).set j _).set k _) _ _ _
      rw [wipe3']
      obtain ⟨t3, k3, k4⟩ := q1 hk sc Hc Cc clc fpc
      exact ⟨_, pe_c, fun H s => toE s ⟨t3, k3, k4⟩ fun y H3 B3 L3 s3 ⟨L5, e5, p5⟩ => ⟨B3, L3, s3, by omega, L5, e5, p5⟩⟩
    · intro acc B L D p
      rw [List.length_map] at p
      exact hd acc B L D p)) hc hs
end
/-- all that is new goes to the base -/
def rmK (H : Hp) (L : HL) : Hp := fun b => if b ∈ L.map (·.1) then none else H b
theorem Sat.allN {B : Hp} {L : HL} {H H' : Hp} (s : Sat B L H) (e : ∀ b o, H b = some o → H' b = some o) : Le B (rmK H' L) ∧ Sat (rmK H' L) L H' ∧ ∀ b o, H b = none → H' b = some o → rmK H' L b = some o := by
  have nk : ∀ b o, B b = some o → b ∉ L.map (·.1) := fun b o hb hm => by
    obtain ⟨p, hp, e1⟩ := List.mem_map.mp hm
    rw [← e1, s.nb p hp] at hb; cases hb
  have le : Le B (rmK H' L) := fun b o hb => by
    show (if b ∈ L.map (·.1) then none else H' b) = some o
    rw [if_neg (nk b o hb)]; exact e _ _ (s.ext _ _ hb)
  refine ⟨le, ⟨fun b o hb => ?_, fun p hp => e _ _ (s.own p hp), fun p hp => if_pos (List.mem_map.mpr ⟨p, hp, rfl⟩), s.nd⟩, fun b o h1 h2 => ?_⟩
  · have hb : (if b ∈ L.map (·.1) then none else H' b) = some o := hb
    split at hb
    · cases hb
    · exact hb
  · show (if b ∈ L.map (·.1) then none else H' b) = some o
    rw [if_neg (fun hm => ?_)]
    · exact h2
    · obtain ⟨p, hp, e1⟩ := List.mem_map.mp hm
      have := s.own p hp
      rw [e1, h1] at this
      cases this
section
variable {X : Cx} {σ : L2.St} {B : Hp} {L : HL} {Q : KQ} {e : Expr} {p1 p2 p3 pos : Pos}
/-- xs[::-1] -/
theorem k_revl {k : Nat} (h : kE X e σ B L fun v B1 L1 => ∃ a xs, v = .ref a ∧ Ls X.K B1 L1 a xs ∧ ∀ p, Q (.ref p) B1 ((p, .lst xs.reverse) :: L1)) : kE X (.Subscript e (.Slice none none (some (.UnaryOp .USub (.Constant (.int 1) k p1) p2)) p3) pos) σ B L Q :=
  ⟨_, pe_revL pe_c, fun H s => toE s h fun _ _ _ _ s ⟨a, xs, e, hl, q⟩ => ⟨a, xs, e, hl.at s, fun p hp => ⟨_, _, s.new hp, q p⟩⟩⟩
end
end Kv

/-! for i, c in enumerate(text). -/
namespace Kv
open PySem PySem.Spec PyProof.Rows L2
section
variable {X : Cx} {σ : L2.St} {B : Hp} {L : HL} {D : KD} {pos p2 pos' : Pos} {e : Expr} {body : List Stmt}
theorem k_for_es2 (hp : PassesOwn (model X.prog X.w) X.A X.env X.xe) (hm : X.mg "enumerate" = none) {t u : Expr} {kk : Nat} {tpos : Pos}
    (h : kE X e σ B L fun v B1 L1 => ∃ l, ∃ Pv : Nat → KN, v = .str (sOf l) ∧ Pv 0 σ B1 L1 ∧
      (∀ (i : Nat) c σ B L, l[i]? = some c → Pv i σ B L → kGs X [t, u] [.int i, .str (sOf [c])] σ B L fun σ2 B2 L2 => kSs X body σ2 B2 L2 { D with nx := Pv (i + 1), ct := Pv (i + 1), bk := D.nx }) ∧ ∀ σ B L, Pv l.length σ B L → D.nx σ B L)
    (hg : Gl X "enumerate" := by rfl) (hst : starEach [e] X.env = (false, eval e X.env) :: starEach [] X.env := by rfl) (hst' : starEach [e] X.env = [(false, eval e X.env)] := by rfl) (hc : X.calm = true := by rfl) (hs : ∀ x, foldedSetIterable (.Call (.Name "enumerate" p2) [e] [] pos) X.env x = pure x := by intro _; rfl)
    (hn : (assignEach [t, u] X.env).length = 2 := by rfl) (hfi : (assignEach [t, u] X.env).findIdx? (·.1) = none := by rfl) : kS X (.For (.Tuple [t, u] kk tpos) (.Call (.Name "enumerate" p2) [e] [] pos) body [] pos') σ B L D :=
  k_for hp (r_es hm (by
    obtain ⟨te, h1, h2⟩ := h
    refine ⟨_, pe_c, fun H s => toE s ⟨te, h1, h2⟩ fun v H' B' L' s' ⟨l, Pv, e, p0, ht, hd⟩ => ⟨B', L', s', l, e, (sOf l).cps.size, _, _, Pv, walk_es, p0, fun i σ B L H hi p s => trivial, fun i x σ B L H H' hi p s y => ?_, fun σ B L p => hd σ B L (by rw [sOf_size] at p; exact p)⟩⟩
    obtain ⟨T, c, rfl, hT, rfl, hx⟩ := y
    have hx' : l[i]? = some c := by simpa [sOf] using hx
    exact ⟨B, _, s.new hT, g_pair (ht i c σ B L hx' p) hc hn hfi⟩) hg hst hst') hc hs
end
end Kv

/-! [elt for x in a list if c], test and element change the heap. -/
namespace Kv
open PySem PySem.Spec PyProof.Rows L2
section
variable {X : Cx} {σ : L2.St} {B : Hp} {L : HL} {Q : KQ} {elt iter c : Expr} {scope : Scope}
/-- [elt for x in a list if c], test and element change the heap -/
theorem k_lcvf_l {x : Str} {j : Nat} {px : Pos} (hN : X.N.Nodup) (ok : BlkOk X.N X.env.scope scope [(x, j)])
    (h : kE X iter σ B L fun v B1 L1 => ∃ (a : Addr) (xs : List V) (Pv : Nat → List V → Hp → HL → Prop), v = .ref a ∧ xs.length ≤ 16777215 ∧ Pv 0 [] B1 L1 ∧ (∀ i acc B L, Pv i acc B L → Ls X.K B L a xs ∧ acc.length ≤ i) ∧
      (∀ i acc B L z, xs[i]? = some z → Pv i acc B L → ∀ D s H0 C cl fp, kT (Bk X scope s H0 C cl fp) c (σ.set j (some z)) B ((D, .lst acc) :: L) fun b B3 L3 => (b = true → ∀ s H0 C cl fp, kE (Bk X scope s H0 C cl fp) elt (σ.set j (some z)) B3 L3 fun y B4 L4 => ∃ L5, L4 = (D, .lst acc) :: L5 ∧ Pv (i + 1) (acc ++ [y]) B4 L5) ∧ (b = false → ∃ L5, L3 = (D, .lst acc) :: L5 ∧ Pv (i + 1) acc B3 L5)) ∧
      ∀ acc B L D, Pv xs.length acc B L → Q (.ref D) B ((D, .lst acc) :: L))
    (hp : ∀ s H0 C cl fp, Loc (Bk X scope s H0 C cl fp).env.scope x := by intro _ _ _ _ _; first | exact Or.inl rfl | exact Or.inr rfl) (hf : ∀ s H0 C cl fp, (Bk X scope s H0 C cl fp).fn x = true ∨ (Bk X scope s H0 C cl fp).env.scope.names.lookup x = some .local := by intro _ _ _ _ _; first | exact .inr rfl | exact .inl rfl)
    (hj : X.N[j]? = some x := by rfl) (hc : X.calm = true := by rfl) (hs : ∀ x, foldedSetIterable iter X.env x = pure x := by intro _; rfl) : kL X elt (.Name x px) iter [c] scope [(x, j)] σ B L Q :=
  k_lcf hN ok (r_list (by
    obtain ⟨t, h1, h2⟩ := h
    refine ⟨_, pe_c, fun H s => toE s ⟨t, h1, h2⟩ fun v H' B1 L1 s' ⟨a, xs, Pv, e, hl, p0, hpv, ht, hd⟩ => ⟨B1, L1, s', a, xs, e, (hpv _ _ _ _ p0).1, xs.length, _, _, Pv, walk_list, p0, fun i acc B L H hi p s => (hpv _ _ _ _ p).1.at s, ?_, hd⟩⟩
    rintro D i acc z B L H H' hi p s ⟨rfl, hx⟩
    refine ⟨_, _, s, fun sa Ha Ca cla fpa => g_name j ?_ hN hj (hp sa Ha Ca cla fpa) (hf sa Ha Ca cla fpa)⟩
    refine ⟨wipe1 σ j _, fun sb Hb Cb clb fpb => ?_⟩
    show kT _ _ ((wipe σ [j]).set j _) _ _ _
    rw [wipe1']
    have hal := (hpv _ _ _ _ p).2
    obtain ⟨t2, k1, k2⟩ := ht i acc B L z hx p D sb Hb Cb clb fpb
    refine ⟨_, pt_c, fun H s => toT s ⟨t2, k1, k2⟩ fun b H2 B2 L2 s2 ⟨q1, q2⟩ => ⟨B2, L2, s2, fun hk => fun sc Hc Cc clc fpc => ?_, fun hk => q2 hk⟩⟩
    show kE _ _ ((wipe σ [j]).set j _) _ _ _
    rw [wipe1']
    obtain ⟨t3, k3, k4⟩ := q1 hk sc Hc Cc clc fpc
    exact ⟨_, pe_c, fun H s => toE s ⟨t3, k3, k4⟩ fun y H3 B3 L3 s3 ⟨L5, e5, p5⟩ => ⟨B3, L3, s3, by omega, L5, e5, p5⟩⟩)) hc hs
end
end Kv

/-! list(range(m, n)); what an expression leaves goes to the base, new and apart from what is ours. -/
namespace Kv
open PySem PySem.Spec PyProof.Rows L2
/-- list(range(m, n)) -/
theorem k_lrange2 {X : Cx} {σ : L2.St} {B : Hp} {L : HL} {Q : KQ} {a b : Expr} {p p2 pos pos2 : Pos} (hm : X.mg "list" = none) (hr : X.mg "range" = none)
    (h : kE X a σ B L fun x B1 L1 => kE X b σ B1 L1 fun y B2 L2 => ∃ m n : Nat, x = .int m ∧ y = .int n ∧ n ≤ 16777216 ∧ m ≤ 16777216 ∧ ∀ q, Q (.ref q) B2 ((q, .lst ((List.range (n - m)).map fun i : Nat => V.int ((m + i : Nat) : Int))) :: L2))
    (hc : X.calm = true := by rfl) (hg : Gl X "list" := by rfl) (hg2 : Gl X "range" := by rfl) (na : starEach [a, b] X.env = (false, eval a X.env) :: starEach [b] X.env := by rfl)
    (nb : starEach [b] X.env = (false, eval b X.env) :: starEach [] X.env := by rfl) (hp : (backTo pos2 (starEach [b] X.env)).any (·.1) = false := by rfl)
    (na2 : starEach [.Call (.Name "range" p2) [a, b] [] pos2] X.env = (false, eval (.Call (.Name "range" p2) [a, b] [] pos2) X.env) :: starEach [] X.env := by rfl) :
    kE X (.Call (.Name "list" p) [.Call (.Name "range" p2) [a, b] [] pos2] [] pos) σ B L Q :=
  ⟨_, pe_listRg hc hg hm (prg_2 hg2 hr pe_c pe_c na nb hp) na2, fun H s => toE s h fun _ _ _ _ s q => toE s q fun _ _ _ _ s ⟨m, n, e1, e2, hn, hm, q⟩ => ⟨m, n, e1, e2, RgOk.of_le (by omega) (by omega) (by omega) (by omega), fun z hz => ⟨_, _, s.new hz, by
    have e2 : rgV (m : Int) (n : Int) = (List.range (n - m)).map fun i : Nat => V.int ((m + i : Nat) : Int) := by
      unfold rgV
      rw [show ((n : Int) - (m : Int)).toNat = n - m by omega]
      exact List.map_congr_left fun i _ => by rw [Int.natCast_add]
    rw [e2]; exact q z⟩⟩⟩
section
variable {X : Cx} {σ : L2.St} {B : Hp} {L : HL} {Q : KQ} {e : Expr} {ss : List Stmt} {D : KD}
theorem sat_hd {p : Addr} {o : HO} {L : HL} {H : Hp} (s : Sat B ((p, o) :: L) H) : p ∉ L.map (·.1) := by
  have := s.nd
  rw [List.map_cons, List.nodup_cons] at this
  exact this.1
/-- .. the first of what an expression leaves -/
theorem e_fz1n (h : kE X e σ B L fun v B1 L1 => ∃ p o L2, L1 = (p, o) :: L2 ∧ ∀ B', Le B1 B' → (B1 p = none ∧ p ∉ L2.map (·.1)) → B' p = some o → Q v B' L2) : kE X e σ B L Q :=
  ⟨_, pe_c, fun H s => toE s h fun v H1 B1 L1 s1 ⟨p, o, L2, e, q⟩ => by
    subst e
    exact ⟨_, L2, s1.fz.2.2, q _ s1.fz.1 ⟨s1.nb _ List.mem_cons_self, sat_hd s1⟩ s1.fz.2.1⟩⟩
/-- a named object goes to the base -/
theorem k_fzn {p : Addr} {o : HO} (h : ∀ B', Le B B' → (B p = none ∧ p ∉ L.map (·.1)) → B' p = some o → kSs X ss σ B' L D) : kSs X ss σ B ((p, o) :: L) D :=
  ⟨_, pss_c, fun H s => ⟨_, L, D, s.fz.2.2, h _ s.fz.1 ⟨s.nb _ List.mem_cons_self, sat_hd s⟩ s.fz.2.1, fun _ _ q => q, fun _ _ q => q, fun _ _ q => q, fun _ _ q => q⟩⟩
end
/-- new, and no part of the drawing -/
theorem nw_new {H B B3 : Hp} {D p1 pt : Addr} {o : HO} {L : HL} (l : Le (rm2 H D p1) B) (n : B pt = none ∧ pt ∉ L.map (·.1)) (hD : D ∈ L.map (·.1)) (h1 : p1 ∈ L.map (·.1)) (e : B3 pt = some o) : nwH H B3 pt = some o := by
  refine nw_of ?_ e
  cases h : H pt with
  | none => rfl
  | some x =>
    have a1 : pt ≠ D := fun z => n.2 (z ▸ hD)
    have a2 : pt ≠ p1 := fun z => n.2 (z ▸ h1)
    have := l pt x (by rw [rm2_ne a1 a2]; exact h)
    rw [n.1] at this; cases this
end Kv

/-! [elt for x in range(n) if c]. -/
namespace Kv
open PySem PySem.Spec PyProof.Rows L2
section
variable {X : Cx} {σ : L2.St} {B : Hp} {L : HL} {Q : KQ} {elt e c : Expr} {scope : Scope} {p2 pos' : Pos}
/-- [elt for x in range(n) if c], test and element change the heap -/
theorem k_lcvf_r1 {x : Str} {j : Nat} {px : Pos} (hN : X.N.Nodup) (ok : BlkOk X.N X.env.scope scope [(x, j)]) (hm : X.mg "range" = none)
    (h : kE X e σ B L fun v B1 L1 => ∃ (n : Nat) (Pv : Nat → List V → Hp → HL → Prop), v = .int n ∧ n < 2 ^ 24 ∧ Pv 0 [] B1 L1 ∧ (∀ i acc B L, Pv i acc B L → acc.length ≤ i) ∧
      (∀ i acc B L, i < n → Pv i acc B L → ∀ D s H0 C cl fp, kT (Bk X scope s H0 C cl fp) c (σ.set j (some (.int i))) B ((D, .lst acc) :: L) fun b B3 L3 => (b = true → ∀ s H0 C cl fp, kE (Bk X scope s H0 C cl fp) elt (σ.set j (some (.int i))) B3 L3 fun y B4 L4 => ∃ L5, L4 = (D, .lst acc) :: L5 ∧ Pv (i + 1) (acc ++ [y]) B4 L5) ∧ (b = false → ∃ L5, L3 = (D, .lst acc) :: L5 ∧ Pv (i + 1) acc B3 L5)) ∧
      ∀ acc B L D, Pv n acc B L → Q (.ref D) B ((D, .lst acc) :: L))
    (hp : ∀ s H0 C cl fp, Loc (Bk X scope s H0 C cl fp).env.scope x := by intro _ _ _ _ _; first | exact Or.inl rfl | exact Or.inr rfl) (hf : ∀ s H0 C cl fp, (Bk X scope s H0 C cl fp).fn x = true ∨ (Bk X scope s H0 C cl fp).env.scope.names.lookup x = some .local := by intro _ _ _ _ _; first | exact .inr rfl | exact .inl rfl)
    (hg : Gl X "range" := by rfl) (hst : starEach [e] X.env = (false, eval e X.env) :: starEach [] X.env := by rfl) (hst' : starEach [e] X.env = [(false, eval e X.env)] := by rfl)
    (hj : X.N[j]? = some x := by rfl) (hc : X.calm = true := by rfl) (hs : ∀ x, foldedSetIterable (.Call (.Name "range" p2) [e] [] pos') X.env x = pure x := by intro _; rfl) : kL X elt (.Name x px) (.Call (.Name "range" p2) [e] [] pos') [c] scope [(x, j)] σ B L Q :=
  k_lcf hN ok (r_rng1 hm (by
    obtain ⟨t, h1, h2⟩ := h
    refine ⟨_, pe_c, fun H s => toE s ⟨t, h1, h2⟩ fun v H' B1 L1 s' ⟨n, Pv, e, hl, p0, hpv, ht, hd⟩ => ⟨B1, L1, s', (n : Int), e, by omega, by omega, (n : Int).toNat, _, _, Pv, walk_range, p0, fun i acc B L H hi p s => trivial, ?_, ?_⟩⟩
    · rintro D i acc x B L H H' hi p s ⟨rfl, rfl⟩
      have hi' : i < n := by omega
      have e0 : ((0 : Int) + (i : Int)) = (i : Int) := Int.zero_add _
      refine ⟨_, _, s, fun sa Ha Ca cla fpa => g_name j ?_ hN hj (hp sa Ha Ca cla fpa) (hf sa Ha Ca cla fpa)⟩
      refine ⟨wipe1 σ j _, fun sb Hb Cb clb fpb => ?_⟩
      show kT _ _ ((wipe σ [j]).set j (some (.int ((0 : Int) + (i : Int))))) _ _ _
      rw [wipe1', e0]
      have hal := hpv _ _ _ _ p
      obtain ⟨t2, k1, k2⟩ := ht i acc B L hi' p D sb Hb Cb clb fpb
      refine ⟨_, pt_c, fun H s => toT s ⟨t2, k1, k2⟩ fun b H2 B2 L2 s2 ⟨q1, q2⟩ => ⟨B2, L2, s2, fun hk => fun sc Hc Cc clc fpc => ?_, fun hk => q2 hk⟩⟩
      show kE _ _ ((wipe σ [j]).set j (some (.int ((0 : Int) + (i : Int))))) _ _ _
      rw [wipe1', e0]
      obtain ⟨t3, k3, k4⟩ := q1 hk sc Hc Cc clc fpc
      exact ⟨_, pe_c, fun H s => toE s ⟨t3, k3, k4⟩ fun y H3 B3 L3 s3 ⟨L5, e5, p5⟩ => ⟨B3, L3, s3, by omega, L5, e5, p5⟩⟩
    · intro acc B L D p
      exact hd acc B L D (by simpa using p)) hg hst hst') hc hs
end
end Kv

/-! for i, c in enumerate(reversed(text)). -/
namespace KvR
open PySem PySem.Spec PyProof.Rows
open Sem (wp)
section
variable {prog : Program} {w : World} {A : Around} {E : Value → Shared → Prop} {s : Shared}
theorem nextOf_item {it : Addr} {i : Nat} {x : Str} {t : Tok} {c : Nat} {Q : Value → Shared → Prop} (hit : IsRs s.heap it x t (i : Int)) (hx : x.cps[i]? = some c) (hsz : x.length ≤ sizeLine)
    (hQ : ∀ h' tk u, IsRs h' it x t ((i : Int) - 1) → Heap.SameBut it s.heap h' → Q (.str ⟨#[c]⟩ u) { s with heap := h', toks := tk }) : wpAny (model prog w) A (Builtin.SmallTypes.nextOf (.ref it)) Q E s := by
  obtain ⟨o, ho, hc, hd⟩ := id hit
  have hi : i < x.length := (Array.getElem?_eq_some_iff.mp hx).1
  have hT : s.TypeIs (.str x t) "str" := typeIs_str s x t
  rw [sizeLine_eq] at hsz
  unfold Builtin.SmallTypes.nextOf
  refine wpAny_bind (wpAny_callSpecial?_slot (name := Str.ofString "__next__") hit.ty RT.slot_rt_next (wpAny_call_entry RT.slot_rt_next hit.ty RT.entry_rt_next ?_ (RT.args_rt_next _)))
  unfold Builtin.«reversed.__next__»
  refine wpAny_bind (wpAny_of_eq (a := (Value.ref it, [])) rfl ?_)
  refine wpAny_bind (wpAny_field ho hd (x := .str x t) rfl ?_)
  refine wpAny_bind (wpAny_field ho hd (x := rawInt (i : Int)) rfl ?_)
  show wpAny _ _ (if (i : Int) < 0 then _ else _) _ _ s
  rw [if_neg (by omega)]
  refine wpAny_bind (wpAny_specialOf hT has_get ?_)
  try rw [if_neg (by decide)]
  refine wpAny_bind (wpAny_mkInt ?_)
  refine wpAny_bind (wpAny_attempt ?_)
  have fin : seqIndex? (i : Int) x.length = some i := PySem.StrLaws.seqIndex_nonneg (by omega) (by omega)
  have e1 : decide ((i : Int) < -(2 ^ 63 : Int)) = false := decide_eq_false (by omega)
  have e2 : decide ((i : Int) ≥ 2 ^ 63) = false := decide_eq_false (by omega)
  refine getItem_str (s := { s with toks := s.toks + 1 }) (c := c) (by rw [e1, e2] <;> rfl) (by rw [fin]; exact hx) ?_
  try dsimp only
  refine wpAny_bind (wpAny_field (s := { s with toks := s.toks + 1 + 1 }) ho hd (x := rawInt (i : Int)) rfl ?_)
  try dsimp only
  refine wpAny_bind (wpAny_setField (s := { s with toks := s.toks + 1 + 1 }) ho hd (by simp) ?_)
  first
  | refine wpAny_pure ⟨_, rfl, wpAny_pure (hQ _ _ _ ?_ (Heap.SameBut.update ..))⟩
  | refine wpAny_bind (wpAny_pure (wpAny_pure ⟨_, rfl, wpAny_pure (hQ _ _ _ ?_ (Heap.SameBut.update ..))⟩))
  exact ⟨_, Heap.get?_update_self _ ho (Obj.isFreed_of_fields (Obj.data_mapFields hd _)), (Obj.cls_mapFields ..).trans hc, by
    rw [Obj.data_mapFields hd]; simp⟩
theorem nextOf_end {it : Addr} {x : Str} {t : Tok} {Q : Value → Shared → Prop} (hh : A.handled = none) (hit : IsRs s.heap it x t (-1))
    (hE : ∀ h' e, Heap.ExtBut it s.heap h' → (∃ o, h'.get? e = some o ∧ o.cls = .type "StopIteration") → E (.ref e) { s with heap := h' }) : wpAny (model prog w) A (Builtin.SmallTypes.nextOf (.ref it)) Q E s := by
  obtain ⟨o, ho, hc, hd⟩ := id hit
  unfold Builtin.SmallTypes.nextOf
  refine wpAny_bind (wpAny_callSpecial?_slot (name := Str.ofString "__next__") hit.ty RT.slot_rt_next (wpAny_call_entry RT.slot_rt_next hit.ty RT.entry_rt_next ?_ (RT.args_rt_next _)))
  unfold Builtin.«reversed.__next__»
  refine wpAny_bind (wpAny_of_eq (a := (Value.ref it, [])) rfl ?_)
  refine wpAny_bind (wpAny_field ho hd (x := .str x t) rfl ?_)
  refine wpAny_bind (wpAny_field ho hd (x := rawInt (-1)) rfl ?_)
  show wpAny _ _ (if (-1 : Int) < 0 then _ else _) _ _ s
  rw [if_pos (by decide)]
  refine wpAny_bind (wpAny_rule ?_)
  refine wpAny_bind ?_
  wp_delta
  refine wpAny_bind (wpAny_setField ho hd (by simp) ?_)
  have ho2 := Heap.get?_update_self (Obj.mapFields (·.setIfInBounds 1 (rawInt (-1)))) ho (Obj.isFreed_of_fields (Obj.data_mapFields hd _))
  refine wpAny_setField (s := { s with heap := s.heap.update it (Obj.mapFields (·.setIfInBounds 1 (rawInt (-1)))) }) ho2 (Obj.data_mapFields hd _) (by simp) ?_
  first
  | show wpAny _ _ (newExc (.type "StopIteration") [] >>= _) _ _ _
  | (refine wpAny_bind ?_; show wpAny _ _ (newExc (.type "StopIteration") [] >>= _) _ _ _)
  | (refine wpAny_bind ?_; wp_delta; show wpAny _ _ (newExc (.type "StopIteration") [] >>= _) _ _ _)
  refine wpAny_bind ?_
  simp only [newExc, newTuple]
  refine wpAny_bind (wpAny_newObj_type ?_ (by size_fits))
  refine wpAny_bind (m := firstArgMember _ _) (wpAny_of_eq (a := Value.none) (by first | rfl | (simp only [firstArgMember]; rfl)) ?_)
  refine wpAny_newObj_type ?_ (by size_fits)
  simp only [raiseNew]
  refine wpAny_bind (wpAny_handled ?_)
  first | rw [show A.in1.handled = none from hh] | rw [hh]
  refine wpAny_bind (wpAny_pure (wpAny_throw ?_))
  refine hE _ _ ?_ ⟨_, Heap.get?_push_size _ rfl, rfl⟩
  refine ((?_ : Heap.ExtBut it s.heap _).push _).push _
  exact fun b ob hb e => (Heap.get?_update_other _ _ (Ne.symm hb)).trans ((Heap.get?_update_other _ _ (Ne.symm hb)).trans e)
end
theorem draws_rs {prog : Program} {w : World} {A : Around} (hh : A.handled = none) (it : Addr) (x : Str) (t : Tok) (hsz : x.length ≤ sizeLine) :
    Draws prog w A it [it] x.cps.size (fun i v => ∃ c u, x.cps[x.cps.size - 1 - i]? = some c ∧ v = .str ⟨#[c]⟩ u) (fun i h => IsRs h it x t ((x.cps.size : Int) - 1 - (i : Nat))) where
  live := fun _ _ st => let ⟨o, ho, _⟩ := st; ⟨o, ho⟩
  frame := fun _ _ _ st hk => let ⟨o, ho, r⟩ := st; ⟨o, hk it (by simp) o ho, r⟩
  item := fun i s Q E hi st hQ => by
    have e0 : ((x.cps.size : Int) - 1 - (i : Nat)) = ((x.cps.size - 1 - i : Nat) : Int) := by omega
    rw [e0] at st
    have hx : x.cps[x.cps.size - 1 - i]? = some (x.cps[x.cps.size - 1 - i]'(by omega)) := by simp [show x.cps.size - 1 - i < x.cps.size by omega]
    refine nextOf_item st hx hsz fun h' tk u hit hs => ?_
    refine hQ _ h' tk ⟨_, u, hx, rfl⟩ ?_ hs
    have e1 : ((x.cps.size : Int) - 1 - ((i + 1 : Nat) : Int)) = ((x.cps.size - 1 - i : Nat) : Int) - 1 := by omega
    rw [e1]; exact hit
  done := fun s Q E st hE => by
    have e0 : ((x.cps.size : Int) - 1 - (x.cps.size : Nat)) = -1 := by omega
    rw [e0] at st
    exact nextOf_end hh st hE
end KvR
namespace KvR
open PySem PySem.Spec PyProof.Rows
open Sem (wp)
open AutoSeq1 (wpAny_loadPart')
theorem meets_enumerate_newR (r : Addr) (x : Str) (t : Tok) (i : Int) (o : Obj) (hc : o.cls = .type "reversed") (hd : o.data = .fields #[.str x t, rawInt i]) :
    Meets (Builtin.«enumerate.__new__» ⟨[.type "enumerate", .ref r], []⟩) (fun _ R s => s.heap.get? r = some o ∧
      R (.ok (.ret (.ref s.heap.objs.size)))
        { s with heap := s.heap.push { cls := .type "enumerate", data := .fields #[.none, .bool false, .ref r, rawInt 0, .none, .none] } }) :=
  .of_wp fun prog w A R s h => by
    obtain ⟨hp, g, d, tk, os⟩ := s; obtain ⟨hl, h⟩ := h
    have hsub := sub_enumerate
    have hR : IsRs (Shared.heap ⟨hp, g, d, tk, os⟩) r x t i := ⟨o, hl, hc, hd⟩
    wp_walk using wpAny_loadPart' hl
    refine wpAny_stack_any fun st => wpAny_pure ?_
    split
    · rename_i c _ _ _ _ _
      cases (c == Value.type "enumerate")
      · wp_walk using wpAny_loadPart' hl, iter_self hR
        exact ⟨_, rfl, h⟩
      · wp_walk using wpAny_loadPart' hl, iter_self hR
        exact ⟨_, rfl, h⟩
    · wp_walk using wpAny_loadPart' hl, iter_self hR
      exact ⟨_, rfl, h⟩
end KvR
namespace KvR
open PySem PySem.Spec PyProof.Rows
section
variable {prog : Program} {w : World} {A : Around} {E : Value → Shared → Prop} {s : Shared}
theorem call_enumerate_rs {r : Addr} {x : Str} {t : Tok} {i : Int} {Q : Value → Shared → Prop} (hr : IsRs s.heap r x t i)
    (h : ∀ h', IsEnum h' s.heap.objs.size r 0 .none → h'.objs.size = s.heap.objs.size + 1 → (∀ b o, s.heap.get? b = some o → h'.get? b = some o) → Q (.ref s.heap.objs.size) { s with heap := h' }) :
    wpAny (model prog w) A (call (.type "enumerate") [.ref r]) Q E s := by
  obtain ⟨o, ho, hc, hd⟩ := hr
  refine callType_new F.called_enumerate (by decide) (F.typeCall_enumerate_1 _) (F.newCall_enumerate_1 _) (fun obj => F.args_object_init_2 obj _) F.entry_enumerate_new
    (meets_enumerate_newR r x t i o hc hd) ⟨ho, ?_⟩
  have he : IsEnum (s.heap.push { cls := .type "enumerate", data := .fields #[.none, .bool false, .ref r, rawInt 0, .none, .none] }) s.heap.objs.size r 0 .none := Heap.get?_push_size _ rfl
  exact ⟨⟨_, he, rfl⟩, h _ he (Heap.size_push ..) fun b o y => Heap.get?_push_of_some _ y⟩
end
end KvR
namespace Kv
open PySem PySem.Spec PyProof.Rows L2
/-- a text's signs from behind with their places, each pair a new tuple -/
def Ier (x : Str) : It := ⟨fun i _ => i < x.cps.size, fun i H v H' => ∃ T c, v = .ref T ∧ H T = none ∧ H' = upd H T (.tup [.int (i : Nat), .str ⟨#[c]⟩]) ∧ x.cps[x.cps.size - 1 - i]? = some c, fun i _ => i = x.cps.size⟩
theorem turn_er {P : Program} {w : World} {K : PySem.W.Frag} {elts : List Expr} {kk : Nat} {tpos : Pos} (x : Str) (t : Tok) (e it : Addr) (hsz : x.length ≤ sizeLine) :
    Turn P w K (.Tuple elts kk tpos) (Ier x) [e, it] e (fun i h => (∃ old, IsEnum h e it ((i : Nat) : Int) old) ∧ KvR.IsRs h it x t ((x.cps.size : Int) - 1 - (i : Nat)) ∧ e ≠ it) where
  mem := by simp
  obj := fun i h st b hb => by
    obtain ⟨⟨old, he⟩, ⟨o, ho, hc, hd⟩, _⟩ := st
    have e' : b = e ∨ b = it := by simpa using hb
    rcases e' with z | z
    · subst z; exact ⟨_, he, fun v q => nomatch q⟩
    · subst z; exact ⟨o, ho, fun v q => by rw [hd] at q; cases q⟩
  keep := fun i h h' st k => by
    obtain ⟨⟨old, he⟩, ⟨o, ho, r⟩, hne⟩ := st
    exact ⟨⟨old, k e (by simp) _ he⟩, ⟨o, k it (by simp) o ho, r⟩, hne⟩
  item := by
    intro X hP hw hK hc i pins s σ H E I hf st hg
    subst hP hw hK
    obtain ⟨⟨old, he⟩, hit, hne⟩ := st
    have D := KvR.draws_rs (prog := X.prog) (w := X.w) (A := X.A.in1) (I.ok.hd hc) it x t hsz
    have hel : e < s.heap.objs.size := Heap.lt_size he
    have hil : it < s.heap.objs.size := by obtain ⟨_, q, _⟩ := hit; exact Heap.lt_size q
    refine wpAny_pyNext_enum_itemD D he hit hg hne (by simpa using hne) fun v h' tk hv ho hit' hT hsz' hk => ?_
    obtain ⟨c, u, hcx, rfl⟩ := hv
    refine ⟨_, rfl, wpAny_letOwnedTupleGo_enum (s := { s with heap := h', toks := tk + 1 }) ho fun h2 he2 sb => ?_⟩
    have hT2 : h2.get? s.heap.objs.size = some { cls := .type "tuple", data := .seq #[.int i tk, .str ⟨#[c]⟩ u] } := (sb.2 _ (Nat.ne_of_gt hel)).trans hT
    have nw : ObjOk X.prog X.w (upd H s.heap.objs.size (.tup [.int (i : Nat), .str ⟨#[c]⟩])) h2 s.heap.objs.size (.tup [.int (i : Nat), .str ⟨#[c]⟩]) :=
      ⟨by show 2 ≤ sizeLine; decide, [.int i tk, .str ⟨#[c]⟩ u], .cons ⟨_, rfl⟩ (.cons ⟨_, rfl⟩ .nil), ⟨_, hT2, rfl, _, rfl⟩⟩
    have J : Inv X pins σ (upd H s.heap.objs.size (.tup [.int (i : Nat), .str ⟨#[c]⟩])) { s with heap := h2, toks := tk + 1 } :=
      I.turnedNew (ch := [e, it]) (fun b ob hb q => (sb.2 b (fun z => hb (by simp [z]))).trans (hk b ob (fun z => hb (by simp [z])) (fun z => hb (by simp [z])) q)) hf (Nat.le_refl _) nw
    refine ⟨.ref s.heap.objs.size, _, J, rfl, ⟨_, c, rfl, I.hok.fresh (Nat.le_refl _), rfl, hcx⟩, ⟨⟨.str ⟨#[c]⟩ u, ?_⟩, ?_, hne⟩, fun b hb => ?_⟩
    · have e1 : ((i + 1 : Nat) : Int) = (i : Int) + 1 := by omega
      rw [e1]; exact he2
    · obtain ⟨o, ho1, r⟩ := hit'
      exact ⟨o, (sb.2 it (Ne.symm hne)).trans ho1, r⟩
    · have hb' : b < s.heap.objs.size := by
        have e' : b = e ∨ b = it := by simpa using hb
        rcases e' with z | z
        · rw [z]; exact hel
        · rw [z]; exact hil
      rw [upd_ne (Nat.ne_of_lt hb')]
      exact (hf b hb).1
  done := by
    intro X hP hw hK hc i pins s σ H E I hf st hg
    subst hP hw hK
    obtain ⟨⟨old, he⟩, hit, hne⟩ := st
    have D := KvR.draws_rs (prog := X.prog) (w := X.w) (A := X.A.in1) (I.ok.hd hc) it x t hsz
    obtain ⟨f0, f1, f2, f3, f4, f5⟩ := hf it (by simp)
    have hi : i = x.cps.size := hg
    subst hi
    exact wpAny_pyNext_enum_endD D he hit fun h' eb => ⟨rfl, I.turned (t' := s.toks) (fun b o hb q => eb b o hb q) f0 f1 f3 f4 f5⟩
  self := fun A i s Q E st h => let ⟨⟨_, he⟩, _⟩ := st; wpAny_pyIter_enum he h
theorem walk_er {x : Str} : Walk (Ier x) x.cps.size (fun _ => True) (fun i H v H' => ∃ T c, v = .ref T ∧ H T = none ∧ H' = upd H T (.tup [.int (i : Nat), .str ⟨#[c]⟩]) ∧ x.cps[x.cps.size - 1 - i]? = some c) := ⟨fun _ _ hi _ => hi, fun _ _ => rfl, fun _ _ _ _ _ _ y => y⟩
theorem pi_er {X : Cx} {e : Expr} {te : TE} {p p2 pos pos2 tpos : Pos} {elts : List Expr} {kk : Nat} (hg : Gl X "enumerate") (hm : X.mg "enumerate" = none) (hg2 : Gl X "reversed") (hm2 : X.mg "reversed" = none) (he : PE X e te)
    (hs : starEach [e] X.env = (false, eval e X.env) :: starEach [] X.env := by rfl) (hs' : starEach [e] X.env = [(false, eval e X.env)] := by rfl)
    (ho : starEach [.Call (.Name "reversed" p2) [e] [] pos2] X.env = (false, eval (.Call (.Name "reversed" p2) [e] [] pos2) X.env) :: starEach [] X.env := by rfl) :
    PI X (.Tuple elts kk tpos) (.Call (.Name "enumerate" p) [.Call (.Name "reversed" p2) [e] [] pos2] [] pos) (fun σ H R => te σ H fun v H1 => ∃ x, v = .str x ∧ x.length ≤ sizeLine ∧ R (Ier x) H1) := by
  refine ⟨fun pins s σ H R I h => ?_⟩
  refine Call_ (ld_blt I hg hm boot_enumerate (PyProof.Rows.callWith_type1 (args_cons (Call_ (ld_blt I hg2 hm2 PyProof.Rows.boot_reversed (PyProof.Rows.callWith_type1 (thn ((pa_cons he pa_nil hs).run pos2 pins s σ H (fun vs H1 => ∃ x, vs = [.str x] ∧ x.length ≤ sizeLine ∧ R (Ier x) H1) I ?_) fun us s1 ⟨vs, H1, I1, r1, q1⟩ => ?_) hs' rfl))) ho) ho rfl))
  · have hh : (fun v H1 => ∃ x, v = V.str x ∧ x.length ≤ sizeLine ∧ R (Ier x) H1) = fun v H1 => tNil σ H1 fun xs H2 => ∃ x, v :: xs = [V.str x] ∧ x.length ≤ sizeLine ∧ R (Ier x) H2 := by
      funext v H1
      simp [tNil]
    show te σ H _
    rw [← hh]
    exact h
  obtain ⟨x, ex, hl, q⟩ := q1
  subst ex
  cases r1 with
  | cons r rr =>
    cases rr
    obtain ⟨t, rfl⟩ := r
    refine KvR.call_rev (fun A E Q hq => ?_) fun tk => ?_
    · have hn := line63
      exact P.len_str (by omega) (hq _ _)
    · have I2 : Inv X pins σ H1 { s1 with heap := s1.heap.push (KvR.rsObj x t ((x.length : Int) - 1)), toks := tk } := I1.kept (t' := tk) fun b o z => Heap.get?_push_of_some _ z
      have st : KvR.IsRs (s1.heap.push (KvR.rsObj x t ((x.length : Int) - 1))) s1.heap.objs.size x t ((x.length : Int) - 1) := ⟨_, Heap.get?_push_size _ rfl, rfl, rfl⟩
      refine args_nil ?_
      refine KvR.call_enumerate_rs (s := { s1 with heap := s1.heap.push (KvR.rsObj x t ((x.length : Int) - 1)), toks := tk }) st fun h' he' hsz hk => wpAny_pyIter_enum he' ?_
      have I3 : Inv X pins σ H1 { s1 with heap := h', toks := tk } := I2.kept (t' := tk) hk
      have hz : (s1.heap.push (KvR.rsObj x t ((x.length : Int) - 1))).objs.size = s1.heap.objs.size + 1 := Heap.size_push ..
      have he2 : IsEnum h' (s1.heap.objs.size + 1) s1.heap.objs.size 0 .none := by rw [← hz]; exact he'
      have e0 : ((x.cps.size : Int) - 1 - ((0 : Nat) : Int)) = (x.length : Int) - 1 := by show _ = (x.cps.size : Int) - 1; omega
      refine ⟨s1.heap.objs.size + 1, [s1.heap.objs.size + 1, s1.heap.objs.size], _, _, H1, by rw [← hz], I3, turn_er x t (s1.heap.objs.size + 1) s1.heap.objs.size hl, ⟨⟨.none, he2⟩, ?_, Nat.succ_ne_self _⟩, fun b hb => ?_, q⟩
      · rw [e0]
        obtain ⟨o, ho, r⟩ := st
        exact ⟨o, hk _ _ ho, r⟩
      · have hle : s1.heap.objs.size ≤ b := by
          have e' : b = s1.heap.objs.size + 1 ∨ b = s1.heap.objs.size := by simpa using hb
          rcases e' with z | z
          · rw [z]; exact Nat.le_add_right _ _
          · rw [z]; exact Nat.le_refl _
        exact I1.fpOk hle (I1.hok.fresh hle)
section
variable {X : Cx} {σ : L2.St} {B : Hp} {L : HL} {D : KD} {pos p p2 pos2 pos' : Pos} {e : Expr} {body : List Stmt}
theorem r_er {R : It → Hp → HL → Prop} {elts : List Expr} {kk : Nat} {tpos : Pos} (hm : X.mg "enumerate" = none) (hm2 : X.mg "reversed" = none) (h : kE X e σ B L fun v B1 L1 => ∃ l, v = .str (sOf l) ∧ l.length ≤ 16777216 ∧ R (Ier (sOf l)) B1 L1) (hg : Gl X "enumerate" := by rfl) (hg2 : Gl X "reversed" := by rfl)
    (hs : starEach [e] X.env = (false, eval e X.env) :: starEach [] X.env := by rfl) (hs' : starEach [e] X.env = [(false, eval e X.env)] := by rfl) (ho : starEach [.Call (.Name "reversed" p2) [e] [] pos2] X.env = (false, eval (.Call (.Name "reversed" p2) [e] [] pos2) X.env) :: starEach [] X.env := by rfl) :
    kR X (.Tuple elts kk tpos) (.Call (.Name "enumerate" p) [.Call (.Name "reversed" p2) [e] [] pos2] [] pos) σ B L R := ⟨_, pi_er hg hm hg2 hm2 pe_c hs hs' ho, fun H s => toE s h fun _ _ _ _ s ⟨l, e, hl, q⟩ => ⟨_, e, by rw [sOf_len]; exact small hl, _, _, s, q⟩⟩
/-- for i, c in enumerate(reversed(text)) -/
theorem k_for_er2 (hp : PassesOwn (model X.prog X.w) X.A X.env X.xe) (hm : X.mg "enumerate" = none) (hm2 : X.mg "reversed" = none) {t u : Expr} {kk : Nat} {tpos : Pos}
    (h : kE X e σ B L fun v B1 L1 => ∃ l, ∃ Pv : Nat → KN, v = .str (sOf l) ∧ l.length ≤ 16777216 ∧ Pv 0 σ B1 L1 ∧
      (∀ (i : Nat) c σ B L, l.reverse[i]? = some c → Pv i σ B L → kGs X [t, u] [.int i, .str (sOf [c])] σ B L fun σ2 B2 L2 => kSs X body σ2 B2 L2 { D with nx := Pv (i + 1), ct := Pv (i + 1), bk := D.nx }) ∧ ∀ σ B L, Pv l.length σ B L → D.nx σ B L)
    (hg : Gl X "enumerate" := by rfl) (hg2 : Gl X "reversed" := by rfl) (hst : starEach [e] X.env = (false, eval e X.env) :: starEach [] X.env := by rfl) (hst' : starEach [e] X.env = [(false, eval e X.env)] := by rfl)
    (ho : starEach [.Call (.Name "reversed" p2) [e] [] pos2] X.env = (false, eval (.Call (.Name "reversed" p2) [e] [] pos2) X.env) :: starEach [] X.env := by rfl) (hc : X.calm = true := by rfl) (hs : ∀ x, foldedSetIterable (.Call (.Name "enumerate" p) [.Call (.Name "reversed" p2) [e] [] pos2] [] pos) X.env x = pure x := by intro _; rfl)
    (hn : (assignEach [t, u] X.env).length = 2 := by rfl) (hfi : (assignEach [t, u] X.env).findIdx? (·.1) = none := by rfl) : kS X (.For (.Tuple [t, u] kk tpos) (.Call (.Name "enumerate" p) [.Call (.Name "reversed" p2) [e] [] pos2] [] pos) body [] pos') σ B L D :=
  k_for hp (r_er hm hm2 (by
    obtain ⟨te, h1, h2⟩ := h
    refine ⟨_, pe_c, fun H s => toE s ⟨te, h1, h2⟩ fun v H' B' L' s' ⟨l, Pv, e, hl, p0, ht, hd⟩ => ⟨B', L', s', l, e, hl, (sOf l).cps.size, _, _, Pv, walk_er, p0, fun i σ B L H hi p s => trivial, fun i x σ B L H H' hi p s y => ?_, fun σ B L p => hd σ B L (by rw [sOf_size] at p; exact p)⟩⟩
    obtain ⟨T, c, rfl, hT, rfl, hx⟩ := y
    have hsz : (sOf l).cps.size = l.length := sOf_size l
    have hi' : i < l.length := by rw [hsz] at hi; exact hi
    have hx' : l.reverse[i]? = some c := by
      rw [List.getElem?_reverse hi']
      have : l[(sOf l).cps.size - 1 - i]? = some c := by simpa [sOf] using hx
      rw [hsz] at this
      exact this
    exact ⟨B, _, s.new hT, g_pair (ht i c σ B L hx' p) hc hn hfi⟩) hg hg2 hst hst' ho) hc hs
end
end Kv

/-! A dict with tuple keys: {k: v}, len(d). -/
namespace KvZx
open PySem PySem.Spec PyProof.Rows L2
def tDispT (tk tv : TE) : TE := fun σ H Q => ∀ p, H p = none → tPairs [(tk, tv)] σ (upd H p (.dT [])) fun ps H2 => H2 p = some (.dT []) ∧ ∃ (b : Addr) (ks : List Key) (y : V), ps = [(.ref b, y)] ∧ H2 b = some (.tup (ks.map kV)) ∧ Q (.ref p) (upd H2 p (.dT [(ks, y)]))
theorem pe_dispT {X : Cx} {pos : Pos} {k v : Expr} {tk tv : TE} (hu : X.A.units + 1 < cLine) (hk : PE X k tk) (hv : PE X v tv) : PE X (.Dict [some k] [v] pos) (tDispT tk tv) := by
  refine ⟨fun pins s σ H Q I q => ?_⟩
  have hn := I.hok.fresh (Nat.le_refl s.heap.objs.size)
  have I1 := I.laid (a := s.heap.objs.size) (o := .dT []) (h' := s.heap.push { cls := .type "dict", data := .dict #[] }) (t' := s.toks) (fun _ _ q => Heap.get?_push_of_some _ q) (Nat.le_refl _) (dt_empty s.heap I.big)
  refine wpAny_Dict_any rfl rfl (by simp) (by simp) (thn ((pps_cons hk hv pps_nil).run pins _ σ _ _ I1 (q _ hn)) fun ws s2 ⟨ps, H2, I2, rel, e, b, ks, y, ep, eb, q2⟩ => ?_)
  subst ep
  cases rel with
  | @cons a c as cs h t =>
    cases t
    obtain ⟨u, r⟩ := c
    obtain ⟨hb, rv⟩ := h
    obtain rfl : u = Value.ref b := hb
    obtain ⟨z, hd, xs, rel, dd⟩ := dt_of I2.hok e
    cases rel
    unfold storeAll
    rw [List.forIn_cons]
    refine wpAny_bind (wpAny_bind (wpAny_dictSet_heap (hsz := Nat.zero_le _) (knd := tupleKind (mixKind X.prog X.w)) (show X.A.units < cLine by omega) (key_of I2.hok eb) dd fun h' dd' hs => wpAny_pure ?_))
    dsimp only
    rw [List.forIn_nil]
    refine wpAny_pure ⟨.ref s.heap.objs.size, _, ?_, rfl, q2⟩
    obtain ⟨o, es, ep, hq, h2, h3, h4, _, h5⟩ := dd'
    refine d_write I2 (by rw [e]; exact True.intro) hs ⟨o, hq⟩ ⟨?_, hd, _, .cons ⟨rfl, ?_, rv⟩ .nil, o, es, ep, hq, h2, h3, h4, h5⟩
    · have := sizeLine_eq
      show 1 ≤ sizeLine
      omega
    · rw [upd_ne (ne_of eb e (fun z => nomatch z))]
      exact eb
end KvZx
namespace Kv
open PySem PySem.Spec PyProof.Rows L2
section
variable {X : Cx} {σ : L2.St} {B : Hp} {L : HL} {Q : KQ} {pos : Pos} {a b : Expr}
/-- {k: v}, k a tuple -/
theorem k_dT1 (hu : X.A.units + 64 < cLine) (h : ∀ D, kE X a σ B ((D, .dT []) :: L) fun x B1 L1 => kE X b σ B1 L1 fun y B2 L2 => ∃ t k L3, x = .ref t ∧ At B2 L2 t (.tup (k.map kV)) ∧ Rep L2 D (.dT []) (.dT [(k, y)]) L3 ∧ Q (.ref D) B2 L3) : kE X (.Dict [some a] [b] pos) σ B L Q :=
  ⟨_, KvZx.pe_dispT (by omega) pe_c pe_c, fun H s D hD => toE (s.new hD) (h D) fun x H1 B1 L1 s1 q => toE s1 q fun y H2 B2 L2 s2 ⟨t, k, L3, e, ht, r, q⟩ => ⟨s2.own _ r.mem, t, k, y, by rw [e], ht.at s2, _, _, s2.rep r, q⟩⟩
theorem c_lendT {p : Addr} {kvs : List (List Key × V)} (h : (p, HO.dT kvs) ∈ L) (q : Q (.int kvs.length) B L) : kC X (.builtin "len") [.ref p] B L Q := ⟨_, call_len_dT, fun H s => ⟨p, kvs, rfl, s.own _ h, _, _, s, q⟩⟩
end
section
variable {X : Cx} {σ : L2.St}
/-- [elt for x in a list made in the head], the element's work changes the heap -/
theorem k_lcv_e {L : HL} {Q : KQ} {B : Hp} {elt iter : Expr} {scope : Scope} {x : Str} {j : Nat} {px : Pos} (hN : X.N.Nodup) (ok : BlkOk X.N X.env.scope scope [(x, j)])
    (h : kE X iter σ B L fun v B1 L1 => ∃ (a : Addr) (xs : List V) (Pv : Nat → List V → Hp → HL → Prop), v = .ref a ∧ xs.length ≤ 16777216 ∧ Pv 0 [] B1 L1 ∧ (∀ i acc B L, Pv i acc B L → Ls X.K B L a xs ∧ acc.length = i) ∧ (∀ i acc B L z, xs[i]? = some z → Pv i acc B L → ∀ D s H0 C cl fp, kE (Bk X scope s H0 C cl fp) elt (σ.set j (some z)) B ((D, .lst acc) :: L) fun y B3 L3 => ∃ L4, L3 = (D, .lst acc) :: L4 ∧ Pv (i + 1) (acc ++ [y]) B3 L4) ∧
      ∀ acc B L D, Pv xs.length acc B L → Q (.ref D) B ((D, .lst acc) :: L))
    (hp : ∀ s H0 C cl fp, Loc (Bk X scope s H0 C cl fp).env.scope x := by intro _ _ _ _ _; first | exact Or.inl rfl | exact Or.inr rfl) (hf : ∀ s H0 C cl fp, (Bk X scope s H0 C cl fp).fn x = true ∨ (Bk X scope s H0 C cl fp).env.scope.names.lookup x = some .local := by intro _ _ _ _ _; first | exact .inr rfl | exact .inl rfl)
    (hj : X.N[j]? = some x := by rfl) (hc : X.calm = true := by rfl) (hs : ∀ x, foldedSetIterable iter X.env x = pure x := by intro _; rfl) : kL X elt (.Name x px) iter [] scope [(x, j)] σ B L Q :=
  k_lc hN ok (r_list (by
    obtain ⟨t, h1, h2⟩ := h
    refine ⟨_, pe_c, fun H s => toE s ⟨t, h1, h2⟩ fun v H' B1 L1 s' ⟨a, xs, Pv, e, hl, p0, hpv, ht, hd⟩ => ⟨B1, L1, s', a, xs, e, (hpv _ _ _ _ p0).1, xs.length, _, _, fun i acc B L => Pv i acc B L, walk_list, p0, ?_, ?_, ?_⟩⟩
    · intro i acc B L H hi p s
      exact (hpv _ _ _ _ p).1.at s
    · rintro D i acc x B L H H' hi p s ⟨rfl, hx⟩
      refine ⟨_, _, s, fun sa Ha Ca cla fpa => g_name j ?_ hN hj (hp sa Ha Ca cla fpa) (hf sa Ha Ca cla fpa)⟩
      refine ⟨wipe1 σ j _, fun sb Hb Cb clb fpb => ?_⟩
      show kE _ _ ((wipe σ [j]).set j _) _ _ _
      rw [wipe1']
      obtain ⟨t2, k1, k2⟩ := ht i acc B L x hx p D sb Hb Cb clb fpb
      have hac := (hpv _ _ _ _ p).2
      refine ⟨_, pe_c, fun H s => toE s ⟨t2, k1, k2⟩ fun y H2 B2 L2 s2 ⟨L4, e1, q⟩ => ⟨B2, L2, s2, by omega, L4, e1, q⟩⟩
    · intro acc B L D p
      exact hd acc B L D p)) hc hs
end
section
variable {X : Cx} {σ : L2.St} {B : Hp} {L : HL} {es : List Expr} {Q : List V → Hp → HL → Prop}
/-- a named object goes to the base between the items of a display -/
theorem a_fz {p : Addr} {o : HO} (h : ∀ B', Le B B' → B p = none → B' p = some o → kA X es σ B' L Q) : kA X es σ B ((p, o) :: L) Q :=
  ⟨_, pa_c, fun H s => ⟨_, L, Q, s.fz.2.2, h _ s.fz.1 (s.nb _ List.mem_cons_self) s.fz.2.1, fun _ _ q => q⟩⟩
end
end Kv

/-! Tuples: slices, +, turned about, enumerate; repr of data. -/
namespace KvTp
open PySem PySem.Spec PyProof PyProof.Rows
/-- enumerate of a tuple -/
theorem meets_enumerate_newT (l : Addr) (items : Array Value) (n : Nat) (dct : Option Addr) (sl : Array (Option Value)) :
    Meets (Builtin.«enumerate.__new__» ⟨[.type "enumerate", .ref l], []⟩) (fun _ R s => s.heap.get? l = some { cls := .type "tuple", dict := dct, data := .seq items n, slots := sl } ∧
      R (.ok (.ret (.ref (s.heap.push { cls := .type "tuple_iterator", data := .fields #[.ref l, .int 0 0] }).objs.size)))
        { s with heap := (s.heap.push { cls := .type "tuple_iterator", data := .fields #[.ref l, .int 0 0] }).push { cls := .type "enumerate", data := .fields #[.none, .bool false, .ref s.heap.objs.size, rawInt 0, .none, .none] } }) :=
  .of_wp fun prog w A R s h => by
    obtain ⟨hp, g, d, tk, os⟩ := s; obtain ⟨hl, h⟩ := h
    have hsub := sub_enumerate
    have hL : Heap.IsTuple (Shared.heap ⟨hp, g, d, tk, os⟩) l items := ⟨_, hl, rfl, n, rfl⟩
    wp_walk using AutoSeq1.wpAny_loadPart' hl
    refine wpAny_stack_any fun st => wpAny_pure ?_
    split
    · rename_i c _ _ _ _ _
      cases (c == Value.type "enumerate")
      · wp_walk using AutoSeq1.wpAny_loadPart' hl, wpAny_pyIter_tuple hL
        exact ⟨_, rfl, h⟩
      · wp_walk using AutoSeq1.wpAny_loadPart' hl, wpAny_pyIter_tuple hL
        exact ⟨_, rfl, h⟩
    · wp_walk using AutoSeq1.wpAny_loadPart' hl, wpAny_pyIter_tuple hL
      exact ⟨_, rfl, h⟩
theorem call_enumerate_tuple {prog : Program} {w : World} {A : Around} {E : Value → Shared → Prop} {s : Shared} {l : Addr} {items : Array Value} {Q : Value → Shared → Prop} (hL : s.heap.IsTuple l items)
    (h : ∀ h', IsEnum h' (s.heap.objs.size + 1) s.heap.objs.size 0 .none → h'.IsTupleIter s.heap.objs.size l 0 → h'.objs.size = s.heap.objs.size + 2 →
      (∀ b o, s.heap.get? b = some o → h'.get? b = some o) → Q (.ref (s.heap.objs.size + 1)) { s with heap := h' }) :
    wpAny (model prog w) A (call (.type "enumerate") [.ref l]) Q E s := by
  obtain ⟨⟨c, dct, dt, sl⟩, hl, hc, n, hd⟩ := hL
  replace hc : c = .type "tuple" := hc
  replace hd : dt = .seq items n := hd
  subst hc hd
  refine callType_new F.called_enumerate (by decide) (F.typeCall_enumerate_1 _) (F.newCall_enumerate_1 _) (fun obj => F.args_object_init_2 obj _) F.entry_enumerate_new
    (meets_enumerate_newT l items n dct sl) ⟨hl, ?_⟩
  have hz : (s.heap.push { cls := .type "tuple_iterator", data := .fields #[.ref l, .int 0 0] }).objs.size = s.heap.objs.size + 1 := Heap.size_push ..
  show _ ∧ _
  rw [hz]
  have he : IsEnum ((s.heap.push { cls := .type "tuple_iterator", data := .fields #[.ref l, .int 0 0] }).push
      { cls := .type "enumerate", data := .fields #[.none, .bool false, .ref s.heap.objs.size, rawInt 0, .none, .none] }) (s.heap.objs.size + 1) s.heap.objs.size 0 .none := by
    have := Heap.get?_push_size (s.heap.push { cls := .type "tuple_iterator", data := .fields #[.ref l, .int 0 0] })
      (o := { cls := .type "enumerate", data := .fields #[.none, .bool false, .ref s.heap.objs.size, rawInt 0, .none, .none] }) rfl
    rw [hz] at this; exact this
  refine ⟨⟨_, he, rfl⟩, h _ he ⟨_, Heap.get?_push_of_some _ (Heap.get?_push_size _ rfl), rfl, rfl⟩ (by rw [Heap.size_push, hz]) fun b o x => Heap.get?_push_of_some _ (Heap.get?_push_of_some _ x)⟩
/-- t[::-1] -/
theorem applied_rev {prog : Program} {w : World} {A : Around} {E : Value → Shared → Prop} {s : Shared} {sl : Addr} {vl vu vs : Value} {n : Nat} {Q : Int × Int × Nat → Shared → Prop} (hs : s.heap.IsSliceOf sl vl vu vs) (pl : IsPart vl none) (pu : IsPart vu none) (ps : IsPart vs (some (-1)))
    (h : Q ((n : Int) - 1, -1, n) s) : wpAny (model prog w) A (Builtin.Slice.sliceApplied (.ref sl) (pure (n : Int))) Q E s := by
  obtain ⟨os, hos, hcs, hds⟩ := id hs
  unfold Builtin.Slice.sliceApplied Builtin.Slice.sliceFields
  refine wpAny_bind (wpAny_bind (wpAny_field hos hds (x := vl) rfl (wpAny_bind (wpAny_field hos hds (x := vu) rfl (wpAny_bind (wpAny_field hos hds (x := vs) rfl (wpAny_pure ?_)))))))
  refine wpAny_bind (HT.slicePart_ ps ?_)
  show wpAny _ _ (if ((-1 : Int) == 0) = true then _ else _) _ _ s
  rw [if_neg (by decide)]
  refine wpAny_bind (HT.slicePart_ pl (wpAny_bind (HT.slicePart_ pu (wpAny_bind (wpAny_pure ?_)))))
  have e1 : Builtin.Slice.sliceAdjust none none (-1) (n : Int) = ((n : Int) - 1, -1) := by
    unfold Builtin.Slice.sliceAdjust
    simp
  have e2 : Builtin.Slice.slicePlaces ((n : Int) - 1) (-1) (-1) = n := by
    unfold Builtin.Slice.slicePlaces
    have h1 : ¬ ((-1 : Int) > 0) := by decide
    simp only [h1, if_false]
    by_cases h2 : (n : Int) - 1 > -1
    · rw [if_pos h2, show - (-1 : Int) = 1 from rfl, Int.ediv_one]
      omega
    · rw [if_neg h2]; omega
  show wpAny _ _ (match Builtin.Slice.sliceAdjust none none (-1) (n : Int) with | (lo, hi) => pure (lo, (-1 : Int), Builtin.Slice.slicePlaces lo hi (-1))) _ _ s
  rw [e1]
  show wpAny _ _ (pure ((n : Int) - 1, (-1 : Int), Builtin.Slice.slicePlaces ((n : Int) - 1) (-1) (-1))) _ _ s
  rw [e2]
  exact wpAny_pure h
theorem pick_rev (xs : Array Value) : ((List.range xs.size).filterMap fun (m : Nat) => xs[(((xs.size : Int) - 1) + (m : Int) * (-1)).toNat]?).toArray = xs.toList.reverse.toArray := by
  congr 1
  have e : ∀ m ∈ List.range xs.size, xs[(((xs.size : Int) - 1) + (m : Int) * (-1)).toNat]? = xs.toList.reverse[m]? := fun m hm => by
    have hm := List.mem_range.mp hm
    rw [List.getElem?_reverse (by rw [Array.length_toList]; exact hm), Array.getElem?_toList, Array.length_toList]
    congr 1
    omega
  have e9 : ∀ (l : List Nat) (f g : Nat → Option Value), (∀ m ∈ l, f m = g m) → l.filterMap f = l.filterMap g := fun l f g h => by
    induction l with
    | nil => rfl
    | cons x l ih =>
      rw [List.filterMap_cons, List.filterMap_cons, h x List.mem_cons_self, ih fun m hm => h m (List.mem_cons_of_mem _ hm)]
  rw [e9 _ _ _ e]
  have hl : xs.size = xs.toList.reverse.length := by rw [List.length_reverse, Array.length_toList]
  rw [hl]
  generalize xs.toList.reverse = l
  clear e hl
  induction l with
  | nil => rfl
  | cons x l ih =>
    rw [List.length_cons, List.range_succ_eq_map, List.filterMap_cons]
    simp only [List.getElem?_cons_zero, List.filterMap_map]
    congr 1
theorem wpAny_pyNext_enum_doneT {prog : Program} {w : World} {A : Around} {E : Value → Shared → Prop} {s : Shared} {e it l : Addr} {i : Nat} {items : Array Value} {old : Value} {Q : Option Value → Shared → Prop} (hh : A.handled = none)
    (he : IsEnum s.heap e it i old) (hit : s.heap.IsTupleIter it l i) (hl : s.heap.IsTuple l items) (hx : items[i]? = none)
    (hQ : ∀ h', Heap.ExtBut it s.heap h' → Q none { s with heap := h' }) : wpAny (model prog w) A (pyNext (.ref e)) Q E s := by
  have hT : s.TypeIs (.ref e) "enumerate" := ⟨_, he, rfl⟩
  unfold pyNext
  refine wpAny_bind (wpAny_attempt (wpAny_callSpecial?_slot (name := Str.ofString "__next__") hT F.slot_enumerate_next
    (wpAny_call_entry F.slot_enumerate_next hT F.entry_enumerate_next ?_ (F.args_enumerate_next_1 _))))
  show wpAny _ _ (field (.ref e) 2 >>= _) _ _ _
  refine wpAny_bind (wpAny_field he rfl (x := .ref it) rfl ?_)
  refine wpAny_bind (wpAny_nextOf_tuple_end hh hit hl hx fun h' x he' hx' => ?_)
  obtain ⟨o, ho, hc⟩ := hx'
  refine wpAny_bind (wpAny_isInstance (T := "StopIteration") (b := true) ⟨o, ho, hc⟩ isSubtype_stop ?_)
  exact wpAny_pure (hQ _ he')
end KvTp
namespace Kv
open KvTp
open PySem PySem.Spec PyProof PyProof.Rows L2
/-! ### enumerate(tuple) -/
def Iett (K : PySem.W.Frag) (a : Addr) : It :=
  ⟨fun i H => ∃ (xs : List V) (x : V), SqT K H a xs ∧ xs[i]? = some x, fun i H v H' => ∃ T x, v = .ref T ∧ H T = none ∧ H' = upd H T (.tup [.int (i : Nat), x]) ∧ ∀ xs, SqT K H a xs → xs[i]? = some x, fun i H => ∃ xs : List V, SqT K H a xs ∧ xs.length ≤ i⟩
theorem turn_et {P : Program} {w : World} {K : PySem.W.Frag} {elts : List Expr} {kk : Nat} {tpos : Pos} (a e it : Addr) :
    Turn P w K (.Tuple elts kk tpos) (Iett K a) [e, it] e (fun i h => (∃ old, IsEnum h e it ((i : Nat) : Int) old) ∧ h.IsTupleIter it a i ∧ e ≠ it) where
  mem := by simp
  obj := fun i h st b hb => by
    obtain ⟨⟨old, he⟩, ⟨o, ho, hc, hd⟩, _⟩ := st
    have e' : b = e ∨ b = it := by simpa using hb
    rcases e' with z | z
    · rw [z]; exact ⟨_, he, fun v q => nomatch q⟩
    · rw [z]; exact ⟨o, ho, fun v q => by rw [hd] at q; cases q⟩
  keep := fun i h h' st k => let ⟨⟨old, he⟩, hi, hne⟩ := st; ⟨⟨old, k e (by simp) _ he⟩, hi.at fun o q => k it (by simp) o q, hne⟩
  item := by
    intro X hP hw hK hc i pins s σ H E I hf st hg
    subst hP hw hK
    obtain ⟨⟨old, he⟩, hit, hne⟩ := st
    obtain ⟨xs, x, hq, hx⟩ := hg
    obtain ⟨its, rv, p, hz⟩ := I.tuple hq
    obtain ⟨u, hu, ru⟩ := rv.get hx
    have hel : e < s.heap.objs.size := Heap.lt_size he
    have hil : it < s.heap.objs.size := by obtain ⟨_, q, _⟩ := hit; exact Heap.lt_size q
    have hat : a ≠ it := fun z => by
      obtain ⟨o1, e1, c1, _⟩ := id hit
      obtain ⟨o2, e2, c2, _⟩ := id p
      rw [← z, e2] at e1
      cases e1
      rw [c2] at c1
      exact absurd c1 (by decide)
    have hea : e ≠ a := fun z => by
      obtain ⟨o2, e2, c2, _⟩ := id p
      rw [← z, he] at e2
      cases e2
      have c2 : Value.type "enumerate" = Value.type "tuple" := c2
      exact absurd c2 (by decide)
    have hlt : i < its.toArray.size := by rw [List.size_toArray, ← rv.length]; exact (List.getElem?_eq_some_iff.mp hx).1
    refine wpAny_pyNext_enum_itemD (Draws.tuple (A := X.A.in1) (I.ok.hd hc) it a hat its.toArray) he ⟨hit, p⟩ hlt hne (by simp; exact ⟨hne, hea⟩) fun v h' tk hv ho hst' hT hsz hk => ?_
    obtain ⟨hit', ht'⟩ := hst'
    have hvu : v = u := by
      have hv : its.toArray[i]? = some v := hv
      rw [show its.toArray[i]? = some u by simpa using hu] at hv
      exact (Option.some.inj hv).symm
    subst hvu
    refine ⟨_, rfl, wpAny_letOwnedTupleGo_enum (s := { s with heap := h', toks := tk + 1 }) ho fun h'' he' sb => ?_⟩
    have hT2 : h''.get? s.heap.objs.size = some { cls := .type "tuple", data := .seq #[.int i tk, v] } := (sb.2 _ (Nat.ne_of_gt hel)).trans hT
    have new : ObjOk X.prog X.w (upd H s.heap.objs.size (.tup [.int (i : Nat), x])) h'' s.heap.objs.size (.tup [.int (i : Nat), x]) :=
      ⟨by show 2 ≤ sizeLine; decide, [.int i tk, v], .cons ⟨_, rfl⟩ (.cons ru .nil), ⟨_, hT2, rfl, _, rfl⟩⟩
    have I1 : Inv X pins σ (upd H s.heap.objs.size (.tup [.int (i : Nat), x])) { s with heap := h'', toks := tk + 1 } :=
      I.turnedNew (ch := [e, it]) (fun b ob hb q => (sb.2 b (fun z => hb (by simp [z]))).trans (hk b ob (fun z => hb (by simp [z])) (fun z => hb (by simp [z])) q)) hf (Nat.le_refl _) new
    refine ⟨.ref s.heap.objs.size, _, I1, rfl, ⟨_, x, rfl, I.hok.fresh (Nat.le_refl _), rfl, fun ys hy => by rw [I.tuple_inj hy hq]; exact hx⟩, ⟨⟨v, ?_⟩, hit'.at fun o q => (sb.2 it (Ne.symm hne)).trans q, hne⟩, fun b hb => ?_⟩
    · have e1 : ((i + 1 : Nat) : Int) = (i : Int) + 1 := by omega
      rw [e1]; exact he'
    · have hb' : b < s.heap.objs.size := by
        have e' : b = e ∨ b = it := by simpa using hb
        rcases e' with z | z
        · rw [z]; exact hel
        · rw [z]; exact hil
      rw [upd_ne (Nat.ne_of_lt hb')]
      exact (hf b hb).1
  done := by
    intro X hP hw hK hc i pins s σ H E I hf st hg
    subst hP hw hK
    obtain ⟨⟨old, he⟩, hit, hne⟩ := st
    obtain ⟨xs, hq, hx⟩ := hg
    obtain ⟨its, rv, p, hz⟩ := I.tuple hq
    obtain ⟨f0, f1, f2, f3, f4, f5⟩ := hf it (by simp)
    refine wpAny_pyNext_enum_doneT (I.ok.hd hc) he hit p (by rw [Array.getElem?_eq_none_iff, List.size_toArray, ← rv.length]; exact hx) fun h' eb => ⟨rfl, I.turned (t' := s.toks) (fun b o hb q => eb b o hb q) f0 f1 f3 f4 f5⟩
  self := fun A i s Q E st h => let ⟨⟨_, he⟩, _⟩ := st; wpAny_pyIter_enum he h
theorem pi_et {X : Cx} {e : Expr} {ta : TA} {p pos tpos : Pos} {elts : List Expr} {kk : Nat} (hg : Gl X "enumerate") (hm : X.mg "enumerate" = none) (ha : PA X [e] ta) (hs : starEach [e] X.env = [(false, eval e X.env)] := by rfl) :
    PI X (.Tuple elts kk tpos) (.Call (.Name "enumerate" p) [e] [] pos) (fun σ H R => ta σ H fun vs H1 => ∃ a xs, vs = [.ref a] ∧ SqT X.K H1 a xs ∧ R (Iett X.K a) H1) := by
  refine ⟨fun pins s σ H R I h => ?_⟩
  refine Call_ (ld_blt I hg hm boot_enumerate (PyProof.Rows.callWith_type1 (thn (ha.run pos pins s σ H _ I h) fun us s1 ⟨vs, H1, I1, r1, q1⟩ => ?_) hs rfl))
  obtain ⟨a, xs, ex, hq, q⟩ := q1
  subst ex
  cases r1 with
  | cons r rr =>
    cases rr
    cases r
    obtain ⟨its, rv, p', hz⟩ := I1.tuple hq
    refine call_enumerate_tuple p' fun h' he hit hsz hk => wpAny_pyIter_enum he ?_
    have I2 : Inv X pins σ H1 { s1 with heap := h' } := I1.kept (t' := s1.toks) hk
    refine ⟨s1.heap.objs.size + 1, [s1.heap.objs.size + 1, s1.heap.objs.size], _, _, H1, rfl, I2, turn_et a (s1.heap.objs.size + 1) s1.heap.objs.size, ⟨⟨.none, he⟩, hit, Nat.succ_ne_self _⟩, fun b hb => ?_, q⟩
    have e' : b = s1.heap.objs.size + 1 ∨ b = s1.heap.objs.size := by simpa using hb
    have hle : s1.heap.objs.size ≤ b := by
      rcases e' with z | z
      · rw [z]; exact Nat.le_add_right _ _
      · rw [z]; exact Nat.le_refl _
    exact I1.fpOk hle (I1.hok.fresh hle)
theorem walk_et {K : PySem.W.Frag} {a : Addr} {xs : List V} : Walk (Iett K a) xs.length (fun H => SqT K H a xs) (YPair (fun i => some (.int (i : Nat))) (fun i => xs[i]?)) := by
  refine ⟨fun i H hi h => ⟨xs, xs[i], h, by simp⟩, fun H h => ⟨xs, h, Nat.le_refl _⟩, fun i H v H' hi h y => ?_⟩
  obtain ⟨T, x, rfl, hT, rfl, hx⟩ := y
  exact ⟨T, _, x, rfl, hT, rfl, rfl, hx xs h⟩
section
variable {X : Cx} {σ : L2.St} {B : Hp} {L : HL} {D : KD} {Q : KQ} {pos p2 pos' : Pos} {e : Expr} {body : List Stmt}
theorem r_et {R : It → Hp → HL → Prop} {elts : List Expr} {kk : Nat} {tpos : Pos} (hm : X.mg "enumerate" = none) (h : kE X e σ B L fun v B1 L1 => ∃ a xs, v = .ref a ∧ Tp X.K B1 L1 a xs ∧ R (Iett X.K a) B1 L1) (hg : Gl X "enumerate" := by rfl) (hs : starEach [e] X.env = (false, eval e X.env) :: starEach [] X.env := by rfl) (hs' : starEach [e] X.env = [(false, eval e X.env)] := by rfl) :
    kR X (.Tuple elts kk tpos) (.Call (.Name "enumerate" p2) [e] [] pos) σ B L R :=
  ⟨_, pi_et hg hm (pa_cons pe_c pa_nil hs) hs', fun H s => toE s h fun _ _ _ _ s ⟨a, xs, e, hl, q⟩ => ⟨a, xs, by rw [e], hl.at s, _, _, s, q⟩⟩
/-- for i, v in enumerate(tuple) -/
theorem k_for_et2 (hp : PassesOwn (model X.prog X.w) X.A X.env X.xe) (hm : X.mg "enumerate" = none) {t u : Expr} {kk : Nat} {tpos : Pos}
    (h : kE X e σ B L fun v B1 L1 => ∃ a xs, ∃ Pv : Nat → KN, v = .ref a ∧ Tp X.K B1 L1 a xs ∧ Pv 0 σ B1 L1 ∧ (∀ i σ B L, i ≤ xs.length → Pv i σ B L → Tp X.K B L a xs) ∧
      (∀ (i : Nat) x σ B L, xs[i]? = some x → Pv i σ B L → kGs X [t, u] [.int i, x] σ B L fun σ2 B2 L2 => kSs X body σ2 B2 L2 { D with nx := Pv (i + 1), ct := Pv (i + 1), bk := D.nx }) ∧ ∀ σ B L, Pv xs.length σ B L → D.nx σ B L)
    (hg : Gl X "enumerate" := by rfl) (hst : starEach [e] X.env = (false, eval e X.env) :: starEach [] X.env := by rfl) (hst' : starEach [e] X.env = [(false, eval e X.env)] := by rfl) (hc : X.calm = true := by rfl) (hs : ∀ x, foldedSetIterable (.Call (.Name "enumerate" p2) [e] [] pos) X.env x = pure x := by intro _; rfl)
    (hn : (assignEach [t, u] X.env).length = 2 := by rfl) (hfi : (assignEach [t, u] X.env).findIdx? (·.1) = none := by rfl) : kS X (.For (.Tuple [t, u] kk tpos) (.Call (.Name "enumerate" p2) [e] [] pos) body [] pos') σ B L D :=
  k_for hp (r_et hm (by
    obtain ⟨te, h1, h2⟩ := h
    refine ⟨_, pe_c, fun H s => toE s ⟨te, h1, h2⟩ fun v H' B' L' s' ⟨a, xs, Pv, e, hl, p0, hL, ht, hd⟩ => ⟨B', L', s', a, xs, e, hl, xs.length, _, _, Pv, walk_et, p0, fun i σ B L H hi p s => (hL i σ B L hi p).at s, fun i x σ B L H H' hi p s y => ?_, hd⟩⟩
    obtain ⟨T, x1, y1, rfl, hT, rfl, e1, e2⟩ := y
    cases e1
    exact ⟨B, _, s.new hT, g_pair (ht i y1 σ B L e2 p) hc hn hfi⟩) hg hst hst') hc hs
/-! ### t[lo:hi], t + u -/
theorem not_inD {H : Hp} {p : Addr} (s : Sat B L H) (hp : H p = none) : B p = none ∧ p ∉ L.map (·.1) := by
  refine ⟨?_, fun z => ?_⟩
  · cases e : B p with
    | none => rfl
    | some o => rw [s.ext _ _ e] at hp; cases hp
  · obtain ⟨q, hq, e⟩ := List.mem_map.mp z
    have := s.own q hq
    rw [e, hp] at this; cases this
theorem Sat.newB {H : Hp} {p : Addr} {o : HO} (s : Sat B L H) (hp : H p = none) : Le B (upd B p o) ∧ upd B p o p = some o ∧ Sat (upd B p o) L (upd H p o) := (s.new hp).fz
theorem sl_tF {a : Addr} {xs : List V} {lo hi : Option Int} (h : Tp X.K B L a xs) (q1 : HT.sIx xs.length 0 lo = 0 ∧ HT.sIx xs.length xs.length hi = xs.length → Q (.ref a) B L) (q2 : ¬ (HT.sIx xs.length 0 lo = 0 ∧ HT.sIx xs.length xs.length hi = xs.length) → ∀ p B', Le B B' → (B p = none ∧ p ∉ L.map (·.1)) → B' p = some (.tup (cut xs lo hi)) → Q (.ref p) B' L) : kSl X (.ref a) lo hi B L Q :=
  ⟨_, sl_tupA, fun H s => ⟨a, xs, rfl, h.at s, fun w => ⟨_, _, s, q1 w⟩, fun w p hp => ⟨_, _, (s.newB hp).2.2, q2 w p _ (s.newB hp).1 (not_inD s hp) (s.newB hp).2.1⟩⟩⟩
theorem o_cattF {p q : Addr} {xs ys : List V} (h1 : B p = some (.tup xs)) (h2 : B q = some (.tup ys)) (hl : xs.length + ys.length ≤ 16777216) (h : ∀ r B', Le B B' → ((ys = [] ∧ r = p) ∨ (xs = [] ∧ r = q) ∨ (B r = none ∧ r ∉ L.map (·.1))) → B' r = some (.tup (xs ++ ys)) → Q (.ref r) B' L) : kO X (binaryOp .Add) (.ref p) (.ref q) B L Q :=
  ⟨_, op_catA, fun H s => ⟨p, q, xs, ys, rfl, rfl, Or.inl (Or.inl (s.ext _ _ h1)), Or.inl (Or.inl (s.ext _ _ h2)), small hl, fun e => ⟨_, _, s, h q B (fun _ _ z => z) (.inr (.inl ⟨e, rfl⟩)) (by rw [e]; exact h2)⟩, fun _ e => ⟨_, _, s, h p B (fun _ _ z => z) (.inl ⟨e, rfl⟩) (by rw [e, List.append_nil]; exact h1)⟩, fun _ _ r hr => ⟨_, _, (s.newB hr).2.2, h r _ (s.newB hr).1 (.inr (.inr (not_inD s hr))) (s.newB hr).2.1⟩⟩⟩
end
end Kv

/-! t[::-1]; repr of data. -/
namespace KvTp
open PySem PySem.Spec PyProof PyProof.Rows HT
theorem getItem_tuple_rev {prog : Program} {w : World} {A : Around} {E : Value → Shared → Prop} {s : Shared} {t sl : Addr} {items : Array Value} {vl vu vs : Value} {Q : Value → Shared → Prop} (ht : IsTup s.heap t items) (hs : s.heap.IsSliceOf sl vl vu vs) (pl : IsPart vl none) (pu : IsPart vu none) (ps : IsPart vs (some (-1)))
    (h : Q (.ref s.heap.objs.size) { s with heap := s.heap.push { cls := .type "tuple", data := .seq items.toList.reverse.toArray } })
    (hsz : items.size ≤ sizeLine) : wpAny (model prog w) A (getItem (.ref t) (.ref sl)) Q E s := by
  have htake : sizeOk (.seq items.toList.reverse.toArray) := by
    show items.toList.reverse.toArray.size ≤ sizeLine
    rw [List.size_toArray, List.length_reverse, Array.length_toList]
    exact hsz
  obtain ⟨os, hos, hcs, hds⟩ := id hs
  have hTs : s.TypeIs (.ref sl) "slice" := ⟨os, hos, hcs⟩
  unfold getItem
  try with_reducible refine wpAny_holding ?_
  first | refine wpAny_bind (wpAny_pure ?_) | skip
  refine wpAny_bind (wpAny_sequenceKey ht.typeIs (by decide) ?_)
  refine wpAny_bind (wpAny_callSpecial?_slot (name := Str.ofString "__getitem__") ht.typeIs PyProof.Rows.slot_tuple_getitem
    (wpAny_call_entry PyProof.Rows.slot_tuple_getitem ht.typeIs entry_tuple_getitem ?_ (args_tuple_getitem _ _)))
  show wpAny _ _ (Builtin.Tuple.tupleItemsOf (.ref t) >>= _) _ _ s
  refine wpAny_bind (tupleItemsOf_ ht ?_)
  refine wpAny_bind (wpAny_typeOf hTs ?_)
  rw [if_pos (by decide)]
  refine wpAny_bind (applied_rev hs pl pu ps ?_)
  have hno : ¬ ((((items.size : Int) - 1) == 0 && (-1 : Int) == 1 && items.size == items.size) = true) := by
    intro q
    rw [Bool.and_eq_true, Bool.and_eq_true] at q
    exact absurd q.1.2 (by decide)
  show wpAny _ _ (if (((items.size : Int) - 1) == 0 && (-1 : Int) == 1 && items.size == items.size) = true then _ else _) _ _ s
  rw [if_neg hno, pick_rev]
  first
    | exact wpAny_bind (m := Builtin.Tuple.tupleExact _) (wpAny_newObj_type (wpAny_pure ⟨_, rfl, wpAny_pure h⟩) htake)
    | exact wpAny_bind (m := Builtin.Tuple.tupleExact _) (wpAny_newObj_type (wpAny_bind (wpAny_pure (wpAny_pure ⟨_, rfl, wpAny_pure h⟩))) htake)
    | exact wpAny_bind (wpAny_bind (m := Builtin.Tuple.tupleExact _) (wpAny_newObj_type (wpAny_pure (wpAny_pure ⟨_, rfl, wpAny_pure h⟩)) htake))
    | exact wpAny_bind (wpAny_bind (m := Builtin.Tuple.tupleExact _) (wpAny_newObj_type (wpAny_pure ⟨_, rfl, wpAny_pure h⟩) htake))
end KvTp
namespace Kv
open PySem PySem.Spec PyProof PyProof.Rows L2 KvTp
def tRevT (K : PySem.W.Frag) (te : TE) : TE := fun σ H Q => te σ H fun x H1 => ∃ a xs, x = .ref a ∧ SqT K H1 a xs ∧ ∀ p, H1 p = none → Q (.ref p) (upd H1 p (.tup xs.reverse))
theorem pe_revT {X : Cx} {e : Expr} {te : TE} {k : Nat} {p1 p2 p3 pos : Pos} (he : PE X e te) : PE X (.Subscript e (.Slice none none (some (.UnaryOp .USub (.Constant (.int 1) k p1) p2)) p3) pos) (tRevT X.K te) := by
  refine ⟨fun pins s σ H Q I h => ?_⟩
  refine Subscript_ (thn (he.run pins s σ H _ I h) fun v s1 ⟨x, H1, I1, r1, q1⟩ => ?_)
  obtain ⟨a, xs, ex, hx, q⟩ := q1
  subst ex
  cases r1
  have hst : PO X (some (.UnaryOp .USub (.Constant (.int 1) k p1) p2)) (tPart (tUn (rU fun i => .int (-i)) (tC (.int 1)))) := po_some (pe_un un_neg pe_int)
  refine wpAny_Slice (thn (po_none.run pins s1 σ H1 (fun o H2 => o = none ∧ H2 = H1) I1 ⟨rfl, rfl⟩) fun vl s2 ⟨l, H2, I2, pl, el, e2⟩ => ?_)
  subst el e2
  refine thn (po_none.run pins s2 σ H2 (fun o H3 => o = none ∧ H3 = H2) I2 ⟨rfl, rfl⟩) fun vu s3 ⟨u, H3, I3, pu, eu, e3⟩ => ?_
  subst eu e3
  refine thn (hst.run pins s3 σ H3 (fun o H4 => o = some (-1) ∧ H4 = H3) I3 ⟨1, rfl, -1, rfl, rfl, rfl⟩) fun vs s4 ⟨o, H4, I4, ps, eo, e4⟩ => ?_
  subst eo e4
  have I5 : Inv X pins σ H4 { s4 with heap := s4.heap.push { cls := .type "slice", data := .fields #[vl, vu, vs] } } := I4.kept (t' := s4.toks) fun b ob q => Heap.get?_push_of_some _ q
  obtain ⟨its, r, ht, hz⟩ := I5.tuple hx
  have hlen := r.length
  show wpAny (model X.prog X.w) X.A (subscriptTail e (.Slice none none (some (.UnaryOp .USub (.Constant (.int 1) k p1) p2)) p3) (.ref a) (.ref s4.heap.objs.size)) (EP X pins σ Q) X.xe { s4 with heap := s4.heap.push { cls := .type "slice", data := .fields #[vl, vu, vs] } }
  refine tail_any (ops := [.ref a, .ref s4.heap.objs.size]) ht.typeIs (PyProof.Rows.slot_tuple_getitem.lookup) ?_ (by with_unfolding_all rfl)
  refine getItem_tuple_rev ht (Heap.IsSliceOf.new _ vl vu vs) pl pu ps ?_ (by rw [List.size_toArray]; omega)
  refine ⟨.ref _, _, I5.laid (t' := s4.toks) (o := .tup xs.reverse) (fun b ob q => Heap.get?_push_of_some _ q) (Nat.le_refl _) ?_, rfl, q _ (I5.hok.fresh (Nat.le_refl _))⟩
  exact ⟨by rw [List.length_reverse]; exact hz, _, r.reverse, IsTup.new _ _⟩
section
variable {X : Cx} {σ : L2.St} {B : Hp} {L : HL} {Q : KQ} {e : Expr} {p1 p2 p3 pos : Pos}
/-- t[::-1] -/
theorem k_revt {k : Nat} (h : kE X e σ B L fun v B1 L1 => ∃ a xs, v = .ref a ∧ Tp X.K B1 L1 a xs ∧ ∀ p, Q (.ref p) B1 ((p, .tup xs.reverse) :: L1)) : kE X (.Subscript e (.Slice none none (some (.UnaryOp .USub (.Constant (.int 1) k p1) p2)) p3) pos) σ B L Q :=
  ⟨_, pe_revT pe_c, fun H s => toE s h fun _ _ _ _ s ⟨a, xs, e, hl, q⟩ => ⟨a, xs, e, hl.at s, fun p hp => ⟨_, _, s.new hp, q p⟩⟩⟩
/-- a named object changed, all that is new goes to the base -/
theorem Sat.allG {H H' : Hp} {p : Addr} {o : HO} (s : Sat B L H) (hp : (p, o) ∈ L) (e : ∀ b u, b ≠ p → H b = some u → H' b = some u) : Le B (rmK H' L) ∧ (∀ {L' : HL} {o' : HO}, Rep L p o o' L' → H' p = some o' → Sat (rmK H' L) L' H') ∧ ∀ b u, H b = none → H' b = some u → rmK H' L b = some u := by
  have hpm : p ∈ L.map (·.1) := List.mem_map.mpr ⟨_, hp, rfl⟩
  have e2 : ∀ b u, H b = some u → upd H' p o b = some u := fun b u h => by
    by_cases hb : b = p
    · subst hb
      rw [upd_same]
      rw [s.own _ hp] at h; exact h
    · rw [upd_ne hb]; exact e b u hb h
  have er : rmK (upd H' p o) L = rmK H' L := by
    funext b
    unfold rmK
    by_cases hb : b ∈ L.map (·.1)
    · rw [if_pos hb, if_pos hb]
    · rw [if_neg hb, if_neg hb, upd_ne (fun z => hb (by rw [z]; exact hpm))]
  obtain ⟨l, s2, nw⟩ := s.allN e2
  rw [er] at l s2 nw
  refine ⟨l, fun {L' o'} r h => s2.rep' r (fun b u hb z => by rw [upd_ne hb] at z; exact z) h, fun b u h1 h2 => ?_⟩
  have hb : b ≠ p := fun z => by rw [z, s.own _ hp] at h1; cases h1
  exact nw b u h1 (by rw [upd_ne hb]; exact h2)
/-! ### str(int) -/
def tstr (i : Int) : List Nat := ((toString i : String) : Str).cps.toList
theorem tstr_s (i : Int) : sOf (tstr i) = ((toString i : String) : Str) := by
  unfold sOf tstr
  simp
theorem tstr_c (i : Int) : ∀ c ∈ tstr i, c < 58 := fun c hc => by
  apply Classical.byContradiction
  intro z
  exact int_text_free' c ⟨by omega, by omega⟩ i hc
theorem tstr_l {i : Int} (h : i.natAbs < 10 ^ 10) : (tstr i).length ≤ 11 := by
  have h1 := int_text_length_le10 (a := i) (k := 10) (by decide) h
  have h2 := PySem.ofString_length (toString i)
  have h3 : (tstr i).length = (Str.ofString (toString i)).length := by
    unfold tstr
    exact Array.length_toList
  omega
theorem c_stri {i : Int} (hi : i.natAbs.log2 < 1920) (q : Q (.str (sOf (tstr i))) B L) : kC X (.type "str") [.int i] B L Q := ⟨_, call_str_int, fun H s => ⟨i, rfl, hi, _, _, s, by rw [tstr_s] at q; exact q⟩⟩
/-! ### repr of data -/
theorem call_reprD : CallR X (.builtin "repr") (fun xs H Q => ∃ v d, xs = [v] ∧ Dp X.K H v d ∧ d.showable = true ∧ d.hasDict = false ∧ d.shown.length ≤ sizeLine ∧ X.A.guards = some [] ∧ X.A.units + (d.depth + 1) < cLine ∧ Q (.str d.shown) H) := by
  intro ps s σ H xs us Q I r h
  obtain ⟨v, d, rfl, hd, hs, hn, hz, hg, hu, q⟩ := h
  cases r with
  | cons rx rr =>
    cases rr
    obtain ⟨as, R⟩ := Dp.reads I d v _ hd rx
    cases hd with
    | int i =>
      obtain ⟨tk, rfl⟩ := rx
      have hs : decide (i.natAbs.log2 < 1920) = true := hs
      exact P.repr_of_int (of_decide_eq_true hs) ⟨.str _, H, I.kept (t' := s.toks + 1) fun _ _ z => z, ⟨_, rfl⟩, q⟩
    | bl b =>
      cases rx
      exact P.repr_of_bool ⟨.str _, H, I.kept (t' := s.toks + 1) fun _ _ z => z, ⟨_, rfl⟩, q⟩
    | non =>
      cases rx
      exact P.repr_of_none ⟨.str _, H, I.kept (t' := s.toks + 1) fun _ _ z => z, ⟨_, rfl⟩, q⟩
    | str x =>
      obtain ⟨tk, rfl⟩ := rx
      exact P.repr_of_str (hsz := hz) ⟨.str _, H, I.kept (t' := s.toks + 1) fun _ _ z => z, ⟨_, rfl⟩, q⟩
    | lst h1 h2 =>
      cases rx
      exact repr_of_reads' R hs (PyData.noDict_hsm hn) hg hu (fun _ _ z => z) (fun h' u tk hk => ⟨.str _, H, I.kept (t' := tk) hk, ⟨_, rfl⟩, q⟩) hz
    | tup h1 h2 =>
      cases rx
      exact repr_of_reads' R hs (PyData.noDict_hsm hn) hg hu (fun _ _ z => z) (fun h' u tk hk => ⟨.str _, H, I.kept (t' := tk) hk, ⟨_, rfl⟩, q⟩) hz
theorem c_reprD {v : V} {d : PyData} (hd : Dd X B L v d) (h : d.showable = true ∧ d.hasDict = false ∧ d.shown.length ≤ sizeLine) (hg : X.A.guards = some []) (hu : X.A.units + (d.depth + 1) < cLine) (q : Q (.str d.shown) B L) : kC X (.builtin "repr") [v] B L Q :=
  ⟨_, call_reprD, fun H s => ⟨v, d, rfl, hd H s, h.1, h.2.1, h.2.2, hg, hu, _, _, s, q⟩⟩
end
end Kv

/-! isinstance of a built-in thing, an own class. -/
namespace Kv
open PySem PySem.Spec PyProof.Rows L2
def kitBR (K : PySem.W.Frag) (x : String) (y : Str) (b : Bool) : Bool := decide (PySem.W.kitOne K (.type x) (.ref (He.ga K y)) = some b)
theorem kitR_of {K : PySem.W.Frag} {x : String} {y : Str} {b : Bool} (e : kitBR K x y b = true) : PySem.W.kitOne K (.type x) (.ref (He.ga K y)) = some b := of_decide_eq_true e
/-- no data is a thing of the class at C -/
structure NoInst (K : PySem.W.Frag) (C : Addr) : Prop where
  n : PySem.W.kitOne K (.type "NoneType") (.ref C) = some false
  b : PySem.W.kitOne K (.type "bool") (.ref C) = some false
  i : PySem.W.kitOne K (.type "int") (.ref C) = some false
  s : PySem.W.kitOne K (.type "str") (.ref C) = some false
  l : PySem.W.kitOne K (.type "list") (.ref C) = some false
  t : PySem.W.kitOne K (.type "tuple") (.ref C) = some false
theorem NoInst.of {K : PySem.W.Frag} {C : Addr} (h : NoInst K C) (d : PyData) : PySem.W.kitOne K (.type (tyN d)) (.ref C) = some false := by
  cases d with
  | none => exact h.n
  | bool b => exact h.b
  | int i => exact h.i
  | str s => exact h.s
  | list l => exact h.l
  | tuple l => exact h.t
  | dict l => exact h.n
section
variable {X : Cx} {B : Hp} {L : HL} {Q : KQ}
theorem c_isDC {v : V} {d : PyData} {C : Addr} (h : Dd X B L v d) (hk : NoInst X.K C) (q : Q (.bl false) B L) : kC X (.builtin "isinstance") [v, .ref C] B L Q := c_isi (.own _) (fun H s => tyx_d (h H s)) (hk.of d) q
end
end Kv

/-! Things of numbers, texts and tuples; places in them; changed by a step; how long their repr is. -/
namespace Pch
open PySem PySem.Spec PyProof PyProof.Rows L2 Kv
/-- small data; with true also None, truth values and lists -/
inductive Cm (b : Bool) : PyData → Prop
  | str {l : List Nat} (h : ∀ c ∈ l, c < 128) : Cm b (.str (sOf l))
  | int {i : Int} (h : i.natAbs ≤ if b then 1000000000 else 1000000) : Cm b (.int i)
  | tup {ds : List PyData} (h : ∀ d ∈ ds, Cm b d) : Cm b (.tuple ds)
  | lst {ds : List PyData} (hb : b = true) (h : ∀ d ∈ ds, Cm b d) : Cm b (.list ds)
  | non (hb : b = true) : Cm b .none
  | bl (hb : b = true) (k : Bool) : Cm b (.bool k)
mutual
def sz : PyData → Nat
  | .none | .bool _ | .int _ => 1
  | .str s => s.length + 1
  | .list xs | .tuple xs => szA xs + 1
  | .dict kvs => (PyData.dict kvs).depth + 1
def szA : List PyData → Nat
  | [] => 0
  | x :: xs => sz x + szA xs
end
theorem szA_app (a b : List PyData) : szA (a ++ b) = szA a + szA b := by
  induction a with
  | nil => simp [szA]
  | cons x a ih => rw [List.cons_append, szA, ih, szA]; omega
theorem szA_mem {d : PyData} {ds : List PyData} (h : d ∈ ds) : sz d ≤ szA ds := by
  induction ds with
  | nil => cases h
  | cons x ds ih =>
    rw [szA]
    rcases List.mem_cons.mp h with rfl | h
    · omega
    · have := ih h; omega
theorem szA_take (ds : List PyData) (n : Nat) : szA (ds.take n) ≤ szA ds := by
  conv => rhs; rw [← List.take_append_drop n ds, szA_app]
  omega
theorem szA_drop (ds : List PyData) (n : Nat) : szA (ds.drop n) ≤ szA ds := by
  conv => rhs; rw [← List.take_append_drop n ds, szA_app]
  omega
theorem szA_rev (ds : List PyData) : szA ds.reverse = szA ds := by
  induction ds with
  | nil => rfl
  | cons x ds ih => rw [List.reverse_cons, szA_app, ih, szA, szA, szA]; omega
theorem sz_pos (d : PyData) : 1 ≤ sz d := by cases d <;> simp only [sz] <;> omega
theorem len_szA (ds : List PyData) : ds.length ≤ szA ds := by
  induction ds with
  | nil => simp
  | cons x ds ih => rw [szA, List.length_cons]; have := sz_pos x; omega
theorem Cm.up {d : PyData} (h : Cm false d) : Cm true d := by
  induction h with
  | str h => exact .str h
  | int h => exact .int (by simp only [Bool.false_eq_true, if_false] at h; simp only [if_true]; omega)
  | tup h ih => exact .tup ih
  | lst hb h ih => cases hb
  | non hb => cases hb
  | bl hb k => cases hb
/-! ### repr -/
theorem depthA_mem {d : PyData} {ds : List PyData} (h : d ∈ ds) : d.depth ≤ PyData.depthAll ds := by
  induction ds with
  | nil => cases h
  | cons x ds ih =>
    simp only [PyData.depthAll]
    rcases List.mem_cons.mp h with rfl | h
    · omega
    · have := ih h; omega
theorem depthA_le {ds : List PyData} {n : Nat} (h : ∀ d ∈ ds, d.depth ≤ n) : PyData.depthAll ds ≤ n := by
  induction ds with
  | nil => simp only [PyData.depthAll]; omega
  | cons x ds ih =>
    simp only [PyData.depthAll]
    have := h x List.mem_cons_self
    have := ih fun d hd => h d (List.mem_cons_of_mem _ hd)
    omega
theorem showable_of {b : Bool} {d : PyData} (h : Cm b d) : d.showable = true := by
  have all : ∀ ds : List PyData, (∀ d ∈ ds, d.showable = true) → PyData.showableAll ds = true := fun ds => by
    induction ds with
    | nil => intro _; simp only [PyData.showableAll]
    | cons x ds ih => intro h; simp only [PyData.showableAll, h x List.mem_cons_self, ih fun d hd => h d (List.mem_cons_of_mem _ hd), Bool.and_self]
  induction h with
  | str h => simp only [PyData.showable]
  | int h =>
    simp only [PyData.showable, decide_eq_true_eq]
    rename_i i
    have h : i.natAbs ≤ 1000000000 := by cases b <;> simp at h <;> omega
    by_cases h0 : i.natAbs = 0
    · rw [h0]; decide
    · have := (Nat.log2_lt h0 (k := 30)).mpr (by omega)
      omega
  | tup h ih => simp only [PyData.showable]; exact all _ ih
  | lst hb h ih => simp only [PyData.showable]; exact all _ ih
  | non hb => simp only [PyData.showable]
  | bl hb k => simp only [PyData.showable]
theorem nodict_of {b : Bool} {d : PyData} (h : Cm b d) : d.hasDict = false := by
  have all : ∀ ds : List PyData, (∀ d ∈ ds, d.hasDict = false) → PyData.hasDictAll ds = false := fun ds => by
    induction ds with
    | nil => intro _; simp only [PyData.hasDictAll]
    | cons x ds ih => intro h; simp only [PyData.hasDictAll, h x List.mem_cons_self, ih fun d hd => h d (List.mem_cons_of_mem _ hd), Bool.or_self]
  induction h with
  | tup h ih => simp only [PyData.hasDict]; exact all _ ih
  | lst hb h ih => simp only [PyData.hasDict]; exact all _ ih
  | _ => simp only [PyData.hasDict]
theorem shown_len {b : Bool} {d : PyData} (h : Cm b d) : d.shown.length + 2 ≤ 30 * sz d := by
  have all : ∀ ds : List PyData, (∀ d ∈ ds, d.shown.length + 2 ≤ 30 * sz d) → ((PyData.shownAll ds).map (·.length)).sum + 2 * (PyData.shownAll ds).length ≤ 30 * szA ds := fun ds => by
    induction ds with
    | nil => intro _; simp [PyData.shownAll]
    | cons x ds ih =>
      intro h
      have h1 := h x List.mem_cons_self
      have h2 := ih fun d hd => h d (List.mem_cons_of_mem _ hd)
      simp only [PyData.shownAll, szA, List.map_cons, List.sum_cons, List.length_cons]
      omega
  have pil : ∀ ts : List Str, piled ts = (ts.map (·.length)).sum + 2 * ts.length := fun ts => by
    induction ts with
    | nil => rfl
    | cons t ts ih => rw [piled_cons, ih, List.map_cons, List.sum_cons, List.length_cons]; omega
  induction h with
  | @str l hc =>
    simp only [PyData.shown, sz]
    have := StrLaws.reprText_len (sOf l) (fun c hm => by have : c ∈ l := by simpa [sOf] using hm
                                                         have := hc c this; omega)
    omega
  | @int i hi =>
    simp only [PyData.shown, sz]
    have hi : i.natAbs ≤ 1000000000 := by cases b <;> simp at hi <;> omega
    have h9 := int_text_length_le10 (a := i) (k := 10) (by decide) (by omega)
    have e : ((toString i : String) : Str).length = (toString i).length := by
      exact PySem.ofString_length _
    omega
  | tup h ih =>
    simp only [PyData.shown, sz]
    have h1 := fmt_text (PyData.shownAll ‹_›)
    rw [pil] at h1
    have h2 := all _ ih
    omega
  | lst hb h ih =>
    simp only [PyData.shown, sz]
    have h1 := listText_len_le (PyData.shownAll ‹_›)
    have h2 := all _ ih
    omega
  | non hb =>
    have : (PyData.none).shown.length = 4 := by decide +kernel
    simp only [sz]; omega
  | bl hb k =>
    have : (PyData.bool k).shown.length ≤ 5 := by cases k <;> decide +kernel
    simp only [sz]; omega
theorem shown_ok {b : Bool} {d : PyData} (h : Cm b d) (hs : sz d ≤ 500000) : d.showable = true ∧ d.hasDict = false ∧ d.shown.length ≤ sizeLine := ⟨showable_of h, nodict_of h, by
  have := shown_len h
  show _ ≤ 2 ^ 24
  have : (2 : Nat) ^ 24 = 16777216 := rfl
  omega⟩
/-! ### data that may be compared -/
theorem lay_of {b : Bool} {d : PyData} (h : Cm b d) : d.canLay0 = true := by
  have all : ∀ ds : List PyData, (∀ d ∈ ds, d.canLay0 = true) → PyData.canLayAll0 ds = true := fun ds => by
    induction ds with
    | nil => intro _; simp only [PyData.canLayAll0]
    | cons x ds ih => intro h; simp only [PyData.canLayAll0, h x List.mem_cons_self, ih fun d hd => h d (List.mem_cons_of_mem _ hd), Bool.and_self]
  induction h with
  | @str l hc =>
    have h0 : PyData.canLayAll0 (.str (sOf l) :: []) = true := lay_ss (a := [l]) (fun x hx c hc2 => by rw [List.mem_singleton.mp hx] at hc2; have := hc c hc2; omega)
    unfold PyData.canLayAll0 at h0
    rw [Bool.and_eq_true] at h0
    exact h0.1
  | tup h ih => simp only [PyData.canLay0]; exact all _ ih
  | lst hb h ih => simp only [PyData.canLay0]; exact all _ ih
  | _ => simp only [PyData.canLay0]
theorem shaped_of {b : Bool} {d : PyData} (h : Cm b d) (hd : d.depth ≤ 64) : SeqAt.shaped d = true := by
  unfold SeqAt.shaped
  rw [lay_of h, decide_eq_true hd]; rfl
theorem shaped_ints (w : List Int) : SeqAt.shaped (.tuple (w.map .int)) = true := by
  have h1 : ∀ w : List Int, PyData.canLayAll0 (w.map .int) = true := fun w => by
    induction w with
    | nil => simp only [List.map_nil, PyData.canLayAll0]
    | cons x w ih => simp only [List.map_cons, PyData.canLayAll0, PyData.canLay0, ih, Bool.and_self]
  have h2 : ∀ w : List Int, PyData.depthAll (w.map .int) = 0 := fun w => by
    induction w with
    | nil => simp only [List.map_nil, PyData.depthAll]
    | cons x w ih => simp only [List.map_cons, PyData.depthAll, PyData.depth, ih, Nat.max_self]
  unfold SeqAt.shaped
  simp only [PyData.canLay0, PyData.depth, h1, h2]
  rfl
/-! ### places in a thing -/
def wayD (w : List Nat) : PyData := .tuple (w.map fun (k : Nat) => .int (k : Int))
inductive At : PyData → List Nat → PyData → Prop
  | nil (d : PyData) : At d [] d
  | cons {ds : List PyData} {k : Nat} {e f : PyData} {w : List Nat} : ds[k]? = some e → At e w f → At (.tuple ds) (k :: w) f
def put : PyData → List Nat → PyData → PyData
  | _, [], x => x
  | .tuple ds, k :: w, x => match ds[k]? with
    | some e => .tuple (ds.take k ++ [put e w x] ++ ds.drop (k + 1))
    | none => .tuple ds
  | d, _ :: _, _ => d
theorem put_cons {ds : List PyData} {k : Nat} {e x : PyData} {w : List Nat} (h : ds[k]? = some e) : put (.tuple ds) (k :: w) x = .tuple (ds.take k ++ [put e w x] ++ ds.drop (k + 1)) := by
  rw [put, h]
theorem At.cm {b : Bool} {d f : PyData} {w : List Nat} (h : At d w f) (hc : Cm b d) : Cm b f := by
  induction h with
  | nil d => exact hc
  | cons h1 _ ih =>
    cases hc with
    | tup h => exact ih (h _ (List.mem_of_getElem? h1))
theorem At.sz {d f : PyData} {w : List Nat} (h : At d w f) : sz f ≤ sz d := by
  induction h with
  | nil d => exact Nat.le_refl _
  | cons h1 _ ih =>
    have := szA_mem (List.mem_of_getElem? h1)
    simp only [Pch.sz]
    omega
theorem At.dp {d f : PyData} {w : List Nat} (h : At d w f) : f.depth ≤ d.depth := by
  induction h with
  | nil d => exact Nat.le_refl _
  | cons h1 _ ih =>
    have := depthA_mem (List.mem_of_getElem? h1)
    simp only [PyData.depth]
    omega
theorem At.len {d f : PyData} {w : List Nat} (h : At d w f) : w.length ≤ d.depth := by
  induction h with
  | nil d => simp
  | cons h1 _ ih =>
    have := depthA_mem (List.mem_of_getElem? h1)
    simp only [PyData.depth, List.length_cons]
    omega
theorem put_ok {d f x : PyData} {w : List Nat} (h : At d w f) (hc : Cm true d) (hx : Cm true x) : Cm true (put d w x) ∧ Pch.sz (put d w x) ≤ Pch.sz d + Pch.sz x ∧ (put d w x).depth ≤ d.depth + x.depth := by
  induction h with
  | nil d => exact ⟨hx, by rw [put]; omega, by rw [put]; omega⟩
  | @cons ds k e f w h1 _ ih =>
    cases hc with
    | tup h =>
      obtain ⟨i1, i2, i3⟩ := ih (h _ (List.mem_of_getElem? h1))
      rw [put_cons h1]
      have hk := (List.getElem?_eq_some_iff.mp h1).1
      have hds : ds = ds.take k ++ [e] ++ ds.drop (k + 1) := by
        conv => lhs; rw [← List.take_append_drop k ds, List.drop_eq_getElem_cons hk, (List.getElem?_eq_some_iff.mp h1).2]
        simp
      refine ⟨.tup fun d hd => ?_, ?_, ?_⟩
      · rcases List.mem_append.mp hd with hd | hd
        · rcases List.mem_append.mp hd with hd | hd
          · exact h d (List.mem_of_mem_take hd)
          · rw [List.mem_singleton.mp hd]; exact i1
        · exact h d (List.mem_of_mem_drop hd)
      · have e1 : szA ds = szA (ds.take k) + Pch.sz e + szA (ds.drop (k + 1)) := by
          conv => lhs; rw [hds]
          rw [szA_app, szA_app, szA, szA]; omega
        simp only [Pch.sz]
        rw [szA_app, szA_app, szA, szA]
        omega
      · simp only [PyData.depth]
        have h5 := depthA_mem (List.mem_of_getElem? h1)
        have : PyData.depthAll (ds.take k ++ [put e w x] ++ ds.drop (k + 1)) ≤ PyData.depthAll ds + x.depth := depthA_le fun d hd => by
          rcases List.mem_append.mp hd with hd | hd
          · rcases List.mem_append.mp hd with hd | hd
            · have := depthA_mem (List.mem_of_mem_take hd); omega
            · rw [List.mem_singleton.mp hd]; omega
          · have := depthA_mem (List.mem_of_mem_drop hd); omega
        omega
theorem depth_sz : ∀ d : PyData, d.depth ≤ sz d := by
  have h : (∀ d : PyData, d.depth ≤ sz d) ∧ True := ⟨fun d => by
    induction d using PyData.rec (motive_2 := fun ds => PyData.depthAll ds ≤ szA ds) (motive_3 := fun _ => True) (motive_4 := fun _ => True) with
    | list xs ih => simp only [PyData.depth, sz]; omega
    | tuple xs ih => simp only [PyData.depth, sz]; omega
    | nil => simp [PyData.depthAll]
    | cons x xs h1 h2 => simp only [PyData.depthAll, szA]; omega
    | _ => first | trivial | (simp only [PyData.depth, sz]; omega), trivial⟩
  exact h.1
/-! ### ways in the heap -/
def iV (w : List Nat) : List V := w.map fun (k : Nat) => V.int (k : Int)
inductive WayV (G : Hp) : List V → List (List Nat) → Prop
  | nil : WayV G [] []
  | cons {p : Addr} {w : List Nat} {xs : List V} {ws : List (List Nat)} : G p = some (.tup (iV w)) → WayV G xs ws → WayV G (.ref p :: xs) (w :: ws)
theorem WayV.le {G G' : Hp} {xs : List V} {ws : List (List Nat)} (h : WayV G xs ws) (l : Le G G') : WayV G' xs ws := by
  induction h with
  | nil => exact .nil
  | cons h1 _ ih => exact .cons (l _ _ h1) ih
theorem WayV.app {G : Hp} {xs ys : List V} {ws us : List (List Nat)} (h : WayV G xs ws) (h2 : WayV G ys us) : WayV G (xs ++ ys) (ws ++ us) := by
  induction h with
  | nil => exact h2
  | cons h1 _ ih => exact .cons h1 ih
theorem WayV.len {G : Hp} {xs : List V} {ws : List (List Nat)} (h : WayV G xs ws) : xs.length = ws.length := by
  induction h with
  | nil => rfl
  | cons h1 _ ih => rw [List.length_cons, List.length_cons, ih]
theorem WayV.at {G : Hp} {xs : List V} {ws : List (List Nat)} (h : WayV G xs ws) : ∀ {i : Nat} {z : V}, xs[i]? = some z → ∃ p w, z = .ref p ∧ ws[i]? = some w ∧ G p = some (.tup (iV w)) := by
  induction h with
  | nil => intro i z h; rw [List.getElem?_nil] at h; cases h
  | cons h1 _ ih =>
    intro i z h
    cases i with
    | zero => cases h; exact ⟨_, _, rfl, rfl, h1⟩
    | succ i => exact ih (i := i) h
theorem dpa_at {K : PySem.W.Frag} {H : Hp} : ∀ {xs : List V} {ds : List PyData}, DpAll K H xs ds → ∀ {i : Nat} {z : V}, xs[i]? = some z → ∃ d, ds[i]? = some d ∧ Dp K H z d
  | _, _, .nil, _, _, h => by rw [List.getElem?_nil] at h; cases h
  | _, _, .cons h1 h2, 0, _, h => by cases h; exact ⟨_, rfl, h1⟩
  | _, _, .cons h1 h2, i + 1, _, h => dpa_at h2 (i := i) h
theorem dpa_len {K : PySem.W.Frag} {H : Hp} : ∀ {xs : List V} {ds : List PyData}, DpAll K H xs ds → xs.length = ds.length
  | _, _, .nil => rfl
  | _, _, .cons h1 h2 => by rw [List.length_cons, List.length_cons, dpa_len h2]
theorem dpa_take {K : PySem.W.Frag} {H : Hp} (n : Nat) : ∀ {xs : List V} {ds : List PyData}, DpAll K H xs ds → DpAll K H (xs.take n) (ds.take n) := by
  induction n with
  | zero => intro xs ds _; exact .nil
  | succ n ih => intro xs ds h; cases h with
    | nil => exact .nil
    | cons h1 h2 => exact .cons h1 (ih h2)
theorem dpa_drop {K : PySem.W.Frag} {H : Hp} (n : Nat) : ∀ {xs : List V} {ds : List PyData}, DpAll K H xs ds → DpAll K H (xs.drop n) (ds.drop n) := by
  induction n with
  | zero => intro xs ds h; exact h
  | succ n ih => intro xs ds h; cases h with
    | nil => exact .nil
    | cons h1 h2 => exact ih h2
theorem dpa_app {K : PySem.W.Frag} {H : Hp} {xs ys : List V} {ds es : List PyData} (h : DpAll K H xs ds) (h2 : DpAll K H ys es) : DpAll K H (xs ++ ys) (ds ++ es) := by
  induction xs generalizing ds with
  | nil => cases h; exact h2
  | cons x xs ih => cases h with
    | cons a b => exact .cons a (ih b)
theorem dpa_rev {K : PySem.W.Frag} {H : Hp} : ∀ {xs : List V} {ds : List PyData}, DpAll K H xs ds → DpAll K H xs.reverse ds.reverse
  | _, _, .nil => .nil
  | _, _, .cons h1 h2 => by rw [List.reverse_cons, List.reverse_cons]; exact dpa_app (dpa_rev h2) (.cons h1 .nil)
theorem rd_le {H H' : Hp} {a : Addr} {o : HO} (e : Le H H') (h : Rd H a o) : Rd H' a o := h.imp (e _ _) fun ⟨ob, z⟩ => ⟨ob, e _ _ z⟩
theorem sqt_le {K : PySem.W.Frag} {H H' : Hp} {a : Addr} {xs : List V} (e : Le H H') (h : SqT K H a xs) : SqT K H' a xs := h.imp (rd_le e) id
theorem sql_le {K : PySem.W.Frag} {H H' : Hp} {a : Addr} {xs : List V} (e : Le H H') (h : SqL K H a xs) : SqL K H' a xs := h.imp (rd_le e) id
/-- a sub-heap and what is new -/
def jnH (G N : Hp) : Hp := fun b => match G b with | some o => some o | none => N b
theorem jn_l {G N : Hp} : Le G (jnH G N) := fun b o h => by unfold jnH; rw [h]
theorem jn_r {G N : Hp} (d : ∀ b o, N b = some o → G b = none) : Le N (jnH G N) := fun b o h => by unfold jnH; rw [d b o h]; exact h
theorem jn_mono {G N N' : Hp} (l : Le N N') : Le (jnH G N) (jnH G N') := fun b o h => by
  unfold jnH at h ⊢
  cases e : G b with
  | some u => rw [e] at h; exact h
  | none => rw [e] at h; exact l _ _ h
theorem jn_le {G N B : Hp} (h1 : Le G B) (h2 : Le N B) : Le (jnH G N) B := fun b o h => by
  unfold jnH at h
  cases e : G b with
  | some u => rw [e] at h; cases h; exact h1 _ _ e
  | none => rw [e] at h; exact h2 _ _ h
theorem jn_new {G H B : Hp} (l : Le G H) : Le (nwH H B) (jnH G (nwH H B)) := jn_r fun b o h => by
  cases e : G b with
  | none => rfl
  | some u => have := l _ _ e; rw [(nw_some h).1] at this; cases this
theorem rm_some {H : Hp} {p b : Addr} {o : HO} (h : rmH H p b = some o) : H b = some o := by
  by_cases hb : b = p
  · subst hb
    rw [show rmH H b b = none from if_pos rfl] at h; cases h
  · rw [rm_ne hb] at h; exact h
theorem jn_same {G H B B' : Hp} (l : Le B B') : Le (jnH G (nwH H B)) (jnH G (nwH H B')) := jn_mono (nw_mono l)
/-- G's things and what is new since H, while the heap is B and L -/
structure Jok (G H B : Hp) (L : HL) : Prop where
  lG : Le G H
  gB : Le G B
  n : ∀ b, B b = none → b ∉ L.map (·.1) → H b = none
theorem Jok.up {G H B B' : Hp} {L : HL} (j : Jok G H B L) (l : Le B B') : Jok G H B' L := ⟨j.lG, fun b o h => l _ _ (j.gB _ _ h), fun b hb hL => j.n b (by
  cases e : B b with
  | none => rfl
  | some u => rw [l _ _ e] at hb; cases hb) hL⟩
theorem Jok.to {G H B : Hp} {L L' : HL} (j : Jok G H B L) (h : ∀ b ∈ L.map (·.1), b ∈ L'.map (·.1)) : Jok G H B L' := ⟨j.lG, j.gB, fun b hb hL => j.n b hb fun z => hL (h b z)⟩
theorem Jok.le {G H B : Hp} {L : HL} (j : Jok G H B L) : Le (jnH G (nwH H B)) B := jn_le j.gB nw_le
section
variable {X : Cx} {G H0 B : Hp} {L : HL} {Q : KQ}
theorem sl_tJ {a : Addr} {xs : List V} {lo hi : Option Int} (j : Jok G H0 B L) (h : SqT X.K (jnH G (nwH H0 B)) a xs) (q : ∀ r B', Le B B' → Jok G H0 B' L → SqT X.K (jnH G (nwH H0 B')) r (cut xs lo hi) → Q (.ref r) B' L) : kSl X (.ref a) lo hi B L Q := by
  refine sl_tF (.inl (sqt_le j.le h)) (fun z => q a B (fun _ _ z => z) j ?_) fun z p B' l n e => q p B' l (j.up l) (.inl (.inl (jn_new j.lG _ _ (nw_of (j.n p n.1 n.2) e))))
  have e : cut xs lo hi = xs := by
    unfold cut
    rw [z.1, z.2, Nat.sub_zero, List.drop_zero, List.take_length]
  rw [e]; exact h
theorem o_cattJ {p q : Addr} {xs ys : List V} (j : Jok G H0 B L) (h1 : SqT X.K (jnH G (nwH H0 B)) p xs) (h2 : SqT X.K (jnH G (nwH H0 B)) q ys) (hl : xs.length + ys.length ≤ 16777216) (h : ∀ r B', Le B B' → Jok G H0 B' L → SqT X.K (jnH G (nwH H0 B')) r (xs ++ ys) → Q (.ref r) B' L) : kO X (binaryOp .Add) (.ref p) (.ref q) B L Q :=
  ⟨_, op_catA, fun H s => ⟨p, q, xs, ys, rfl, rfl, sqt_le (fun b o z => s.ext _ _ (j.le _ _ z)) h1, sqt_le (fun b o z => s.ext _ _ (j.le _ _ z)) h2, small hl, fun e => ⟨_, _, s, h q B (fun _ _ z => z) j (by rw [e]; exact h2)⟩, fun _ e => ⟨_, _, s, h p B (fun _ _ z => z) j (by rw [e, List.append_nil]; exact h1)⟩,
    fun _ _ r hr => ⟨_, _, (s.newB hr).2.2, h r _ (s.newB hr).1 (j.up (s.newB hr).1) (.inl (.inl (jn_new j.lG _ _ (nw_of (j.n r (not_inD s hr).1 (not_inD s hr).2) (s.newB hr).2.1))))⟩⟩⟩
end
end Pch

/-! a def without loops and raises, called within an except suite. -/
namespace Kv
open PySem PySem.Spec PyProof.Rows L2
structure FnW (P : Program) (w : World) (K : PySem.W.Frag) (mg : Str → Option Value) (base : Heap) (k : Nat) (f : Addr) (fd : FuncData) (ps : List Str) (sp : Sp) : Prop where
  len : ∀ vs H Q E, sp vs H Q E → vs.length = ps.length
  run : ∀ (A : Around) (outer : List Env) (s : Shared) (H : Hp) (args : Args) (us : List Value) (vs : List V) (Q : VK) (E : XK), L2H.RoomH k A → Env0 P w K mg base A outer s H → BindsTo s fd args (ps.zip us) → Vals vs us → sp vs H Q E →
    codeAny (model P w) A (.call (.ref f) args) (CR (L2.CX P w) outer P w H s Q E) s
/-- the context of its body -/
def cxW (P : Program) (w : World) (K : PySem.W.Frag) (mg : Str → Option Value) (base : Heap) (N : List Str) (qual : Str) (scope : Scope) (f : Addr) (cd : Value) (A : Around) (outer : List Env) (s : Shared) (H : Hp) (E : XK) : Cx :=
  { cxOf (L2.CX P w) P w K mg base N qual scope f cd A outer s H E with calm := false }
section
variable {P : Program} {w : World} {K : PySem.W.Frag} {mg : Str → Option Value} {base : Heap}
theorem inv_startW {N ps : List Str} {qual : Str} {scope : Scope} {f : Addr} {cd : Value} {A : Around} {outer : List Env} {s s1 : Shared} {H : Hp} {E : XK} {us : List Value} {vs : List V}
    (S : FnScope N ps scope) (e0 : Env0 P w K mg base A outer s H) (hl : vs.length = ps.length) (r : Vals vs us)
    (x : InCallC s s.heap.objs.size (bindL (envOfC qual scope s.heap.objs.size f cd).kindOf (ps.zip us) fun _ => none) (cellsFrom (s.heap.objs.size + 1) scope.names []) (bindC (envOfC qual scope s.heap.objs.size f cd).kindOf (ps.zip us) fun _ => none) s1) :
    Inv (cxW P w K mg base N qual scope f cd A outer s H E) [] (L2.start N vs) H s1 := by
  have I : Inv (cxOf (L2.CX P w) P w K mg base N qual scope f cd { A with handled := none } outer s H E) [] (L2.start N vs) H s1 := inv_start S rfl ⟨e0.frames, e0.mod, e0.bs, e0.bsz, e0.funs, e0.frf, e0.hok, e0.bare⟩ hl r x
  exact ⟨⟨I.ok.mod, I.ok.kind, I.ok.glob, I.ok.blt, I.ok.above, I.ok.inj, I.ok.has, I.ok.cab, (fun z => Bool.noConfusion (show false = true from z)), Around.frames_deeper e0.frames, I.ok.stk, I.ok.exf, I.ok.bs, I.ok.bsz, I.ok.noex, I.ok.exfs, I.ok.funs, I.ok.frf⟩, I.os, I.bare, I.base, I.loc, I.cell, I.free, I.freeC, I.pin, I.hok, I.len⟩
theorem fn_okW {x qual : Str} {st : Stmt} {f : Addr} {fd : FuncData} {N ps : List Str} {k : Nat} {sp : Sp} (F : Fun K x qual st f fd) (S : FnScope N ps (defScope st))
    (len : ∀ vs H Q E, sp vs H Q E → vs.length = ps.length)
    (hbody : ∀ (cdv : Value) (A : Around) (outer : List Env) (s : Shared) (H : Hp) (vs : List V) (Q : VK) (E : XK), L2H.RoomH k (A.deeper (envOfC qual (defScope st) s.heap.objs.size f cdv)) → sp vs H Q E →
      ∃ B L, Sat B L H ∧ kSs (cxW P w K mg base N qual (defScope st) f cdv A outer s H E) (defBody st) (start N vs) B L (fD Q)) : FnW P w K mg base (k + 1) f fd ps sp := by
  obtain ⟨oc, od, kV, doc, pm, an, cdv, ct, osl, rfl, lk, hcd⟩ := F.ex
  refine ⟨len, fun A outer s H args us vs Q E hr e0 hb r hsp => ?_⟩
  have hl := len _ _ _ _ hsp
  have KX : K.In s.heap := e0.mod.kin.keeps fun b o e => (e0.bs b o e).1
  have lim : s.heap.NoLimit := e0.mod.nolimit.keeps fun b o e => (e0.bs b o e).1
  have hkind : ∀ y ∈ ps.zip us, (defScope st).names.lookup y.1 = some .local ∨ ((defScope st).names.lookup y.1 = some .cell ∧ ((cellsFrom (s.heap.objs.size + 1) (defScope st).names []).lookup y.1).isSome = true) := fun ⟨n, v⟩ hy => by
    rcases S.par n (List.of_mem_zip hy).1 with q | q
    · exact .inl q
    · exact .inr ⟨q, PySem.W.cellsFrom_some _ _ _ (.inl q)⟩
  refine codeAny_call_function hr.depth (KX _ _ lk) rfl S.co S.gen rfl (PySem.W.codeRec_of KX hcd) (hb _ _ _ _ ?_)
  refine wpAny_newFunctionEnv_cells S.kind hkind fun env he s1 x => ?_
  subst he
  refine ⟨lim.keeps x.toInCall.keep, codeAny_func ?_⟩
  obtain ⟨B, L, sat, hk⟩ := hbody cdv A outer s H vs Q E (hr.deeper _) hsp
  have I : Inv (cxW P w K mg base N qual (defScope st) f cdv A outer s H E) [] (L2.start N vs) H s1 := inv_startW S e0 hl r x
  have hS : cSs (cxW P w K mg base N qual (defScope st) f cdv A outer s H E) (defBody st) { nx := fun _ H' => Q .non H', rt := Q } (L2.start N vs) H := by
    refine ⟨B, L, fD Q, sat, hk, ?_, ?_, ?_, ?_⟩
    · rintro σ' H' ⟨B', L', s', q⟩
      exact q H' s'
    · rintro v H' ⟨B', L', s', q⟩
      exact q H' s'
    · rintro σ' H' ⟨B', L', s', q⟩
      exact q.elim
    · rintro σ' H' ⟨B', L', s', q⟩
      exact q.elim
  refine wpAny_mono (pss_c.run [] s1 (L2.start N vs) H _ I hS) (fun fl s' hs => ?_) fun e s' hs => hs
  have fin : ∀ {σ' : L2.St} {H' : Hp} {v : V} {u : Value}, Inv (cxW P w K mg base N qual (defScope st) f cdv A outer s H E) [] σ' H' s' → L2.RelV v u → Q v H' → CE outer P w H s Q u s' :=
    fun {σ' H' v u} J rv q => ⟨v, H', J.os, J.bare, J.base, J.hok, rv, q⟩
  cases fl with
  | ret u =>
    obtain ⟨v, σ', H', J, rv, q⟩ := hs
    exact fin J rv q
  | next =>
    obtain ⟨σ', H', J, q⟩ := hs
    exact fin (v := V.non) (u := Value.none) J rfl q
  | brk =>
    obtain ⟨_, _, _, q⟩ := hs
    exact False.elim q
  | cont =>
    obtain ⟨_, _, _, q⟩ := hs
    exact False.elim q
end
section
variable {X : Cx} {σ : L2.St} {B : Hp} {L : HL} {Q : KQ} {k : Nat} {f : Addr} {fd : FuncData} {ps : List Str} {sp : Sp} {x : Str} {p2 pos : Pos} {e : Expr} {es : List Expr} {t : TA}
theorem pe_callW (F : FnW X.prog X.w X.K X.mg X.base k f fd ps sp) (hr : L2H.RoomH k X.A) (hg : Gl X x) (hm : X.mg x = some (.ref f)) (hk : PySem.W.keepIn X.K (.ref f) = true) (hb : L2.Binds X.K fd ps []) (hx : ∀ σ, PassesAt (L2.CX X.prog X.w) X σ ((fun _ _ _ _ => False : L2.St → XK) σ))
    (ha : PA X (e :: es) t) (hdb : (x == ("__debug__" : Str)) = false := by decide) (he : starEach (e :: es) X.env = (false, eval e X.env) :: starEach es X.env := by rfl) (hpl : (backTo pos (starEach es X.env)).any (·.1) = false := by rfl) :
    PE X (.Call (.Name x p2) (e :: es) [] pos) (fun σ H Q => t σ H fun vs H1 => sp vs H1 Q fun _ _ _ => False) := by
  refine ⟨fun pins s σ H Q I h => ?_⟩
  refine wpAny_Call_Name_kw (ld_glob I hg hm ?_ hdb)
  refine PySem.W.callWith_K (h₀ := X.base) I.ok.mod.kin hk (thn (ha.run pos pins s σ H _ I h) fun us s1 ⟨vs, H1, I1, r, q⟩ => ⟨I1.kIn, ?_⟩) he hpl
  have hl : us.length = ps.length := by rw [← r.length]; exact F.len _ _ _ _ q
  have b := hb s1 us I1.kIn (by rw [List.append_nil]; exact hl)
  rw [List.append_nil] at b
  refine wpAny_call (codeAny_mono (F.run X.A X.stack s1 H1 ⟨us, []⟩ us vs Q _ hr I1.env0 b r q) fun r s' hq => ?_)
  cases r with
  | error e => exact hx σ pins H1 s1 e s' I1 hq
  | ok fl =>
    cases fl with
    | ret u => exact I1.after hq
    | next => exact False.elim hq
    | brk => exact False.elim hq
    | cont => exact False.elim hq
theorem k_fnW (F : FnW X.prog X.w X.K X.mg X.base k f fd ps sp) (hr : L2H.RoomH k X.A) (hm : X.mg x = some (.ref f)) (hk : PySem.W.keepIn X.K (.ref f) = true) (hb : L2.Binds X.K fd ps []) (h : kA X (e :: es) σ B L fun vs B1 L1 => ∀ H, Sat B1 L1 H → sp vs H (up Q) fun _ _ _ => False) (hg : Gl X x := by rfl)
    (hdb : (x == ("__debug__" : Str)) = false := by decide) (he : starEach (e :: es) X.env = (false, eval e X.env) :: starEach es X.env := by rfl) (hpl : (backTo pos (starEach es X.env)).any (·.1) = false := by rfl) : kE X (.Call (.Name x p2) (e :: es) [] pos) σ B L Q :=
  ⟨_, pe_callW F hr hg hm hk hb (fun σ => passAt L2.takes0 σ) pa_c hdb he hpl, fun H s => toA s h fun _ _ _ _ s q => q _ s⟩
end
/-- .. by its name -/
structure FnWn (P : Program) (w : World) (K : PySem.W.Frag) (mg : Str → Option Value) (base : Heap) (k : Nat) (x : Str) (sp : Sp) : Prop where
  ex : ∃ f fd ps, FnW P w K mg base k f fd ps sp ∧ mg x = some (.ref f) ∧ PySem.W.keepIn K (.ref f) = true ∧ L2.Binds K fd ps []
theorem k_fnWn {X : Cx} {σ : L2.St} {B : Hp} {L : HL} {Q : KQ} {k : Nat} {sp : Sp} {x : Str} {p2 pos : Pos} {e : Expr} {es : List Expr} (F : FnWn X.prog X.w X.K X.mg X.base k x sp) (hr : L2H.RoomH k X.A) (h : kA X (e :: es) σ B L fun vs B1 L1 => ∀ H, Sat B1 L1 H → sp vs H (up Q) fun _ _ _ => False) (hg : Gl X x := by rfl)
    (hdb : (x == ("__debug__" : Str)) = false := by decide) (he : starEach (e :: es) X.env = (false, eval e X.env) :: starEach es X.env := by rfl) (hpl : (backTo pos (starEach es X.env)).any (·.1) = false := by rfl) : kE X (.Call (.Name x p2) (e :: es) [] pos) σ B L Q := by
  obtain ⟨f, fd, ps, h1, h2, h3, h4⟩ := F.ex
  exact k_fnW h1 hr h2 h3 h4 h hg hdb he hpl
end Kv

/-! two defs with lambdas: two tables. -/
namespace Kv
open PySem PySem.Spec PyProof.Rows L2 LamX
/-- behind the making of a lambda, two tables told of -/
theorem sat_tab2 {B : Hp} {L L0 : HL} {H H1 : Hp} {P P' : Addr} {q q' : Str} {ps ps' : Array Value} (s0 : Sat B L H) (pl : L.Perm ((P, .tbl ps) :: (P', .tbl ps') :: L0)) (nB : NoT B) (nL : ∀ p ∈ L0, Pln p.2) (eN : ExtN H H1) (T1 : Tabs [(P, q), (P', q')] H1) : ∃ B' qs qs', Le B B' ∧ NoT B' ∧ TabI B' q qs ∧ TabI B' q' qs' ∧ Sat B' ((P, .tbl qs) :: (P', .tbl qs') :: L0) H1 := by
  have s1 := s0.perm pl
  obtain ⟨ps1, hP, ht, ha⟩ := T1 (P, q) List.mem_cons_self
  obtain ⟨ps2, hP2, ht2, ha2⟩ := T1 (P', q') (.tail _ List.mem_cons_self)
  have hown : ∀ p ∈ ((P, HO.tbl ps1) :: (P', HO.tbl ps2) :: L0 : HL), H1 p.1 = some p.2 := fun p hp => by
    rcases List.mem_cons.mp hp with rfl | hp
    · exact hP
    rcases List.mem_cons.mp hp with rfl | hp
    · exact hP2
    · exact eN _ _ (s1.own p (.tail _ (.tail _ hp))) (nL p hp).1
  have hnm : ((P, HO.tbl ps) :: (P', HO.tbl ps') :: L0 : HL).map (·.1) = ((P, HO.tbl ps1) :: (P', HO.tbl ps2) :: L0 : HL).map (·.1) := rfl
  classical
  obtain ⟨F, hF⟩ : ∃ F : Hp, ∀ b, F b = if b ∈ ((P, HO.tbl ps1) :: (P', HO.tbl ps2) :: L0 : HL).map (·.1) then none else noTb H1 b := ⟨_, fun _ => rfl⟩
  have code : ∀ {c : Addr} {r : Str}, H1 c = some (CodeO c r) → F c = some (CodeO c r) := fun {c r} e2 => by
    have hn : ¬ c ∈ ((P, HO.tbl ps1) :: (P', HO.tbl ps2) :: L0 : HL).map (·.1) := fun z => by
      obtain ⟨p, hp, rfl⟩ := List.mem_map.mp z
      have h1 := hown p hp
      rw [e2] at h1
      have h2 := Option.some.inj h1
      rcases List.mem_cons.mp hp with rfl | hp
      · exact codeO_ne _ h2
      rcases List.mem_cons.mp hp with rfl | hp
      · exact codeO_ne _ h2
      · exact (nL p hp).2 _ _ h2.symm
    rw [hF, if_neg hn]
    exact noTb_of e2 fun qs => codeO_ne qs
  refine ⟨F, ps1, ps2, fun b o e => ?_, fun b qs e => ?_, ⟨ht, fun pos cv hc => ?_⟩, ⟨ht2, fun pos cv hc => ?_⟩, ⟨fun b o e => ?_, hown, fun p hp => by rw [hF, if_pos (List.mem_map.mpr ⟨p, hp, rfl⟩)], ?_⟩⟩
  · have hn : ¬ b ∈ ((P, HO.tbl ps1) :: (P', HO.tbl ps2) :: L0 : HL).map (·.1) := fun z => by
      rw [← hnm] at z
      obtain ⟨p, hp, rfl⟩ := List.mem_map.mp z
      rw [s1.nb p hp] at e
      cases e
    rw [hF, if_neg hn]
    have no : ∀ qs, o ≠ .tbl qs := fun qs z => nB b qs (by rw [e, z])
    exact noTb_of (eN _ _ (s1.ext _ _ e) no) no
  · rw [hF] at e
    split at e
    · cases e
    · exact noT_noTb H1 b qs e
  · obtain ⟨c, e1, e2⟩ := ha pos cv hc
    exact ⟨c, e1, code e2⟩
  · obtain ⟨c, e1, e2⟩ := ha2 pos cv hc
    exact ⟨c, e1, code e2⟩
  · rw [hF] at e
    split at e
    · cases e
    · exact (noTb_some e).1
  · have := s1.nd
    simpa using this
theorem TabI.tabS {B : Hp} {L : HL} {H : Hp} {P : Addr} {q : Str} {ps : Array Value} (t : TabI B q ps) (s : Sat B L H) (h : (P, HO.tbl ps) ∈ L) : LamX.TabS H P q :=
  ⟨ps, s.own _ h, t.1, fun pos cv hc => by
    obtain ⟨c, e1, e2⟩ := t.2 pos cv hc
    exact ⟨c, e1, s.ext _ _ e2⟩⟩
theorem tabs2 {B : Hp} {L : HL} {H : Hp} {P P' : Addr} {q q' : Str} {ps ps' : Array Value} (s : Sat B L H) (t : TabI B q ps) (t' : TabI B q' ps') (h : (P, HO.tbl ps) ∈ L) (h' : (P', HO.tbl ps') ∈ L) : LamX.Tabs [(P, q), (P', q')] H := fun z hz => by
  rcases List.mem_cons.mp hz with rfl | hz
  · exact t.tabS s h
  · rw [List.mem_singleton.mp hz]
    exact t'.tabS s h'
theorem tabs_swap {P P' : Addr} {q q' : Str} {H : Hp} (h : LamX.Tabs [(P, q), (P', q')] H) : LamX.Tabs [(P', q'), (P, q)] H := fun z hz => h z (by
  rcases List.mem_cons.mp hz with rfl | hz
  · exact .tail _ List.mem_cons_self
  · rw [List.mem_singleton.mp hz]; exact List.mem_cons_self)
section
variable {X : Cx} {σ : L2.St} {B : Hp} {L L0 : HL} {Q : KQ} {ER : Addr → List Nat → Prop} {k : Nat} {x : Str} {c P P' : Addr} {q' : Str} {params : Arguments} {body : Expr} {scope : Scope} {p lpos pos : Pos} {ps ps2 : Array Value}
/-- told(lambda: body), another table beside -/
theorem k_told2 (Tk : Told X.prog X.w X.K X.mg X.base k x ER) (hr : Room (k + 2) X.A) (TB : TabB X.base X.mg c P) (hcode : X.env.code = .ref c) (hne : P' ≠ P) (pl : L.Perm ((P, .tbl ps) :: (P', .tbl ps2) :: L0)) (tab : TabI B (X.env.qual ++ "<lambda>") ps) (tab2 : TabI B q' ps2) (nB : NoT B) (nL : ∀ p ∈ L0, Pln p.2)
    (h : ∀ B' qs qs2, Le B B' → NoT B' → TabI B' (X.env.qual ++ "<lambda>") qs → TabI B' q' qs2 → ∀ (A : Around) (outer : List Env) (s : Shared) (H0 : Hp) (f c' : Addr), Room k (A.deeper (lamEnv X scope s.heap.objs.size f c')) → Takes (lamCx X A outer s H0 (EL ER (up Q)) scope f c') (fun cls d _ H => EL ER (up Q) cls d H) →
      kE (lamCx X A outer s H0 (EL ER (up Q)) scope f c') body σ B' ((P, .tbl qs) :: (P', .tbl qs2) :: L0) Q)
    (hL : LamS X.env.scope scope := by exact LamX.lamS_by (by kernel_rfl)) (hg : Gl X x := by rfl) (hdef : defaultsOf params X.env = ([], []) := by rfl)
    (hbind : ∀ (q : Str) (cl : List (Str × Addr)) (pm cv ctv : Value), bindArgs (PySem.W.kla_fn "<lambda>" q params body scope cl pm cv ctv) ⟨[], []⟩ = pure [] := by intros; rfl) (hdb : (x == ("__debug__" : Str)) = false := by decide) :
    kE X (.Call (.Name x p) [.Lambda params body scope lpos] [] pos) σ B L Q := by
  obtain ⟨g, a, pg, bg, sg, dV, kV, doc, pm, cdv, ct, oc, an, od, osl, Ng, hm, hk, lk, hcg, hb, Sg, hNg, hva, hd, hcd, hG⟩ := Tk.ex
  refine ⟨_, pe_lamcall (T := [(P, X.env.qual ++ "<lambda>"), (P', q')]) (TT := TTl ER) (k := k) (t := fun E σ H Q => ∀ (A : Around) (outer : List Env) (s : Shared) (H0 : Hp) (f c' : Addr), Room k (A.deeper (lamEnv X scope s.heap.objs.size f c')) → cE (lamCx X A outer s H0 E scope f c') body σ H Q) hg hm hk lk hcg hb Sg hNg hva (hG X rfl rfl rfl rfl rfl hr _) TB hcode List.mem_cons_self (fun z hz e => by
    rcases List.mem_cons.mp hz with rfl | hz
    · rfl
    · rw [List.mem_singleton.mp hz] at e; exact absurd e hne) hr hL hdef hbind (fun A outer s H E f c' hr2 => PE.imp pe_c fun σ H' Q z => z A outer s H f c' hr2) hdb hd hcd, fun H sat => ?_⟩
  refine ⟨tabs2 (sat.perm pl) tab tab2 List.mem_cons_self (.tail _ List.mem_cons_self), fun H1 eN T1 => ?_⟩
  · obtain ⟨B', qs, qs2, l, n, t, t2, s'⟩ := sat_tab2 sat pl nB nL eN T1
    refine ⟨fun v H' H'' e ⟨B2, L2, s2, q2⟩ => ⟨B2, L2, s2.keep e, q2⟩, fun H2 e2 Q2 m => ?_⟩
    intro A outer s H0 f c' hr2
    exact ⟨B', _, Q, s'.keep e2, h B' qs qs2 l n t t2 A outer s H0 f c' hr2 (takes_of rfl rfl rfl rfl), fun v H' z => m v H' z⟩
end
/-- a def's beginning, two tables -/
theorem tab_go2 {H : Hp} {pd P0 P1 : Addr} {o : HO} {q q' : Str} (hpd : H pd = some o) (no : Pln o) (h01 : P1 ≠ P0) (hT : LamX.Tabs [(P0, q), (P1, q')] H) : ∃ ps ps', Sat (rmH (noTb H) pd) [(pd, o), (P0, .tbl ps), (P1, .tbl ps')] H ∧ NoT (rmH (noTb H) pd) ∧ TabI (rmH (noTb H) pd) q ps ∧ TabI (rmH (noTb H) pd) q' ps' ∧ ∀ b u, b ≠ pd → (∀ ps, u ≠ .tbl ps) → H b = some u → rmH (noTb H) pd b = some u := by
  obtain ⟨ps, hP, ht, ha⟩ := hT (P0, q) List.mem_cons_self
  obtain ⟨ps', hP', ht', ha'⟩ := hT (P1, q') (.tail _ List.mem_cons_self)
  have hP : H P0 = some (.tbl ps) := hP
  have hP' : H P1 = some (.tbl ps') := hP'
  have hne : pd ≠ P0 := fun z => by rw [z, hP] at hpd; exact no.1 ps (Option.some.inj hpd).symm
  have hne' : pd ≠ P1 := fun z => by rw [z, hP'] at hpd; exact no.1 ps' (Option.some.inj hpd).symm
  have kept : ∀ b u, b ≠ pd → (∀ ps, u ≠ .tbl ps) → H b = some u → rmH (noTb H) pd b = some u := fun b u h1 h2 h3 => by rw [rm_ne h1]; exact noTb_of h3 h2
  have gone : ∀ {P1 : Addr} {ps}, pd ≠ P1 → H P1 = some (.tbl ps) → rmH (noTb H) pd P1 = none := fun {P1 ps} h1 h2 => by
    rw [rm_ne (Ne.symm h1)]
    unfold noTb
    rw [h2]
  have code : ∀ {c : Addr} {r : Str}, H c = some (CodeO c r) → rmH (noTb H) pd c = some (CodeO c r) := fun {c r} e2 => kept c _ (fun z => by
    rw [z, hpd] at e2
    exact no.2 _ _ (Option.some.inj e2)) (fun qs => LamX.codeO_ne qs) e2
  refine ⟨ps, ps', ?_, fun b qs e => ?_, ⟨ht, fun pos cv hc => ?_⟩, ⟨ht', fun pos cv hc => ?_⟩, kept⟩
  · refine ⟨fun b u e => ?_, fun p hp => ?_, fun p hp => ?_, ?_⟩
    · by_cases k : b = pd
      · rw [k, rm_eq] at e; cases e
      · rw [rm_ne k] at e; exact (noTb_some e).1
    · rcases List.mem_cons.mp hp with rfl | hp
      · exact hpd
      rcases List.mem_cons.mp hp with rfl | hp
      · exact hP
      · rw [List.mem_singleton.mp hp]; exact hP'
    · rcases List.mem_cons.mp hp with rfl | hp
      · exact rm_eq
      rcases List.mem_cons.mp hp with rfl | hp
      · exact gone hne hP
      · rw [List.mem_singleton.mp hp]; exact gone hne' hP'
    · simp [hne, hne', Ne.symm h01]
  · by_cases k : b = pd
    · rw [k, rm_eq] at e; cases e
    · rw [rm_ne k] at e; exact noT_noTb H b qs e
  · obtain ⟨c, e1, e2⟩ := ha pos cv hc
    exact ⟨c, e1, code e2⟩
  · obtain ⟨c, e1, e2⟩ := ha' pos cv hc
    exact ⟨c, e1, code e2⟩
theorem tabi_noT {B : Hp} {q : Str} {ps : Array Value} (t : TabI B q ps) : TabI (noTb B) q ps := ⟨t.1, fun pos cv hc => by
  obtain ⟨c, e1, e2⟩ := t.2 pos cv hc
  exact ⟨c, e1, noTb_of e2 fun qs => LamX.codeO_ne qs⟩⟩
theorem sat_noT {B : Hp} {L : HL} {H : Hp} (s : Sat B L H) : Sat (noTb B) L H := ⟨fun b o e => s.ext _ _ (noTb_some e).1, s.own, fun q hq => by unfold noTb; rw [s.nb q hq], s.nd⟩
/-- a call of a def with two tables: what it needs, and what stands behind it -/
theorem call_tab2 {B : Hp} {L L1 : HL} {H : Hp} {P P' pd : Addr} {q q' : Str} {ps ps' : Array Value} {n f : Int} (s00 : Sat B L H) (pl : L.Perm ((P, .tbl ps) :: (P', .tbl ps') :: (pd, .lst [.int n, .int f]) :: L1)) (tab : TabI B q ps) (tab' : TabI B q' ps') (nL : ∀ p ∈ L1, Pln p.2) :
    H pd = some (.lst [.int n, .int f]) ∧ LamX.Tabs [(P, q), (P', q')] H ∧ Le (noTb B) (rmH (noTb H) pd) ∧
    ∀ H' n', (∀ b o, b ≠ pd → (∀ ps, o ≠ .tbl ps) → H b = some o → H' b = some o) → H' pd = some (.lst [.int n', .int f]) → LamX.Tabs [(P, q), (P', q')] H' → ∃ B' qs qs', Le (noTb B) B' ∧ NoT B' ∧ TabI B' q qs ∧ TabI B' q' qs' ∧ Sat B' ((P, .tbl qs) :: (P', .tbl qs') :: (pd, .lst [.int n', .int f]) :: L1) H' := by
  have s := (sat_noT s00).perm pl
  have nB := noT_noTb B
  replace tab := tabi_noT tab
  replace tab' := tabi_noT tab'
  generalize noTb B = B at *
  have hP := s.own (P, .tbl ps) List.mem_cons_self
  have hP' := s.own (P', .tbl ps') (.tail _ List.mem_cons_self)
  have hpd := s.own (pd, .lst [.int n, .int f]) (.tail _ (.tail _ List.mem_cons_self))
  have hne : pd ≠ P := fun z => by rw [z] at hpd; rw [show H P = some (.tbl ps) from hP] at hpd; cases hpd
  have hne' : pd ≠ P' := fun z => by rw [z] at hpd; rw [show H P' = some (.tbl ps') from hP'] at hpd; cases hpd
  have hle : Le B (rmH (noTb H) pd) := fun b o e => by
    have hb : b ≠ pd := fun z => by have := s.nb (pd, .lst [.int n, .int f]) (.tail _ (.tail _ List.mem_cons_self)); rw [z] at e; rw [show B pd = none from this] at e; cases e
    rw [rm_ne hb]
    exact noTb_of (s.ext _ _ e) fun qs z => nB b qs (by rw [e, z])
  refine ⟨hpd, tabs2 s tab tab' List.mem_cons_self (.tail _ List.mem_cons_self), hle, fun H' n' kept hp' hT' => ?_⟩
  have ue : ∀ b, b ≠ pd → upd H' pd (.lst [.int n, .int f]) b = H' b := fun b h => upd_ne h
  have eN : LamX.ExtN H (upd H' pd (.lst [.int n, .int f])) := fun b o e no => by
    by_cases k : b = pd
    · subst k
      rw [upd_same]
      exact (hpd.symm.trans e) ▸ rfl
    · rw [ue b k]
      exact kept b o k no e
  have one : ∀ z ∈ [(P, q), (P', q')], LamX.TabS (upd H' pd (.lst [.int n, .int f])) z.1 z.2 := fun z hz => by
    have hz1 : z.1 ≠ pd := by
      rcases List.mem_cons.mp hz with rfl | hz
      · exact Ne.symm hne
      · rw [List.mem_singleton.mp hz]; exact Ne.symm hne'
    obtain ⟨qs, h1, h2, h3⟩ := hT' z hz
    refine ⟨qs, (ue z.1 hz1).trans h1, h2, fun pos cv hc => ?_⟩
    obtain ⟨c, e1, e2⟩ := h3 pos cv hc
    refine ⟨c, e1, (ue c fun z => ?_).trans e2⟩
    rw [z, hp'] at e2
    exact (pln_lst _).2 _ _ (Option.some.inj e2)
  obtain ⟨B', qs, qs', l, n2, t, t', s2⟩ := sat_tab2 s (.refl _) nB (fun p hp => by rcases List.mem_cons.mp hp with rfl | hp; exact pln_lst _; exact nL p hp) eN one
  exact ⟨B', qs, qs', l, n2, t, t', s2.rep' (p := pd) (o := .lst [.int n, .int f]) (o' := .lst [.int n', .int f]) (.there (.there .here)) (fun b u hb e => by rw [ue b hb] at e; exact e) hp'⟩
/-- two defs' tables are two -/
def neT (K : PySem.W.Frag) (a b : Str) : Bool := decide ((He.cT K (a, none)).2 ≠ (He.cT K (b, none)).2)
theorem neT_of {K : PySem.W.Frag} {a b : Str} (e : neT K a b = true) : (He.cT K (a, none)).2 ≠ (He.cT K (b, none)).2 := of_decide_eq_true e
end Kv

namespace K85
open PySem PySem.Spec PyProof.Rows L2 Kv Fg
local macro_rules | `(tactic| walk_at "mm") => `(tactic| (repeat (first | exact List.Mem.head _ | apply List.Mem.tail)))
local macro_rules | `(tactic| walk_at "rep") => `(tactic| (repeat (first | exact Rep.here | apply Rep.there)))
local macro_rules | `(tactic| walk_at "subl") => `(tactic| (repeat (first | exact List.Sublist.refl _ | apply List.Sublist.cons_cons | apply List.Sublist.cons)))
local macro_rules | `(tactic| walk_at "sfx") => `(tactic| first | exact List.suffix_refl _ | (refine List.IsSuffix.trans ?_ (List.suffix_cons _ _); walk_at "sfx"; done))
local macro_rules | `(tactic| walk_at "ls") => `(tactic| first | assumption | exact Or.inl (by assumption) | (refine Or.inr ?_; walk_at "mm"; done))
local macro_rules | `(tactic| walk_at "tp") => `(tactic| first | assumption | exact Or.inl (by assumption) | (refine Or.inr ?_; walk_at "mm"; done))
local macro_rules | `(tactic| walk_at "at") => `(tactic| first | assumption | exact Or.inl (by assumption) | (refine Or.inr ?_; walk_at "mm"; done))
local macro_rules | `(tactic| walk_at "opAdd") => `(tactic| first | refine o_add ?_ | refine o_adds ?_ ?_)
local macro_rules | `(tactic| walk_at "opSub") => `(tactic| refine o_sub ?_)
local macro_rules | `(tactic| walk_at "opMult") => `(tactic| first | refine o_mul ?_ (.inr (by decide)) | refine o_mul ?_ (.inl (by decide)) | refine o_mul ?_ ?_ | refine o_muls ?_ ?_ ?_)
local macro_rules | `(tactic| walk_at "opMod") => `(tactic| first | refine o_mod ?_ (by decide) | refine o_mod ?_ ?_)
local macro_rules | `(tactic| walk_at "opFloorDiv") => `(tactic| first | refine o_fdiv ?_ (by decide) | refine o_fdiv ?_ ?_)
local macro_rules | `(tactic| walk_at "opPow") => `(tactic| refine o_pow ?_ ⟨by decide, by decide, by decide⟩)
local macro_rules | `(tactic| walk_at "opLt") => `(tactic| refine o_lt ?_)
local macro_rules | `(tactic| walk_at "opLtE") => `(tactic| refine o_le ?_)
local macro_rules | `(tactic| walk_at "opGt") => `(tactic| refine o_gt ?_)
local macro_rules | `(tactic| walk_at "opGtE") => `(tactic| refine o_ge ?_)
local macro_rules | `(tactic| walk_at "opEq") => `(tactic| first | refine o_eqi ?_ | refine o_eqs ?_ | refine o_eqb ?_)
local macro_rules | `(tactic| walk_at "opNotEq") => `(tactic| first | refine o_nei ?_ | refine o_nes ?_ | refine o_neb ?_)
local macro_rules | `(tactic| walk_at "opIn") => `(tactic| refine o_ins ?_)
local macro_rules | `(tactic| walk_at "opNotIn") => `(tactic| refine o_nins ?_)
local macro_rules | `(tactic| walk_at "opIs") => `(tactic| refine o_isN ?_)
local macro_rules | `(tactic| walk_at "opIsNot") => `(tactic| refine o_notN ?_)
local macro_rules | `(tactic| walk_at "IX") => `(tactic| first | refine i_sN ?_ ?_ ?_ | refine i_li (by walk_at "ls") ?_ ?_ | refine i_lN (by walk_at "ls") ?_ ?_)
local macro_rules | `(tactic| walk_at "SLICE") => `(tactic| first | refine sl_s ?_ ?_ | refine sl_l (by walk_at "ls") fun p => ?_)
local macro_rules | `(tactic| walk_at "c_len") => `(tactic| first | refine c_lens ?_ ?_ | refine c_lenl (by walk_at "ls") ?_ | refine c_lent (by walk_at "tp") ?_)
local macro_rules | `(tactic| walk_at "c_abs") => `(tactic| refine c_abs ?_)
local macro_rules | `(tactic| walk_at "c_min") => `(tactic| refine c_min2 ?_)
local macro_rules | `(tactic| walk_at "c_max") => `(tactic| refine c_max2 ?_)
local macro_rules | `(tactic| walk_at "c_int") => `(tactic| refine c_intb ?_)
local macro_rules | `(tactic| walk_at "c_list") => `(tactic| first | refine c_listl (by walk_at "ls") fun p => ?_ | refine c_listt (by walk_at "tp") fun p => ?_)
local macro_rules | `(tactic| walk_at "c_tuple") => `(tactic| refine c_tupl (by walk_at "ls") fun p => ?_)
local macro_rules | `(tactic| walk_at "c_isinstance") => `(tactic| first | refine c_isS (k := true) ?_ | refine c_isS (k := false) ?_ | refine c_isI (k := true) ?_ | refine c_isI (k := false) ?_ | refine c_isB (k := true) ?_ | refine c_isB (k := false) ?_ | refine c_isN (k := true) ?_ | refine c_isN (k := false) ?_ | refine c_isL (k := true) (by walk_at "ls") ?_ | refine c_isL (k := false) (by walk_at "ls") ?_ | refine c_isT (k := true) (by walk_at "tp") ?_ | refine c_isT (k := false) (by walk_at "tp") ?_)
local macro_rules | `(tactic| walk_at "c_all") => `(tactic| refine c_all (by walk_at "ls") ?_)
local macro_rules | `(tactic| walk_at "c_any") => `(tactic| refine c_any (by walk_at "ls") ?_)
local macro_rules | `(tactic| walk_at "c_sum") => `(tactic| refine c_sum (by walk_at "ls") ?_)
local macro_rules | `(tactic| walk_at "side") => `(tactic| first | assumption | omega | decide | (simp only [List.length_cons, List.length_nil]; omega))
def top (i : Nat) : Stmt := PySem.Challenge.pw_backwords_k85_sendings_changed_anywhere.main.body.getD i (.Pass ⟨0, 0, 0, 0⟩)
/-! ### letters, words (the plain side) -/
def ordL : List Nat := [97, 65, 98, 66, 99, 67, 100, 68, 101, 69, 102, 70]
def ltL : List Nat := [97, 98, 99, 100, 101, 102]
abbrev Let (l : List Nat) : Prop := ∀ c ∈ l, c ∈ ordL
theorem ord_ix {c : Nat} (h : c ∈ ordL) : Txt.index0 (sOf ordL) (sOf [c]) = some (ordL.idxOf c) := by
  simp only [ordL, List.mem_cons, List.not_mem_nil, or_false] at h
  rcases h with h | h | h | h | h | h | h | h | h | h | h | h <;> subst h <;> decide +kernel
theorem ord_at {c : Nat} (h : c ∈ ordL) : (atI ordL ((ordL.idxOf c : Nat) + 1 - 2 * (((ordL.idxOf c : Nat) : Int) % 2))).getD 0 = bk c := by
  simp only [ordL, List.mem_cons, List.not_mem_nil, or_false] at h
  rcases h with h | h | h | h | h | h | h | h | h | h | h | h <;> subst h <;> decide +kernel
theorem ord_lt {c : Nat} (h : c ∈ ordL) : ordL.idxOf c < 12 := List.idxOf_lt_length_of_mem h
theorem let_bk {c : Nat} (h : c ∈ ordL) : bk c ∈ ordL := by
  simp only [ordL, List.mem_cons, List.not_mem_nil, or_false] at h
  rcases h with h | h | h | h | h | h | h | h | h | h | h | h <;> subst h <;> decide
theorem let_small {l : List Nat} (h : Let l) : ∀ c ∈ l, c < 1114112 := fun c hc => by
  have := h c hc
  simp only [ordL, List.mem_cons, List.not_mem_nil, or_false] at this
  omega
theorem let_red {l : List Nat} (h : Let l) : Let (red l) := fun c hc => h c (red_mem hc)
theorem let_inv {l : List Nat} (h : Let l) : Let (inv l) := fun c hc => by
  unfold inv at hc
  rw [List.mem_reverse, List.mem_map] at hc
  obtain ⟨d, hd, rfl⟩ := hc
  exact let_bk (h d hd)
theorem let_app {a b : List Nat} (ha : Let a) (hb : Let b) : Let (a ++ b) := fun c hc => (List.mem_append.mp hc).elim (ha c) (hb c)
theorem let_cut {l : List Nat} {lo hi : Option Int} (h : Let l) : Let (cut l lo hi) := fun c hc => h c (List.mem_of_mem_drop (List.mem_of_mem_take hc))
/-- the stack as the list of texts that the program keeps -/
def one (c : Nat) : V := .str (sOf [c])
def stk (s : List Nat) : List V := s.reverse.map one
theorem stk_push (s : List Nat) (c : Nat) : stk (c :: s) = stk s ++ [.str (sOf [c])] := by simp [stk, one]
theorem stk_pop (c : Nat) (s : List Nat) : (stk (c :: s)).dropLast = stk s := by rw [stk_push, List.dropLast_concat]
theorem stk_len (s : List Nat) : (stk s).length = s.length := by simp [stk]
theorem flat_one (l : List Nat) : (l.map fun c => [c]).flatten = l := by induction l with | nil => rfl | cons a l ih => simp [ih]
theorem map_one (l : List Nat) : l.map one = (l.map fun c => [c]).map fun l => V.str (sOf l) := by rw [List.map_map]; rfl
theorem act_take {l : List Nat} {i c : Nat} (h : l[i]? = some c) : act (l.take (i + 1)) [] = push (act (l.take i) []) c := by
  rw [List.take_add_one, h, act_app]; rfl
theorem act_len (l st : List Nat) : (act l st).length ≤ st.length + l.length := by
  induction l generalizing st with
  | nil => simp [act_nil]
  | cons c l ih =>
    rw [act_cons]
    have h1 := ih (push st c)
    have h2 : (push st c).length ≤ st.length + 1 := by
      cases st with
      | nil => simp [push]
      | cons x r => rw [push_cons]; split <;> simp <;> omega
    simp only [List.length_cons]
    omega
theorem at_last {α : Type} (xs : List α) (v : α) : atI (xs ++ [v]) (-1) = some v := by
  have h := atI_neg (l := xs ++ [v]) (j := 0) (by simp)
  have e : (-1 - ((0 : Nat) : Int)) = -1 := rfl
  rw [e] at h
  rw [h]; simp
theorem get_last {α : Type} (xs : List α) (v : α) : (xs ++ [v])[(xs ++ [v]).length - 1]? = some v := by simp
/-! ### more of letters, words -/
def lo (c : Nat) : Nat := if c ∈ ltL then c else bk c
theorem lo_is {c : Nat} (h : c ∈ ordL) : Txt.lower (sOf [c]) = sOf [lo c] := by
  simp only [ordL, List.mem_cons, List.not_mem_nil, or_false] at h
  rcases h with h | h | h | h | h | h | h | h | h | h | h | h <;> subst h <;> decide +kernel
theorem pair_iff {x y : Nat} (hx : x ∈ ordL) (hy : y ∈ ordL) : ((!decide ([x] = [y])) && decide ([lo x] = [lo y])) = decide (y = bk x) := by
  have h : ∀ x ∈ ordL, ∀ y ∈ ordL, ((!decide ([x] = [y])) && decide ([lo x] = [lo y])) = decide (y = bk x) := by decide +kernel
  exact h x hx y hy
theorem rd_iff : ∀ {l : List Nat}, Wd l ↔ ∀ (n : Nat) x y, l[n]? = some x → l[n + 1]? = some y → y ≠ bk x
  | [] => by simp [Wd]
  | [a] => by simp [Wd]
  | a :: b :: r => by
    have ih := rd_iff (l := b :: r)
    constructor
    · intro h n x y h1 h2
      cases n with
      | zero =>
        have e1 : a = x := by simpa using h1
        have e2 : b = y := by simpa using h2
        rw [← e1, ← e2]; exact h.1
      | succ n => exact ih.mp h.2 n x y (by simpa using h1) (by simpa using h2)
    · intro h
      exact ⟨h 0 a b rfl rfl, ih.mpr fun n x y h1 h2 => h (n + 1) x y (by simpa using h1) (by simpa using h2)⟩
theorem cut_to {α : Type} (l : List α) (n : Nat) : cut l none (some (n : Int)) = l.take n := by
  unfold cut
  rw [HT.sIx_none, HT.sIx_nat]
  simp only [List.drop_zero, Nat.sub_zero]
  rcases Nat.le_total n l.length with h | h
  · rw [Nat.min_eq_left h]
  · rw [Nat.min_eq_right h, List.take_of_length_le h, List.take_length]
theorem cut_from {α : Type} (l : List α) (n : Nat) : cut l (some (n : Int)) none = l.drop n := by
  unfold cut
  rw [HT.sIx_none, HT.sIx_nat]
  rcases Nat.le_total n l.length with h | h
  · rw [Nat.min_eq_left h, List.take_of_length_le (by rw [List.length_drop]; omega)]
  · rw [Nat.min_eq_right h, List.drop_of_length_le h]; simp
theorem red_cut (a b : List Nat) (x : Nat) : red (a ++ x :: bk x :: b) = red (a ++ b) := by
  unfold red
  rw [act_app, act_app, act_cons, act_cons, push_push (rd_act (by trivial) a)]
theorem split_two {l : List Nat} {i x y : Nat} (h1 : l[i]? = some x) (h2 : l[i + 1]? = some y) : l = l.take i ++ x :: y :: l.drop (i + 2) := by
  obtain ⟨hi, e1⟩ := List.getElem?_eq_some_iff.mp h1
  obtain ⟨hj, e2⟩ := List.getElem?_eq_some_iff.mp h2
  conv => lhs; rw [← List.take_append_drop i l]
  rw [List.drop_eq_getElem_cons hi, List.drop_eq_getElem_cons hj, e1, e2]
/-- what the top leaves of written names -/
structure Tx (mg : Str → Option Value) : Prop where
  g_LETTERS : ∃ t, mg "LETTERS" = some (.str (sOf ltL) t)
  g_ORDER : ∃ t, mg "ORDER" = some (.str (sOf ordL) t)
  g_MOST_LETTERS : ∃ t, mg "MOST_LETTERS" = some (.int 60 t)
  b_ValueError : mg "ValueError" = none
  b_all : mg "all" = none
  b_isinstance : mg "isinstance" = none
  b_tuple : mg "tuple" = none
  b_str : mg "str" = none
  b_int : mg "int" = none
  b_range : mg "range" = none
  b_list : mg "list" = none
  b_repr : mg "repr" = none
  b_enumerate : mg "enumerate" = none
  b_any : mg "any" = none
  b_len : mg "len" = none
  b_max : mg "max" = none
  b_bool : mg "bool" = none
  b_reversed : mg "reversed" = none
abbrev dMthD (C m q : Str) (st : Stmt) (dfl : List He.Dv) : He.DefD := ⟨(C, some m), m, q, defArgs st, defBody st, defScope st, dfl, []⟩
theorem d_mthD {K : PySem.W.Frag} {fa : List He.Fa} {fn : List He.DefD} {C m q : Str} {st : Stmt} {dfl : List He.Dv} (c : He.SaysD fa fn K) (i : Nat) (h : fn[i]? = some (dMthD C m q st dfl)) : ∃ fd, FunD K m q (defArgs st) (defBody st) (defScope st) (dfl.map (He.Dv.v K)) [] (He.ma K (He.ga K C) m) fd := c.def_ i h
abbrev s_back_of : Stmt := top 14
abbrev s_are_letters : Stmt := top 15
abbrev s_is_word : Stmt := top 16
abbrev s_need_word : Stmt := top 17
abbrev s_put_together : Stmt := top 18
abbrev s_back : Stmt := top 19
abbrev s_is_whole : Stmt := top 20
abbrev s_has_letters : Stmt := top 22
abbrev s_Sending_init : Stmt := inClass (top 23) 0
abbrev s_Sending_into : Stmt := inClass (top 23) 1
abbrev s_Sending_many : Stmt := inClass (top 23) 2
abbrev s_Sending_words : Stmt := inClass (top 23) 3
abbrev s_Sending_image : Stmt := inClass (top 23) 4
abbrev s_Sending_sent : Stmt := inClass (top 23) 5
abbrev s_Sending_then : Stmt := inClass (top 23) 6
abbrev s_law_begun : Stmt := top 25
abbrev s_law_next : Stmt := top 26
abbrev s_law_spots : Stmt := top 27
abbrev s_law_with : Stmt := top 28
abbrev s_law_step : Stmt := top 29
abbrev s_law_spoilt : Stmt := top 30
abbrev s_law_back_of : Stmt := top 31
abbrev s_law_free : Stmt := top 32
abbrev s_law_has_letters : Stmt := top 33
abbrev s_law_is_word : Stmt := top 34
abbrev s_law_is_number : Stmt := top 35
abbrev s_law_word : Stmt := top 36
abbrev s_law_word_of : Stmt := top 37
abbrev s_law_told : Stmt := top 38
abbrev s_law_fits : Stmt := top 39
abbrev s_law_is_sending : Stmt := top 40
abbrev s_law_sent : Stmt := top 41
abbrev s_law_drawn : Stmt := top 42
abbrev s_law_then_right : Stmt := top 43
abbrev s_law_right : Stmt := top 44
abbrev s_law : Stmt := top 45
def hfa0 : List He.Fa := [.glo "back_of", .glo "are_letters", .glo "is_word", .glo "need_word", .glo "put_together", .glo "back", .glo "is_whole", .glo "has_letters", .mkr "Sending", .meth "Sending" "into", .meth "Sending" "many", .meth "Sending" "words", .meth "Sending" "image", .meth "Sending" "sent", .meth "Sending" "then", .glo "_law_begun", .glo "_law_next", .glo "_law_spots", .glo "_law_with", .glo "_law_step", .glo "_law_spoilt", .glo "_law_back_of", .glo "_law_free", .glo "_law_has_letters", .glo "_law_is_word", .glo "_law_is_number", .glo "_law_word", .glo "_law_word_of", .glo "_law_told", .glo "_law_fits"]
def hfa1 : List He.Fa := [.glo "_law_is_sending", .glo "_law_sent", .glo "_law_drawn", .glo "_law_then_right", .glo "_law_right", .glo "law", .str "LETTERS" (sOf ltL), .str "ORDER" (sOf ordL), .int "MOST_LETTERS" 60, .free "ValueError", .free "all", .free "isinstance", .free "tuple", .free "str", .free "int", .free "range", .free "list", .free "repr", .free "enumerate", .free "any", .free "len", .free "max", .free "bool", .free "reversed", .glo "Sending", .cls "Sending", .noat "Sending" "goal", .noat "Sending" "first_words", .glo "NoSending", .exc "NoSending"]
def hfa2 : List He.Fa := [.glo "NoWord", .exc "NoWord", .glo "TooMany", .exc "TooMany", .glo "NoWeb", .glo "NoPlace", .glo "NoRow", .glo "NoClub", .glo "NoText", .glo "WordError", .exm "NoWord" "WordError" true, .exm "NoSending" "WordError" true, .exm "TooMany" "WordError" true]
def hfa : List He.Fa := hfa0 ++ hfa1 ++ hfa2
def hfn0 : List He.DefD := [dTop "back_of" s_back_of, dTop "are_letters" s_are_letters, dTop "is_word" s_is_word, dTop "need_word" s_need_word, dTop "put_together" s_put_together, dTop "back" s_back, dTop "is_whole" s_is_whole, dTop "has_letters" s_has_letters, dMth "Sending" "__init__" "Sending.__init__" s_Sending_init, dMth "Sending" "into" "Sending.into" s_Sending_into, dMth "Sending" "many" "Sending.many" s_Sending_many, dMth "Sending" "words" "Sending.words" s_Sending_words, dMth "Sending" "image" "Sending.image" s_Sending_image, dMth "Sending" "sent" "Sending.sent" s_Sending_sent, dMth "Sending" "then" "Sending.then" s_Sending_then, dTop "_law_begun" s_law_begun, dTop "_law_next" s_law_next, dTop "_law_spots" s_law_spots, dTop "_law_with" s_law_with, dTop "_law_step" s_law_step, dTop "_law_spoilt" s_law_spoilt, dTop "_law_back_of" s_law_back_of, dTop "_law_free" s_law_free, dTop "_law_has_letters" s_law_has_letters, dTop "_law_is_word" s_law_is_word, dTop "_law_is_number" s_law_is_number, dTop "_law_word" s_law_word, dTop "_law_word_of" s_law_word_of, dTop "_law_told" s_law_told, dTop "_law_fits" s_law_fits]
def hfn1 : List He.DefD := [dTop "_law_is_sending" s_law_is_sending, dTop "_law_sent" s_law_sent, dTop "_law_drawn" s_law_drawn, dTop "_law_then_right" s_law_then_right, dTop "_law_right" s_law_right, dTop "law" s_law]
def hfn : List He.DefD := hfn0 ++ hfn1
def hnm0 : List Str := ["WordError", "NoWord", "NoWeb", "NoText", "NoClub", "NoSending", "NoRow", "NoPlace", "TooMany", "LETTERS", "ORDER", "MOST_LETTERS", "back_of", "are_letters", "is_word", "need_word", "put_together", "back", "is_whole", "has_letters", "Sending", "_law_begun", "_law_next", "_law_spots", "_law_with", "_law_step", "_law_spoilt", "_law_back_of", "_law_free", "_law_has_letters"]
def hnm1 : List Str := ["_law_is_word", "_law_is_number", "_law_word", "_law_word_of", "_law_told", "_law_fits", "_law_is_sending", "_law_sent", "_law_drawn", "_law_then_right", "_law_right"]
def hnm : List Str := hnm0 ++ hnm1
def hex (K : PySem.W.Frag) : Bool := isoB K "Sending" && excB K "NoWord" && excB K "NoSending" && excB K "TooMany" && kitB2 K "NoWord" "NoWord" true && kitB2 K "NoWord" "NoWeb" false && kitB2 K "NoWord" "NoPlace" false && kitB2 K "NoWord" "NoRow" false && kitB2 K "NoWord" "NoSending" false && kitB2 K "NoWord" "NoClub" false && kitB2 K "NoWord" "TooMany" false && kitB2 K "NoWord" "NoText" false && kitB2 K "NoSending" "NoWord" false && kitB2 K "NoSending" "NoWeb" false && kitB2 K "NoSending" "NoPlace" false && kitB2 K "NoSending" "NoRow" false && kitB2 K "NoSending" "NoSending" true && kitB2 K "NoSending" "NoClub" false && kitB2 K "NoSending" "TooMany" false && kitB2 K "NoSending" "NoText" false && kitB2 K "TooMany" "NoWord" false && kitB2 K "TooMany" "NoWeb" false && kitB2 K "TooMany" "NoPlace" false && kitB2 K "TooMany" "NoRow" false && kitB2 K "TooMany" "NoSending" false && kitB2 K "TooMany" "NoClub" false && kitB2 K "TooMany" "TooMany" true && kitB2 K "TooMany" "NoText" false && kitBR K "NoneType" "Sending" false && kitBR K "bool" "Sending" false && kitBR K "int" "Sending" false && kitBR K "str" "Sending" false && kitBR K "list" "Sending" false && kitBR K "tuple" "Sending" false && neT K "_law_right" "_law_then_right"
def htf : List He.Defn := [("_law_right", none), ("_law_then_right", none)]
abbrev hR : PySem.W.OpenRow := PySem.W.OpenLaw.row PySem.Challenge.rw_backwords_k85_sendings_changed_anywhere
abbrev hk : PySem.W.Hook := He.hookX 7 hfa hfn [] htf hex
def hob (s : PySem.W.SharedT) : He.AlX := He.obsX 7 hfa hfn [] htf hex (HandSHeadRun.getT s)
theorem hob_eq (s : PySem.W.SharedT) : hob s = hk.obs s.abs := He.obsX_eq (HandSHeadRun.getT_eq s)
abbrev hq : Program := PySem.W.view hR.prog [45]
theorem hrun (w : World) : HandSHeadRun.RunEq hR hq hk hob 20000 hnm w := by
  intro os
  kernel_rfl
section
variable {P : Program} {w : World} {K : PySem.W.Frag} {mg : Str → Option Value} {base : Heap}
abbrev N_back_of : List Str := ["letter", "at"]
theorem sc_back_of : FnScope N_back_of ["letter"] (defScope s_back_of) := ⟨rfl, rfl, rfl, by decide +kernel, rfl, by decide +kernel, by decide +kernel⟩
def sp_back_of : Sp := fun vs H Q _ => ∃ c, vs = [.str (sOf [c])] ∧ c ∈ ordL ∧ ∀ H', (∀ b o, H b = some o → H' b = some o) → Q (.str (sOf [bk c])) H'
theorem use_back_of {B : Hp} {L : HL} {Q : KQ} {E : XK} {c : Nat} (q : Q (.str (sOf [bk c])) B L) (h : c ∈ ordL) : ∀ H, Sat B L H → sp_back_of [.str (sOf [c])] H (up Q) E := fun H s => ⟨c, rfl, h, fun H' e => s.upq e q⟩
theorem ok_back_of {f : Addr} {fd : FuncData} (F : Fun K "back_of" "back_of" s_back_of f fd) (hm : mg "back_of" = some (.ref f)) (T : Tx mg) : Fn P w K mg base 1 "back_of" sp_back_of := by
  refine fn_ok F sc_back_of hm (fun _ _ _ _ _ _ us hl => match us, hl with | [_], _ => rfl) ?_ fun cdv A outer s H vs Q E hr h tk po => ?_
  · rintro vs H Q E ⟨c, rfl, _⟩; rfl
  obtain ⟨c, rfl, hc, hq⟩ := h
  refine ⟨H, [], Sat.whole, ?_⟩
  refine k_cons ?_
  refine k_set 1 ?_ sc_back_of.nd
  refine k_sindex ?_ (name := "")
  refine k_gsE T.g_ORDER ?_
  refine ⟨_, rfl, ?_⟩
  refine a_cons ?_
  refine k_n 0 ?_
  refine a_nil ?_
  refine m_index (ord_ix hc) ?_
  refine k_one ?_
  refine k_ret ?_
  refine k_ix ?_
  refine k_gsE T.g_ORDER ?_
  refine k_bin ?_
  refine k_bin ?_
  refine k_n 1 ?_
  refine k_int ?_
  walk_at "opAdd"
  refine k_bin ?_
  refine k_int ?_
  refine k_bin ?_
  refine k_n 1 ?_
  refine k_int ?_
  walk_at "opMod"
  walk_at "opMult"
  walk_at "opSub"
  walk_at "IX"
  · rw [ord_at hc]
    exact fun H' s => hq H' s.ext
  · have := ord_lt hc
    show -12 ≤ _ ∧ _ < (12 : Int)
    omega
  · decide
abbrev N_are_letters : List Str := ["thing", "most", "letter"]
theorem sc_are_letters : FnScope N_are_letters ["thing", "most"] (defScope s_are_letters) := ⟨rfl, rfl, rfl, by decide +kernel, rfl, by decide +kernel, by decide +kernel⟩
def letB (l : List Nat) : Bool := l.all fun c => decide (c ∈ ordL)
theorem letB_iff {l : List Nat} : letB l = true ↔ Let l := by simp [letB]
def sp_are_letters (K : PySem.W.Frag) : Sp := fun vs H Q _ => (∃ l n, vs = [.str (sOf l), .int n] ∧ l.length ≤ 1000000 ∧ ∀ H', (∀ b o, H b = some o → H' b = some o) → Q (.bl (decide ((l.length : Int) ≤ n) && letB l)) H') ∨
  ∃ (x : V) (n : Int), vs = [x, .int n] ∧ NoTx K H x ∧ ∀ H', (∀ b o, H b = some o → H' b = some o) → Q (.bl false) H'
theorem use_are_letters {K : PySem.W.Frag} {B : Hp} {L : HL} {Q : KQ} {E : XK} {l : List Nat} {n : Int} (q : Q (.bl (decide ((l.length : Int) ≤ n) && letB l)) B L) (h : l.length ≤ 1000000) : ∀ H, Sat B L H → sp_are_letters K [.str (sOf l), .int n] H (up Q) E := fun H s => .inl ⟨l, n, rfl, h, fun H' e => s.upq e q⟩
theorem use_are_lettersN {K : PySem.W.Frag} {B : Hp} {L : HL} {Q : KQ} {E : XK} {x : V} {n : Int} (q : Q (.bl false) B L) (h : ∀ H, Sat B L H → NoTx K H x) : ∀ H, Sat B L H → sp_are_letters K [x, .int n] H (up Q) E := fun H s => .inr ⟨x, n, rfl, h H s, fun H' e => s.upq e q⟩
theorem ok_are_letters {f : Addr} {fd : FuncData} (F : Fun K "are_letters" "are_letters" s_are_letters f fd) (hm : mg "are_letters" = some (.ref f)) (T : Tx mg) : Fn P w K mg base 1 "are_letters" (sp_are_letters K) := by
  refine fn_ok F sc_are_letters hm (fun _ _ _ _ _ _ us hl => match us, hl with | [_, _], _ => rfl) ?_ fun cdv A outer s H vs Q E hr h tk po => ?_
  · rintro vs H Q E (⟨l, n, rfl, _⟩ | ⟨x, n, rfl, _⟩) <;> rfl
  rcases h with ⟨l, n, rfl, hn, hq⟩ | ⟨x, n, rfl, hx, hq⟩
  · refine ⟨H, [], Sat.whole, ?_⟩
    refine k_one ?_
    refine k_ret ?_
    refine k_andP ?_
    refine k_callB (id := "isinstance") T.b_isinstance ?_
    refine a_cons ?_
    refine k_n 0 ?_
    refine a_cons ?_
    refine k_ty (T := "str") T.b_str ?_
    refine a_nil ?_
    walk_at "c_isinstance"
    refine ⟨_, rfl, ?_⟩; apply Exists.intro; refine ⟨fun hk => ?_, ?_⟩
    {
    refine k_andP ?_
    refine k_cmp ?_
    refine k_callB (id := "len") T.b_len ?_
    refine a_cons ?_
    refine k_n 0 ?_
    refine a_nil ?_
    walk_at "c_len"
    refine k_n 1 ?_
    walk_at "opLtE"
    refine ⟨_, rfl, ?_⟩; apply Exists.intro; refine ⟨fun hk => ?_, ?_⟩
    {
    refine k_and1 ?_
    refine k_callB (id := "all") T.b_all ?_
    refine a_cons ?_
    refine k_le (k_lcm_s (j := 2) (fun c => .bl (decide (c ∈ ordL))) sc_are_letters.nd (blkOk_by (N := N_are_letters) (sc := defScope s_are_letters) (by decide +kernel)) ?_)
    refine k_n 0 ?_
    refine ⟨l, rfl, by omega, fun c hc D acc sb Hb Cb clb fpb => ?_, fun D => ?_⟩
    ·
      refine k_cmp ?_
      refine k_n 2 ?_
      refine k_gsE T.g_ORDER ?_
      walk_at "opIn"
      exact ⟨rfl, rfl, rfl⟩
    refine a_nil ?_
    refine c_all (bs := l.map fun c => decide (c ∈ ordL)) (by rw [List.map_map]; exact Or.inr (List.Mem.head _)) ?_
    exact ⟨rfl, rfl, by walk_at "sfx"⟩
    all_goals (try walk_at "side")
    }
    exact ⟨rfl, rfl, by walk_at "sfx"⟩
    all_goals (try walk_at "side")
    }
    · intro H' s
      have e : (l.map fun c => decide (c ∈ ordL)).all id = letB l := by unfold letB; rw [List.all_map]; rfl
      simp only [Bool.true_and]
      rw [e]
      exact hq H' s.ext
  · refine ⟨H, [], Sat.whole, ?_⟩
    refine k_one ?_
    refine k_ret ?_
    refine k_andP ?_
    refine k_callB (id := "isinstance") T.b_isinstance ?_
    refine a_cons ?_
    refine k_n 0 ?_
    refine a_cons ?_
    refine k_ty (T := "str") T.b_str ?_
    refine a_nil ?_
    refine c_isNT (fun H' s' => hx.le s'.ext) ?_
    refine ⟨_, rfl, false, fun hk => (by cases hk), ?_⟩
    exact fun H' s => hq H' s.ext
abbrev N_is_word : List Str := ["thing", "at", "letter"]
theorem sc_is_word : FnScope N_is_word ["thing"] (defScope s_is_word) := ⟨rfl, rfl, rfl, by decide +kernel, rfl, by decide +kernel, by decide +kernel⟩
theorem cut_init (l : List Nat) : cut l none (some (-1)) = l.take (l.length - 1) := by
  unfold cut
  have e : HT.sIx l.length l.length (some (-1)) = l.length - 1 := by
    show (if (-1 : Int) < 0 then ((-1 : Int) + (l.length : Int)).toNat else min (-1 : Int).toNat l.length) = _
    rw [if_pos (by decide)]; omega
  rw [e, HT.sIx_none]
  simp
theorem map_mapIdx' {α β γ : Type} (l : List α) (f : Nat → α → β) (g : β → γ) : (l.mapIdx f).map g = l.mapIdx fun n c => g (f n c) := by apply List.ext_getElem <;> simp
def nbB (l : List Nat) : Bool := !((l.take (l.length - 1)).mapIdx fun n c => decide (l[n + 1]? = some (bk c))).any id
theorem nbB_iff (l : List Nat) : nbB l = true ↔ Wd l := by
  unfold nbB
  rw [rd_iff, Bool.not_eq_true', List.any_eq_false]
  constructor
  · intro h n x y h1 h2 e
    have hn : n + 1 < l.length := (List.getElem?_eq_some_iff.mp h2).1
    refine h (decide (l[n + 1]? = some (bk x))) ?_ (by simp [h2, e])
    rw [List.mem_mapIdx]
    refine ⟨n, by simp; omega, ?_⟩
    have h3 : (l.take (l.length - 1))[n]? = some x := by rw [List.getElem?_take_of_lt (by omega)]; exact h1
    obtain ⟨h4, h5⟩ := List.getElem?_eq_some_iff.mp h3
    rw [h5]
  · intro h b hb
    rw [List.mem_mapIdx] at hb
    obtain ⟨n, hn, rfl⟩ := hb
    rw [List.length_take] at hn
    rw [List.getElem_take]
    simp only [id, Bool.not_eq_true, decide_eq_false_iff_not]
    intro e
    exact h n l[n] (bk l[n]) (by simp) e rfl
/-- a word that may be handed in -/
def isW (l : List Nat) : Bool := decide (l.length ≤ 60) && letB l && nbB l
theorem isW_iff (l : List Nat) : isW l = true ↔ l.length ≤ 60 ∧ Let l ∧ Wd l := by
  unfold isW
  rw [Bool.and_eq_true, Bool.and_eq_true, nbB_iff, letB_iff, decide_eq_true_iff, and_assoc]
def sp_is_word (K : PySem.W.Frag) : Sp := fun vs H Q _ => (∃ l, vs = [.str (sOf l)] ∧ l.length ≤ 1000000 ∧ ∀ H', (∀ b o, H b = some o → H' b = some o) → Q (.bl (isW l)) H') ∨ ∃ x, vs = [x] ∧ NoTx K H x ∧ ∀ H', (∀ b o, H b = some o → H' b = some o) → Q (.bl false) H'
theorem use_is_word {K : PySem.W.Frag} {B : Hp} {L : HL} {Q : KQ} {E : XK} {l : List Nat} (q : Q (.bl (isW l)) B L) (h : l.length ≤ 1000000) : ∀ H, Sat B L H → sp_is_word K [.str (sOf l)] H (up Q) E := fun H s => .inl ⟨l, rfl, h, fun H' e => s.upq e q⟩
theorem use_is_wordN {K : PySem.W.Frag} {B : Hp} {L : HL} {Q : KQ} {E : XK} {x : V} (q : Q (.bl false) B L) (h : ∀ H, Sat B L H → NoTx K H x) : ∀ H, Sat B L H → sp_is_word K [x] H (up Q) E := fun H s => .inr ⟨x, rfl, h H s, fun H' e => s.upq e q⟩
theorem ok_is_word {f : Addr} {fd : FuncData} (F : Fun K "is_word" "is_word" s_is_word f fd) (hm : mg "is_word" = some (.ref f)) (T : Tx mg) (F_are_letters : Fn P w K mg base 1 "are_letters" (sp_are_letters K)) (F_back_of : Fn P w K mg base 1 "back_of" sp_back_of) : Fn P w K mg base 2 "is_word" (sp_is_word K) := by
  refine fn_ok F sc_is_word hm (fun _ _ _ _ _ _ us hl => match us, hl with | [_], _ => rfl) ?_ fun cdv A outer s H vs Q E hr h tk po => ?_
  · rintro vs H Q E (⟨l, rfl, _⟩ | ⟨x, rfl, _⟩) <;> rfl
  rcases h with ⟨l, rfl, hn, hq⟩ | ⟨x, rfl, hx, hq⟩
  · refine ⟨H, [], Sat.whole, ?_⟩
    refine k_cons ?_
    refine k_if ?_
    refine t_not ?_
    refine t_val ?_
    refine k_fn F_are_letters (hr.mono (by decide)) ?_
    refine a_cons ?_
    refine k_n 0 ?_
    refine a_cons ?_
    refine k_giE T.g_MOST_LETTERS ?_
    refine a_nil ?_
    refine use_are_letters ?_ hn
    refine ⟨_, rfl, ?_⟩
    refine ⟨fun hk => ?_, fun hk => ?_⟩
    · skip
      refine k_one ?_
      refine k_ret ?_
      refine k_bl ?_
      intro H' s
      have e : isW l = false := by
        unfold isW
        have : ((l.length : Int) ≤ 60) ↔ l.length ≤ 60 := by omega
        simp only [this, Bool.not_eq_true'] at hk
        rw [hk, Bool.false_and]
      rw [← e]
      exact hq H' s.ext
    · refine k_nil ?_
      have h60 : l.length ≤ 60 ∧ Let l := by
        rw [Bool.not_eq_false', Bool.and_eq_true, letB_iff, decide_eq_true_iff] at hk
        exact ⟨by omega, hk.2⟩
      refine k_one ?_
      refine k_ret ?_
      refine k_not ?_
      refine k_callB (id := "any") T.b_any ?_
      refine a_cons ?_
      refine k_le (k_lcm_es (i := 1) (j := 2) (fun n c => .bl (decide (l[n + 1]? = some (bk c)))) sc_is_word.nd (blkOk_by (N := N_is_word) (sc := defScope s_is_word) (by decide +kernel)) T.b_enumerate ?_)
      refine k_slice ?_
      refine k_n 0 ?_
      refine p_none ?_
      refine p_some ?_
      refine k_neg ?_
      refine k_int ?_
      refine ⟨_, rfl, ?_⟩
      refine ⟨_, rfl, ?_⟩
      walk_at "SLICE"
      rw [cut_init]
      refine ⟨_, rfl, by rw [List.length_take]; omega, fun n c hc D acc sb Hb Cb clb fpb => ?_, fun D => ?_⟩
      ·
        have hcl : n < (l.take (l.length - 1)).length := (List.getElem?_eq_some_iff.mp hc).1
        rw [List.length_take] at hcl
        have hc2 : l[n]? = some c := by rw [List.getElem?_take_of_lt (by omega)] at hc; exact hc
        have hn1 : l[n + 1]? = some (l[n + 1]'(by omega)) := by simp [show n + 1 < l.length by omega]
        refine k_cmp ?_
        refine k_ix ?_
        refine k_n 0 ?_
        refine k_bin ?_
        refine k_n 1 ?_
        refine k_int ?_
        walk_at "opAdd"
        refine i_sv (l[n + 1]'(by omega)) ?_ ?_ (by omega)
        refine k_fn F_back_of (hr.mono (by decide)) ?_
        refine a_cons ?_
        refine k_n 2 ?_
        refine a_nil ?_
        refine use_back_of ?_ (h60.2 c (List.mem_of_getElem? hc2))
        walk_at "opEq"
        · refine ⟨?_, rfl, rfl⟩
          rw [hn1]; simp
        · have e : ((n : Int) + 1) = ((n + 1 : Nat) : Int) := by omega
          rw [e, atI_n]; exact hn1
      refine a_nil ?_
      refine c_any (bs := (l.take (l.length - 1)).mapIdx fun n c => decide (l[n + 1]? = some (bk c))) (by rw [map_mapIdx']; exact Or.inr (List.Mem.head _)) ?_
      refine ⟨_, rfl, ?_⟩
      · intro H' s
        have e : isW l = !((l.take (l.length - 1)).mapIdx fun n c => decide (l[n + 1]? = some (bk c))).any id := by
          unfold isW
          rw [decide_eq_true h60.1, letB_iff.mpr h60.2]
          simp [nbB]
        rw [← e]
        exact hq H' s.ext
      · omega
  · refine ⟨H, [], Sat.whole, ?_⟩
    refine k_cons ?_
    refine k_if ?_
    refine t_not ?_
    refine t_val ?_
    refine k_fn F_are_letters (hr.mono (by decide)) ?_
    refine a_cons ?_
    refine k_n 0 ?_
    refine a_cons ?_
    refine k_giE T.g_MOST_LETTERS ?_
    refine a_nil ?_
    refine use_are_lettersN ?_ (fun H' s' => hx.le s'.ext)
    refine ⟨_, rfl, ?_⟩
    refine ⟨fun _ => ?_, fun hk => (by cases hk)⟩
    refine k_one ?_
    refine k_ret ?_
    refine k_bl ?_
    exact fun H' s => hq H' s.ext
abbrev N_need_word : List Str := ["thing"]
theorem sc_need_word : FnScope N_need_word ["thing"] (defScope s_need_word) := ⟨rfl, rfl, rfl, by decide +kernel, rfl, by decide +kernel, by decide +kernel⟩
def sp_need_word (K : PySem.W.Frag) (C : Addr) : Sp := fun vs H Q E => (∃ l, vs = [.str (sOf l)] ∧ l.length ≤ 1000000 ∧ (isW l = true → ∀ H', (∀ b o, H b = some o → H' b = some o) → Q .non H') ∧ (isW l = false → ∀ H', (∀ b o, H b = some o → H' b = some o) → E (.ref C) none H')) ∨
  ∃ x, vs = [x] ∧ NoTx K H x ∧ ∀ H', (∀ b o, H b = some o → H' b = some o) → E (.ref C) none H'
theorem use_need_word {C : Addr} {B : Hp} {L : HL} {Q : KQ} {E : XK} {l : List Nat} (q : Q .non B L) (h : isW l = true) (hn : l.length ≤ 1000000) : ∀ H, Sat B L H → sp_need_word K C [.str (sOf l)] H (up Q) E := fun H s => .inl ⟨l, rfl, hn, fun _ H' e => s.upq e q, fun z => by rw [h] at z; cases z⟩
theorem ok_need_word {f C : Addr} {fd : FuncData} (F : Fun K "need_word" "need_word" s_need_word f fd) (hm : mg "need_word" = some (.ref f)) (T : Tx mg) (F_is_word : Fn P w K mg base 2 "is_word" (sp_is_word K)) (eW : ExK K mg "NoWord" C) : Fn P w K mg base 3 "need_word" (sp_need_word K C) := by
  refine fn_ok F sc_need_word hm (fun _ _ _ _ _ _ us hl => match us, hl with | [_], _ => rfl) ?_ fun cdv A outer s H vs Q E hr h tk po => ?_
  · rintro vs H Q E (⟨l, rfl, _⟩ | ⟨_, rfl, _⟩) <;> rfl
  rcases h with ⟨l, rfl, hn, hq, he⟩ | ⟨x, rfl, hx, he⟩
  · refine ⟨H, [], Sat.whole, ?_⟩
    refine k_one ?_
    refine k_if ?_
    refine t_not ?_
    refine t_val ?_
    refine k_fn F_is_word (hr.mono (by decide)) ?_
    refine a_cons ?_
    refine k_n 0 ?_
    refine a_nil ?_
    refine use_is_word ?_ hn
    refine ⟨_, rfl, ?_⟩
    refine ⟨fun hk => ?_, fun hk => ?_⟩
    · refine k_one (k_raise eW tk fun H' s => he (by simpa using hk) H' s.ext)
    · refine k_nil ?_
      exact fun H' s => hq (by simpa using hk) H' s.ext
  · refine ⟨H, [], Sat.whole, ?_⟩
    refine k_one ?_
    refine k_if ?_
    refine t_not ?_
    refine t_val ?_
    refine k_fn F_is_word (hr.mono (by decide)) ?_
    refine a_cons ?_
    refine k_n 0 ?_
    refine a_nil ?_
    refine use_is_wordN ?_ fun H' s' => hx.le s'.ext
    refine ⟨_, rfl, ?_⟩
    refine ⟨fun hk => ?_, fun hk => (by cases hk)⟩
    exact k_one (k_raise eW tk fun H' s => he H' s.ext)
abbrev N_put_together : List Str := ["letters", "found", "letter"]
theorem sc_put_together : FnScope N_put_together ["letters"] (defScope s_put_together) := ⟨rfl, rfl, rfl, by decide +kernel, rfl, by decide +kernel, by decide +kernel⟩
def sp_put_together : Sp := fun vs H Q _ => ∃ l, vs = [.str (sOf l)] ∧ (Let l ∧ l.length ≤ 1000000) ∧ ∀ H', (∀ b o, H b = some o → H' b = some o) → Q (.str (sOf (red l))) H'
theorem use_put_together {B : Hp} {L : HL} {Q : KQ} {E : XK} {l : List Nat} (q : Q (.str (sOf (red l))) B L) (h : Let l ∧ l.length ≤ 1000000) : ∀ H, Sat B L H → sp_put_together [.str (sOf l)] H (up Q) E := fun H s => ⟨l, rfl, h, fun H' e => s.upq e q⟩
theorem ok_put_together {f : Addr} {fd : FuncData} (F : Fun K "put_together" "put_together" s_put_together f fd) (hm : mg "put_together" = some (.ref f)) (T : Tx mg) (F_back_of : Fn P w K mg base 1 "back_of" sp_back_of) : Fn P w K mg base 2 "put_together" sp_put_together := by
  refine fn_ok F sc_put_together hm (fun _ _ _ _ _ _ us hl => match us, hl with | [_], _ => rfl) ?_ fun cdv A outer s H vs Q E hr h tk po => ?_
  · rintro vs H Q E ⟨c, rfl, _⟩; rfl
  obtain ⟨l, rfl, ⟨hl, hn⟩, hq⟩ := h
  refine ⟨H, [], Sat.whole, ?_⟩
  refine k_cons ?_
  refine k_set 1 ?_ sc_put_together.nd
  refine k_lst ?_
  refine a_nil ?_
  refine ⟨by first | decide | simp, fun p => ?_⟩
  refine k_cons ?_
  refine k_for_s (fun i σ B L => ∃ v, σ = [some (.str (sOf l)), some (.ref p), v] ∧ B = H ∧ L = [(p, .lst (stk (act (l.take i) [])))]) po ?_
  refine k_n 0 ?_
  refine ⟨l, rfl, ⟨_, rfl, rfl, rfl⟩, ?_, ?_⟩
  · rintro i c σ B L hi ⟨v, rfl, rfl, rfl⟩
    have hc : c ∈ ordL := hl c (List.mem_of_getElem? hi)
    have hil := (List.getElem?_eq_some_iff.mp hi).1
    have hal := act_len (l.take i) []
    have hst := act_take hi
    rw [List.length_take] at hal
    refine g_name 2 ?_ sc_put_together.nd
    refine k_one ?_
    refine k_if ?_
    cases hs : act (l.take i) [] with
    | nil =>
      rw [hs] at hst
      refine t_pure (v := false) ?_ ⟨fun z => (nomatch z), fun _ => ?_⟩
      · refine t_w ?_
        refine w_and ?_
        refine t_cmp ?_
        refine k_n 1 ?_
        refine k_lst ?_
        refine a_nil ?_
        refine ⟨by first | decide | simp, fun p => ?_⟩
        refine o_ness (a := []) (b := []) hr.units (by walk_at "ls") (by walk_at "ls") ?_ (by simp) (by simp)
        refine ⟨_, rfl, ?_⟩
        exact ⟨fun z => (by simp at z), fun _ => ⟨rfl, rfl, by walk_at "sfx"⟩⟩
      · skip
        refine k_one ?_
        refine k_expr ?_
        refine k_m PySem.F.plainAttrs_list PySem.F.slot_list_append PySem.F.type_list_append ?_
        refine k_n 1 ?_
        refine ⟨ty_l (by walk_at "ls"), ?_⟩
        refine a_cons ?_
        refine k_n 2 ?_
        refine a_nil ?_
        refine m_append (by walk_at "rep") ?_ (by simp [stk])
        refine ⟨_, rfl, rfl, ?_⟩
        rw [hst]; rfl
    | cons x s =>
      rw [hs, push_cons] at hst
      have hxo : x ∈ ordL := by
        have h1 : x ∈ red (l.take i) := by unfold red; rw [List.mem_reverse, hs]; simp
        exact hl x (List.mem_of_mem_take (red_mem h1))
      refine t_pure (v := decide (x = bk c)) ?_ ⟨fun hk => ?_, fun hk => ?_⟩
      · refine t_w ?_
        refine w_and ?_
        refine t_cmp ?_
        refine k_n 1 ?_
        refine k_lst ?_
        refine a_nil ?_
        refine ⟨by first | decide | simp, fun p => ?_⟩
        refine o_ness (a := (x :: s).reverse.map fun c => [c]) (b := []) hr.units (by rw [← map_one]; walk_at "ls") (by walk_at "ls") ?_ ?_ (by simp)
        refine ⟨_, rfl, ?_⟩
        · refine ⟨fun _ => ?_, fun z => (by simp at z)⟩
          refine w_and1 ?_
          refine t_cmp ?_
          refine k_ix ?_
          refine k_n 1 ?_
          refine k_neg ?_
          refine k_int ?_
          refine ⟨_, rfl, ?_⟩
          refine i_lv (one x) (by walk_at "ls") ?_ ?_
          refine k_fn F_back_of (hr.mono (by decide)) ?_
          refine a_cons ?_
          refine k_n 2 ?_
          refine a_nil ?_
          refine use_back_of ?_ hc
          walk_at "opEq"
          refine ⟨_, rfl, ?_⟩
          · exact ⟨by simp, rfl, by walk_at "sfx"⟩
          · rw [stk_push]; exact at_last _ _
        · intro l' hl' c' hc'
          rw [List.mem_map] at hl'
          obtain ⟨d, hd, rfl⟩ := hl'
          rw [List.mem_singleton.mp hc']
          have h2 : d ∈ act (l.take i) [] := by rw [hs]; exact List.mem_reverse.mp hd
          have h3 : d ∈ red (l.take i) := by unfold red; rw [List.mem_reverse]; exact h2
          exact let_small hl d (List.mem_of_mem_take (red_mem h3))
      · have hx : x = bk c := of_decide_eq_true hk
        rw [if_pos hx] at hst
        refine k_one ?_
        refine k_expr ?_
        refine k_m0 PySem.F.plainAttrs_list PySem.F.slot_list_pop PySem.F.type_list_pop ?_
        refine k_n 1 ?_
        refine ⟨ty_l (by walk_at "ls"), ?_⟩
        refine m_pop (xs := stk (x :: s)) (v := one x) (by rw [stk_push]; exact get_last _ _) (by walk_at "rep") ?_
        skip
        refine ⟨_, rfl, rfl, ?_⟩
        rw [hst, stk_pop]
      · have hx : ¬ x = bk c := of_decide_eq_false hk
        rw [if_neg hx] at hst
        refine k_one ?_
        refine k_expr ?_
        refine k_m PySem.F.plainAttrs_list PySem.F.slot_list_append PySem.F.type_list_append ?_
        refine k_n 1 ?_
        refine ⟨ty_l (by walk_at "ls"), ?_⟩
        refine a_cons ?_
        refine k_n 2 ?_
        refine a_nil ?_
        refine m_append (by walk_at "rep") ?_ ?_
        · refine ⟨_, rfl, rfl, ?_⟩
          rw [hst, stk_push (x :: s) c]
        · rw [stk_len]
          rw [hs] at hal
          simp only [List.length_nil] at hal
          omega
  · rintro σ B L ⟨v, rfl, rfl, rfl⟩
    rw [List.take_length]
    refine k_one ?_
    refine k_ret ?_
    refine k_join ?_
    refine k_s [] ?_
    refine ⟨_, rfl, ?_⟩
    skip
    refine k_n 1 ?_
    skip
    refine m_join0 (ls := (red l).map fun c => [c]) ?_ ?_ ?_
    · rw [← map_one]; exact Or.inr (List.Mem.head _)
    · rw [flat_one]
      exact fun H' s => hq H' s.ext
    · rw [flat_one]
      have := red_len l
      omega
abbrev N_back : List Str := ["word", "letter"]
theorem sc_back : FnScope N_back ["word"] (defScope s_back) := ⟨rfl, rfl, rfl, by decide +kernel, rfl, by decide +kernel, by decide +kernel⟩
def sp_back : Sp := fun vs H Q _ => ∃ l, vs = [.str (sOf l)] ∧ (Let l ∧ l.length ≤ 1000000) ∧ ∀ H', (∀ b o, H b = some o → H' b = some o) → Q (.str (sOf (inv l))) H'
theorem use_back {B : Hp} {L : HL} {Q : KQ} {E : XK} {l : List Nat} (q : Q (.str (sOf (inv l))) B L) (h : Let l) (hn : l.length ≤ 1000000) : ∀ H, Sat B L H → sp_back [.str (sOf l)] H (up Q) E := fun H s => ⟨l, rfl, ⟨h, hn⟩, fun H' e => s.upq e q⟩
theorem ok_back {f : Addr} {fd : FuncData} (F : Fun K "back" "back" s_back f fd) (hm : mg "back" = some (.ref f)) (T : Tx mg) (F_back_of : Fn P w K mg base 1 "back_of" sp_back_of) : Fn P w K mg base 2 "back" sp_back := by
  refine fn_ok F sc_back hm (fun _ _ _ _ _ _ us hl => match us, hl with | [_], _ => rfl) ?_ fun cdv A outer s H vs Q E hr h tk po => ?_
  · rintro vs H Q E ⟨l, rfl, _⟩; rfl
  obtain ⟨l, rfl, ⟨hl, hn⟩, hq⟩ := h
  refine ⟨H, [], Sat.whole, ?_⟩
  refine k_one ?_
  refine k_ret ?_
  refine k_join ?_
  refine k_s [] ?_
  refine ⟨_, rfl, ?_⟩
  skip
  refine k_le (k_lcm_rs (j := 1) (fun c => .str (sOf [bk c])) sc_back.nd (blkOk_by (N := N_back) (sc := defScope s_back) (by decide +kernel)) T.b_reversed ?_)
  refine k_n 0 ?_
  refine ⟨l, rfl, by omega, fun c hc D acc sb Hb Cb clb fpb => ?_, fun D => ?_⟩
  ·
    refine k_fn F_back_of (hr.mono (by decide)) ?_
    refine a_cons ?_
    refine k_n 1 ?_
    refine a_nil ?_
    refine use_back_of ?_ (hl c hc)
    exact ⟨rfl, rfl, rfl⟩
  skip
  refine m_join0 (ls := (inv l).map fun c => [c]) ?_ ?_ ?_
  · rw [← map_one]
    have e : l.reverse.map (fun c => V.str (sOf [bk c])) = (inv l).map one := by unfold inv; rw [← List.map_reverse, List.map_map]; rfl
    rw [← e]; exact Or.inr (List.Mem.head _)
  · rw [flat_one]
    exact fun H' s => hq H' s.ext
  · rw [flat_one, inv_len]; omega
abbrev N_is_whole : List Str := ["thing"]
theorem sc_is_whole : FnScope N_is_whole ["thing"] (defScope s_is_whole) := ⟨rfl, rfl, rfl, by decide +kernel, rfl, by decide +kernel, by decide +kernel⟩
def sp_is_whole (K : PySem.W.Frag) : Sp := fun vs H Q _ => ∃ v d, vs = [v] ∧ Dp K H v d ∧ ∀ H', (∀ b o, H b = some o → H' b = some o) → Q (.bl (whlD d)) H'
theorem use_is_whole {K : PySem.W.Frag} {B : Hp} {L : HL} {Q : KQ} {E : XK} {v : V} {d : PyData} (h : ∀ H, Sat B L H → Dp K H v d) (q : Q (.bl (whlD d)) B L) : ∀ H, Sat B L H → sp_is_whole K [v] H (up Q) E := fun H s => ⟨v, d, rfl, h H s, fun H' e => s.upq e q⟩
theorem ok_is_whole {f : Addr} {fd : FuncData} (F : Fun K "is_whole" "is_whole" s_is_whole f fd) (hm : mg "is_whole" = some (.ref f)) (T : Tx mg) : Fn P w K mg base 1 "is_whole" (sp_is_whole K) := by
  refine fn_ok F sc_is_whole hm (fun _ _ _ _ _ _ us hl => match us, hl with | [_], _ => rfl) ?_ fun cdv A outer s H vs Q E hr h tk po => ?_
  · rintro vs H Q E ⟨_, _, rfl, _⟩; rfl
  obtain ⟨v, d, rfl, hd, hq⟩ := h
  refine ⟨H, [], Sat.whole, ?_⟩
  refine k_one ?_
  refine k_ret ?_
  refine k_andP ?_
  refine k_callB (id := "isinstance") T.b_isinstance ?_
  refine a_cons ?_
  refine k_n 0 ?_
  refine a_cons ?_
  refine k_ty (T := "int") T.b_int ?_
  refine a_nil ?_
  refine c_isD (d := d) (fun H' s' => dp_le s'.ext _ _ hd) (kit_int d) ?_
  refine ⟨_, rfl, ?_⟩; apply Exists.intro; refine ⟨fun hk => ?_, ?_⟩
  {
  refine k_and1 ?_
  refine k_not ?_
  refine k_callB (id := "isinstance") T.b_isinstance ?_
  refine a_cons ?_
  refine k_n 0 ?_
  refine a_cons ?_
  refine k_ty (T := "bool") T.b_bool ?_
  refine a_nil ?_
  refine c_isD (d := d) (fun H' s' => dp_le s'.ext _ _ hd) (kit_bool d) ?_
  refine ⟨_, rfl, ?_⟩
  exact ⟨rfl, rfl, by walk_at "sfx"⟩
  all_goals (try walk_at "side")
  }
  rw [whl_eq]
  exact fun H' s => hq H' s.ext
abbrev N_has_letters : List Str := ["word", "many", "letter"]
theorem sc_has_letters : FnScope N_has_letters ["word", "many"] (defScope s_has_letters) := ⟨rfl, rfl, rfl, by decide +kernel, rfl, by decide +kernel, by decide +kernel⟩
def hasL (n : Nat) (l : List Nat) : Bool := l.all fun c => decide (c ∈ ltL.take n) || decide (bk c ∈ ltL.take n)
def sp_has_letters : Sp := fun vs H Q _ => ∃ (l : List Nat) (n : Nat), vs = [.str (sOf l), .int n] ∧ (Let l ∧ l.length ≤ 1000000) ∧ ∀ H', (∀ b o, H b = some o → H' b = some o) → Q (.bl (hasL n l)) H'
theorem use_has_letters {B : Hp} {L : HL} {Q : KQ} {E : XK} {l : List Nat} {n : Nat} (q : Q (.bl (hasL n l)) B L) (h : Let l) (hn : l.length ≤ 1000000) : ∀ H, Sat B L H → sp_has_letters [.str (sOf l), .int n] H (up Q) E := fun H s => ⟨l, n, rfl, ⟨h, hn⟩, fun H' e => s.upq e q⟩
theorem ok_has_letters {f : Addr} {fd : FuncData} (F : Fun K "has_letters" "has_letters" s_has_letters f fd) (hm : mg "has_letters" = some (.ref f)) (T : Tx mg) (F_back_of : Fn P w K mg base 1 "back_of" sp_back_of) : Fn P w K mg base 2 "has_letters" sp_has_letters := by
  refine fn_ok F sc_has_letters hm (fun _ _ _ _ _ _ us hl => match us, hl with | [_, _], _ => rfl) ?_ fun cdv A outer s H vs Q E hr h tk po => ?_
  · rintro vs H Q E ⟨l, n, rfl, _⟩; rfl
  obtain ⟨l, n, rfl, ⟨hl, hn⟩, hq⟩ := h
  refine ⟨H, [], Sat.whole, ?_⟩
  refine k_one ?_
  refine k_ret ?_
  refine k_callB (id := "all") T.b_all ?_
  refine a_cons ?_
  refine k_le (k_lcm_s (j := 2) (fun c => .bl (decide (c ∈ ltL.take n) || decide (bk c ∈ ltL.take n))) sc_has_letters.nd (blkOk_by (N := N_has_letters) (sc := defScope s_has_letters) (by decide +kernel)) ?_)
  refine k_n 0 ?_
  refine ⟨l, rfl, by omega, fun c hc D acc sb Hb Cb clb fpb => ?_, fun D => ?_⟩
  ·
    refine k_orP ?_
    refine k_cmp ?_
    refine k_n 2 ?_
    refine k_slice ?_
    refine k_gsE T.g_LETTERS ?_
    refine p_none ?_
    refine p_some ?_
    refine k_n 1 ?_
    refine ⟨_, rfl, ?_⟩
    walk_at "SLICE"
    walk_at "opIn"
    refine ⟨_, rfl, ?_⟩; apply Exists.intro; refine ⟨fun hk => ?_, ?_⟩
    {
    refine k_or1 ?_
    refine k_cmp ?_
    refine k_fn F_back_of (hr.mono (by decide)) ?_
    refine a_cons ?_
    refine k_n 2 ?_
    refine a_nil ?_
    refine use_back_of ?_ (hl c hc)
    refine k_slice ?_
    refine k_gsE T.g_LETTERS ?_
    refine p_none ?_
    refine p_some ?_
    refine k_n 1 ?_
    refine ⟨_, rfl, ?_⟩
    walk_at "SLICE"
    walk_at "opIn"
    exact ⟨rfl, rfl, by walk_at "sfx"⟩
    all_goals (try walk_at "side")
    }
    · refine ⟨?_, rfl, rfl⟩
      rw [cut_to]
    · decide
  refine a_nil ?_
  refine c_all (bs := l.map fun c => decide (c ∈ ltL.take n) || decide (bk c ∈ ltL.take n)) (by rw [List.map_map]; exact Or.inr (List.Mem.head _)) ?_
  intro H' s
  have e : (l.map fun c => decide (c ∈ ltL.take n) || decide (bk c ∈ ltL.take n)).all id = hasL n l := by unfold hasL; rw [List.all_map]; rfl
  rw [e]
  exact hq H' s.ext
/-! ### class Sending, of anything -/
abbrev N_Sending_init : List Str := ["self", "into", "words", "word"]
theorem sc_Sending_init : FnScope N_Sending_init ["self", "into", "words"] (defScope s_Sending_init) := ⟨rfl, rfl, rfl, by decide +kernel, rfl, by decide +kernel, by decide +kernel⟩
def tS (l : List Nat) : V := .str (sOf l)
/-- good words of the first m letters -/
structure Gd (m : Nat) (ws : List (List Nat)) : Prop where
  m1 : 1 ≤ m
  m6 : m ≤ 6
  w1 : 1 ≤ ws.length
  w6 : ws.length ≤ 6
  ok : ∀ l ∈ ws, isW l = true ∧ hasL m l = true
theorem Gd.let_ {m : Nat} {ws : List (List Nat)} (g : Gd m ws) {l : List Nat} (h : l ∈ ws) : Let l ∧ l.length ≤ 60 ∧ Wd l := by
  have := (isW_iff l).mp (g.ok l h).1
  exact ⟨this.2.1, this.1, this.2.2⟩
def sfs (m : Nat) (t : Addr) : List (Str × V) := [("goal", .int m), ("first_words", .ref t)]
/-- a word of the first m letters -/
def wdD (m : Nat) : PyData → Bool
  | .str s => isW s.cps.toList && hasL m s.cps.toList
  | _ => false
/-- what makes a sending -/
structure FineS (dm dr : PyData) (m : Nat) (ws : List (List Nat)) : Prop where
  em : dm = .int (m : Nat)
  er : dr = .list (ws.map fun l => .str (sOf l))
  g : Gd m ws
def ShortS (d : PyData) : Prop := ∀ ds, d = .list ds → ds.length ≤ 1000000 ∧ ∀ s, PyData.str s ∈ ds → s.cps.toList.length ≤ 1000000
theorem sOf_cps (s : Str) : sOf s.cps.toList = s := by simp [sOf]
theorem cps_sOf (l : List Nat) : (sOf l).cps.toList = l := by simp [sOf]
theorem dp_words {H : Hp} : ∀ {ws : List (List Nat)} {xs : List V}, DpAll K H xs (ws.map fun l => PyData.str (sOf l)) → xs = ws.map tS
  | [], _, h => by cases h; rfl
  | w :: ws, _, h => by
    have h' : DpAll K H _ (.str (sOf w) :: ws.map fun l => PyData.str (sOf l)) := h
    cases h' with
    | cons h1 t => cases h1; rw [dp_words t]; rfl
theorem words_of {m : Nat} : ∀ {ds : List PyData}, (∀ d ∈ ds, wdD m d = true) → ∃ ws : List (List Nat), ds = ws.map (fun l => PyData.str (sOf l)) ∧ ∀ l ∈ ws, isW l = true ∧ hasL m l = true
  | [], _ => ⟨[], rfl, fun _ z => (nomatch z)⟩
  | d :: ds, h => by
    obtain ⟨ws, e2, g2⟩ := words_of fun d hd => h d (.tail _ hd)
    have h0 := h d List.mem_cons_self
    cases d with
    | str s =>
      have h0 : (isW s.cps.toList && hasL m s.cps.toList) = true := h0
      rw [Bool.and_eq_true] at h0
      exact ⟨s.cps.toList :: ws, by rw [e2, List.map_cons, sOf_cps], fun z hz => (List.mem_cons.mp hz).elim (fun e => by rw [e]; exact h0) (g2 z)⟩
    | _ => cases h0
theorem ntx_d {H : Hp} {v : V} {d : PyData} (h : Dp K H v d) (hn : isStr d = false) : NoTx K H v := ⟨_, tyx_d h, kit_ty (by rw [kit_str, hn])⟩
def sp_sinit (K : PySem.W.Frag) (C CE : Addr) : Sp := fun vs H Q E => ∃ (x dx : Addr) (vm vr : V) (dm dr : PyData), vs = [.ref x, vm, vr] ∧ H x = some (.ins C dx []) ∧ Dp K (rmH H x) vm dm ∧ Dp K (rmH H x) vr dr ∧ ShortS dr ∧
  ((¬ ∃ m ws, FineS dm dr m ws) → ∀ H', (∀ b o, b ≠ x → H b = some o → H' b = some o) → E (.ref CE) none H') ∧
  ∀ m ws, FineS dm dr m ws → ∀ (H' : Hp) (t : Addr), (∀ b o, b ≠ x → H b = some o → H' b = some o) → H t = none → H' t = some (.tup (ws.map tS)) → H' x = some (.ins C dx (sfs m t)) → Q .non H'
theorem ok_sinit {f C CE : Addr} {fd : FuncData} (F : Fun K "__init__" "Sending.__init__" s_Sending_init f fd) (T : Tx mg) (cls : Cls K C) (nG : NoAttr K C "goal") (nW : NoAttr K C "first_words") (eS : ExK K mg "NoSending" CE)
    (F_is_whole : Fn P w K mg base 1 "is_whole" (sp_is_whole K)) (F_is_word : Fn P w K mg base 2 "is_word" (sp_is_word K)) (F_has_letters : Fn P w K mg base 2 "has_letters" sp_has_letters) : FnOk P w K mg base (L2.CX P w) 3 f fd ["self", "into", "words"] (sp_sinit K C CE) := by
  refine fn_okF F sc_Sending_init ?_ fun cdv A outer s H vs Q E hr h tk po => ?_
  · rintro vs H Q E ⟨_, _, _, _, _, _, rfl, _⟩; rfl
  obtain ⟨x, dx, vm, vr, dm, dr, rfl, hx, hdm, hdr, hsh, he, hq⟩ := h
  refine ⟨rmH H x, _, sat_rm hx, ?_⟩
  have hext : ∀ {L : HL} {H' : Hp}, Sat (rmH H x) L H' → ∀ b o, b ≠ x → H b = some o → H' b = some o := fun s b o hb e => s.ext b o (by rw [rm_ne hb]; exact e)
  by_cases w1 : (∃ m : Nat, dm = .int (m : Nat) ∧ 1 ≤ m ∧ m ≤ 6) ∧ isList dr = true
  · obtain ⟨⟨m, rfl, m1, m6⟩, w2⟩ := w1
    cases hdm
    obtain ⟨a, xs, ds, rfl, rfl, ha, hxs⟩ : ∃ a xs ds, vr = .ref a ∧ dr = .list ds ∧ SqL K (rmH H x) a xs ∧ DpAll K (rmH H x) xs ds := by
      cases hdr with
      | lst h1 h2 => exact ⟨_, _, _, rfl, rfl, h1, h2⟩
      | _ => cases w2
    have hds := hsh ds rfl
    have hxl := Pch.dpa_len hxs
    have nof : (¬ (1 ≤ ds.length ∧ ds.length ≤ 6)) ∨ (∃ d ∈ ds, wdD m d = false) → ¬ ∃ m' ws, FineS (.int (m : Nat)) (.list ds) m' ws := fun h ⟨m', ws, hf⟩ => by
      have e1 := hf.em
      injection e1 with e1
      have e1 : m = m' := by omega
      subst e1
      have e2 := hf.er
      injection e2 with e2
      rcases h with h | ⟨d, hd, h⟩
      · apply h
        rw [e2, List.length_map]
        exact ⟨hf.g.w1, hf.g.w6⟩
      · rw [e2] at hd
        obtain ⟨l, hl, rfl⟩ := List.mem_map.mp hd
        have := hf.g.ok l hl
        have h : (isW (sOf l).cps.toList && hasL m (sOf l).cps.toList) = false := h
        rw [cps_sOf, this.1, this.2] at h
        cases h
    refine k_cons ?_
    refine k_if ?_
    refine t_w ?_
    refine w_orP ?_
    refine t_not ?_
    refine t_val ?_
    refine k_fn F_is_whole (hr.mono (by decide)) ?_
    refine a_cons ?_
    refine k_n 1 ?_
    refine a_nil ?_
    refine use_is_whole (d := .int (m : Nat)) (fun H' s' => .int _) ?_
    refine ⟨_, rfl, ?_⟩
    apply Exists.intro; refine ⟨fun hk => ?_, ?_⟩
    {
    refine w_orP ?_
    refine t_not ?_
    refine t_chainP ?_
    refine k_int ?_
    refine k_n 1 ?_
    walk_at "opLtE"
    refine ⟨_, rfl, ?_⟩; apply Exists.intro; refine ⟨fun hk => ?_, ?_⟩
    {
    refine k_callB (id := "len") T.b_len ?_
    refine a_cons ?_
    refine k_gsE T.g_LETTERS ?_
    refine a_nil ?_
    walk_at "c_len"
    walk_at "opLtE"
    exact ⟨rfl, rfl, by walk_at "sfx"⟩
    all_goals (try walk_at "side")
    }
    apply Exists.intro; refine ⟨fun hk => ?_, ?_⟩
    {
    refine w_or1 ?_
    refine t_not ?_
    refine t_val ?_
    refine k_callB (id := "isinstance") T.b_isinstance ?_
    refine a_cons ?_
    refine k_n 2 ?_
    refine a_cons ?_
    refine k_ty (T := "list") T.b_list ?_
    refine a_nil ?_
    refine c_isL (k := true) (.inl ha) ?_
    refine ⟨_, rfl, ?_⟩
    exact ⟨rfl, rfl, by walk_at "sfx"⟩
    all_goals (try walk_at "side")
    }
    exact ⟨rfl, rfl, by walk_at "sfx"⟩
    all_goals (try walk_at "side")
    }
    refine ⟨fun z => ?_, fun _ => ?_⟩
    · exfalso
      simp [whlD] at z
      have e2 : ((ltL.length : Nat) : Int) = 6 := rfl
      omega
    refine k_nil ?_
    by_cases wl : 1 ≤ ds.length ∧ ds.length ≤ 6
    · refine k_cons ?_
      refine k_if ?_
      refine t_not ?_
      refine t_chainP ?_
      refine k_int ?_
      refine k_callB (id := "len") T.b_len ?_
      refine a_cons ?_
      refine k_n 2 ?_
      refine a_nil ?_
      refine c_lenl (.inl ha) ?_
      walk_at "opLtE"
      refine ⟨_, rfl, ?_⟩; apply Exists.intro; refine ⟨fun hk => ?_, ?_⟩
      {
      refine k_callB (id := "len") T.b_len ?_
      refine a_cons ?_
      refine k_gsE T.g_LETTERS ?_
      refine a_nil ?_
      walk_at "c_len"
      walk_at "opLtE"
      exact ⟨rfl, rfl, by walk_at "sfx"⟩
      all_goals (try walk_at "side")
      }
      refine ⟨fun z => ?_, fun _ => ?_⟩
      · exfalso
        have e2 : ((ltL.length : Nat) : Int) = 6 := rfl
        simp at z
        omega
      refine k_nil ?_
      refine k_cons ?_
      refine k_if ?_
      refine t_not ?_
      refine t_val ?_
      refine k_callB (id := "all") T.b_all ?_
      refine a_cons ?_
      refine k_le (k_lcv_l (j := 3) (fun i acc B' L' => B' = rmH H x ∧ L' = [(x, .ins C dx [])] ∧ acc.length = i ∧ acc = ((ds.take i).map (wdD m)).map V.bl) sc_Sending_init.nd (blkOk_by (N := N_Sending_init) (sc := defScope s_Sending_init) (by decide +kernel)) ?_)
      refine k_n 2 ?_
      refine ⟨a, xs, rfl, by omega, ⟨rfl, rfl, rfl, rfl⟩, ?_, ?_, fun acc B1 L1 D hP => ?_⟩
      · rintro i acc B1 L1 ⟨rfl, rfl, hai, _⟩
        exact ⟨.inl ha, hai⟩
      · rintro i acc B1 L1 z hz ⟨rfl, rfl, hai, hac⟩ D s0 H0 C0 cl0 fp0
        obtain ⟨d, hd1, hd2⟩ := Pch.dpa_at hxs hz
        have nxt : ∀ b, b = wdD m d → ∃ L4, (D, HO.lst acc) :: [(x, .ins C dx [])] = (D, .lst acc) :: L4 ∧ rmH H x = rmH H x ∧ L4 = [(x, .ins C dx [])] ∧ (acc ++ [V.bl b]).length = i + 1 ∧ acc ++ [V.bl b] = ((ds.take (i + 1)).map (wdD m)).map V.bl := fun b hb => ⟨_, rfl, rfl, rfl, by rw [List.length_append, hai]; rfl, by rw [List.take_add_one, hd1, hac, hb]; simp⟩
        refine k_and ?_
        by_cases hs : isStr d = true
        · obtain ⟨l, rfl, rfl, hll⟩ : ∃ l, z = .str (sOf l) ∧ d = .str (sOf l) ∧ l.length ≤ 1000000 := by
            cases hd2 with
            | str s => exact ⟨s.cps.toList, by rw [sOf_cps], by rw [sOf_cps], hds.2 s (List.mem_of_getElem? hd1)⟩
            | _ => cases hs
          have ew : wdD m (.str (sOf l)) = (isW l && hasL m l) := by show (isW (sOf l).cps.toList && hasL m (sOf l).cps.toList) = _; rw [cps_sOf]
          refine k_fn F_is_word (hr.mono (by decide)) ?_
          refine a_cons ?_
          refine k_n 3 ?_
          refine a_nil ?_
          refine use_is_word ?_ hll
          refine ⟨_, rfl, fun hk => ?_, fun hk => nxt _ (by rw [ew, hk]; rfl)⟩
          refine k_and1 ?_
          have hlt := (isW_iff l).mp hk
          refine k_fn F_has_letters (hr.mono (by decide)) ?_
          refine a_cons ?_
          refine k_n 3 ?_
          refine a_cons ?_
          refine k_n 1 ?_
          refine a_nil ?_
          refine use_has_letters ?_ hlt.2.1 hll
          exact nxt _ (by rw [ew, hk]; rfl)
        · have ew : wdD m d = false := by cases d <;> first | rfl | (exact absurd rfl hs)
          refine k_fn F_is_word (hr.mono (by decide)) ?_
          refine a_cons ?_
          refine k_n 3 ?_
          refine a_nil ?_
          refine use_is_wordN ?_ fun H' s' => (ntx_d hd2 (by simpa using hs)).le s'.ext
          exact ⟨_, rfl, fun hk => (nomatch hk), fun _ => nxt _ ew.symm⟩
      obtain ⟨rfl, rfl, hai, hac⟩ := hP
      rw [hxl, List.take_length] at hac
      refine a_nil ?_
      refine c_all (bs := ds.map (wdD m)) (.inr (by rw [← hac]; exact List.mem_cons_self)) ?_
      refine ⟨_, rfl, ?_⟩
      refine ⟨fun hk => ?_, fun hk => ?_⟩
      · have hk : ¬ ∀ d ∈ ds, wdD m d = true := by simpa using hk
        obtain ⟨d, hd⟩ := Classical.not_forall.mp hk
        obtain ⟨hd1, hd2⟩ := Classical.not_imp.mp hd
        refine k_one (k_raise eS tk fun H' s => he (nof (.inr ⟨d, hd1, by simpa using hd2⟩)) H' (hext s))
      · have hk : ∀ d ∈ ds, wdD m d = true := by simpa using hk
        refine k_nil ?_
        show kSs _ _ _ _ _ _
        refine k_sub (L' := [(x, .ins C dx [])]) (List.sublist_cons_self _ _) ?_
        obtain ⟨ws, rfl, hws⟩ := words_of hk
        obtain rfl := dp_words hxs
        have hF : FineS (.int (m : Nat)) (.list (ws.map fun l => PyData.str (sOf l))) m ws := ⟨rfl, rfl, ⟨m1, m6, by rw [List.length_map] at wl; exact wl.1, by rw [List.length_map] at wl; exact wl.2, hws⟩⟩
        refine k_cons ?_
        refine k_setf cls nG ?_
        refine k_n 1 ?_
        refine k_n 0 ?_
        refine ⟨_, _, _, _, rfl, by walk_at "rep", by first | decide | simp [putF], ?_⟩
        refine k_one ?_
        refine k_setf cls nW ?_
        refine k_callT (T := "tuple") T.b_tuple ?_
        refine a_cons ?_
        refine k_n 2 ?_
        refine a_nil ?_
        refine c_tupl (.inl ha) fun p => ?_
        refine k_n 0 ?_
        refine ⟨_, _, _, _, rfl, by walk_at "rep", by first | decide | simp [putF], ?_⟩
        intro H' s
        have hnd : p ≠ x := by have := s.nd; simp at this; exact this
        refine hq m ws hF H' p (hext s) ?_ (s.own _ List.mem_cons_self) (s.own _ (List.mem_cons_of_mem _ List.mem_cons_self))
        have := s.nb _ List.mem_cons_self
        rw [← this]
        exact (rm_ne hnd).symm
    · refine k_cons ?_
      refine k_if ?_
      refine t_not ?_
      refine t_chainP ?_
      refine k_int ?_
      refine k_callB (id := "len") T.b_len ?_
      refine a_cons ?_
      refine k_n 2 ?_
      refine a_nil ?_
      refine c_lenl (.inl ha) ?_
      walk_at "opLtE"
      refine ⟨_, rfl, ?_⟩; apply Exists.intro; refine ⟨fun hk => ?_, ?_⟩
      {
      refine k_callB (id := "len") T.b_len ?_
      refine a_cons ?_
      refine k_gsE T.g_LETTERS ?_
      refine a_nil ?_
      walk_at "c_len"
      walk_at "opLtE"
      exact ⟨rfl, rfl, by walk_at "sfx"⟩
      all_goals (try walk_at "side")
      }
      refine ⟨fun z => ?_, fun hk => ?_⟩
      · exact k_one (k_raise eS tk fun H' s => he (nof (.inl wl)) H' (hext s))
      · exfalso
        have e2 : ((ltL.length : Nat) : Int) = 6 := rfl
        simp at hk
        omega
  · have nof : ¬ ∃ m ws, FineS dm dr m ws := fun ⟨m, ws, hf⟩ => w1 ⟨⟨m, hf.em, hf.g.m1, hf.g.m6⟩, by rw [hf.er]; rfl⟩
    refine k_cons ?_
    refine k_if ?_
    refine t_w ?_
    refine w_or ?_
    refine t_not ?_
    refine t_val ?_
    refine k_fn F_is_whole (hr.mono (by decide)) ?_
    refine a_cons ?_
    refine k_n 1 ?_
    refine a_nil ?_
    refine use_is_whole (d := dm) (fun H' s' => dp_le s'.ext _ _ hdm) ?_
    refine ⟨_, rfl, ?_⟩
    refine ⟨fun hk => ?_, fun _ => ⟨fun _ => k_one (k_raise eS tk fun H' s => he nof H' (hext s)), fun z => (nomatch z)⟩⟩
    obtain ⟨i, rfl, rfl⟩ : ∃ i, vm = .int i ∧ dm = .int i := by
      cases hdm with
      | int i => exact ⟨i, rfl, rfl⟩
      | _ => simp [whlD] at hk
    refine w_or ?_
    refine t_not ?_
    refine t_chainP ?_
    refine k_int ?_
    refine k_n 1 ?_
    walk_at "opLtE"
    refine ⟨_, rfl, ?_⟩; apply Exists.intro; refine ⟨fun hk => ?_, ?_⟩
    {
    refine k_callB (id := "len") T.b_len ?_
    refine a_cons ?_
    refine k_gsE T.g_LETTERS ?_
    refine a_nil ?_
    walk_at "c_len"
    walk_at "opLtE"
    exact ⟨rfl, rfl, by walk_at "sfx"⟩
    all_goals (try walk_at "side")
    }
    refine ⟨fun hk2 => ?_, fun _ => ⟨fun _ => k_one (k_raise eS tk fun H' s => he nof H' (hext s)), fun z => (nomatch z)⟩⟩
    refine w_or1 ?_
    refine t_not ?_
    refine t_val ?_
    refine k_callB (id := "isinstance") T.b_isinstance ?_
    refine a_cons ?_
    refine k_n 2 ?_
    refine a_cons ?_
    refine k_ty (T := "list") T.b_list ?_
    refine a_nil ?_
    refine c_isD (d := dr) (fun H' s' => dp_le s'.ext _ _ hdr) (kit_list dr) ?_
    refine ⟨_, rfl, ?_⟩
    refine ⟨fun _ => k_one (k_raise eS tk fun H' s => he nof H' (hext s)), fun hk3 => ?_⟩
    exfalso
    apply w1
    have e2 : ((ltL.length : Nat) : Int) = 6 := rfl
    simp at hk2
    exact ⟨⟨i.toNat, by rw [Int.toNat_of_nonneg (by omega)], by omega, by omega⟩, by simpa using hk3⟩
/-- a sending in the heap -/
def Snd (C : Addr) (H : Hp) (x : Addr) (m : Nat) (ws : List (List Nat)) : Prop := ∃ dx t, H x = some (.ins C dx (sfs m t)) ∧ H t = some (.tup (ws.map tS))
theorem Snd.le {C : Addr} {B B' : Hp} {x : Addr} {m : Nat} {ws : List (List Nat)} (h : Snd C B x m ws) (e : Le B B') : Snd C B' x m ws := by
  obtain ⟨dx, t, h1, h2⟩ := h
  exact ⟨dx, t, e _ _ h1, e _ _ h2⟩
/-- the image of a letter -/
def img (ws : List (List Nat)) (c : Nat) : List Nat := if c ∈ ltL then ws.getD (ltL.idxOf c) [] else inv (ws.getD (ltL.idxOf (bk c)) [])
def snt (ws : List (List Nat)) (l : List Nat) : List Nat := red (l.map (img ws)).flatten
theorem lt_ix {c : Nat} (h : c ∈ ltL) : Txt.index0 (sOf ltL) (sOf [c]) = some (ltL.idxOf c) := by
  simp only [ltL, List.mem_cons, List.not_mem_nil, or_false] at h
  rcases h with h | h | h | h | h | h <;> subst h <;> decide +kernel
theorem lt_or {c : Nat} (h : c ∈ ordL) : c ∈ ltL ∨ bk c ∈ ltL := by
  simp only [ordL, List.mem_cons, List.not_mem_nil, or_false] at h
  rcases h with h | h | h | h | h | h | h | h | h | h | h | h <;> subst h <;> decide
theorem lt_ord {c : Nat} (h : c ∈ ltL) : c ∈ ordL := by
  simp only [ltL, List.mem_cons, List.not_mem_nil, or_false] at h
  rcases h with h | h | h | h | h | h <;> subst h <;> decide
theorem lt_bk {c : Nat} (h : c ∈ ltL) : bk c ∉ ltL := by
  simp only [ltL, List.mem_cons, List.not_mem_nil, or_false] at h
  rcases h with h | h | h | h | h | h <;> subst h <;> decide
theorem lt_ixlt {c : Nat} {n : Nat} (h : c ∈ ltL.take n) : c ∈ ltL ∧ ltL.idxOf c < n := by
  have h1 : c ∈ ltL := List.mem_of_mem_take h
  refine ⟨h1, ?_⟩
  obtain ⟨i, hi, e⟩ := List.mem_iff_getElem.mp h
  rw [List.length_take] at hi
  rw [List.getElem_take] at e
  have : ltL.idxOf c = i := by
    rw [← e]
    exact List.Nodup.idxOf_getElem (by decide) i (by omega)
  omega
theorem has_c {n c : Nat} {l : List Nat} (h : hasL n l = true) (hc : c ∈ l) : c ∈ ltL.take n ∨ bk c ∈ ltL.take n := by
  unfold hasL at h
  rw [List.all_eq_true] at h
  have := h c hc
  rw [Bool.or_eq_true, decide_eq_true_iff, decide_eq_true_iff] at this
  exact this
/-- the words' lengths, letters -/
structure Gw (m : Nat) (ws : List (List Nat)) : Prop where
  ok : ∀ l ∈ ws, (Let l ∧ l.length ≤ 60) ∧ Wd l ∧ hasL m l = true
theorem Gd.gw {m : Nat} {ws : List (List Nat)} (g : Gd m ws) : Gw m ws := ⟨fun l hl => ⟨⟨(g.let_ hl).1, (g.let_ hl).2.1⟩, (g.let_ hl).2.2, (g.ok l hl).2⟩⟩
/-- what a letter needs to be sent -/
def InL (ws : List (List Nat)) (c : Nat) : Prop := (c ∈ ltL ∧ ltL.idxOf c < ws.length) ∨ (bk c ∈ ltL ∧ ltL.idxOf (bk c) < ws.length)
theorem inL_of {ws : List (List Nat)} {c : Nat} {l : List Nat} (h : hasL ws.length l = true) (hc : c ∈ l) : InL ws c := by
  rcases has_c h hc with h | h
  · exact .inl (lt_ixlt h)
  · exact .inr (lt_ixlt h)
theorem getD_mem {ws : List (List Nat)} {i : Nat} (h : i < ws.length) : ws.getD i [] ∈ ws := by
  rw [List.getD_eq_getElem?_getD, List.getElem?_eq_getElem h]; exact List.getElem_mem h
theorem img_ok {m : Nat} {ws : List (List Nat)} (g : Gw m ws) {c : Nat} (h : InL ws c) : Let (img ws c) ∧ (img ws c).length ≤ 60 := by
  unfold img
  by_cases hc : c ∈ ltL
  · rw [if_pos hc]
    rcases h with h | h
    · exact (g.ok _ (getD_mem h.2)).1
    · exact absurd h.1 (lt_bk hc)
  · rw [if_neg hc]
    rcases h with h | h
    · exact absurd h.1 hc
    · have := (g.ok _ (getD_mem h.2)).1
      exact ⟨let_inv this.1, by rw [inv_len]; exact this.2⟩
theorem flat_len {ls : List (List Nat)} {n : Nat} (h : ∀ l ∈ ls, l.length ≤ n) : ls.flatten.length ≤ n * ls.length := by
  induction ls with
  | nil => simp
  | cons a l ih =>
    have h1 := ih fun x hx => h x (List.mem_cons_of_mem _ hx)
    have h2 := h a List.mem_cons_self
    simp only [List.flatten_cons, List.length_append, List.length_cons, Nat.mul_succ]
    omega
theorem snt_raw {m : Nat} {ws : List (List Nat)} (g : Gw m ws) {l : List Nat} (hl : ∀ c ∈ l, InL ws c) : Let (l.map (img ws)).flatten ∧ (l.map (img ws)).flatten.length ≤ 60 * l.length := by
  constructor
  · intro c hc
    obtain ⟨z, hz, hcz⟩ := List.mem_flatten.mp hc
    obtain ⟨d, hd, rfl⟩ := List.mem_map.mp hz
    exact (img_ok g (hl d hd)).1 c hcz
  · have := flat_len (ls := l.map (img ws)) (n := 60) fun z hz => by
      obtain ⟨d, hd, rfl⟩ := List.mem_map.mp hz
      exact (img_ok g (hl d hd)).2
    rw [List.length_map] at this
    exact this
theorem map_tS (ls : List (List Nat)) : ls.map tS = ls.map fun l => V.str (sOf l) := rfl
/-- a sending that is new -/
def SndN (C : Addr) (B H : Hp) (x : Addr) (m : Nat) (ws : List (List Nat)) : Prop := ∃ dx t, H x = some (.ins C dx (sfs m t)) ∧ H t = some (.tup (ws.map tS)) ∧ B x = none ∧ B t = none
theorem SndN.le {C : Addr} {B H H' : Hp} {x : Addr} {m : Nat} {ws : List (List Nat)} (h : SndN C B H x m ws) (e : Le H H') : SndN C B H' x m ws := by
  obtain ⟨dx, t, h1, h2, h3⟩ := h
  exact ⟨dx, t, e _ _ h1, e _ _ h2, h3⟩
theorem SndN.snd {C : Addr} {B H : Hp} {x : Addr} {m : Nat} {ws : List (List Nat)} (h : SndN C B H x m ws) : Snd C H x m ws := by
  obtain ⟨dx, t, h1, h2, _⟩ := h
  exact ⟨dx, t, h1, h2⟩
/-- .. joins the base -/
theorem SndN.join {C : Addr} {B H H' : Hp} {L : HL} {x : Addr} {m : Nat} {ws : List (List Nat)} (h : SndN C H H' x m ws) (s : Sat B L H) (e : Le H H') : ∃ B', Sat B' L H' ∧ Le B B' ∧ SndN C B B' x m ws := by
  obtain ⟨dx, t, h1, h2, h3, h4⟩ := h
  have s1 := s.keep e
  have hne : x ≠ t := fun z => by rw [z, h2] at h1; cases h1
  have s2 := s1.take h2 (s.notin h4)
  have s3 := s2.take h1 (s.notin h3)
  refine ⟨_, s3, fun b o hb => ?_, dx, t, upd_same, by rw [upd_ne (Ne.symm hne)]; exact upd_same, s.free h3, s.free h4⟩
  refine le_upd ?_ b o (le_upd (s.free h4) b o hb)
  rw [upd_ne hne]; exact s.free h3
/-- the words sent on -/
def sntW (ws zs : List (List Nat)) : List (List Nat) := zs.map (snt ws)
theorem snt_let {m : Nat} {ws : List (List Nat)} (g : Gw m ws) {l : List Nat} (hl : ∀ c ∈ l, InL ws c) : Let (snt ws l) := let_red (snt_raw g hl).1
theorem snt_len {m : Nat} {ws : List (List Nat)} (g : Gw m ws) {l : List Nat} (hl : ∀ c ∈ l, InL ws c) : (snt ws l).length ≤ 60 * l.length := Nat.le_trans (red_len _) (snt_raw g hl).2
theorem has_img {m : Nat} {ws : List (List Nat)} (g : Gw m ws) {c : Nat} (h : InL ws c) : hasL m (img ws c) = true := by
  unfold img
  by_cases hc : c ∈ ltL
  · rw [if_pos hc]
    rcases h with h | h
    · exact (g.ok _ (getD_mem h.2)).2.2
    · exact absurd h.1 (lt_bk hc)
  · rw [if_neg hc]
    rcases h with h | h
    · exact absurd h.1 hc
    · have h2 := (g.ok _ (getD_mem h.2)).2.2
      unfold hasL at h2 ⊢
      rw [List.all_eq_true] at h2 ⊢
      intro d hd
      unfold inv at hd
      rw [List.mem_reverse, List.mem_map] at hd
      obtain ⟨y, hy, rfl⟩ := hd
      have := h2 y hy
      rw [bk_bk, Bool.or_comm]; exact this
theorem snt_has {m : Nat} {ws : List (List Nat)} (g : Gw m ws) {l : List Nat} (hl : ∀ c ∈ l, InL ws c) : hasL m (snt ws l) = true := by
  unfold hasL
  rw [List.all_eq_true]
  intro c hc
  have h1 := red_mem hc
  obtain ⟨z, hz, hcz⟩ := List.mem_flatten.mp h1
  obtain ⟨d, hd, rfl⟩ := List.mem_map.mp hz
  have := has_img g (hl d hd)
  unfold hasL at this
  rw [List.all_eq_true] at this
  exact this c hcz
theorem snt_gd {m n : Nat} {ws zs : List (List Nat)} (g : Gd m ws) (gz : Gd n zs) (hn : ws.length = n) (hs : ∀ l ∈ zs, (snt ws l).length ≤ 60) : Gd m (sntW ws zs) := by
  refine ⟨g.m1, g.m6, by unfold sntW; rw [List.length_map]; exact gz.w1, by unfold sntW; rw [List.length_map]; exact gz.w6, fun l hl => ?_⟩
  obtain ⟨z, hz, rfl⟩ := List.mem_map.mp hl
  have hin : ∀ c ∈ z, InL ws c := fun c hc => inL_of (by rw [hn]; exact (gz.ok z hz).2) hc
  exact ⟨(isW_iff _).mpr ⟨hs z hz, snt_let g.gw hin, rd_red _⟩, snt_has g.gw hin⟩
/-- a sending is made -/
theorem sat_rmx {B : Hp} {L : HL} {H : Hp} {x : Addr} {o : HO} (s : Sat B ((x, o) :: L) H) : Sat B L (rmH H x) := by
  have hb : B x = none := s.nb _ List.mem_cons_self
  have nd := s.nd
  rw [List.map_cons, List.nodup_cons] at nd
  refine ⟨fun b u h => ?_, fun p hp => ?_, fun p hp => s.nb p (.tail _ hp), nd.2⟩
  · rw [rm_ne (fun z => by rw [z, hb] at h; cases h)]; exact s.ext _ _ h
  · rw [rm_ne (fun z => nd.1 (List.mem_map.mpr ⟨p, hp, z⟩))]; exact s.own p (.tail _ hp)
/-! ### methods of Sending -/
abbrev N_Sending_into : List Str := ["self"]
theorem sc_Sending_into : FnScope N_Sending_into ["self"] (defScope s_Sending_into) := ⟨rfl, rfl, rfl, by decide +kernel, rfl, by decide +kernel, by decide +kernel⟩
def sp_sinto (C : Addr) : Sp := fun vs H Q _ => ∃ x m ws, vs = [.ref x] ∧ Snd C H x m ws ∧ ∀ H', (∀ b o, H b = some o → H' b = some o) → Q (.int m) H'
theorem use_sinto {C : Addr} {B : Hp} {L : HL} {Q : KQ} {E : XK} {x : Addr} {m : Nat} {ws : List (List Nat)} (h : Snd C B x m ws) (q : Q (.int m) B L) : ∀ H, Sat B L H → sp_sinto C [.ref x] H (up Q) E := fun H s => ⟨x, m, ws, rfl, h.le s.ext, fun H' e => s.upq e q⟩
theorem ok_sinto {f C : Addr} {fd : FuncData} (F : Fun K "into" "Sending.into" s_Sending_into f fd) (hm : Meth K C "into" f) (cls : Cls K C) (nG : NoAttr K C "goal") : Mt P w K mg base 1 C "into" (sp_sinto C) := by
  refine mt_okM F sc_Sending_into hm cls (fun _ _ _ _ _ _ us hl => match us, hl with | [_], _ => rfl) ?_ fun cdv A outer s H vs Q E hr h tk po => ?_
  · rintro vs H Q E ⟨_, _, _, rfl, _⟩; rfl
  obtain ⟨x, m, ws, rfl, ⟨dx, t, hx, ht⟩, hq⟩ := h
  refine ⟨H, [], Sat.whole, ?_⟩
  refine k_one ?_
  refine k_ret ?_
  refine k_fld cls nG ?_
  refine k_n 0 ?_
  refine ⟨_, _, _, _, rfl, by walk_at "at", rfl, ?_⟩
  exact fun H' s => hq H' s.ext
abbrev N_Sending_many : List Str := ["self"]
theorem sc_Sending_many : FnScope N_Sending_many ["self"] (defScope s_Sending_many) := ⟨rfl, rfl, rfl, by decide +kernel, rfl, by decide +kernel, by decide +kernel⟩
def sp_smany (C : Addr) : Sp := fun vs H Q _ => ∃ x m ws, vs = [.ref x] ∧ Snd C H x m ws ∧ ∀ H', (∀ b o, H b = some o → H' b = some o) → Q (.int (ws.length : Nat)) H'
theorem use_smany {C : Addr} {B : Hp} {L : HL} {Q : KQ} {E : XK} {x : Addr} {m : Nat} {ws : List (List Nat)} (h : Snd C B x m ws) (q : Q (.int (ws.length : Nat)) B L) : ∀ H, Sat B L H → sp_smany C [.ref x] H (up Q) E := fun H s => ⟨x, m, ws, rfl, h.le s.ext, fun H' e => s.upq e q⟩
theorem ok_smany {f C : Addr} {fd : FuncData} (F : Fun K "many" "Sending.many" s_Sending_many f fd) (hm : Meth K C "many" f) (cls : Cls K C) (nW : NoAttr K C "first_words") (T : Tx mg) : Mt P w K mg base 1 C "many" (sp_smany C) := by
  refine mt_okM F sc_Sending_many hm cls (fun _ _ _ _ _ _ us hl => match us, hl with | [_], _ => rfl) ?_ fun cdv A outer s H vs Q E hr h tk po => ?_
  · rintro vs H Q E ⟨_, _, _, rfl, _⟩; rfl
  obtain ⟨x, m, ws, rfl, ⟨dx, t, hx, ht⟩, hq⟩ := h
  have ht' : Tp K H [] t (ws.map tS) := .inl (.inl (.inl ht))
  refine ⟨H, [], Sat.whole, ?_⟩
  refine k_one ?_
  refine k_ret ?_
  refine k_callB (id := "len") T.b_len ?_
  refine a_cons ?_
  refine k_fld cls nW ?_
  refine k_n 0 ?_
  refine ⟨_, _, _, _, rfl, by walk_at "at", rfl, ?_⟩
  refine a_nil ?_
  refine c_lent ht' ?_
  rw [List.length_map]
  exact fun H' s => hq H' s.ext
abbrev N_Sending_words : List Str := ["self"]
theorem sc_Sending_words : FnScope N_Sending_words ["self"] (defScope s_Sending_words) := ⟨rfl, rfl, rfl, by decide +kernel, rfl, by decide +kernel, by decide +kernel⟩
def sp_swords (C : Addr) : Sp := fun vs H Q _ => ∃ x m ws, vs = [.ref x] ∧ Snd C H x m ws ∧ ∀ H' p, (∀ b o, H b = some o → H' b = some o) → H p = none → H' p = some (.lst (ws.map tS)) → Q (.ref p) H'
theorem use_swords {C : Addr} {B : Hp} {L : HL} {Q : KQ} {E : XK} {x : Addr} {m : Nat} {ws : List (List Nat)} (h : Snd C B x m ws) (q : ∀ p, Q (.ref p) B ((p, .lst (ws.map tS)) :: L)) : ∀ H, Sat B L H → sp_swords C [.ref x] H (up Q) E := fun H s => ⟨x, m, ws, rfl, h.le s.ext, fun H' p e h1 h2 => ⟨_, _, s.new' h1 e h2, q p⟩⟩
theorem ok_swords {f C : Addr} {fd : FuncData} (F : Fun K "words" "Sending.words" s_Sending_words f fd) (hm : Meth K C "words" f) (cls : Cls K C) (nW : NoAttr K C "first_words") (T : Tx mg) : Mt P w K mg base 1 C "words" (sp_swords C) := by
  refine mt_okM F sc_Sending_words hm cls (fun _ _ _ _ _ _ us hl => match us, hl with | [_], _ => rfl) ?_ fun cdv A outer s H vs Q E hr h tk po => ?_
  · rintro vs H Q E ⟨_, _, _, rfl, _⟩; rfl
  obtain ⟨x, m, ws, rfl, ⟨dx, t, hx, ht⟩, hq⟩ := h
  have ht' : Tp K H [] t (ws.map tS) := .inl (.inl (.inl ht))
  refine ⟨H, [], Sat.whole, ?_⟩
  refine k_one ?_
  refine k_ret ?_
  refine k_callT (T := "list") T.b_list ?_
  refine a_cons ?_
  refine k_fld cls nW ?_
  refine k_n 0 ?_
  refine ⟨_, _, _, _, rfl, by walk_at "at", rfl, ?_⟩
  refine a_nil ?_
  refine c_listt ht' fun p => ?_
  exact fun H' s => hq H' p s.ext (s.nb _ List.mem_cons_self) (s.own _ List.mem_cons_self)
abbrev N_Sending_image : List Str := ["self", "letter"]
theorem sc_Sending_image : FnScope N_Sending_image ["self", "letter"] (defScope s_Sending_image) := ⟨rfl, rfl, rfl, by decide +kernel, rfl, by decide +kernel, by decide +kernel⟩
def sp_simg (C : Addr) : Sp := fun vs H Q _ => ∃ x m ws c, vs = [.ref x, .str (sOf [c])] ∧ Snd C H x m ws ∧ Gd m ws ∧ c ∈ ordL ∧ InL ws c ∧ ∀ H', (∀ b o, H b = some o → H' b = some o) → Q (.str (sOf (img ws c))) H'
theorem use_simg {C : Addr} {B : Hp} {L : HL} {Q : KQ} {E : XK} {x : Addr} {m c : Nat} {ws : List (List Nat)} (h : Snd C B x m ws) (q : Q (.str (sOf (img ws c))) B L) (g : Gd m ws) (hc : c ∈ ordL) (hi : InL ws c) : ∀ H, Sat B L H → sp_simg C [.ref x, .str (sOf [c])] H (up Q) E := fun H s => ⟨x, m, ws, c, rfl, h.le s.ext, g, hc, hi, fun H' e => s.upq e q⟩
theorem i_tget {X : Cx} {B : Hp} {L : HL} {Q : KQ} {t : Addr} {ws : List (List Nat)} {n : Nat} (h : Tp X.K B L t (ws.map tS)) (hn : n < ws.length) (q : Q (tS (ws.getD n [])) B L) : kI X (.ref t) (.int (n : Nat)) B L Q := by
  refine i_tv _ h q ?_
  rw [atI_n, List.getElem?_map, List.getD_eq_getElem?_getD, List.getElem?_eq_getElem hn]; rfl
theorem ok_simg {f C : Addr} {fd : FuncData} (F : Fun K "image" "Sending.image" s_Sending_image f fd) (hm : Meth K C "image" f) (cls : Cls K C) (nW : NoAttr K C "first_words") (T : Tx mg) (F_back_of : Fn P w K mg base 1 "back_of" sp_back_of) (F_back : Fn P w K mg base 2 "back" sp_back) : Mt P w K mg base 3 C "image" (sp_simg C) := by
  refine mt_okM F sc_Sending_image hm cls (fun _ _ _ _ _ _ us hl => match us, hl with | [_, _], _ => rfl) ?_ fun cdv A outer s H vs Q E hr h tk po => ?_
  · rintro vs H Q E ⟨_, _, _, _, rfl, _⟩; rfl
  obtain ⟨x, m, ws, c, rfl, ⟨dx, t, hx, ht⟩, g, hc, hi, hq⟩ := h
  have ht' : Tp K H [] t (ws.map tS) := .inl (.inl (.inl ht))
  refine ⟨H, [], Sat.whole, ?_⟩
  refine k_cons ?_
  refine k_if ?_
  refine t_cmp ?_
  refine k_n 1 ?_
  refine k_gsE T.g_LETTERS ?_
  walk_at "opIn"
  refine ⟨_, rfl, ?_⟩
  refine ⟨fun hk => ?_, fun hk => ?_⟩
  · skip
    have hcl : c ∈ ltL := by simpa using hk
    have hlt : ltL.idxOf c < ws.length := by
      rcases hi with h | h
      · exact h.2
      · exact absurd h.1 (lt_bk hcl)
    refine k_one ?_
    refine k_ret ?_
    refine k_ix ?_
    refine k_fld cls nW ?_
    refine k_n 0 ?_
    refine ⟨_, _, _, _, rfl, by walk_at "at", rfl, ?_⟩
    refine k_sindex ?_ (name := "")
    refine k_gsE T.g_LETTERS ?_
    refine ⟨_, rfl, ?_⟩
    refine a_cons ?_
    refine k_n 1 ?_
    refine a_nil ?_
    refine m_index (lt_ix hcl) ?_
    refine i_tget ht' hlt ?_
    have e : img ws c = ws.getD (ltL.idxOf c) [] := by unfold img; rw [if_pos hcl]
    rw [← e]
    exact fun H' s => hq H' s.ext
  · refine k_nil ?_
    have hcl : c ∉ ltL := by simpa using hk
    have hlt : bk c ∈ ltL ∧ ltL.idxOf (bk c) < ws.length := by
      rcases hi with h | h
      · exact absurd h.1 hcl
      · exact h
    have hw := g.let_ (getD_mem hlt.2)
    refine k_one ?_
    refine k_ret ?_
    refine k_fn F_back (hr.mono (by decide)) ?_
    refine a_cons ?_
    refine k_ix ?_
    refine k_fld cls nW ?_
    refine k_n 0 ?_
    refine ⟨_, _, _, _, rfl, by walk_at "at", rfl, ?_⟩
    refine k_sindex ?_ (name := "")
    refine k_gsE T.g_LETTERS ?_
    refine ⟨_, rfl, ?_⟩
    refine a_cons ?_
    refine k_fn F_back_of (hr.mono (by decide)) ?_
    refine a_cons ?_
    refine k_n 1 ?_
    refine a_nil ?_
    refine use_back_of ?_ hc
    refine a_nil ?_
    refine m_index (lt_ix hlt.1) ?_
    refine i_tget ht' hlt.2 ?_
    refine a_nil ?_
    refine use_back ?_ hw.1 (by omega)
    have e : img ws c = inv (ws.getD (ltL.idxOf (bk c)) []) := by unfold img; rw [if_neg hcl]
    rw [← e]
    exact fun H' s => hq H' s.ext
abbrev N_Sending_sent : List Str := ["self", "word", "letter"]
theorem sc_Sending_sent : FnScope N_Sending_sent ["self", "word"] (defScope s_Sending_sent) := ⟨rfl, rfl, rfl, by decide +kernel, rfl, by decide +kernel, by decide +kernel⟩
def sp_ssent (K : PySem.W.Frag) (C CW : Addr) : Sp := fun vs H Q E => ∃ x m ws v, vs = [.ref x, v] ∧ Snd C H x m ws ∧ Gd m ws ∧
  ((∃ l, v = .str (sOf l) ∧ l.length ≤ 1000000 ∧ (isW l = true ∧ hasL ws.length l = true → ∀ H', (∀ b o, H b = some o → H' b = some o) → Q (.str (sOf (snt ws l))) H') ∧ (¬ (isW l = true ∧ hasL ws.length l = true) → ∀ H', (∀ b o, H b = some o → H' b = some o) → E (.ref CW) none H')) ∨
  (NoTx K H v ∧ ∀ H', (∀ b o, H b = some o → H' b = some o) → E (.ref CW) none H'))
theorem use_ssent {C CW : Addr} {B : Hp} {L : HL} {Q : KQ} {E : XK} {x : Addr} {m : Nat} {l : List Nat} {ws : List (List Nat)} (h : Snd C B x m ws) (q : Q (.str (sOf (snt ws l))) B L) (g : Gd m ws) (hw : isW l = true) (hl : hasL ws.length l = true) : ∀ H, Sat B L H → sp_ssent K C CW [.ref x, .str (sOf l)] H (up Q) E := fun H s =>
  ⟨x, m, ws, _, rfl, h.le s.ext, g, .inl ⟨l, rfl, by have := ((isW_iff l).mp hw).1; omega, fun _ H' e => s.upq e q, fun z => absurd ⟨hw, hl⟩ z⟩⟩
/-- a word that may be sent -/
def senB (n : Nat) : PyData → Bool := wdD n
theorem use_ssentB {C CW : Addr} {B : Hp} {L : HL} {Q : KQ} {E : XK} {x : Addr} {m : Nat} {v : V} {d : PyData} {ws : List (List Nat)} (h : Snd C B x m ws) (g : Gd m ws) (hv : ∀ H, Sat B L H → Dp K H v d) (hs : ∀ s, d = .str s → s.cps.toList.length ≤ 1000000) (hb : wdD ws.length d = false) (q : ∀ H, Sat B L H → E (.ref CW) none H) : ∀ H, Sat B L H → sp_ssent K C CW [.ref x, v] H (up Q) E := fun H s => by
  refine ⟨x, m, ws, v, rfl, h.le s.ext, g, ?_⟩
  have hd := hv H s
  by_cases hs2 : isStr d = true
  · cases hd with
    | str s0 =>
      refine .inl ⟨s0.cps.toList, by rw [sOf_cps], hs _ rfl, fun z => ?_, fun _ H' e => q H' (s.keep e)⟩
      have hb : (isW s0.cps.toList && hasL ws.length s0.cps.toList) = false := hb
      rw [z.1, z.2] at hb
      cases hb
    | _ => cases hs2
  · exact .inr ⟨ntx_d hd (by simpa using hs2), fun H' e => q H' (s.keep e)⟩
theorem ok_ssent {f C W : Addr} {fd : FuncData} (F : Fun K "sent" "Sending.sent" s_Sending_sent f fd) (hm : Meth K C "sent" f) (cls : Cls K C) (T : Tx mg) (eW : ExK K mg "NoWord" W)
    (F_need_word : Fn P w K mg base 3 "need_word" (sp_need_word K W)) (F_has_letters : Fn P w K mg base 2 "has_letters" sp_has_letters) (F_put_together : Fn P w K mg base 2 "put_together" sp_put_together) (M_many : Mt P w K mg base 1 C "many" (sp_smany C)) (M_image : Mt P w K mg base 3 C "image" (sp_simg C)) : Mt P w K mg base 4 C "sent" (sp_ssent K C W) := by
  refine mt_okM F sc_Sending_sent hm cls (fun _ _ _ _ _ _ us hl => match us, hl with | [_, _], _ => rfl) ?_ fun cdv A outer s H vs Q E hr h tk po => ?_
  · rintro vs H Q E ⟨_, _, _, _, rfl, _⟩; rfl
  obtain ⟨x, m, ws, v, rfl, hS, g, hv⟩ := h
  have ⟨dx, t, hx, ht⟩ := hS
  refine ⟨H, [], Sat.whole, ?_⟩
  rcases hv with ⟨l, rfl, hll, hq, he⟩ | ⟨hv, he⟩
  · by_cases hw : isW l = true
    · have hi := (isW_iff l).mp hw
      have hi1 := hi.1
      refine k_cons ?_
      refine k_expr ?_
      refine k_fn F_need_word (hr.mono (by decide)) ?_
      refine a_cons ?_
      refine k_n 1 ?_
      refine a_nil ?_
      refine use_need_word ?_ hw (by omega)
      refine k_cons ?_
      refine k_if ?_
      refine t_not ?_
      refine t_val ?_
      refine k_fn F_has_letters (hr.mono (by decide)) ?_
      refine a_cons ?_
      refine k_n 1 ?_
      refine a_cons ?_
      refine k_meth0 M_many (hr.mono (by decide)) takes0 ?_
      refine k_n 0 ?_
      refine ⟨_, _, _, rfl, .inl hx, rfl, ?_⟩
      skip
      refine use_smany hS ?_
      refine a_nil ?_
      refine use_has_letters ?_ hi.2.1 (by omega)
      refine ⟨_, rfl, ?_⟩
      refine ⟨fun hk => ?_, fun hk => ?_⟩
      · refine k_one (k_raise eW tk fun H' s => he (fun z => ?_) H' s.ext)
        rw [z.2] at hk; cases hk
      · refine k_nil ?_
        have hl : hasL ws.length l = true := by simpa using hk
        have hin : ∀ c ∈ l, InL ws c := fun c hc => inL_of hl hc
        have hraw := snt_raw g.gw hin
        refine k_one ?_
        refine k_ret ?_
        refine k_fn F_put_together (hr.mono (by decide)) ?_
        refine a_cons ?_
        refine k_join ?_
        refine k_s [] ?_
        refine ⟨_, rfl, ?_⟩
        skip
        refine k_le (k_lcm_s (j := 2) (fun c => .str (sOf (img ws c))) sc_Sending_sent.nd (blkOk_by (N := N_Sending_sent) (sc := defScope s_Sending_sent) (by decide +kernel)) ?_)
        refine k_n 1 ?_
        refine ⟨l, rfl, by omega, fun c hc D acc sb Hb Cb clb fpb => ?_, fun D => ?_⟩
        ·
          refine k_meth M_image (hr.mono (by decide)) takes0 ?_
          refine k_n 0 ?_
          refine ⟨_, _, _, rfl, .inl hx, rfl, ?_⟩
          refine a_cons ?_
          refine k_n 2 ?_
          refine a_nil ?_
          refine use_simg hS ?_ g (hi.2.1 c hc) (hin c hc)
          exact ⟨rfl, rfl, rfl⟩
        skip
        refine m_join0 (ls := l.map (img ws)) (by rw [List.map_map]; exact Or.inr (List.Mem.head _)) ?_ (by omega)
        refine a_nil ?_
        refine use_put_together ?_ ⟨hraw.1, by omega⟩
        exact fun H' s => hq ⟨hw, hl⟩ H' s.ext
    · refine k_cons ?_
      refine k_expr ?_
      refine k_call F_need_word (hr.mono (by decide)) tk ?_
      refine a_cons ?_
      refine k_n 1 ?_
      refine a_nil ?_
      exact fun H' s => .inl ⟨l, rfl, hll, fun z => absurd z hw, fun _ H2 e => he (fun z => hw z.1) H2 fun b o q => e _ _ (s.ext _ _ q)⟩
  · refine k_cons ?_
    refine k_expr ?_
    refine k_call F_need_word (hr.mono (by decide)) tk ?_
    refine a_cons ?_
    refine k_n 1 ?_
    refine a_nil ?_
    exact fun H' s => .inr ⟨v, rfl, hv.le s.ext, fun H2 e => he H2 fun b o q => e _ _ (s.ext _ _ q)⟩
theorem use_smake {C CE : Addr} {B : Hp} {L : HL} {Q : KQ} {E : XK} {vm vr : V} {dm dr : PyData} {m : Nat} {ws : List (List Nat)} (hm : ∀ H, Sat B L H → Dp K H vm dm) (hr : ∀ H, Sat B L H → Dp K H vr dr) (hs : ShortS dr) (hF : FineS dm dr m ws)
    (q : ∀ x B', Le B B' → SndN C B B' x m ws → Q (.ref x) B' L) : ∀ x dx, ∀ H, Sat B ((x, .ins C dx []) :: (dx, .own x) :: L) H → sp_sinit K C CE [.ref x, vm, vr] H (fun v H2 => v = .non ∧ up Q (.ref x) H2) E := by
  intro x dx H s
  have s1 := (sat_rmx s).drop
  refine ⟨x, dx, vm, vr, dm, dr, rfl, s.own _ List.mem_cons_self, hm _ s1, hr _ s1, hs, fun hn => absurd ⟨_, _, hF⟩ hn, fun m' ws' hF' H' t he nt ht hx => ?_⟩
  obtain ⟨rfl, rfl⟩ : m = m' ∧ ws = ws' := by
    have e1 := hF.em.symm.trans hF'.em
    injection e1 with e1
    have e2 := hF.er.symm.trans hF'.er
    injection e2 with e2
    refine ⟨by omega, ?_⟩
    have inj : ∀ a b : List (List Nat), a.map (fun l => PyData.str (sOf l)) = b.map (fun l => PyData.str (sOf l)) → a = b := fun a => by
      induction a with
      | nil => intro b h; cases b with | nil => rfl | cons _ _ => cases h
      | cons x a ih =>
        intro b h
        cases b with
        | nil => cases h
        | cons y b =>
          obtain ⟨h1, h2⟩ := List.cons.inj h
          injection h1 with h1
          rw [ih b h2, ← cps_sOf x, h1, cps_sOf]
    exact inj _ _ e2
  have hxL : x ∉ L.map (·.1) := by
    have nd := s.nd
    simp only [List.map_cons, List.nodup_cons, List.mem_cons, not_or] at nd
    exact nd.1.2
  have hown : ∀ p ∈ L, H p.1 = some p.2 := fun p hp => s.own p (.tail _ (.tail _ hp))
  have htL : t ∉ L.map (·.1) := fun hm => by
    obtain ⟨p, hp, rfl⟩ := List.mem_map.mp hm
    rw [hown p hp] at nt; cases nt
  have hBx : B x = none := s.nb _ List.mem_cons_self
  have hBt : B t = none := by
    cases e : B t with
    | none => rfl
    | some o => have := s.ext _ _ e; rw [nt] at this; cases this
  refine ⟨rfl, rmK H' L, L, ⟨fun b o e => ?_, fun p hp => ?_, fun p hp => if_pos (List.mem_map.mpr ⟨p, hp, rfl⟩), s1.nd⟩, q _ _ (fun b o e => ?_) ⟨dx, t, (if_neg hxL).trans hx, (if_neg htL).trans ht, hBx, hBt⟩⟩
  · have e : (if b ∈ L.map (·.1) then none else H' b) = some o := e
    split at e
    · cases e
    · exact e
  · exact he _ _ (fun z => hxL (z ▸ List.mem_map.mpr ⟨p, hp, rfl⟩)) (hown p hp)
  · show (if b ∈ L.map (·.1) then none else H' b) = some o
    rw [if_neg (fun hm => by obtain ⟨p, hp, rfl⟩ := List.mem_map.mp hm; rw [s1.nb p hp] at e; cases e)]
    exact he _ _ (fun z => by rw [z, hBx] at e; cases e) (s.ext _ _ e)
theorem use_smake_bad {C CE : Addr} {B : Hp} {L : HL} {Q : KQ} {E : XK} {vm vr : V} {dm dr : PyData} (hm : ∀ H, Sat B L H → Dp K H vm dm) (hr : ∀ H, Sat B L H → Dp K H vr dr) (hs : ShortS dr) (hn : ¬ ∃ m ws, FineS dm dr m ws) (h : ∀ H, Sat B L H → E (.ref CE) none H) : ∀ x dx, ∀ H, Sat B ((x, .ins C dx []) :: (dx, .own x) :: L) H → sp_sinit K C CE [.ref x, vm, vr] H (fun v H2 => v = .non ∧ up Q (.ref x) H2) E := by
  intro x dx H s
  have s1 := (sat_rmx s).drop
  refine ⟨x, dx, vm, vr, dm, dr, rfl, s.own _ List.mem_cons_self, hm _ s1, hr _ s1, hs, fun _ H' he => h H' (s1.keep fun b o e => ?_), fun m ws hf => absurd ⟨_, _, hf⟩ hn⟩
  have hb : b ≠ x := fun z => by rw [z, rm_eq] at e; cases e
  rw [rm_ne hb] at e
  exact he _ _ hb e
abbrev N_Sending_then : List Str := ["self", "other", "words", "word"]
theorem sc_Sending_then : FnScope N_Sending_then ["self", "other"] (defScope s_Sending_then) := ⟨rfl, rfl, rfl, by decide +kernel, rfl, by decide +kernel, by decide +kernel⟩
def sF (ws : List (List Nat)) (v : V) : V := match v with | .str s => .str (sOf (snt ws s.cps.toList)) | v => v
theorem map_sF (ws zs : List (List Nat)) : (zs.map tS).map (sF ws) = (sntW ws zs).map tS := by
  unfold sntW
  rw [List.map_map, List.map_map]
  apply List.map_congr_left
  intro l _
  simp [sF, tS, sOf]
theorem sF_tS (ws : List (List Nat)) (l : List Nat) : sF ws (tS l) = tS (snt ws l) := by simp [sF, tS, sOf]
def lF (v : V) : V := match v with | .str s => .bl (decide (60 < s.cps.toList.length)) | v => v
theorem map_lF (zs : List (List Nat)) : (zs.map tS).map lF = (zs.map fun l => decide (60 < l.length)).map V.bl := by
  rw [List.map_map, List.map_map]
  apply List.map_congr_left
  intro l _
  simp [lF, tS, sOf]
theorem dpa_words {H : Hp} : ∀ ws : List (List Nat), DpAll K H (ws.map tS) (ws.map fun l => PyData.str (sOf l))
  | [] => .nil
  | w :: ws => .cons (.str _) (dpa_words ws)
theorem shortS_words {ws : List (List Nat)} (h : ∀ l ∈ ws, l.length ≤ 1000000) (hl : ws.length ≤ 1000000 := by omega) : ShortS (.list (ws.map fun l => PyData.str (sOf l))) := fun ds e => by
  injection e with e
  subst e
  refine ⟨by rw [List.length_map]; exact hl, fun s hs => ?_⟩
  obtain ⟨l, hl2, e⟩ := List.mem_map.mp hs
  injection e with e
  rw [← e, cps_sOf]
  exact h l hl2
def sp_sthen (K : PySem.W.Frag) (C CS CT : Addr) : Sp := fun vs H Q E => ∃ x n zs v, vs = [.ref x, v] ∧ Snd C H x n zs ∧ Gd n zs ∧
  ((((∃ d, Dp K H v d) ∨ ∃ y m ws, v = .ref y ∧ Snd C H y m ws ∧ Gd m ws ∧ ws.length ≠ n) ∧ ∀ H', (∀ b o, H b = some o → H' b = some o) → E (.ref CS) none H') ∨
   ∃ y m ws, v = .ref y ∧ Snd C H y m ws ∧ Gd m ws ∧ ws.length = n ∧
     ((∀ l ∈ zs, (snt ws l).length ≤ 60) → ∀ H' z, (∀ b o, H b = some o → H' b = some o) → SndN C H H' z m (sntW ws zs) → Q (.ref z) H') ∧
     ((∃ l ∈ zs, 60 < (snt ws l).length) → ∀ H', (∀ b o, H b = some o → H' b = some o) → E (.ref CT) none H'))
theorem use_sthen {C CS CT x y : Addr} {B : Hp} {L : HL} {Q : KQ} {E : XK} {n m : Nat} {zs ws : List (List Nat)} (h : Snd C B x n zs ∧ Snd C B y m ws ∧ Gd n zs ∧ Gd m ws ∧ ws.length = n)
    (q : (∀ l ∈ zs, (snt ws l).length ≤ 60) → ∀ B' z, Le B B' → SndN C B B' z m (sntW ws zs) → Q (.ref z) B' L) (qe : (∃ l ∈ zs, 60 < (snt ws l).length) → ∀ H, Sat B L H → E (.ref CT) none H) : ∀ H, Sat B L H → sp_sthen K C CS CT [.ref x, .ref y] H (up Q) E := fun H s =>
  ⟨x, n, zs, _, rfl, h.1.le s.ext, h.2.2.1, .inr ⟨y, m, ws, rfl, h.2.1.le s.ext, h.2.2.2.1, h.2.2.2.2, fun ha H' z e hz => by
    obtain ⟨B', s', l', hS⟩ := hz.join s e
    exact ⟨B', L, s', q ha B' z l' hS⟩, fun he H' e => qe he H' (s.keep e)⟩⟩
theorem use_sthenB {C CS CT x : Addr} {v : V} {B : Hp} {L : HL} {Q : KQ} {E : XK} {n : Nat} {zs : List (List Nat)} (h : Snd C B x n zs) (g : Gd n zs) (hv : (∃ d, ∀ H, Sat B L H → Dp K H v d) ∨ ∃ y m ws, v = .ref y ∧ Snd C B y m ws ∧ Gd m ws ∧ ws.length ≠ n) (q : ∀ H, Sat B L H → E (.ref CS) none H) : ∀ H, Sat B L H → sp_sthen K C CS CT [.ref x, v] H (up Q) E := fun H s =>
  ⟨x, n, zs, v, rfl, h.le s.ext, g, .inl ⟨hv.imp (fun ⟨d, h⟩ => ⟨d, h H s⟩) (fun ⟨y, m, ws, e, h1, h2⟩ => ⟨y, m, ws, e, h1.le s.ext, h2⟩), fun H' e => q H' (s.keep e)⟩⟩
theorem ok_sthen {f C CE CS CT CW : Addr} {fd : FuncData} (F : Fun K "then" "Sending.then" s_Sending_then f fd) (hm : Meth K C "then" f) (cls : Cls K C) (nG : NoAttr K C "goal") (nW : NoAttr K C "first_words") (T : Tx mg) (gC : mg "Sending" = some (.ref C)) (O : IsO K C) (NI : NoInst K C) (eS : ExK K mg "NoSending" CS) (eT : ExK K mg "TooMany" CT)
    (M_many : Mt P w K mg base 1 C "many" (sp_smany C)) (M_into : Mt P w K mg base 1 C "into" (sp_sinto C)) (M_sent : Mt P w K mg base 4 C "sent" (sp_ssent K C CW)) (mk : Mkr P w K mg base 3 "Sending" C (sp_sinit K C CE)) : Mt P w K mg base 5 C "then" (sp_sthen K C CS CT) := by
  refine mt_okM F sc_Sending_then hm cls (fun _ _ _ _ _ _ us hl => match us, hl with | [_, _], _ => rfl) ?_ fun cdv A outer s H vs Q E hr h tk po => ?_
  · rintro vs H Q E ⟨_, _, _, _, rfl, _⟩; rfl
  obtain ⟨x, n, zs, v, rfl, hX, gz, hv⟩ := h
  have ⟨dx, tx, hx, htx⟩ := hX
  refine ⟨H, [], Sat.whole, ?_⟩
  refine k_cons ?_
  refine k_if ?_
  rcases hv with ⟨hv, he⟩ | ⟨y, m, ws, rfl, hY, gw, hn, hq, he⟩
  · refine t_w ?_
    refine w_or ?_
    rcases hv with ⟨d, hd⟩ | ⟨y, m, ws, rfl, hY, gw, hn⟩
    · skip
      refine t_not ?_
      refine t_val ?_
      refine k_callB (id := "isinstance") T.b_isinstance ?_
      refine a_cons ?_
      refine k_n 1 ?_
      refine a_cons ?_
      refine k_cls gC ?_
      refine a_nil ?_
      refine c_isDC (d := d) (fun H' s' => dp_le s'.ext _ _ hd) NI ?_
      refine ⟨_, rfl, ?_⟩
      exact ⟨fun z => (nomatch z), fun _ => ⟨fun _ => k_one (k_raise eS tk fun H' s => he H' s.ext), fun z => (nomatch z)⟩⟩
    · have ⟨dy, ty, hy, hty⟩ := hY
      refine t_not ?_
      refine t_val ?_
      refine k_callB (id := "isinstance") T.b_isinstance ?_
      refine a_cons ?_
      refine k_n 1 ?_
      refine a_cons ?_
      refine k_cls gC ?_
      refine a_nil ?_
      refine c_isO O (.inl hy) ?_
      refine ⟨_, rfl, ?_⟩
      refine ⟨fun _ => ?_, fun z => (nomatch z)⟩
      refine w_or1 ?_
      refine t_cmp ?_
      refine k_meth0 M_many (hr.mono (by decide)) takes0 ?_
      refine k_n 1 ?_
      refine ⟨_, _, _, rfl, .inl hy, rfl, ?_⟩
      skip
      refine use_smany hY ?_
      refine k_fld cls nG ?_
      refine k_n 0 ?_
      refine ⟨_, _, _, _, rfl, by walk_at "at", rfl, ?_⟩
      walk_at "opNotEq"
      refine ⟨_, rfl, ?_⟩
      refine ⟨fun _ => k_one (k_raise eS tk fun H' s => he H' s.ext), fun hk => absurd hk (by simp; omega)⟩
  · have ⟨dy, ty, hy, hty⟩ := hY
    have ht' : Tp K H [] tx (zs.map tS) := .inl (.inl (.inl htx))
    have hin : ∀ l ∈ zs, ∀ c ∈ l, InL ws c := fun l hl c hc => inL_of (by rw [hn]; exact (gz.ok l hl).2) hc
    have z6 := gz.w6
    refine t_pure (v := false) ?_ ⟨fun z => (nomatch z), fun _ => ?_⟩
    · skip
      refine t_w ?_
      refine w_orP ?_
      refine t_not ?_
      refine t_val ?_
      refine k_callB (id := "isinstance") T.b_isinstance ?_
      refine a_cons ?_
      refine k_n 1 ?_
      refine a_cons ?_
      refine k_cls gC ?_
      refine a_nil ?_
      refine c_isO O (.inl hy) ?_
      refine ⟨_, rfl, ?_⟩
      apply Exists.intro; refine ⟨fun hk => ?_, ?_⟩
      {
      refine w_or1 ?_
      refine t_cmp ?_
      refine k_meth0 M_many (hr.mono (by decide)) takes0 ?_
      refine k_n 1 ?_
      refine ⟨_, _, _, rfl, .inl hy, rfl, ?_⟩
      skip
      refine use_smany hY ?_
      refine k_fld cls nG ?_
      refine k_n 0 ?_
      refine ⟨_, _, _, _, rfl, by walk_at "at", rfl, ?_⟩
      walk_at "opNotEq"
      refine ⟨_, rfl, ?_⟩
      exact ⟨rfl, rfl, by walk_at "sfx"⟩
      all_goals (try walk_at "side")
      }
      refine ⟨?_, rfl, by walk_at "sfx"⟩
      rw [hn]; simp
    refine k_nil ?_
    refine k_cons ?_
    refine k_sle 2 (k_lcm_t (j := 3) (sF ws) sc_Sending_then.nd (blkOk_by (N := N_Sending_then) (sc := defScope s_Sending_then) (by decide +kernel)) ?_)
    refine k_fld cls nW ?_
    refine k_n 0 ?_
    refine ⟨_, _, _, _, rfl, by walk_at "at", rfl, ?_⟩
    refine ⟨tx, zs.map tS, rfl, ht', by rw [List.length_map]; omega, fun z hz D acc sb Hb Cb clb fpb => ?_, fun D => ?_⟩
    ·
      obtain ⟨l, hl, rfl⟩ := List.mem_map.mp hz
      have hg := gz.ok l hl
      refine k_meth M_sent (hr.mono (by decide)) takes0 ?_
      refine k_n 1 ?_
      refine ⟨_, _, _, rfl, .inl hy, rfl, ?_⟩
      refine a_cons ?_
      refine k_n 3 ?_
      refine a_nil ?_
      refine use_ssent hY ?_ gw hg.1 (by rw [hn]; exact hg.2)
      exact ⟨(sF_tS ws l).symm, rfl, rfl⟩
    show kSs _ _ _ _ _ _
    rw [map_sF]
    have hlen : ∀ l ∈ sntW ws zs, l.length ≤ 3600 := fun l hl => by
      obtain ⟨z, hz, rfl⟩ := List.mem_map.mp hl
      have h1 := snt_len gw.gw (hin z hz)
      have h2 := (gz.let_ hz).2.1
      omega
    have hsz : (sntW ws zs).length = zs.length := List.length_map ..
    refine k_cons ?_
    refine k_if ?_
    refine t_val ?_
    refine k_callB (id := "any") T.b_any ?_
    refine a_cons ?_
    refine k_le (k_lcm_l (j := 3) lF sc_Sending_then.nd (blkOk_by (N := N_Sending_then) (sc := defScope s_Sending_then) (by decide +kernel)) ?_)
    refine k_n 2 ?_
    refine ⟨D, _, rfl, .inr List.mem_cons_self, by rw [List.length_map]; omega, fun z hz D2 acc sb Hb Cb clb fpb => ?_, fun D2 => ?_⟩
    ·
      obtain ⟨l, hl, rfl⟩ := List.mem_map.mp hz
      have hg := hlen l hl
      refine k_cmp ?_
      refine k_callB (id := "len") T.b_len ?_
      refine a_cons ?_
      refine k_n 3 ?_
      refine a_nil ?_
      refine c_lens ?_ (by omega)
      refine k_giE T.g_MOST_LETTERS ?_
      walk_at "opGt"
      refine ⟨?_, rfl, rfl⟩
      have e : ((60 : Int) < (l.length : Nat)) ↔ 60 < l.length := by omega
      simp [lF, tS, sOf, e]
    refine a_nil ?_
    refine c_any (bs := (sntW ws zs).map fun l => decide (60 < l.length)) (by rw [map_lF]; exact Or.inr (List.Mem.head _)) ?_
    refine ⟨_, rfl, ?_⟩
    refine ⟨fun hk => ?_, fun hk => ?_⟩
    · refine k_one (k_raise eT tk fun H' s => he ?_ H' s.ext)
      rw [List.any_eq_true] at hk
      obtain ⟨b, hb, hb2⟩ := hk
      obtain ⟨l, hl, rfl⟩ := List.mem_map.mp hb
      obtain ⟨z, hz, rfl⟩ := List.mem_map.mp hl
      exact ⟨z, hz, by simpa using hb2⟩
    · refine k_nil ?_
      have hall : ∀ l ∈ zs, (snt ws l).length ≤ 60 := fun l hl => by
        rw [List.any_eq_false] at hk
        have := hk (decide (60 < (snt ws l).length)) (List.mem_map.mpr ⟨snt ws l, List.mem_map.mpr ⟨l, hl, rfl⟩, rfl⟩)
        simpa using this
      refine k_one ?_
      refine k_ret ?_
      refine k_makeS mk (hr.mono (by decide)) takes0 ?_
      refine a_cons ?_
      refine k_meth0 M_into (hr.mono (by decide)) takes0 ?_
      refine k_n 1 ?_
      refine ⟨_, _, _, rfl, .inl hy, rfl, ?_⟩
      skip
      refine use_sinto hY ?_
      refine a_cons ?_
      refine k_n 2 ?_
      refine a_nil ?_
      refine use_smake (dm := .int (m : Nat)) (dr := .list ((sntW ws zs).map fun l => PyData.str (sOf l))) (fun H' s' => .int _) (fun H' s' => .lst (.inl (.inl (s'.own (D, .lst ((sntW ws zs).map tS)) (by walk_at "mm")))) (dpa_words _)) (shortS_words fun l hl => by have := hlen l hl; omega) ⟨rfl, rfl, snt_gd gw gz hn hall⟩ fun z B2 l2 hS => ?_
      exact fun H' s => hq hall H' z (fun b o e => s.ext _ _ (l2 _ _ e)) (hS.le s.ext)
/-! ### the drawing: two ways -/
def Dr (f : Int) : Prop := f = 0 ∨ f = 1
abbrev N_law_begun : List Str := ["_law_cell", "_law_k", "_law_mixed"]
theorem sc_law_begun : FnScope N_law_begun ["_law_cell", "_law_k"] (defScope s_law_begun) := ⟨rfl, rfl, rfl, by decide +kernel, rfl, by decide +kernel, by decide +kernel⟩
def sp_law_begun : Sp := fun vs H Q _ => ∃ (c k : Int), vs = [.int c, .int k] ∧ (0 ≤ k ∧ k < 1000) ∧ ∀ (H' : Hp) (p : Addr) (n f : Int), (∀ b o, H b = some o → H' b = some o) → H p = none → H' p = some (.lst [.int n, .int f]) → Dr f → Q (.ref p) H'
theorem use_law_begun {B : Hp} {L : HL} {Q : KQ} {E : XK} {c k : Int} (hk : 0 ≤ k ∧ k < 1000) (q : ∀ p n f, Dr f → Q (.ref p) B ((p, .lst [.int n, .int f]) :: L)) : ∀ H, Sat B L H → sp_law_begun [.int c, .int k] H (up Q) E :=
  fun H sat => ⟨c, k, rfl, hk, fun H' p n f e h1 h2 hf => ⟨B, _, sat.new' h1 e h2, q p n f hf⟩⟩
theorem ok_law_begun {f : Addr} {fd : FuncData} (F : Fun K "_law_begun" "_law_begun" s_law_begun f fd) (hm : mg "_law_begun" = some (.ref f)) : Fn P w K mg base 1 "_law_begun" sp_law_begun := by
  refine fn_ok F sc_law_begun hm (fun _ _ _ _ _ _ us hl => match us, hl with | [_, _], _ => rfl) ?_ fun cdv A outer s H vs Q E hr h tk po => ?_
  · rintro vs H Q E ⟨_, _, rfl, _⟩; rfl
  obtain ⟨c, k, rfl, hk, hq⟩ := h
  refine ⟨H, [], Sat.whole, ?_⟩
  refine k_cons ?_
  refine k_if ?_
  refine t_cmp ?_
  refine k_n 0 ?_
  refine k_bin ?_
  refine k_int ?_
  refine k_int ?_
  walk_at "opPow"
  walk_at "opGtE"
  refine ⟨_, rfl, ?_⟩
  refine ⟨fun _ => ?_, fun _ => ?_⟩
  ·
    refine k_one ?_
    refine k_ret ?_
    refine k_lst ?_
    refine a_cons ?_
    refine k_bin ?_
    refine k_n 0 ?_
    refine k_bin ?_
    refine k_int ?_
    refine k_int ?_
    walk_at "opPow"
    walk_at "opSub"
    refine a_cons ?_
    refine k_int ?_
    refine a_nil ?_
    refine ⟨by simp, fun pd => ?_⟩
    intro H' s
    exact hq H' pd _ _ s.ext (s.nb _ List.mem_cons_self) (s.own _ List.mem_cons_self) (.inl rfl)
  · refine k_nil ?_
    have h1 := Int.emod_nonneg c (b := 2147483647) (by decide)
    have h2 := Int.emod_lt_of_pos c (b := 2147483647) (by decide)
    refine k_cons ?_
    refine k_set 2 ?_ sc_law_begun.nd
    refine k_bin ?_
    refine k_bin ?_
    refine k_bin ?_
    refine k_bin ?_
    refine k_n 0 ?_
    refine k_int ?_
    walk_at "opMod"
    refine k_int ?_
    walk_at "opMult"
    refine k_bin ?_
    refine k_int ?_
    refine k_bin ?_
    refine k_n 1 ?_
    refine k_int ?_
    walk_at "opAdd"
    refine o_mul ?_ (.inl (by decide))
    walk_at "opAdd"
    refine k_int ?_
    walk_at "opMod"
    show kSs _ _ _ _ _ _
    generalize hmx : ((c % 2147483647 * 48271 + 104729 * (k + 1)) % 2147483647) = mx
    have hb := Int.emod_nonneg (c % 2147483647 * 48271 + 104729 * (k + 1)) (b := 2147483647) (by decide)
    have hb2 := Int.emod_lt_of_pos (c % 2147483647 * 48271 + 104729 * (k + 1)) (b := 2147483647) (by decide)
    rw [hmx] at hb hb2
    refine k_norm (by simp only [L2.start, N_law_begun, List.map_cons, List.map_nil, List.length_cons, List.length_nil, Nat.reduceAdd, Nat.reduceSub, List.replicate_succ, List.replicate_zero, List.cons_append, List.nil_append, List.set_cons_succ, List.set_cons_zero]; exact rfl) ?_
    refine k_one ?_
    refine k_ret ?_
    refine k_lst ?_
    refine a_cons ?_
    refine k_bin ?_
    refine k_int ?_
    refine k_bin ?_
    refine k_bin ?_
    refine k_bin ?_
    refine k_n 2 ?_
    refine k_n 2 ?_
    refine o_mul ?_ (.inl (by omega))
    refine k_bin ?_
    refine k_int ?_
    refine k_n 2 ?_
    refine o_mul ?_ (.inl (by decide))
    walk_at "opAdd"
    refine k_int ?_
    walk_at "opMod"
    walk_at "opAdd"
    refine a_cons ?_
    refine k_int ?_
    refine a_nil ?_
    refine ⟨by simp, fun pd => ?_⟩
    intro H' s
    exact hq H' pd _ _ s.ext (s.nb _ List.mem_cons_self) (s.own _ List.mem_cons_self) (.inr rfl)
abbrev N_law_next : List Str := ["_law_drawn_here", "_law_size", "_law_found"]
theorem sc_law_next : FnScope N_law_next ["_law_drawn_here", "_law_size"] (defScope s_law_next) := ⟨rfl, rfl, rfl, by decide +kernel, rfl, by decide +kernel, by decide +kernel⟩
def sp_law_next : Sp := fun vs H Q _ => ∃ (p : Addr) (n f m : Int), vs = [.ref p, .int m] ∧ H p = some (.lst [.int n, .int f]) ∧ Dr f ∧ (0 < m ∧ m < 2000000) ∧
  ∀ (H' : Hp) (n' d : Int), (∀ b o, b ≠ p → H b = some o → H' b = some o) → H' p = some (.lst [.int n', .int f]) → 0 ≤ d → d < m → Q (.int d) H'
theorem use_law_next {B : Hp} {L : HL} {Q : KQ} {E : XK} {p : Addr} {n f m : Int} (hf : Dr f) (hp : (p, HO.lst [.int n, .int f]) ∈ L) (hm : 0 < m ∧ m < 2000000) (q : ∀ n' d, 0 ≤ d → d < m → ∃ L', Rep L p (.lst [.int n, .int f]) (.lst [.int n', .int f]) L' ∧ Q (.int d) B L') : ∀ H, Sat B L H → sp_law_next [.ref p, .int m] H (up Q) E :=
  fun H sat => ⟨p, n, f, m, rfl, sat.own _ hp, hf, hm, fun H' n' d e1 e2 h2 h3 => by
    obtain ⟨L', r, h⟩ := q n' d h2 h3
    exact ⟨B, L', sat.rep' r e1 e2, h⟩⟩
theorem ok_law_next {f : Addr} {fd : FuncData} (F : Fun K "_law_next" "_law_next" s_law_next f fd) (hm : mg "_law_next" = some (.ref f)) : Fn P w K mg base 1 "_law_next" sp_law_next := by
  refine fn_ok F sc_law_next hm (fun _ _ _ _ _ _ us hl => match us, hl with | [_, _], _ => rfl) ?_ fun cdv A outer s H vs Q E hr h tk po => ?_
  · rintro vs H Q E ⟨_, _, _, _, rfl, _⟩; rfl
  obtain ⟨p, n, f1, m, rfl, hp, hf, hmm, hq⟩ := h
  refine ⟨rmH H p, _, sat_rm hp, ?_⟩
  have fin : ∀ {n' d : Int}, 0 ≤ d → d < m → ∀ H', Sat (rmH H p) [(p, .lst [.int n', .int f1])] H' → Q (.int d) H' := fun {n' d} h1 h2 H' s =>
    hq H' n' d (fun b o hne e => s.ext b o (by rw [rm_ne hne]; exact e)) (s.own _ List.mem_cons_self) h1 h2
  refine k_cons ?_
  refine k_if ?_
  refine t_cmp ?_
  refine k_ix ?_
  refine k_n 0 ?_
  refine k_int ?_
  refine i_lv (.int f1) (xs := [.int n, .int f1]) (.inr (.head _)) ?_ rfl
  refine k_int ?_
  walk_at "opEq"
  refine ⟨_, rfl, ?_⟩
  refine ⟨fun _ => ?_, fun _ => ?_⟩
  ·
    refine k_cons ?_
    refine k_set 2 ?_ sc_law_next.nd
    refine k_bin ?_
    refine k_ix ?_
    refine k_n 0 ?_
    refine k_int ?_
    refine i_lv (.int n) (xs := [.int n, .int f1]) (.inr (.head _)) ?_ rfl
    refine k_n 1 ?_
    refine o_mod ?_ hmm.1
    show kSs _ _ _ _ _ _
    refine k_norm (by simp only [L2.start, N_law_next, List.map_cons, List.map_nil, List.length_cons, List.length_nil, Nat.reduceAdd, Nat.reduceSub, List.replicate_succ, List.replicate_zero, List.cons_append, List.nil_append, List.set_cons_succ, List.set_cons_zero]; exact rfl) ?_
    refine k_cons ?_
    refine k_asg ?_
    refine k_bin ?_
    refine k_ix ?_
    refine k_n 0 ?_
    refine k_int ?_
    refine i_lv (.int n) (xs := [.int n, .int f1]) (.inr (.head _)) ?_ rfl
    refine k_n 1 ?_
    refine o_fdiv ?_ (by omega)
    refine g_setl ?_
    refine k_n 0 ?_
    refine k_int ?_
    refine ⟨_, [.int n, .int f1], 0, 0, _, rfl, rfl, rfl, by walk_at "rep", ?_⟩
    show kSs _ _ _ _ _ _
    refine k_one ?_
    refine k_ret ?_
    refine k_n 2 ?_
    exact fin (n' := n / m) (Int.emod_nonneg _ (by omega)) (Int.emod_lt_of_pos _ hmm.1)
  · refine k_nil ?_
    refine k_cons ?_
    refine k_asg ?_
    refine k_bin ?_
    refine k_bin ?_
    refine k_bin ?_
    refine k_ix ?_
    refine k_n 0 ?_
    refine k_int ?_
    refine i_lv (.int n) (xs := [.int n, .int f1]) (.inr (.head _)) ?_ rfl
    refine k_int ?_
    walk_at "opMult"
    refine k_int ?_
    walk_at "opAdd"
    refine k_int ?_
    walk_at "opMod"
    refine g_setl ?_
    refine k_n 0 ?_
    refine k_int ?_
    refine ⟨_, [.int n, .int f1], 0, 0, _, rfl, rfl, rfl, by walk_at "rep", ?_⟩
    show kSs _ _ _ _ _ _
    refine k_one ?_
    refine k_ret ?_
    refine k_bin ?_
    refine k_bin ?_
    refine k_ix ?_
    refine k_n 0 ?_
    refine k_int ?_
    refine i_lv (.int ((n * 48271 + 11) % 2147483647)) (xs := [.int ((n * 48271 + 11) % 2147483647), .int f1]) (.inr (.head _)) ?_ rfl
    refine k_int ?_
    walk_at "opFloorDiv"
    refine k_n 1 ?_
    refine o_mod ?_ hmm.1
    exact fin (n' := (n * 48271 + 11) % 2147483647) (Int.emod_nonneg _ (by omega)) (Int.emod_lt_of_pos _ hmm.1)
abbrev N_law_back_of : List Str := ["_law_letter", "_law_order"]
theorem sc_law_back_of : FnScope N_law_back_of ["_law_letter"] (defScope s_law_back_of) := ⟨rfl, rfl, rfl, by decide +kernel, rfl, by decide +kernel, by decide +kernel⟩
theorem xor_at {c : Nat} (h : c ∈ ordL) : atI ordL (Builtin.bitXor ((ordL.idxOf c : Nat) : Int) 1) = some (bk c) := (show ∀ c ∈ ordL, atI ordL (Builtin.bitXor ((ordL.idxOf c : Nat) : Int) 1) = some (bk c) by decide +kernel) c h
def sp_law_back_of : Sp := fun vs H Q _ => ∃ c, vs = [.str (sOf [c])] ∧ c ∈ ordL ∧ ∀ H', (∀ b o, H b = some o → H' b = some o) → Q (.str (sOf [bk c])) H'
theorem use_law_back_of {B : Hp} {L : HL} {Q : KQ} {E : XK} {c : Nat} (h : c ∈ ordL) (q : Q (.str (sOf [bk c])) B L) : ∀ H, Sat B L H → sp_law_back_of [.str (sOf [c])] H (up Q) E := fun H s => ⟨c, rfl, h, fun H' e => s.upq e q⟩
theorem ok_law_back_of {f : Addr} {fd : FuncData} (F : Fun K "_law_back_of" "_law_back_of" s_law_back_of f fd) (hm : mg "_law_back_of" = some (.ref f)) : Fn P w K mg base 1 "_law_back_of" sp_law_back_of := by
  refine fn_ok F sc_law_back_of hm (fun _ _ _ _ _ _ us hl => match us, hl with | [_], _ => rfl) ?_ fun cdv A outer s H vs Q E hr h tk po => ?_
  · rintro vs H Q E ⟨_, rfl, _⟩; rfl
  obtain ⟨c, rfl, hc, hq⟩ := h
  refine ⟨H, [], Sat.whole, ?_⟩
  refine k_cons ?_
  refine k_set 1 ?_ sc_law_back_of.nd
  refine k_s ordL ?_
  show kSs _ _ _ _ _ _
  refine k_one ?_
  refine k_ret ?_
  refine k_ix ?_
  refine k_n 1 ?_
  refine k_bin ?_
  refine k_sindex ?_ (name := "")
  refine k_n 1 ?_
  refine ⟨_, rfl, ?_⟩
  refine a_cons ?_
  refine k_n 0 ?_
  refine a_nil ?_
  refine m_index (ord_ix hc) ?_
  refine k_int ?_
  refine o_xor ?_
  refine i_sv (bk c) ?_ (xor_at hc) (by decide)
  exact fun H' s => hq H' s.ext
abbrev N_law_free : List Str := ["_law_letters", "_law_found", "_law_letter"]
theorem sc_law_free : FnScope N_law_free ["_law_letters"] (defScope s_law_free) := ⟨rfl, rfl, rfl, by decide +kernel, rfl, by decide +kernel, by decide +kernel⟩
theorem cut_lastN {α : Type} (l : List α) : cut l (some (-1)) none = l.drop (l.length - 1) := by
  unfold cut
  have e : HT.sIx l.length 0 (some (-1)) = l.length - 1 := by
    show (if (-1 : Int) < 0 then ((-1 : Int) + (l.length : Int)).toNat else min (-1 : Int).toNat l.length) = _
    rw [if_pos (by decide)]; omega
  rw [e, HT.sIx_none, List.take_of_length_le (by rw [List.length_drop]; omega)]
theorem free_step {l : List Nat} {i c : Nat} (h : l[i]? = some c) : red (l.take (i + 1)) = if cut (red (l.take i)) (some (-1)) none = [bk c] then cut (red (l.take i)) none (some (-1)) else red (l.take i) ++ [c] := by
  rw [cut_lastN, cut_init]
  unfold red
  rw [act_take h]
  cases hs : act (l.take i) [] with
  | nil => rfl
  | cons x s =>
    rw [push_cons]
    have e1 : (x :: s).reverse = s.reverse ++ [x] := List.reverse_cons
    have e2 : (x :: s).reverse.length - 1 = s.reverse.length := by rw [List.length_reverse, List.length_reverse]; rfl
    rw [e2, e1, List.drop_left' rfl, List.take_left' rfl]
    by_cases hx : x = bk c
    · rw [if_pos hx, if_pos (by rw [hx])]
    · rw [if_neg hx, if_neg (fun z => hx (List.cons.inj z).1)]
      simp
def sp_law_free : Sp := fun vs H Q _ => ∃ l, vs = [.str (sOf l)] ∧ (Let l ∧ l.length ≤ 1000000) ∧ ∀ H', (∀ b o, H b = some o → H' b = some o) → Q (.str (sOf (red l))) H'
theorem use_law_free {B : Hp} {L : HL} {Q : KQ} {E : XK} {l : List Nat} (q : Q (.str (sOf (red l))) B L) (h : Let l ∧ l.length ≤ 1000000) : ∀ H, Sat B L H → sp_law_free [.str (sOf l)] H (up Q) E := fun H s => ⟨l, rfl, h, fun H' e => s.upq e q⟩
theorem ok_law_free {f : Addr} {fd : FuncData} (F : Fun K "_law_free" "_law_free" s_law_free f fd) (hm : mg "_law_free" = some (.ref f)) (T : Tx mg) (F_law_back_of : Fn P w K mg base 1 "_law_back_of" sp_law_back_of) : Fn P w K mg base 2 "_law_free" sp_law_free := by
  refine fn_ok F sc_law_free hm (fun _ _ _ _ _ _ us hl => match us, hl with | [_], _ => rfl) ?_ fun cdv A outer s H vs Q E hr h tk po => ?_
  · rintro vs H Q E ⟨l, rfl, _⟩; rfl
  obtain ⟨l, rfl, ⟨hl, hn⟩, hq⟩ := h
  refine ⟨H, [], Sat.whole, ?_⟩
  refine k_cons ?_
  refine k_set 1 ?_ sc_law_free.nd
  refine k_s [] ?_
  refine k_cons ?_
  refine k_for_s (fun i σ B L => ∃ v, σ = [some (.str (sOf l)), some (.str (sOf (red (l.take i)))), v] ∧ B = H ∧ L = []) po ?_
  refine k_n 0 ?_
  refine ⟨l, rfl, ⟨_, rfl, rfl, rfl⟩, ?_, ?_⟩
  · rintro i c σ B L hi ⟨v, rfl, rfl, rfl⟩
    have hc : c ∈ ordL := hl c (List.mem_of_getElem? hi)
    have hrl := red_len (l.take i)
    rw [List.length_take] at hrl
    refine g_name 2 ?_ sc_law_free.nd
    show kSs _ _ _ _ _ _
    refine k_norm (by simp only [L2.start, N_law_free, List.map_cons, List.map_nil, List.length_cons, List.length_nil, Nat.reduceAdd, Nat.reduceSub, List.replicate_succ, List.replicate_zero, List.cons_append, List.nil_append, List.set_cons_succ, List.set_cons_zero]; exact rfl) ?_
    refine k_one ?_
    refine k_if ?_
    refine t_cmp ?_
    refine k_slice ?_
    refine k_n 1 ?_
    refine p_some ?_
    refine k_neg ?_
    refine k_int ?_
    refine ⟨_, rfl, ?_⟩
    refine ⟨_, rfl, ?_⟩
    refine p_none ?_
    refine sl_s ?_ (by omega)
    refine k_fn F_law_back_of (hr.mono (by decide)) ?_
    refine a_cons ?_
    refine k_n 2 ?_
    refine a_nil ?_
    refine use_law_back_of hc ?_
    walk_at "opEq"
    refine ⟨_, rfl, ?_⟩
    have hstep := free_step hi
    refine ⟨fun hk => ?_, fun hk => ?_⟩
    ·
      refine k_one ?_
      refine k_set 1 ?_ sc_law_free.nd
      refine k_slice ?_
      refine k_n 1 ?_
      refine p_none ?_
      refine p_some ?_
      refine k_neg ?_
      refine k_int ?_
      refine ⟨_, rfl, ?_⟩
      refine ⟨_, rfl, ?_⟩
      refine sl_s ?_ (by omega)
      refine ⟨some (.str (sOf [c])), ?_, rfl, rfl⟩
      rw [hstep, if_pos (of_decide_eq_true hk)]; rfl
    ·
      refine k_one ?_
      refine k_set 1 ?_ sc_law_free.nd
      refine k_bin ?_
      refine k_n 1 ?_
      refine k_n 2 ?_
      refine o_adds ?_ (by simp only [List.length_cons, List.length_nil]; omega)
      refine ⟨some (.str (sOf [c])), ?_, rfl, rfl⟩
      rw [hstep, if_neg (of_decide_eq_false hk)]; rfl
  · rintro σ B L ⟨v, rfl, rfl, rfl⟩
    rw [List.take_length]
    refine k_one ?_
    refine k_ret ?_
    refine k_n 1 ?_
    exact fun H' s => hq H' s.ext
abbrev N_law_word : List Str := ["_law_drawn_here", "_law_most", "_law_letters", "_law_found", "_law_k"]
theorem sc_law_word : FnScope N_law_word ["_law_drawn_here", "_law_most", "_law_letters"] (defScope s_law_word) := ⟨rfl, rfl, rfl, by decide +kernel, rfl, by decide +kernel, by decide +kernel⟩
theorem atI_mem {α : Type} {l : List α} {r : Int} (h0 : 0 ≤ r) (h1 : r < l.length) : ∃ c, c ∈ l ∧ atI l r = some c := by
  obtain ⟨n, rfl⟩ : ∃ n : Nat, r = n := ⟨r.toNat, by omega⟩
  have hn : n < l.length := by omega
  exact ⟨l[n], List.getElem_mem hn, by rw [atI_n]; exact List.getElem?_eq_getElem hn⟩
def sp_law_word : Sp := fun vs H Q _ => ∃ (p : Addr) (n f : Int) (m : Nat) (ls : List Nat), vs = [.ref p, .int (m : Nat), .str (sOf ls)] ∧ H p = some (.lst [.int n, .int f]) ∧ Dr f ∧ (m ≤ 1000 ∧ Let ls ∧ ls ≠ [] ∧ ls.length ≤ 1000) ∧
  ∀ (H' : Hp) (n' : Int) (l : List Nat), (∀ b o, b ≠ p → H b = some o → H' b = some o) → H' p = some (.lst [.int n', .int f]) → Let l → Wd l → l.length ≤ m → (∀ c ∈ l, c ∈ ls) → Q (.str (sOf l)) H'
theorem use_law_word {B : Hp} {L : HL} {Q : KQ} {E : XK} {p : Addr} {n f : Int} {m : Nat} {ls : List Nat} (hf : Dr f) (hp : (p, HO.lst [.int n, .int f]) ∈ L) (hm : m ≤ 1000 ∧ Let ls ∧ ls ≠ [] ∧ ls.length ≤ 1000) (q : ∀ n' l, Let l → Wd l → l.length ≤ m → (∀ c ∈ l, c ∈ ls) → ∃ L', Rep L p (.lst [.int n, .int f]) (.lst [.int n', .int f]) L' ∧ Q (.str (sOf l)) B L') : ∀ H, Sat B L H → sp_law_word [.ref p, .int (m : Nat), .str (sOf ls)] H (up Q) E :=
  fun H sat => ⟨p, n, f, m, ls, rfl, sat.own _ hp, hf, hm, fun H' n' l e1 e2 h1 h2 h3 h4 => by
    obtain ⟨L', r, h⟩ := q n' l h1 h2 h3 h4
    exact ⟨B, L', sat.rep' r e1 e2, h⟩⟩
theorem ok_law_word {f : Addr} {fd : FuncData} (F : Fun K "_law_word" "_law_word" s_law_word f fd) (hm : mg "_law_word" = some (.ref f)) (T : Tx mg) (F_law_next : Fn P w K mg base 1 "_law_next" sp_law_next) (F_law_free : Fn P w K mg base 2 "_law_free" sp_law_free) : Fn P w K mg base 3 "_law_word" sp_law_word := by
  refine fn_ok F sc_law_word hm (fun _ _ _ _ _ _ us hl => match us, hl with | [_, _, _], _ => rfl) ?_ fun cdv A outer s H vs Q E hr h tk po => ?_
  · rintro vs H Q E ⟨_, _, _, _, _, rfl, _⟩; rfl
  obtain ⟨p, n, f1, m, ls, rfl, hp, hf, ⟨hm1, hlt, hne, hll⟩, hq⟩ := h
  have hl1 : 1 ≤ ls.length := by cases ls with | nil => exact absurd rfl hne | cons _ _ => simp
  refine ⟨rmH H p, _, sat_rm hp, ?_⟩
  refine k_cons ?_
  refine k_set 3 ?_ sc_law_word.nd
  refine k_s [] ?_
  show kSs _ _ _ _ _ _
  refine k_norm (by simp only [L2.start, N_law_word, List.map_cons, List.map_nil, List.length_cons, List.length_nil, Nat.reduceAdd, Nat.reduceSub, List.replicate_succ, List.replicate_zero, List.cons_append, List.nil_append, List.set_cons_succ, List.set_cons_zero]; exact rfl) ?_
  refine k_cons ?_
  refine k_for_r1 (fun i σ B L => ∃ (v4 : Option V) (n' : Int) (t : List Nat), σ = [some (.ref p), some (.int (m : Nat)), some (.str (sOf ls)), some (.str (sOf t)), v4] ∧ rmH H p = B ∧ L = [(p, .lst [.int n', .int f1])] ∧ Let t ∧ t.length ≤ i ∧ ∀ c ∈ t, c ∈ ls) po T.b_range ?_
  refine k_fn F_law_next (hr.mono (by decide)) ?_
  refine a_cons ?_
  refine k_n 0 ?_
  refine a_cons ?_
  refine k_bin ?_
  refine k_n 1 ?_
  refine k_int ?_
  walk_at "opAdd"
  refine a_nil ?_
  refine use_law_next hf (.head _) (by omega) fun n2 d2 h21 h22 => ⟨_, by walk_at "rep", ?_⟩
  refine ⟨d2, rfl, by omega, by omega, ⟨_, n2, [], rfl, rfl, rfl, (fun _ z => (nomatch z)), Nat.le_refl _, (fun _ z => (nomatch z))⟩, ?_, ?_⟩
  · rintro i σ B L hi ⟨v4, n', t, rfl, rfl, rfl, ht1, ht2, ht3⟩
    refine g_name 4 ?_ sc_law_word.nd
    show kSs _ _ _ _ _ _
    refine k_norm (by simp only [L2.start, N_law_word, List.map_cons, List.map_nil, List.length_cons, List.length_nil, Nat.reduceAdd, Nat.reduceSub, List.replicate_succ, List.replicate_zero, List.cons_append, List.nil_append, List.set_cons_succ, List.set_cons_zero]; exact rfl) ?_
    refine k_one ?_
    refine k_set 3 ?_ sc_law_word.nd
    refine k_bin ?_
    refine k_n 3 ?_
    refine k_ix ?_
    refine k_n 2 ?_
    refine k_fn F_law_next (hr.mono (by decide)) ?_
    refine a_cons ?_
    refine k_n 0 ?_
    refine a_cons ?_
    refine k_callB (id := "len") T.b_len ?_
    refine a_cons ?_
    refine k_n 2 ?_
    refine a_nil ?_
    refine c_lens ?_ (by omega)
    refine a_nil ?_
    refine use_law_next hf (.head _) (by omega) fun n3 d3 h31 h32 => ⟨_, by walk_at "rep", ?_⟩; obtain ⟨c, hcm, hca⟩ := atI_mem (l := ls) h31 h32
    refine i_sv c ?_ hca (by omega)
    refine o_adds ?_ (by rw [List.length_singleton]; omega)
    refine ⟨_, n3, t ++ [c], rfl, rfl, rfl, let_app ht1 fun x hx => by rw [List.mem_singleton.mp hx]; exact hlt c hcm, by rw [List.length_append, List.length_singleton]; omega, fun x hx => (List.mem_append.mp hx).elim (ht3 x) fun hx => by rw [List.mem_singleton.mp hx]; exact hcm⟩
  · rintro σ B L ⟨v4, n', t, rfl, rfl, rfl, ht1, ht2, ht3⟩
    refine k_one ?_
    refine k_ret ?_
    refine k_fn F_law_free (hr.mono (by decide)) ?_
    refine a_cons ?_
    refine k_n 3 ?_
    refine a_nil ?_
    refine use_law_free ?_ ⟨ht1, by omega⟩
    intro H' s
    exact hq H' n' _ (fun b o hne e => s.ext b o (by rw [rm_ne hne]; exact e)) (s.own _ List.mem_cons_self) (let_red ht1) (rd_red _) (by have := red_len t; omega) fun c hc => ht3 c (red_mem hc)
abbrev N_law_has_letters : List Str := ["_law_thing", "_law_sign"]
theorem sc_law_has_letters : FnScope N_law_has_letters ["_law_thing"] (defScope s_law_has_letters) := ⟨rfl, rfl, rfl, by decide +kernel, rfl, by decide +kernel, by decide +kernel⟩
theorem abc_ord (c : Nat) : c ∈ [97, 98, 99, 100, 101, 102, 65, 66, 67, 68, 69, 70] ↔ c ∈ ordL := by
  simp only [ordL, List.mem_cons, List.not_mem_nil, or_false]
  omega
def sp_law_has_letters (K : PySem.W.Frag) : Sp := fun vs H Q _ => (∃ l, vs = [.str (sOf l)] ∧ (l.length ≤ 1000 ∧ ∀ c ∈ l, c < 128) ∧ ∀ H', (∀ b o, H b = some o → H' b = some o) → Q (.bl (letB l)) H') ∨ ∃ x, vs = [x] ∧ NoTx K H x ∧ ∀ H', (∀ b o, H b = some o → H' b = some o) → Q (.bl false) H'
theorem use_law_has_letters {B : Hp} {L : HL} {Q : KQ} {E : XK} {l : List Nat} (h : l.length ≤ 1000 ∧ ∀ c ∈ l, c < 128) (q : Q (.bl (letB l)) B L) : ∀ H, Sat B L H → sp_law_has_letters K [.str (sOf l)] H (up Q) E := fun H s => .inl ⟨l, rfl, h, fun H' e => s.upq e q⟩
theorem use_law_has_lettersN {B : Hp} {L : HL} {Q : KQ} {E : XK} {x : V} (h : ∀ H, Sat B L H → NoTx K H x) (q : Q (.bl false) B L) : ∀ H, Sat B L H → sp_law_has_letters K [x] H (up Q) E := fun H s => .inr ⟨x, rfl, h H s, fun H' e => s.upq e q⟩
theorem ok_law_has_letters {f : Addr} {fd : FuncData} (F : Fun K "_law_has_letters" "_law_has_letters" s_law_has_letters f fd) (hm : mg "_law_has_letters" = some (.ref f)) (T : Tx mg) : Fn P w K mg base 1 "_law_has_letters" (sp_law_has_letters K) := by
  refine fn_ok F sc_law_has_letters hm (fun _ _ _ _ _ _ us hl => match us, hl with | [_], _ => rfl) ?_ fun cdv A outer s H vs Q E hr h tk po => ?_
  · rintro vs H Q E (⟨_, rfl, _⟩ | ⟨_, rfl, _⟩) <;> rfl
  rcases h with ⟨l, rfl, ⟨hl, hc⟩, hq⟩ | ⟨x, rfl, hx, hq⟩
  · refine ⟨H, [], Sat.whole, ?_⟩
    refine k_cons ?_
    refine k_if ?_
    refine t_not ?_
    refine t_val ?_
    refine k_callB (id := "isinstance") T.b_isinstance ?_
    refine a_cons ?_
    refine k_n 0 ?_
    refine a_cons ?_
    refine k_ty (T := "str") T.b_str ?_
    refine a_nil ?_
    walk_at "c_isinstance"
    refine ⟨_, rfl, ?_⟩
    refine ⟨fun z => (nomatch z), fun _ => ?_⟩
    refine k_nil ?_
    refine k_one ?_
    refine k_ret ?_
    refine k_cmp ?_
    refine k_le (k_lcvf_s (j := 1) (fun i acc B' L' => B' = H ∧ L' = [] ∧ acc = (((l.take i).filter fun c => !decide (c ∈ ordL)).map fun c => [c]).map fun l => V.str (sOf l)) sc_law_has_letters.nd (blkOk_by (N := N_law_has_letters) (sc := defScope s_law_has_letters) (by decide +kernel)) ?_)
    refine k_n 0 ?_
    refine ⟨l, rfl, ⟨rfl, rfl, rfl⟩, ?_, ?_⟩
    · rintro i acc B L c hi ⟨rfl, rfl, rfl⟩
      refine ⟨by rw [List.length_map, List.length_map]; have h1 := List.length_filter_le (fun c => !decide (c ∈ ordL)) (l.take i); rw [List.length_take] at h1; omega, fun D sb Hb Cb clb fpb => ?_⟩
      have htk : l.take (i + 1) = l.take i ++ [c] := by rw [List.take_add_one, hi]; rfl
      refine t_cmp ?_
      refine k_n 1 ?_
      refine k_s [97, 98, 99, 100, 101, 102, 65, 66, 67, 68, 69, 70] ?_
      walk_at "opNotIn"
      refine ⟨_, rfl, ?_⟩
      rw [decide_eq_decide.mpr (abc_ord c)]
      refine ⟨fun hk sb Hb Cb clb fpb => ?_, fun hk => ⟨_, rfl, rfl, rfl, ?_⟩⟩
      · skip
        refine k_n 1 ?_
        refine ⟨_, rfl, rfl, rfl, ?_⟩
        rw [htk, List.filter_append, List.filter_cons, hk, List.map_append, List.map_append]
        rfl
      · rw [htk, List.filter_append, List.filter_cons, hk, List.map_append, List.map_append]
        simp
    rintro acc B L D ⟨rfl, rfl, rfl⟩
    rw [List.take_length]
    refine k_lst ?_
    refine a_nil ?_
    refine ⟨by simp, fun pe => ?_⟩
    refine o_eqss (a := (l.filter fun c => !decide (c ∈ ordL)).map fun c => [c]) (b := []) hr.units (.inr (.tail _ (.head _))) (.inr (.head _)) ?_ (fun y hy x hx => by obtain ⟨c, hcm, rfl⟩ := List.mem_map.mp hy; rw [List.mem_singleton.mp hx]; have := hc c (List.mem_filter.mp hcm).1; omega) (fun _ z => (nomatch z))
    have e : decide (((l.filter fun c => !decide (c ∈ ordL)).map fun c => [c]) = []) = letB l := by
      rw [Bool.eq_iff_iff, decide_eq_true_iff, letB_iff, List.map_eq_nil_iff, List.filter_eq_nil_iff]
      exact ⟨fun h c hc => by have := h c hc; simpa using this, fun h c hc => by have := h c hc; simpa using this⟩
    rw [e]
    exact fun H' s => hq H' s.ext
  · refine ⟨H, [], Sat.whole, ?_⟩
    refine k_cons ?_
    refine k_if ?_
    refine t_not ?_
    refine t_val ?_
    refine k_callB (id := "isinstance") T.b_isinstance ?_
    refine a_cons ?_
    refine k_n 0 ?_
    refine a_cons ?_
    refine k_ty (T := "str") T.b_str ?_
    refine a_nil ?_
    refine c_isNT (fun H' s' => hx.le s'.ext) ?_
    refine ⟨_, rfl, ?_⟩
    refine ⟨fun _ => ?_, fun z => (nomatch z)⟩
    refine k_one ?_
    refine k_ret ?_
    refine k_bl ?_
    exact fun H' s => hq H' s.ext
abbrev N_law_is_word : List Str := ["_law_thing"]
theorem sc_law_is_word : FnScope N_law_is_word ["_law_thing"] (defScope s_law_is_word) := ⟨rfl, rfl, rfl, by decide +kernel, rfl, by decide +kernel, by decide +kernel⟩
def sp_law_is_word (K : PySem.W.Frag) : Sp := fun vs H Q _ => (∃ l, vs = [.str (sOf l)] ∧ (l.length ≤ 1000 ∧ ∀ c ∈ l, c < 128) ∧ ∀ H', (∀ b o, H b = some o → H' b = some o) → Q (.bl (isW l)) H') ∨ ∃ x, vs = [x] ∧ NoTx K H x ∧ ∀ H', (∀ b o, H b = some o → H' b = some o) → Q (.bl false) H'
theorem use_law_is_word {B : Hp} {L : HL} {Q : KQ} {E : XK} {l : List Nat} (h : l.length ≤ 1000 ∧ ∀ c ∈ l, c < 128) (q : Q (.bl (isW l)) B L) : ∀ H, Sat B L H → sp_law_is_word K [.str (sOf l)] H (up Q) E := fun H s => .inl ⟨l, rfl, h, fun H' e => s.upq e q⟩
theorem use_law_is_wordN {B : Hp} {L : HL} {Q : KQ} {E : XK} {x : V} (h : ∀ H, Sat B L H → NoTx K H x) (q : Q (.bl false) B L) : ∀ H, Sat B L H → sp_law_is_word K [x] H (up Q) E := fun H s => .inr ⟨x, rfl, h H s, fun H' e => s.upq e q⟩
theorem ok_law_is_word {f : Addr} {fd : FuncData} (F : Fun K "_law_is_word" "_law_is_word" s_law_is_word f fd) (hm : mg "_law_is_word" = some (.ref f)) (T : Tx mg) (F_law_has_letters : Fn P w K mg base 1 "_law_has_letters" (sp_law_has_letters K)) (F_law_free : Fn P w K mg base 2 "_law_free" sp_law_free) : Fn P w K mg base 3 "_law_is_word" (sp_law_is_word K) := by
  refine fn_ok F sc_law_is_word hm (fun _ _ _ _ _ _ us hl => match us, hl with | [_], _ => rfl) ?_ fun cdv A outer s H vs Q E hr h tk po => ?_
  · rintro vs H Q E (⟨_, rfl, _⟩ | ⟨_, rfl, _⟩) <;> rfl
  rcases h with ⟨l, rfl, ⟨hl, hc⟩, hq⟩ | ⟨x, rfl, hx, hq⟩
  · refine ⟨H, [], Sat.whole, ?_⟩
    have fin : ∀ b : Bool, b = isW l → ∀ H', Sat H [] H' → Q (.bl b) H' := fun b e H' s => by rw [e]; exact hq H' s.ext
    have no : ∀ {R : Prop}, (isW l = true → R) → ¬ R → false = isW l := fun {R} h1 h2 => by
      cases e : isW l with
      | false => rfl
      | true => exact absurd (h1 e) h2
    refine k_one ?_
    refine k_ret ?_
    refine k_and ?_
    refine k_fn F_law_has_letters (hr.mono (by decide)) ?_
    refine a_cons ?_
    refine k_n 0 ?_
    refine a_nil ?_
    refine use_law_has_letters ⟨hl, hc⟩ ?_
    refine ⟨_, rfl, fun hk => ?_, fun hk => fin false (no (R := letB l = true) (fun h => letB_iff.mpr ((isW_iff l).mp h).2.1) (by rw [hk]; exact fun z => (nomatch z)))⟩
    have hlt := letB_iff.mp hk
    refine k_and ?_
    refine k_cmp ?_
    refine k_callB (id := "len") T.b_len ?_
    refine a_cons ?_
    refine k_n 0 ?_
    refine a_nil ?_
    refine c_lens ?_ (by omega)
    refine k_int ?_
    walk_at "opLt"
    refine ⟨_, rfl, fun hk2 => ?_, fun hk2 => fin false (no (R := (l.length : Int) < 61) (fun h => by have := ((isW_iff l).mp h).1; omega) (of_decide_eq_false hk2))⟩
    have h61 : ((l.length : Nat) : Int) < 61 := of_decide_eq_true hk2
    refine k_and1 ?_
    refine k_cmp ?_
    refine k_fn F_law_free (hr.mono (by decide)) ?_
    refine a_cons ?_
    refine k_n 0 ?_
    refine a_nil ?_
    refine use_law_free ?_ ⟨hlt, by omega⟩
    refine k_n 0 ?_
    walk_at "opEq"
    refine fin _ ?_
    rw [Bool.eq_iff_iff, decide_eq_true_iff, isW_iff]
    exact ⟨fun e => ⟨by omega, hlt, by rw [← e]; exact rd_red l⟩, fun h => red_of_rd h.2.2⟩
  · refine ⟨H, [], Sat.whole, ?_⟩
    refine k_one ?_
    refine k_ret ?_
    refine k_and ?_
    refine k_fn F_law_has_letters (hr.mono (by decide)) ?_
    refine a_cons ?_
    refine k_n 0 ?_
    refine a_nil ?_
    refine use_law_has_lettersN (fun H' s' => hx.le s'.ext) ?_
    exact ⟨_, rfl, fun hk => (nomatch hk), fun _ H' s => hq H' s.ext⟩
abbrev N_law_is_number : List Str := ["_law_thing", "_law_low", "_law_high"]
theorem sc_law_is_number : FnScope N_law_is_number ["_law_thing", "_law_low", "_law_high"] (defScope s_law_is_number) := ⟨rfl, rfl, rfl, by decide +kernel, rfl, by decide +kernel, by decide +kernel⟩
/-- a whole number between two others -/
def numB : PyData → Int → Int → Bool
  | .int i, lo, hi => decide (lo ≤ i) && decide (i ≤ hi)
  | _, _, _ => false
def sp_law_is_number (K : PySem.W.Frag) : Sp := fun vs H Q _ => ∃ v d lo hi, vs = [v, .int lo, .int hi] ∧ Dp K H v d ∧ ∀ H', (∀ b o, H b = some o → H' b = some o) → Q (.bl (numB d lo hi)) H'
theorem use_law_is_number {B : Hp} {L : HL} {Q : KQ} {E : XK} {v : V} {d : PyData} {lo hi : Int} (h : ∀ H, Sat B L H → Dp K H v d) (q : Q (.bl (numB d lo hi)) B L) : ∀ H, Sat B L H → sp_law_is_number K [v, .int lo, .int hi] H (up Q) E := fun H s => ⟨v, d, lo, hi, rfl, h H s, fun H' e => s.upq e q⟩
theorem ok_law_is_number {f : Addr} {fd : FuncData} (F : Fun K "_law_is_number" "_law_is_number" s_law_is_number f fd) (hm : mg "_law_is_number" = some (.ref f)) (T : Tx mg) : Fn P w K mg base 1 "_law_is_number" (sp_law_is_number K) := by
  refine fn_ok F sc_law_is_number hm (fun _ _ _ _ _ _ us hl => match us, hl with | [_, _, _], _ => rfl) ?_ fun cdv A outer s H vs Q E hr h tk po => ?_
  · rintro vs H Q E ⟨_, _, _, _, rfl, _⟩; rfl
  obtain ⟨v, d, lo, hi, rfl, hd, hq⟩ := h
  have fin : ∀ {b}, b = numB d lo hi → ∀ H', Sat H [] H' → Q (.bl b) H' := fun e H' s => by rw [e]; exact hq H' s.ext
  refine ⟨H, [], Sat.whole, ?_⟩
  refine k_one ?_
  refine k_ret ?_
  refine k_and ?_
  refine k_callB (id := "isinstance") T.b_isinstance ?_
  refine a_cons ?_
  refine k_n 0 ?_
  refine a_cons ?_
  refine k_ty (T := "int") T.b_int ?_
  refine a_nil ?_
  refine c_isD (d := d) (fun H' s' => dp_le s'.ext _ _ hd) (kit_int d) ?_
  refine ⟨_, rfl, fun h1 => ?_, fun h1 => fin (by cases d <;> first | rfl | cases h1)⟩
  refine k_and ?_
  refine k_not ?_
  refine k_callB (id := "isinstance") T.b_isinstance ?_
  refine a_cons ?_
  refine k_n 0 ?_
  refine a_cons ?_
  refine k_ty (T := "bool") T.b_bool ?_
  refine a_nil ?_
  refine c_isD (d := d) (fun H' s' => dp_le s'.ext _ _ hd) (kit_bool d) ?_
  refine ⟨_, rfl, ?_⟩
  refine ⟨_, rfl, fun h2 => ?_, fun h2 => fin (by cases d <;> first | rfl | (simp [isBool] at h2; done) | (simp [isInt] at h1; done))⟩
  cases hd with
  | int i =>
    refine k_and1 ?_
    refine k_chainP ?_
    refine k_n 1 ?_
    refine k_n 0 ?_
    walk_at "opLtE"
    refine ⟨_, rfl, decide (i ≤ hi), fun hk => ?_, ?_⟩
    · refine k_n 2 ?_
      walk_at "opLtE"
      exact ⟨rfl, rfl, by walk_at "sfx"⟩
    · exact fin rfl
  | bl b => cases h2
  | _ => cases h1
theorem cut_to' {α : Type} (l : List α) (n : Nat) : cut l none (some (n : Int)) = l.take n := by
  unfold cut
  rw [HT.sIx_none, HT.sIx_nat, List.drop_zero, Nat.sub_zero]
  rcases Nat.le_total n l.length with h | h
  · rw [Nat.min_eq_left h]
  · rw [Nat.min_eq_right h, List.take_length, List.take_of_length_le h]
theorem cut_from' {α : Type} (l : List α) (n : Nat) : cut l (some (n : Int)) none = l.drop n := by
  unfold cut
  rw [HT.sIx_none, HT.sIx_nat]
  rcases Nat.le_total n l.length with h | h
  · rw [Nat.min_eq_left h]
    exact List.take_of_length_le (by rw [List.length_drop]; exact Nat.le_refl _)
  · rw [Nat.min_eq_right h, Nat.sub_self, List.take_zero, List.drop_eq_nil_of_le h]
theorem Sat_grow {B : Hp} {L : HL} {H : Hp} (s : Sat B L H) : ∃ B', Le B B' ∧ Sat B' L H ∧ ∀ b o, H b = some o → b ∉ L.map (·.1) → B' b = some o := by
  classical
  refine ⟨fun b => if b ∈ L.map (·.1) then none else H b, fun b o e => ?_, ⟨fun b o e => ?_, s.own, fun p hp => if_pos (List.mem_map.mpr ⟨p, hp, rfl⟩), s.nd⟩, fun b o e hb => (if_neg hb).trans e⟩
  · show (if b ∈ L.map (·.1) then none else H b) = some o
    rw [if_neg (fun hm => by obtain ⟨p, hp, rfl⟩ := List.mem_map.mp hm; rw [s.nb p hp] at e; cases e)]
    exact s.ext _ _ e
  · have e' : (if b ∈ L.map (·.1) then none else H b) = some o := e
    split at e'
    · cases e'
    · exact e'
theorem not_in {B : Hp} {L : HL} {H : Hp} {b : Addr} (s : Sat B L H) (h : H b = none) : b ∉ L.map (·.1) := fun hm => by
  obtain ⟨p, hp, rfl⟩ := List.mem_map.mp hm
  rw [s.own p hp] at h; cases h
/-! ### places in a thing -/
theorem emp_le {B : Hp} : Le (fun _ => none) B := fun _ _ h => (nomatch h)
theorem nw_emp {B : Hp} : Le (nwH (fun _ => none) B) B := fun _ _ h => (nw_some h).2
abbrev N_law_spots : List Str := ["_law_thing", "_law_found", "_law_k", "_law_one", "_law_way"]
theorem sc_law_spots : FnScope N_law_spots ["_law_thing"] (defScope s_law_spots) := ⟨rfl, rfl, rfl, by decide +kernel, rfl, by decide +kernel, by decide +kernel⟩
def sp_law_spots (K : PySem.W.Frag) (n : Nat) : Sp := fun vs H Q _ => ∃ v d, vs = [v] ∧ Dp K H v d ∧ Pch.Cm false d ∧ Pch.sz d ≤ 10000 ∧ d.depth ≤ n ∧ ∀ H' a xs ws, (∀ b o, H b = some o → H' b = some o) → nwH H H' a = some (.lst xs) → Pch.WayV (nwH H H') xs ws → (∀ w ∈ ws, ∃ e, Pch.At d w e) → ws.length ≤ Pch.sz d → ws ≠ [] → Q (.ref a) H'
theorem use_law_spots {B : Hp} {L : HL} {Q : KQ} {E : XK} {v : V} {d : PyData} {n : Nat} (hd : ∀ H, Sat B L H → Dp K H v d) (hc : Pch.Cm false d) (hs : Pch.sz d ≤ 10000) (hn : d.depth ≤ n)
    (q : ∀ B' a xs ws, Le B B' → (∀ G, Le G B → nwH G B' a = some (.lst xs) ∧ Pch.WayV (nwH G B') xs ws) → (∀ w ∈ ws, ∃ e, Pch.At d w e) → ws.length ≤ Pch.sz d → ws ≠ [] → Q (.ref a) B' L) : ∀ H, Sat B L H → sp_law_spots K n [v] H (up Q) E := fun H s =>
  ⟨v, d, rfl, hd H s, hc, hs, hn, fun H' a xs ws e ha hw h1 h2 h3 => by
    obtain ⟨l, s2, nw⟩ := s.allN e
    have up1 : ∀ G, Le G B → Le (nwH H H') (nwH G (rmK H' L)) := fun G lg b o hb => by
      obtain ⟨e1, e2⟩ := nw_some hb
      refine nw_of ?_ (nw _ _ e1 e2)
      cases e3 : G b with
      | none => rfl
      | some u => have := s.ext _ _ (lg _ _ e3); rw [e1] at this; cases this
    exact ⟨rmK H' L, L, s2, q _ a xs ws l (fun G lg => ⟨up1 G lg _ _ ha, hw.le (up1 G lg)⟩) h1 h2 h3⟩⟩
theorem ok_law_spots1 {f : Addr} {fd : FuncData} (F : Fun K "_law_spots" "_law_spots" s_law_spots f fd) (hm : mg "_law_spots" = some (.ref f)) (T : Tx mg) {n : Nat} (ih : ∀ m, n = m + 1 → Fn P w K mg base (m + 1) "_law_spots" (sp_law_spots K m)) : Fn P w K mg base (n + 1) "_law_spots" (sp_law_spots K n) := by
  refine fn_ok F sc_law_spots hm (fun _ _ _ _ _ _ us hl => match us, hl with | [_], _ => rfl) ?_ fun cdv A outer s H vs Q E hr h tk po => ?_
  · rintro vs H Q E ⟨_, _, rfl, _⟩; rfl
  obtain ⟨v, d, rfl, hd, hc, hs, hn, hq⟩ := h
  refine ⟨H, [], Sat.whole, ?_⟩
  refine k_cons ?_
  refine k_set 1 ?_ sc_law_spots.nd
  refine k_lst ?_
  refine a_cons ?_
  refine k_tup ?_
  refine a_nil ?_
  refine ⟨by simp, fun pt => ?_⟩
  refine a_nil ?_
  refine ⟨by simp, fun pl => ?_⟩
  show kSs _ _ _ _ _ _
  refine k_norm (by simp only [L2.start, N_law_spots, List.map_cons, List.map_nil, List.length_cons, List.length_nil, Nat.reduceAdd, Nat.reduceSub, List.replicate_succ, List.replicate_zero, List.cons_append, List.nil_append, List.set_cons_succ, List.set_cons_zero]; exact rfl) ?_
  refine k_fzn fun B1 l1 n1 e1 => ?_
  refine k_fzn fun B2 l2 n2 e2 => ?_
  have nt : H pt = none := by
    cases e : H pt with
    | none => rfl
    | some u => have := l1 _ _ e; rw [n2.1] at this; cases this
  have hd2 : Dp K B2 v d := dp_le (fun b o e => l2 _ _ (l1 _ _ e)) _ _ hd
  refine k_cut (fun σ' B' L' => ∃ a v2 v3 v4 xs ws, σ' = [some v, some (.ref a), v2, v3, v4] ∧ L' = [] ∧ Le H B' ∧ nwH H B' a = some (.lst xs) ∧ Pch.WayV (nwH H B') xs ws ∧ (∀ w ∈ ws, ∃ e, Pch.At d w e) ∧ ws.length ≤ Pch.sz d ∧ ws ≠ []) ?_ ?_
  · have base0 : nwH H B2 pl = some (.lst [.ref pt]) ∧ Pch.WayV (nwH H B2) [.ref pt] [[]] := ⟨nw_of n1.1 (l2 _ _ e1), .cons (nw_of nt e2) .nil⟩
    have len0 := Pch.sz_pos d
    refine k_if ?_
    refine t_val ?_
    refine k_callB (id := "isinstance") T.b_isinstance ?_
    refine a_cons ?_
    refine k_n 0 ?_
    refine a_cons ?_
    refine k_ty (T := "tuple") T.b_tuple ?_
    refine a_nil ?_
    refine c_isD (d := d) (fun H' s' => dp_le s'.ext _ _ hd2) (kit_tup d) ?_
    refine ⟨_, rfl, ?_⟩
    refine ⟨fun hk => ?_, fun hk => ?_⟩
    · cases hd2 with
      | @tup t xs0 ds ha hds =>
        cases hc with
        | tup hce =>
        have hdep : (PyData.tuple ds).depth = PyData.depthAll ds + 1 := by simp only [PyData.depth]
        obtain ⟨m, rfl⟩ : ∃ m, n = m + 1 := ⟨n - 1, by omega⟩
        have F_law_spots := ih m rfl
        have hlen := Pch.dpa_len hds
        refine k_one ?_
        refine k_for_et2 po T.b_enumerate ?_
        refine k_n 0 ?_
        refine ⟨t, xs0, fun i σ B L => ∃ a v2 v3 v4 xs ws, σ = [some (.ref t), some (.ref a), v2, v3, v4] ∧ L = [] ∧ Le B2 B ∧ nwH H B a = some (.lst xs) ∧ Pch.WayV (nwH H B) xs ws ∧ (∀ w ∈ ws, ∃ e, Pch.At (.tuple ds) w e) ∧ ws.length ≤ Pch.szA (ds.take i) + 1 ∧ ws ≠ [], rfl, .inl ha, ⟨_, _, _, _, _, _, rfl, rfl, fun _ _ z => z, base0.1, base0.2, fun w hw => (by rw [List.mem_singleton.mp hw]; exact ⟨_, .nil _⟩), (by simp [Pch.szA]), by simp⟩, ?_, ?_, ?_⟩
        · rintro i σ B L _ ⟨_, _, _, _, _, _, rfl, _, l3, _⟩
          exact .inl (Pch.sqt_le l3 ha)
        · rintro i z σ B L hz ⟨a, v2, v3, v4, xs, ws, rfl, rfl, l3, h1, h2, h3, h4, h5⟩
          obtain ⟨e0, he0, hde⟩ := Pch.dpa_at hds hz
          have hem := List.mem_of_getElem? he0
          have hsz := Pch.szA_mem hem
          have hs' : Pch.szA ds + 1 ≤ 10000 := by simpa only [Pch.sz] using hs
          refine gs_cons ?_
          refine g_name 2 ?_ sc_law_spots.nd
          refine gs_cons ?_
          refine g_name 3 ?_ sc_law_spots.nd
          refine gs_nil ?_
          show kSs _ _ _ _ _ _
          refine k_norm (by simp only [L2.start, N_law_spots, List.map_cons, List.map_nil, List.length_cons, List.length_nil, Nat.reduceAdd, Nat.reduceSub, List.replicate_succ, List.replicate_zero, List.cons_append, List.nil_append, List.set_cons_succ, List.set_cons_zero]; exact rfl) ?_
          obtain ⟨h1a, h1b⟩ := nw_some h1
          refine k_cons ?_
          refine k_set 1 ?_ sc_law_spots.nd
          refine k_bin ?_
          refine k_n 1 ?_
          refine k_le (k_lcv_e (j := 4) sc_law_spots.nd (blkOk_by (N := N_law_spots) (sc := defScope s_law_spots) (by decide +kernel)) ?_)
          refine k_call F_law_spots (hr.mono (Nat.le_refl _)) tk ?_
          refine a_cons ?_
          refine k_n 3 ?_
          refine a_nil ?_
          refine use_law_spots (d := e0) (fun H' s' => dp_le (fun b o e => s'.ext _ _ (l3 _ _ e)) _ _ hde) (hce _ hem) (by omega) (by have := Pch.depthA_mem hem; omega) fun B5 a5 xs5 ws5 l5 hn5 hA5 hl5 hne5 => ?_
          have hn50 := hn5 (fun _ => none) emp_le
          have hw5 := hn50.2.le nw_emp
          have ha5 := nw_emp _ _ hn50.1
          have lHB : Le H B := fun b o e => l3 _ _ (l2 _ _ (l1 _ _ e))
          refine ⟨a5, xs5, fun j acc B' L' => L' = [] ∧ acc.length = j ∧ Le B5 B' ∧ Pch.WayV (nwH H B') acc ((ws5.take j).map (i :: ·)), rfl, (by rw [hw5.len]; omega), ⟨rfl, rfl, fun _ _ z => z, .nil⟩, ?_, ?_, ?_⟩
          · rintro j acc B' L' ⟨rfl, ej, l6, hw6⟩
            exact ⟨.inl (.inl (.inl (l6 _ _ ha5))), ej⟩
          · rintro j acc B' L' z1 hz1 ⟨rfl, ej, l6, hw6⟩ D sb Hb Cb clb fpb
            obtain ⟨pz, wz, rfl, hwz, hpz⟩ := hw5.at hz1
            have hlw : wz.length ≤ 10000 := by
              obtain ⟨ew, hew⟩ := hA5 wz (List.mem_of_getElem? hwz)
              have h1 := hew.len
              have h2 := Pch.depth_sz e0
              omega
            have lH' : Le H B' := fun b o e => l6 _ _ (l5 _ _ (lHB _ _ e))
            refine k_bin ?_
            refine e_fz1n ?_
            refine k_tup ?_
            refine a_cons ?_
            refine k_n 2 ?_
            refine a_nil ?_
            refine ⟨by simp, fun pk => ⟨pk, _, _, rfl, fun B6 l6' n6 e6 => ?_⟩⟩
            refine k_n 4 ?_
            refine o_cattF (xs := [.int (i : Nat)]) (ys := Pch.iV wz) e6 (l6' _ _ (l6 _ _ hpz)) (by unfold Pch.iV; rw [List.length_map]; simp only [List.length_singleton]; omega) fun r B7 l7 hr7 h7 => ?_
            have hnr : H r = none := by
              rcases hr7 with ⟨_, rfl⟩ | ⟨z, _⟩ | ⟨z, _⟩
              · cases e : H r with
                | none => rfl
                | some u => have := lH' _ _ e; rw [n6.1] at this; cases this
              · cases z
              · cases e : H r with
                | none => rfl
                | some u => have := l6' _ _ (lH' _ _ e); rw [z] at this; cases this
            refine ⟨[], rfl, rfl, by rw [List.length_append, ej]; rfl, fun b o e => l7 _ _ (l6' _ _ (l6 _ _ e)), ?_⟩
            have e9 : (ws5.take (j + 1)).map (i :: ·) = (ws5.take j).map (i :: ·) ++ [i :: wz] := by rw [List.take_add_one, hwz, List.map_append]; rfl
            rw [e9]
            exact (hw6.le (nw_mono fun b o e => l7 _ _ (l6' _ _ e))).app (.cons (nw_of hnr h7) .nil)
          · rintro acc B' L' D ⟨rfl, ej, l6, hw6⟩
            have hlx := h2.len
            rw [List.take_of_length_le (by rw [hw5.len]; exact Nat.le_refl _)] at hw6
            have htk : ds.take (i + 1) = ds.take i ++ [e0] := by rw [List.take_add_one, he0]; rfl
            have hst : Pch.szA (ds.take (i + 1)) = Pch.szA (ds.take i) + Pch.sz e0 := by rw [htk, Pch.szA_app, Pch.szA, Pch.szA]; omega
            have hst2 := Pch.szA_take ds (i + 1)
            refine o_catl (xs := xs) (ys := acc) (.inl (l6 _ _ (l5 _ _ h1b))) (.inr (.head _)) (by rw [hlx, ej, hw5.len]; omega) fun pr => ?_
            show kSs _ _ _ _ _ _
            refine k_norm (by simp only [L2.start, N_law_spots, List.map_cons, List.map_nil, List.length_cons, List.length_nil, Nat.reduceAdd, Nat.reduceSub, List.replicate_succ, List.replicate_zero, List.cons_append, List.nil_append, List.set_cons_succ, List.set_cons_zero]; exact rfl) ?_
            refine k_fzn fun B8 l8 n8 e8 => ?_
            refine k_sub (L' := []) (List.nil_sublist _) ?_
            refine k_nil ?_
            have lH' : Le H B' := fun b o e => l6 _ _ (l5 _ _ (lHB _ _ e))
            have hnr : H pr = none := by
              cases e : H pr with
              | none => rfl
              | some u => have := lH' _ _ e; rw [n8.1] at this; cases this
            refine ⟨pr, _, _, _, _, ws ++ ws5.map (i :: ·), rfl, rfl, fun b o e => l8 _ _ (l6 _ _ (l5 _ _ (l3 _ _ e))), nw_of hnr e8, (h2.le (nw_mono fun b o e => l8 _ _ (l6 _ _ (l5 _ _ e)))).app (hw6.le (nw_mono l8)), fun w hw => ?_, ?_, ?_⟩
            · rcases List.mem_append.mp hw with hw | hw
              · exact h3 w hw
              · obtain ⟨w', hw', rfl⟩ := List.mem_map.mp hw
                obtain ⟨ew, hew⟩ := hA5 w' hw'
                exact ⟨ew, .cons he0 hew⟩
            · rw [List.length_append, List.length_map]; omega
            · intro z
              exact h5 (List.append_eq_nil_iff.mp z).1
        · rintro σ B L ⟨a, v2, v3, v4, xs, ws, rfl, rfl, l3, h1, h2, h3, h4, h5⟩
          exact ⟨a, v2, v3, v4, xs, ws, rfl, rfl, fun b o e => l3 _ _ (l2 _ _ (l1 _ _ e)), h1, h2, h3, by simp only [Pch.sz]; rw [List.take_of_length_le (by omega)] at h4; exact h4, h5⟩
      | _ => cases hk
    · refine k_nil ?_
      exact ⟨pl, none, none, none, _, _, rfl, rfl, fun b o e => l2 _ _ (l1 _ _ e), base0.1, base0.2, fun w hw => (by rw [List.mem_singleton.mp hw]; exact ⟨_, .nil _⟩), len0, by simp⟩
  · rintro σ' B' L' ⟨a, v2, v3, v4, xs, ws, rfl, rfl, l, h1, h2, h3, h4, h5⟩
    refine k_one ?_
    refine k_ret ?_
    refine k_n 1 ?_
    exact fun H' s => hq H' a xs ws (fun b o e => s.ext _ _ (l _ _ e)) (nw_mono s.ext _ _ h1) (h2.le (nw_mono s.ext)) h3 h4 h5
theorem ok_law_spots {f : Addr} {fd : FuncData} (F : Fun K "_law_spots" "_law_spots" s_law_spots f fd) (hm : mg "_law_spots" = some (.ref f)) (T : Tx mg) : ∀ n, Fn P w K mg base (n + 1) "_law_spots" (sp_law_spots K n)
  | 0 => ok_law_spots1 F hm T fun m z => (nomatch z)
  | n + 1 => ok_law_spots1 F hm T fun m z => by
    have := ok_law_spots F hm T n
    rw [show m = n by omega]; exact this
abbrev N_law_with : List Str := ["_law_thing", "_law_way", "_law_other", "_law_k"]
theorem sc_law_with : FnScope N_law_with ["_law_thing", "_law_way", "_law_other"] (defScope s_law_with) := ⟨rfl, rfl, rfl, by decide +kernel, rfl, by decide +kernel, by decide +kernel⟩
theorem eqv_nil (xs : List PyData) : PyData.eqv (.tuple xs) (.tuple []) = decide (xs = []) := by
  show PyData.eqvAll xs [] = _
  cases xs with
  | nil => unfold PyData.eqvAll; rfl
  | cons x xs => unfold PyData.eqvAll; rfl
theorem cut_from1 {α : Type} (l : List α) : cut l (some (1 : Int)) none = l.drop 1 := cut_from' l 1
theorem whole_to {n k : Nat} (h : k < n) : ¬ (HT.sIx n 0 none = 0 ∧ HT.sIx n n (some (k : Int)) = n) := by
  rw [HT.sIx_nat]; omega
theorem whole_from {n k : Nat} (h : 0 < n) : ¬ (HT.sIx n 0 (some ((k + 1 : Nat) : Int)) = 0 ∧ HT.sIx n n none = n) := by
  rw [HT.sIx_nat]; omega
theorem new_of {H B : Hp} {r : Addr} (l : Le H B) (h : B r = none) : H r = none := by
  cases e : H r with
  | none => rfl
  | some u => have := l _ _ e; rw [h] at this; cases this
theorem ways_int {w : List Nat} {K : PySem.W.Frag} {H : Hp} : DpAll K H (Pch.iV w) (w.map fun (k : Nat) => .int (k : Int)) := by
  induction w with
  | nil => exact .nil
  | cons k w ih => exact .cons (.int _) ih
def sp_law_with (K : PySem.W.Frag) (n : Nat) : Sp := fun vs H Q _ => ∃ v pw vx d w e x G, vs = [v, .ref pw, vx] ∧ Le G H ∧ Dp K G v d ∧ G pw = some (.tup (Pch.iV w)) ∧ Dp K G vx x ∧ Pch.At d w e ∧ Pch.sz d ≤ 10000 ∧ w.length ≤ n ∧ ∀ H' r, (∀ b o, H b = some o → H' b = some o) → Dp K (Pch.jnH G (nwH H H')) r (Pch.put d w x) → Q r H'
theorem use_law_with {B G : Hp} {L : HL} {Q : KQ} {E : XK} {v vx : V} {pw : Addr} {d e x : PyData} {w : List Nat} {n : Nat} (lG : Le G B) (hd : Dp K G v d) (hw : G pw = some (.tup (Pch.iV w))) (hx : Dp K G vx x) (ha : Pch.At d w e) (hs : Pch.sz d ≤ 10000) (hn : w.length ≤ n)
    (q : ∀ B' r, Le B B' → (∀ H0, Le H0 B → Dp K (Pch.jnH G (nwH H0 B')) r (Pch.put d w x)) → Q r B' L) : ∀ H, Sat B L H → sp_law_with K n [v, .ref pw, vx] H (up Q) E := fun H s =>
  ⟨v, pw, vx, d, w, e, x, G, rfl, fun b o z => s.ext _ _ (lG _ _ z), hd, hw, hx, ha, hs, hn, fun H' r e hr => by
    obtain ⟨l, s2, nw⟩ := s.allN e
    refine ⟨rmK H' L, L, s2, q _ r l fun H0 l0 => dp_le (Pch.jn_mono fun b o hb => ?_) _ _ hr⟩
    obtain ⟨e1, e2⟩ := nw_some hb
    exact nw_of (new_of (fun b o z => s.ext _ _ (l0 _ _ z)) e1) (nw _ _ e1 e2)⟩
theorem ok_law_with1 {f : Addr} {fd : FuncData} (F : Fun K "_law_with" "_law_with" s_law_with f fd) (hm : mg "_law_with" = some (.ref f)) (T : Tx mg) {n : Nat} (ih : ∀ m, n = m + 1 → Fn P w K mg base (m + 1) "_law_with" (sp_law_with K m)) : Fn P w K mg base (n + 1) "_law_with" (sp_law_with K n) := by
  refine fn_ok F sc_law_with hm (fun _ _ _ _ _ _ us hl => match us, hl with | [_, _, _], _ => rfl) ?_ fun cdv A outer s H vs Q E hr h tk po => ?_
  · rintro vs H Q E ⟨_, _, _, _, _, _, _, _, rfl, _⟩; rfl
  obtain ⟨v, pw, vx, d, wy, e, x, G, rfl, lG, hd, hw, hx, hA, hs, hn, hq⟩ := h
  refine ⟨H, [], Sat.whole, ?_⟩
  refine k_cons ?_
  refine k_if ?_
  refine t_cmp ?_
  refine k_n 1 ?_
  refine k_tup ?_
  refine a_nil ?_
  refine ⟨by simp, fun p1 => ?_⟩
  refine o_eqD (d := .tuple (wy.map fun (k : Nat) => .int (k : Int))) (e := .tuple []) hr.units (dd_t (.inl (.inl (.inl (lG _ _ hw)))) fun _ _ => ways_int) (dd_t (.inr (.head _)) fun _ _ => .nil) ?_ (by have := Pch.shaped_ints (wy.map fun (k : Nat) => (k : Int)); rw [List.map_map] at this; exact this) (Pch.shaped_ints [])
  refine ⟨_, rfl, ?_⟩
  rw [eqv_nil]
  refine ⟨fun hk => ?_, fun hk => ?_⟩
  · have hk := List.map_eq_nil_iff.mp (of_decide_eq_true hk)
    subst hk
    cases hA
    refine k_one ?_
    refine k_ret ?_
    refine k_n 2 ?_
    exact fun H' s => hq H' vx s.ext (by rw [Pch.put]; exact dp_le Pch.jn_l _ _ hx)
  · have hk := fun z => of_decide_eq_false hk (List.map_eq_nil_iff.mpr z)
    cases hA with
    | nil => exact absurd rfl hk
    | @cons ds k de _ w' he1 hA' =>
    cases hd with
    | @tup t xs _ ht hds =>
    have htH := Pch.sqt_le lG ht
    have hl := Pch.dpa_len hds
    have hkl := (List.getElem?_eq_some_iff.mp he1).1
    obtain ⟨z1, hz1⟩ : ∃ z1, xs[k]? = some z1 := ⟨xs[k]'(by omega), by simp⟩
    obtain ⟨e1', he1', hz1d⟩ := Pch.dpa_at hds hz1
    rw [he1] at he1'
    cases he1'
    have hsz := Pch.szA_mem (List.mem_of_getElem? he1)
    have hs' : Pch.szA ds + 1 ≤ 10000 := by simpa only [Pch.sz] using hs
    have hll := Pch.len_szA ds
    obtain ⟨m, rfl⟩ : ∃ m, n = m + 1 := ⟨n - 1, by rw [List.length_cons] at hn; omega⟩
    have F_law_with := ih m rfl
    refine k_nil ?_
    refine k_sub (L' := []) (List.nil_sublist _) ?_
    refine k_cons ?_
    refine k_set 3 ?_ sc_law_with.nd
    refine k_ix ?_
    refine k_n 1 ?_
    refine k_int ?_
    refine i_tup (xs := Pch.iV (k :: w')) (.inl (.inl (.inl (lG _ _ hw)))) (v := .int (k : Nat)) (atI_nat (j := 0) rfl) ?_
    show kSs _ _ _ _ _ _
    refine k_norm (by simp only [L2.start, N_law_with, List.map_cons, List.map_nil, List.length_cons, List.length_nil, Nat.reduceAdd, Nat.reduceSub, List.replicate_succ, List.replicate_zero, List.cons_append, List.nil_append, List.set_cons_succ, List.set_cons_zero]; exact rfl) ?_
    refine k_one ?_
    refine k_ret ?_
    refine k_bin ?_
    refine k_bin ?_
    refine k_slice ?_
    refine k_n 0 ?_
    refine p_none ?_
    refine p_some ?_
    refine k_n 3 ?_
    refine ⟨_, rfl, ?_⟩
    refine sl_tF (.inl htH) (fun z => absurd z (whole_to (by omega))) fun _ p1 B1 l1 n1 e1 => ?_
    rw [cut_to'] at e1
    have N1 := new_of (fun _ _ z => z) n1.1
    refine e_fz1n ?_
    refine k_tup ?_
    refine a_cons ?_
    refine k_call F_law_with (hr.mono (Nat.le_refl _)) tk ?_
    refine a_cons ?_
    refine k_ix ?_
    refine k_n 0 ?_
    refine k_n 3 ?_
    refine i_tup (xs := xs) (.inl (Pch.sqt_le l1 htH)) (v := z1) (atI_nat hz1) ?_
    refine a_cons ?_
    refine k_slice ?_
    refine k_n 1 ?_
    refine p_some ?_
    refine k_int ?_
    refine ⟨_, rfl, ?_⟩
    refine p_none ?_
    refine sl_tF (xs := Pch.iV (k :: w')) (.inl (.inl (.inl (l1 _ _ (lG _ _ hw))))) (fun z => absurd z (whole_from (k := 0) (by simp [Pch.iV]))) fun _ p2 B2 l2 n2 e2 => ?_
    rw [cut_from1] at e2
    have lH2 : Le H B2 := fun b o e => l2 _ _ (l1 _ _ e)
    have N2 := new_of l1 n2.1
    refine a_cons ?_
    refine k_n 2 ?_
    refine a_nil ?_
    refine use_law_with (G := Pch.jnH G (nwH H B2)) (d := de) (e := e) (x := x) (w := w') (Pch.jn_le (fun b o z => lH2 _ _ (lG _ _ z)) nw_le) (dp_le Pch.jn_l _ _ hz1d) (Pch.jn_new lG _ _ (nw_of N2 e2)) (dp_le Pch.jn_l _ _ hx) hA' (by omega) (by rw [List.length_cons] at hn; omega) fun B3 r l3 hr3 => ?_
    have hr3 : Dp K (Pch.jnH G (nwH H B3)) r (Pch.put de w' x) := dp_le (fun b o z => by
      unfold Pch.jnH at z ⊢
      cases eg : G b with
      | some u => rw [eg] at z; exact z
      | none =>
        rw [eg] at z
        cases en : nwH H B2 b with
        | some u => rw [en] at z; cases z; exact nw_mono l3 _ _ en
        | none => rw [en] at z; obtain ⟨q1, q2⟩ := nw_some z; exact nw_of (new_of lH2 q1) q2) _ _ (hr3 B2 fun _ _ z => z)
    have lH3 : Le H B3 := fun b o e => l3 _ _ (lH2 _ _ e)
    refine a_nil ?_
    refine ⟨by simp, fun p4 => ⟨p4, _, _, rfl, fun B4 l4 n4 e4 => ?_⟩⟩
    have N4 := new_of lH3 n4.1
    have lH4 : Le H B4 := fun b o e => l4 _ _ (lH3 _ _ e)
    refine o_cattF (xs := xs.take k) (ys := [r]) (l4 _ _ (l3 _ _ (l2 _ _ e1))) e4 (by rw [List.length_take]; simp only [List.length_singleton]; omega) fun p5 B5 l5 h5 e5 => ?_
    have N5 : H p5 = none := by
      rcases h5 with ⟨z, _⟩ | ⟨_, rfl⟩ | ⟨z, _⟩
      · cases z
      · exact N4
      · exact new_of lH4 z
    have lH5 : Le H B5 := fun b o e => l5 _ _ (lH4 _ _ e)
    refine k_slice ?_
    refine k_n 0 ?_
    refine p_some ?_
    refine k_bin ?_
    refine k_n 3 ?_
    refine k_int ?_
    refine o_add ?_
    refine ⟨_, rfl, ?_⟩
    refine p_none ?_
    rw [show ((k : Int) + 1) = ((k + 1 : Nat) : Int) from by omega]
    refine sl_tF (xs := xs) (.inl (Pch.sqt_le lH5 htH)) (fun z => absurd z (whole_from (by omega))) fun _ p6 B6 l6 n6 e6 => ?_
    rw [cut_from'] at e6
    have N6 := new_of lH5 n6.1
    have lH6 : Le H B6 := fun b o e => l6 _ _ (lH5 _ _ e)
    refine o_cattF (xs := xs.take k ++ [r]) (ys := xs.drop (k + 1)) (l6 _ _ e5) e6 (by rw [List.length_append, List.length_take, List.length_drop]; simp only [List.length_singleton]; omega) fun p7 B7 l7 h7 e7 => ?_
    have N7 : H p7 = none := by
      rcases h7 with ⟨_, rfl⟩ | ⟨z, _⟩ | ⟨z, _⟩
      · exact N5
      · exact absurd z (by simp)
      · exact new_of lH6 z
    refine fun H' s => hq H' (.ref p7) (fun b o e => s.ext _ _ (l7 _ _ (lH6 _ _ e))) ?_
    rw [Pch.put_cons he1]
    refine .tup (.inl (.inl (Pch.jn_new lG _ _ (nw_of N7 (s.ext _ _ e7))))) (Pch.dpa_app (Pch.dpa_app (Pch.dpa_take k (dp_leA Pch.jn_l _ _ hds)) (.cons (dp_le (Pch.jn_mono (nw_mono fun b o e => s.ext _ _ (l7 _ _ (l6 _ _ (l5 _ _ (l4 _ _ e)))))) _ _ hr3) .nil)) (Pch.dpa_drop (k + 1) (dp_leA Pch.jn_l _ _ hds)))
theorem ok_law_with {f : Addr} {fd : FuncData} (F : Fun K "_law_with" "_law_with" s_law_with f fd) (hm : mg "_law_with" = some (.ref f)) (T : Tx mg) : ∀ n, Fn P w K mg base (n + 1) "_law_with" (sp_law_with K n)
  | 0 => ok_law_with1 F hm T fun m z => (nomatch z)
  | n + 1 => ok_law_with1 F hm T fun m z => by
    have := ok_law_with F hm T n
    rw [show m = n by omega]; exact this
abbrev N_law_step : List Str := ["_law_drawn_here", "_law_one", "_law_at", "_law_some", "_law_sign"]
theorem sc_law_step : FnScope N_law_step ["_law_drawn_here", "_law_one"] (defScope s_law_step) := ⟨rfl, rfl, rfl, by decide +kernel, rfl, by decide +kernel, by decide +kernel⟩
theorem take_c {l : List Nat} (h : ∀ c ∈ l, c < 128) (n : Nat) : ∀ c ∈ l.take n, c < 128 := fun c hc => h c (List.mem_of_mem_take hc)
theorem drop_c {l : List Nat} (h : ∀ c ∈ l, c < 128) (n : Nat) : ∀ c ∈ l.drop n, c < 128 := fun c hc => h c (List.mem_of_mem_drop hc)
theorem app_c {a b : List Nat} (h : ∀ c ∈ a, c < 128) (h2 : ∀ c ∈ b, c < 128) : ∀ c ∈ a ++ b, c < 128 := fun c hc => (List.mem_append.mp hc).elim (h c) (h2 c)
theorem one_c {c : Nat} (h : c < 128) : ∀ d ∈ [c], d < 128 := fun d hd => by rw [List.mem_singleton.mp hd]; exact h
def sgL : List Nat := [97, 98, 99, 100, 101, 102, 103, 104, 105, 106, 107, 108, 109, 110, 111, 112, 113, 114, 115, 116, 117, 118, 119, 120, 121, 122, 65, 66, 67, 68, 69, 70, 71, 72, 73, 74, 75, 76, 77, 78, 79, 80, 81, 82, 83, 84, 85, 86, 87, 88, 89, 90, 32, 49, 10]
/-- what a thing is changed to -/
def Chg (d x : PyData) : Prop := Pch.Cm true x ∧ Pch.sz x ≤ 2 * Pch.sz d + 20 ∧ x.depth ≤ d.depth + 1
def sp_law_step (K : PySem.W.Frag) : Sp := fun vs H Q _ => ∃ (p : Addr) (n f : Int) (v : V) (d : PyData) (G : Hp), vs = [.ref p, v] ∧ H p = some (.lst [.int n, .int f]) ∧ Dr f ∧ Le G (rmH H p) ∧ Dp K G v d ∧ Pch.Cm false d ∧ Pch.sz d ≤ 10000 ∧
  ∀ (H' : Hp) (n' : Int) (r : V) (x : PyData), (∀ b o, b ≠ p → H b = some o → H' b = some o) → H' p = some (.lst [.int n', .int f]) → Dp K (Pch.jnH G (nwH H H')) r x → Chg d x → Q r H'
theorem use_law_step {B G : Hp} {L : HL} {Q : KQ} {E : XK} {p : Addr} {n f : Int} {v : V} {d : PyData} (hf : Dr f) (hp : (p, HO.lst [.int n, .int f]) ∈ L) (lG : Le G B) (hd : Dp K G v d) (hc : Pch.Cm false d) (hs : Pch.sz d ≤ 10000)
    (q : ∀ n' r x B', Le B B' → (∀ H0, Le H0 B → Dp K (Pch.jnH G (nwH H0 B')) r x) → Chg d x → ∃ L', Rep L p (.lst [.int n, .int f]) (.lst [.int n', .int f]) L' ∧ Q r B' L') : ∀ H, Sat B L H → sp_law_step K [.ref p, v] H (up Q) E :=
  fun H s => ⟨p, n, f, v, d, G, rfl, s.own _ hp, hf, fun b o z => by
    have hb : b ≠ p := fun e => by have := s.nb _ hp; rw [← e, lG _ _ z] at this; cases this
    rw [rm_ne hb]; exact s.ext _ _ (lG _ _ z), hd, hc, hs, fun H' n' r x e1 e2 hr hx => by
    obtain ⟨l, s2, nw⟩ := s.allG hp e1
    obtain ⟨L', rp, hq⟩ := q n' r x (rmK H' L) l (fun H0 l0 => dp_le (Pch.jn_mono fun b o hb => by
      obtain ⟨e3, e4⟩ := nw_some hb
      exact nw_of (new_of (fun b o z => s.ext _ _ (l0 _ _ z)) e3) (nw _ _ e3 e4)) _ _ hr) hx
    exact ⟨rmK H' L, L', s2 rp e2, hq⟩⟩
theorem ok_law_step {f : Addr} {fd : FuncData} (F : Fun K "_law_step" "_law_step" s_law_step f fd) (hm : mg "_law_step" = some (.ref f)) (T : Tx mg) (F_law_next : Fn P w K mg base 1 "_law_next" sp_law_next) : Fn P w K mg base 2 "_law_step" (sp_law_step K) := by
  refine fn_ok F sc_law_step hm (fun _ _ _ _ _ _ us hl => match us, hl with | [_, _], _ => rfl) ?_ fun cdv A outer s H vs Q E hr h tk po => ?_
  · rintro vs H Q E ⟨_, _, _, _, _, _, rfl, _⟩; rfl
  obtain ⟨p, n, f1, v, d, G, rfl, hp, hf, lG, hd, hc, hs, hq⟩ := h
  refine ⟨rmH H p, _, sat_rm hp, ?_⟩
  have fin : ∀ {B : Hp} {L : HL} {n' : Int} {r : V} {x : PyData}, Le (rmH H p) B → (p, HO.lst [.int n', .int f1]) ∈ L → (∀ H', Sat B L H' → Dp K (Pch.jnH G (nwH H H')) r x) → Chg d x → ∀ H', Sat B L H' → Q r H' := fun {B L n' r x} lB hm h1 h2 H' s9 =>
    hq H' n' r x (fun b o hne e => s9.ext b o (lB _ _ (by rw [rm_ne hne]; exact e))) (s9.own _ hm) (h1 H' s9) h2
  -- what is new: a named object but the drawing's
  have isN : ∀ {B : Hp} {L : HL} {H' : Hp} {q : Addr} {o : HO}, Le (rmH H p) B → Sat B L H' → (q, o) ∈ L → q ≠ p → Pch.jnH G (nwH H H') q = some o := fun {B L H' q o} lB s9 hm hne => by
    have hB := s9.nb _ hm
    have hH : H q = none := by
      cases e : H q with
      | none => rfl
      | some u => have := lB _ _ (show rmH H p q = some u by rw [rm_ne hne]; exact e); rw [hB] at this; cases this
    exact Pch.jn_new (fun b o z => by have := lG _ _ z; exact Pch.rm_some this) _ _ (nw_of hH (s9.own _ hm))
  cases hd with
  | @str x =>
    obtain ⟨l, rfl, hl2⟩ : ∃ l, x = sOf l ∧ ∀ c ∈ l, c < 128 := by cases hc with | @str l h => exact ⟨l, rfl, h⟩
    have hl1 : l.length ≤ 10000 := by simp only [Pch.sz] at hs; rw [sOf_len] at hs; omega
    have hszd : Pch.sz (.str (sOf l)) = l.length + 1 := by simp only [Pch.sz]; rw [sOf_len]
    refine k_cons ?_
    refine k_if ?_
    refine t_val ?_
    refine k_callB (id := "isinstance") T.b_isinstance ?_
    refine a_cons ?_
    refine k_n 1 ?_
    refine a_cons ?_
    refine k_ty (T := "str") T.b_str ?_
    refine a_nil ?_
    refine c_isS (k := true) ?_
    refine ⟨_, rfl, ?_⟩
    refine ⟨fun _ => ?_, fun z => (nomatch z)⟩
    refine k_cons ?_
    refine k_set 2 ?_ sc_law_step.nd
    refine k_fn F_law_next (hr.mono (by decide)) ?_
    refine a_cons ?_
    refine k_n 0 ?_
    refine a_cons ?_
    refine k_bin ?_
    refine k_callB (id := "len") T.b_len ?_
    refine a_cons ?_
    refine k_n 1 ?_
    refine a_nil ?_
    refine c_lens ?_ (by omega)
    refine k_int ?_
    walk_at "opAdd"
    refine a_nil ?_
    refine use_law_next hf (.head _) (by omega) fun n1 d1 h11 h12 => ⟨_, by walk_at "rep", ?_⟩; obtain ⟨at1, rfl⟩ : ∃ k : Nat, d1 = k := ⟨d1.toNat, by omega⟩
    show kSs _ _ _ _ _ _
    refine k_norm (by simp only [L2.start, N_law_step, List.map_cons, List.map_nil, List.length_cons, List.length_nil, Nat.reduceAdd, Nat.reduceSub, List.replicate_succ, List.replicate_zero, List.cons_append, List.nil_append, List.set_cons_succ, List.set_cons_zero]; exact rfl) ?_
    refine k_cons ?_
    refine k_set 4 ?_ sc_law_step.nd
    refine k_ix ?_
    refine k_s [97, 98, 99, 100, 101, 102, 103, 104, 105, 106, 107, 108, 109, 110, 111, 112, 113, 114, 115, 116, 117, 118, 119, 120, 121, 122, 65, 66, 67, 68, 69, 70, 71, 72, 73, 74, 75, 76, 77, 78, 79, 80, 81, 82, 83, 84, 85, 86, 87, 88, 89, 90, 32, 49, 10] ?_
    refine k_fn F_law_next (hr.mono (by decide)) ?_
    refine a_cons ?_
    refine k_n 0 ?_
    refine a_cons ?_
    refine k_int ?_
    refine a_nil ?_
    refine use_law_next hf (.head _) (by omega) fun n2 d2 h21 h22 => ⟨_, by walk_at "rep", ?_⟩; obtain ⟨c0, hc0, hca0⟩ := atI_mem (l := sgL) h21 h22
    refine i_sv c0 ?_ hca0 (by decide)
    have hc0l : c0 < 128 := (show ∀ c ∈ sgL, c < 128 by decide) c0 hc0
    show kSs _ _ _ _ _ _
    refine k_norm (by simp only [L2.start, N_law_step, List.map_cons, List.map_nil, List.length_cons, List.length_nil, Nat.reduceAdd, Nat.reduceSub, List.replicate_succ, List.replicate_zero, List.cons_append, List.nil_append, List.set_cons_succ, List.set_cons_zero]; exact rfl) ?_
    refine k_cut (fun σ' B' L' => ∃ (c : Nat) (n4 : Int), σ' = [some (.ref p), some (.str (sOf l)), some (.int (at1 : Nat)), none, some (.str (sOf [c]))] ∧ B' = rmH H p ∧ L' = [(p, .lst [.int n4, .int f1])] ∧ c < 128) ?_ ?_
    · refine k_if ?_
      refine t_cmp ?_
      refine k_fn F_law_next (hr.mono (by decide)) ?_
      refine a_cons ?_
      refine k_n 0 ?_
      refine a_cons ?_
      refine k_int ?_
      refine a_nil ?_
      refine use_law_next hf (.head _) (by omega) fun n3 d3 h31 h32 => ⟨_, by walk_at "rep", ?_⟩
      refine k_int ?_
      walk_at "opEq"
      refine ⟨_, rfl, ?_⟩
      refine ⟨fun _ => ?_, fun _ => ?_⟩
      ·
        refine k_one ?_
        refine k_set 4 ?_ sc_law_step.nd
        refine k_ix ?_
        refine k_s [97, 98, 99, 100, 101, 102, 65, 66, 67, 68, 69, 70] ?_
        refine k_fn F_law_next (hr.mono (by decide)) ?_
        refine a_cons ?_
        refine k_n 0 ?_
        refine a_cons ?_
        refine k_int ?_
        refine a_nil ?_
        refine use_law_next hf (.head _) (by omega) fun n4 d4 h41 h42 => ⟨_, by walk_at "rep", ?_⟩; obtain ⟨c1, hc1, hca1⟩ := atI_mem (l := [97, 98, 99, 100, 101, 102, 65, 66, 67, 68, 69, 70]) h41 h42
        refine i_sv c1 ?_ hca1 (by decide)
        exact ⟨c1, n4, rfl, rfl, rfl, (show ∀ c ∈ [97, 98, 99, 100, 101, 102, 65, 66, 67, 68, 69, 70], c < 128 by decide) c1 hc1⟩
      · refine k_nil ?_
        exact ⟨c0, n3, rfl, rfl, rfl, hc0l⟩
    rintro σ' B' L' ⟨c, n4, rfl, rfl, rfl, hcl⟩
    refine k_cons ?_
    refine k_set 3 ?_ sc_law_step.nd
    refine k_lst ?_
    refine a_cons ?_
    refine k_bin ?_
    refine k_bin ?_
    refine k_slice ?_
    refine k_n 1 ?_
    refine p_none ?_
    refine p_some ?_
    refine k_n 2 ?_
    refine ⟨_, rfl, ?_⟩
    refine sl_s ?_ (by omega); rw [cut_to']
    refine k_n 4 ?_
    refine o_adds ?_ (by rw [List.length_take, List.length_singleton]; omega)
    refine k_slice ?_
    refine k_n 1 ?_
    refine p_some ?_
    refine k_bin ?_
    refine k_n 2 ?_
    refine k_int ?_
    walk_at "opAdd"
    refine ⟨_, rfl, ?_⟩
    refine p_none ?_
    refine sl_s ?_ (by omega); rw [show ((at1 : Int) + 1) = ((at1 + 1 : Nat) : Int) from rfl, cut_from']
    refine o_adds ?_ (by rw [List.length_append, List.length_take, List.length_singleton, List.length_drop]; omega)
    refine a_cons ?_
    refine k_bin ?_
    refine k_bin ?_
    refine k_slice ?_
    refine k_n 1 ?_
    refine p_none ?_
    refine p_some ?_
    refine k_n 2 ?_
    refine ⟨_, rfl, ?_⟩
    refine sl_s ?_ (by omega); rw [cut_to']
    refine k_n 4 ?_
    refine o_adds ?_ (by rw [List.length_take, List.length_singleton]; omega)
    refine k_slice ?_
    refine k_n 1 ?_
    refine p_some ?_
    refine k_n 2 ?_
    refine ⟨_, rfl, ?_⟩
    refine p_none ?_
    refine sl_s ?_ (by omega); rw [cut_from']
    refine o_adds ?_ (by rw [List.length_append, List.length_take, List.length_singleton, List.length_drop]; omega)
    refine a_nil ?_
    refine ⟨by simp, fun ps => ?_⟩
    show kSs _ _ _ _ _ _
    refine k_norm (by simp only [L2.start, N_law_step, List.map_cons, List.map_nil, List.length_cons, List.length_nil, Nat.reduceAdd, Nat.reduceSub, List.replicate_succ, List.replicate_zero, List.cons_append, List.nil_append, List.set_cons_succ, List.set_cons_zero]; exact rfl) ?_
    refine k_cons ?_
    refine k_expr ?_
    refine k_m PySem.F.plainAttrs_list PySem.F.slot_list_append PySem.F.type_list_append ?_
    refine k_n 3 ?_
    refine ⟨ty_l (.inr (.head _)), ?_⟩
    refine a_cons ?_
    refine k_bin ?_
    refine k_slice ?_
    refine k_n 1 ?_
    refine p_none ?_
    refine p_some ?_
    refine k_n 2 ?_
    refine ⟨_, rfl, ?_⟩
    refine sl_s ?_ (by omega); rw [cut_to']
    refine k_slice ?_
    refine k_n 1 ?_
    refine p_some ?_
    refine k_bin ?_
    refine k_n 2 ?_
    refine k_int ?_
    walk_at "opAdd"
    refine ⟨_, rfl, ?_⟩
    refine p_none ?_
    refine sl_s ?_ (by omega); rw [show ((at1 : Int) + 1) = ((at1 + 1 : Nat) : Int) from rfl, cut_from']
    refine o_adds ?_ (by rw [List.length_take, List.length_drop]; omega)
    refine a_nil ?_
    refine m_append (xs := [.str (sOf (l.take at1 ++ [c] ++ l.drop (at1 + 1))), .str (sOf (l.take at1 ++ [c] ++ l.drop at1))]) (by walk_at "rep") ?_ (by simp)
    show kSs _ _ _ _ _ _
    refine k_one ?_
    refine k_ret ?_
    refine k_ix ?_
    refine k_bin ?_
    refine k_n 3 ?_
    refine k_lst ?_
    refine a_cons ?_
    refine k_s [] ?_
    refine a_cons ?_
    refine k_revs ?_
    refine k_n 1 ?_
    refine ⟨l, rfl, by omega, ?_⟩
    refine a_cons ?_
    refine k_tup ?_
    refine a_cons ?_
    refine k_n 1 ?_
    refine a_nil ?_
    refine ⟨by simp, fun pt => ?_⟩
    refine a_cons ?_
    refine k_non ?_
    refine a_nil ?_
    refine ⟨by simp, fun pe => ?_⟩
    refine o_catl (xs := [.str (sOf (l.take at1 ++ [c] ++ l.drop (at1 + 1))), .str (sOf (l.take at1 ++ [c] ++ l.drop at1)), .str (sOf (l.take at1 ++ l.drop (at1 + 1)))]) (ys := [.str (sOf []), .str (sOf l.reverse), .ref pt, .non]) (.inr (by walk_at "mm")) (.inr (by walk_at "mm")) (by simp) fun pz => ?_
    refine k_fn F_law_next (hr.mono (by decide)) ?_
    refine a_cons ?_
    refine k_n 0 ?_
    refine a_cons ?_
    refine k_int ?_
    refine a_nil ?_
    refine use_law_next hf (by walk_at "mm") (by omega) fun n5 d5 h51 h52 => ⟨_, by walk_at "rep", ?_⟩; obtain ⟨v, hvm, hva⟩ := atI_mem (l := [V.str (sOf (l.take at1 ++ [c] ++ l.drop (at1 + 1))), .str (sOf (l.take at1 ++ [c] ++ l.drop at1)), .str (sOf (l.take at1 ++ l.drop (at1 + 1))), .str (sOf []), .str (sOf l.reverse), .ref pt, .non]) h51 h52
    refine i_lv v (.inr (by walk_at "mm")) ?_ hva
    have ha1 := take_c hl2 at1
    have hd1 := drop_c hl2 at1
    have hd2 := drop_c hl2 (at1 + 1)
    have ho := one_c hcl
    have stc : ∀ m : List Nat, (∀ c ∈ m, c < 128) → m.length ≤ l.length + 1 → Chg (.str (sOf l)) (.str (sOf m)) := fun m h1 h2 => ⟨.str h1, by rw [hszd]; simp only [Pch.sz]; rw [sOf_len]; omega, by simp only [PyData.depth]; omega⟩
    simp only [List.mem_cons, List.not_mem_nil, or_false] at hvm
    rcases hvm with rfl | rfl | rfl | rfl | rfl | rfl | rfl
    · exact fin (fun _ _ z => z) (by walk_at "mm") (fun _ _ => .str _) (stc _ (app_c (app_c ha1 ho) hd2) (by rw [List.length_append, List.length_append, List.length_take, List.length_singleton, List.length_drop]; omega))
    · exact fin (fun _ _ z => z) (by walk_at "mm") (fun _ _ => .str _) (stc _ (app_c (app_c ha1 ho) hd1) (by rw [List.length_append, List.length_append, List.length_take, List.length_singleton, List.length_drop]; omega))
    · exact fin (fun _ _ z => z) (by walk_at "mm") (fun _ _ => .str _) (stc _ (app_c ha1 hd2) (by rw [List.length_append, List.length_take, List.length_drop]; omega))
    · exact fin (fun _ _ z => z) (by walk_at "mm") (fun _ _ => .str _) (stc _ (fun _ z => (nomatch z)) (by simp))
    · exact fin (fun _ _ z => z) (by walk_at "mm") (fun _ _ => .str _) (stc _ (fun c hc => hl2 c (List.mem_reverse.mp hc)) (by rw [List.length_reverse]; omega))
    · refine fin (x := .tuple [.str (sOf l)]) (fun _ _ z => z) (by walk_at "mm") (fun H' s9 => ?_) ⟨.tup fun d hd => by rw [List.mem_singleton.mp hd]; exact .str hl2, by simp only [Pch.sz, Pch.szA]; omega, by simp only [PyData.depth, PyData.depthAll]; omega⟩
      have hnd := s9.nd
      simp only [List.map_cons, List.map_nil, List.nodup_cons, List.mem_cons, not_or] at hnd
      have hpt : pt ≠ p := by
        intro z
        simp [z] at hnd
      exact .tup (.inl (.inl (isN (fun _ _ z => z) s9 (by walk_at "mm") hpt))) (.cons (.str _) .nil)
    · exact fin (fun _ _ z => z) (by walk_at "mm") (fun _ _ => .non) ⟨.non rfl, by simp only [Pch.sz]; omega, by simp only [PyData.depth]; omega⟩
  | @int i =>
    have hi : i.natAbs ≤ 1000000 := by cases hc with | int h => simpa using h
    have hlg : i.natAbs.log2 < 1920 := by
      by_cases h0 : i.natAbs = 0
      · rw [h0]; decide
      · have := (Nat.log2_lt h0 (k := 30)).mpr (by omega)
        omega
    refine k_cons ?_
    refine k_if ?_
    refine t_val ?_
    refine k_callB (id := "isinstance") T.b_isinstance ?_
    refine a_cons ?_
    refine k_n 1 ?_
    refine a_cons ?_
    refine k_ty (T := "str") T.b_str ?_
    refine a_nil ?_
    walk_at "c_isinstance"
    refine ⟨_, rfl, ?_⟩
    refine ⟨fun z => (nomatch z), fun _ => ?_⟩
    refine k_nil ?_
    refine k_cons ?_
    refine k_if ?_
    refine t_val ?_
    refine k_callB (id := "isinstance") T.b_isinstance ?_
    refine a_cons ?_
    refine k_n 1 ?_
    refine a_cons ?_
    refine k_ty (T := "int") T.b_int ?_
    refine a_nil ?_
    walk_at "c_isinstance"
    refine ⟨_, rfl, ?_⟩
    refine ⟨fun _ => ?_, fun z => (nomatch z)⟩
    refine k_cons ?_
    refine k_set 3 ?_ sc_law_step.nd
    refine k_lst ?_
    refine a_cons ?_
    refine k_bin ?_
    refine k_n 1 ?_
    refine k_int ?_
    walk_at "opAdd"
    refine a_cons ?_
    refine k_bin ?_
    refine k_n 1 ?_
    refine k_int ?_
    walk_at "opSub"
    refine a_cons ?_
    refine k_bin ?_
    refine k_n 1 ?_
    refine k_int ?_
    walk_at "opAdd"
    refine a_cons ?_
    refine k_int ?_
    refine a_cons ?_
    refine k_int ?_
    refine a_cons ?_
    refine k_neg ?_
    refine k_int ?_
    refine ⟨_, rfl, ?_⟩
    refine a_cons ?_
    refine k_bin ?_
    refine k_int ?_
    refine k_n 1 ?_
    walk_at "opSub"
    refine a_cons ?_
    refine k_int ?_
    refine a_cons ?_
    refine k_int ?_
    refine a_nil ?_
    refine ⟨by simp, fun ps => ?_⟩
    show kSs _ _ _ _ _ _
    refine k_norm (by simp only [L2.start, N_law_step, List.map_cons, List.map_nil, List.length_cons, List.length_nil, Nat.reduceAdd, Nat.reduceSub, List.replicate_succ, List.replicate_zero, List.cons_append, List.nil_append, List.set_cons_succ, List.set_cons_zero]; exact rfl) ?_
    refine k_one ?_
    refine k_ret ?_
    refine k_ix ?_
    refine k_bin ?_
    refine k_n 3 ?_
    refine k_lst ?_
    refine a_cons ?_
    refine k_callT (T := "str") T.b_str ?_
    refine a_cons ?_
    refine k_n 1 ?_
    refine a_nil ?_
    refine c_stri hlg ?_
    refine a_cons ?_
    refine k_cmp ?_
    refine k_n 1 ?_
    refine k_int ?_
    walk_at "opEq"
    refine a_cons ?_
    refine k_non ?_
    refine a_cons ?_
    refine k_tup ?_
    refine a_cons ?_
    refine k_n 1 ?_
    refine a_nil ?_
    refine ⟨by simp, fun pt => ?_⟩
    refine a_nil ?_
    refine ⟨by simp, fun pe => ?_⟩
    refine o_catl (xs := [.int (i + 1), .int (i - 1), .int (i + 2), .int 0, .int 1, .int (-1), .int (0 - i), .int 200, .int 201]) (ys := [.str (sOf (tstr i)), .bl (decide (i = 1)), .non, .ref pt]) (.inr (by walk_at "mm")) (.inr (by walk_at "mm")) (by simp) fun pz => ?_
    refine k_fn F_law_next (hr.mono (by decide)) ?_
    refine a_cons ?_
    refine k_n 0 ?_
    refine a_cons ?_
    refine k_int ?_
    refine a_nil ?_
    refine use_law_next hf (by walk_at "mm") (by omega) fun n5 d5 h51 h52 => ⟨_, by walk_at "rep", ?_⟩; obtain ⟨v, hvm, hva⟩ := atI_mem (l := [V.int (i + 1), .int (i - 1), .int (i + 2), .int 0, .int 1, .int (-1), .int (0 - i), .int 200, .int 201, .str (sOf (tstr i)), .bl (decide (i = 1)), .non, .ref pt]) h51 h52
    refine i_lv v (.inr (by walk_at "mm")) ?_ hva
    have itc : ∀ m : Int, m.natAbs ≤ 1000000000 → Chg (.int i) (.int m) := fun m h1 => ⟨.int (by simpa using h1), by simp only [Pch.sz]; omega, by simp only [PyData.depth]; omega⟩
    simp only [List.mem_cons, List.not_mem_nil, or_false] at hvm
    rcases hvm with rfl | rfl | rfl | rfl | rfl | rfl | rfl | rfl | rfl | rfl | rfl | rfl | rfl
    · exact fin (fun _ _ z => z) (by walk_at "mm") (fun _ _ => .int _) (itc _ (by omega))
    · exact fin (fun _ _ z => z) (by walk_at "mm") (fun _ _ => .int _) (itc _ (by omega))
    · exact fin (fun _ _ z => z) (by walk_at "mm") (fun _ _ => .int _) (itc _ (by omega))
    · exact fin (fun _ _ z => z) (by walk_at "mm") (fun _ _ => .int _) (itc _ (by omega))
    · exact fin (fun _ _ z => z) (by walk_at "mm") (fun _ _ => .int _) (itc _ (by omega))
    · exact fin (fun _ _ z => z) (by walk_at "mm") (fun _ _ => .int _) (itc _ (by omega))
    · exact fin (fun _ _ z => z) (by walk_at "mm") (fun _ _ => .int _) (itc _ (by omega))
    · exact fin (fun _ _ z => z) (by walk_at "mm") (fun _ _ => .int _) (itc _ (by omega))
    · exact fin (fun _ _ z => z) (by walk_at "mm") (fun _ _ => .int _) (itc _ (by omega))
    · refine fin (fun _ _ z => z) (by walk_at "mm") (fun _ _ => .str _) ⟨.str fun c hc => by have := tstr_c i c hc; omega, ?_, by simp only [PyData.depth]; omega⟩
      have := tstr_l (i := i) (by omega)
      simp only [Pch.sz]
      rw [sOf_len]
      omega
    · exact fin (fun _ _ z => z) (by walk_at "mm") (fun _ _ => .bl _) ⟨.bl rfl _, by simp only [Pch.sz]; omega, by simp only [PyData.depth]; omega⟩
    · exact fin (fun _ _ z => z) (by walk_at "mm") (fun _ _ => .non) ⟨.non rfl, by simp only [Pch.sz]; omega, by simp only [PyData.depth]; omega⟩
    · refine fin (x := .tuple [.int i]) (fun _ _ z => z) (by walk_at "mm") (fun H' s9 => ?_) ⟨.tup fun d hd => by rw [List.mem_singleton.mp hd]; exact .int (by simp only [if_true]; omega), by simp only [Pch.sz, Pch.szA]; omega, by simp only [PyData.depth, PyData.depthAll]; omega⟩
      have hnd := s9.nd
      simp only [List.map_cons, List.map_nil, List.nodup_cons, List.mem_cons, not_or] at hnd
      have hpt : pt ≠ p := by
        intro z
        simp [z] at hnd
      exact .tup (.inl (.inl (isN (fun _ _ z => z) s9 (by walk_at "mm") hpt))) (.cons (.int _) .nil)
  | @tup t xs ds ht hds =>
    have hce : ∀ d ∈ ds, Pch.Cm false d := by cases hc with | tup h => exact h
    have hl := Pch.dpa_len hds
    have hs' : Pch.szA ds + 1 ≤ 10000 := by simpa only [Pch.sz] using hs
    have hll := Pch.len_szA ds
    have htj : SqT K (Pch.jnH G (nwH H (rmH H p))) t xs := Pch.sqt_le Pch.jn_l ht
    have j0 : Pch.Jok G H (rmH H p) [(p, .lst [.int n, .int f1])] := ⟨fun b o z => Pch.rm_some (lG _ _ z), lG, fun b h1 h2 => by rwa [rm_ne (fun z => h2 (by rw [z]; exact List.mem_cons_self))] at h1⟩
    refine k_cons ?_
    refine k_if ?_
    refine t_val ?_
    refine k_callB (id := "isinstance") T.b_isinstance ?_
    refine a_cons ?_
    refine k_n 1 ?_
    refine a_cons ?_
    refine k_ty (T := "str") T.b_str ?_
    refine a_nil ?_
    refine c_isD (d := .tuple ds) (fun H' s' => dp_le (fun b o z => s'.ext _ _ (lG _ _ z)) _ _ (.tup ht hds)) (kit_str _) ?_
    refine ⟨_, rfl, ?_⟩
    refine ⟨fun z => (nomatch z), fun _ => ?_⟩
    refine k_nil ?_
    refine k_cons ?_
    refine k_if ?_
    refine t_val ?_
    refine k_callB (id := "isinstance") T.b_isinstance ?_
    refine a_cons ?_
    refine k_n 1 ?_
    refine a_cons ?_
    refine k_ty (T := "int") T.b_int ?_
    refine a_nil ?_
    refine c_isD (d := .tuple ds) (fun H' s' => dp_le (fun b o z => s'.ext _ _ (lG _ _ z)) _ _ (.tup ht hds)) (kit_int _) ?_
    refine ⟨_, rfl, ?_⟩
    refine ⟨fun z => (nomatch z), fun _ => ?_⟩
    refine k_nil ?_
    refine k_cons ?_
    refine k_set 2 ?_ sc_law_step.nd
    refine k_fn F_law_next (hr.mono (by decide)) ?_
    refine a_cons ?_
    refine k_n 0 ?_
    refine a_cons ?_
    refine k_callB (id := "max") T.b_max ?_
    refine a_cons ?_
    refine k_int ?_
    refine a_cons ?_
    refine k_callB (id := "len") T.b_len ?_
    refine a_cons ?_
    refine k_n 1 ?_
    refine a_nil ?_
    refine c_lent (.inl (Pch.sqt_le lG ht)) ?_
    refine a_nil ?_
    refine c_max2 ?_
    refine a_nil ?_
    refine use_law_next hf (.head _) (by rw [hl]; split <;> omega) fun n1 d1 h11 h12 => ⟨_, by walk_at "rep", ?_⟩; obtain ⟨at1, rfl⟩ : ∃ k : Nat, d1 = k := ⟨d1.toNat, by omega⟩
    have hat : at1 ≤ ds.length := by rw [hl] at h12; split at h12 <;> omega
    have j1 := j0.to (L' := [(p, .lst [.int n1, .int f1])]) (fun b hb => hb)
    show kSs _ _ _ _ _ _
    refine k_norm (by simp only [L2.start, N_law_step, List.map_cons, List.map_nil, List.length_cons, List.length_nil, Nat.reduceAdd, Nat.reduceSub, List.replicate_succ, List.replicate_zero, List.cons_append, List.nil_append, List.set_cons_succ, List.set_cons_zero]; exact rfl) ?_
    refine k_cons ?_
    refine k_set 3 ?_ sc_law_step.nd
    refine k_lst ?_
    refine a_cons ?_
    refine k_bin ?_
    refine k_slice ?_
    refine k_n 1 ?_
    refine p_none ?_
    refine p_some ?_
    refine k_n 2 ?_
    refine ⟨_, rfl, ?_⟩
    refine Pch.sl_tJ j1 htj fun q1 B1 l1 j2 s1 => ?_; rw [cut_to'] at s1
    refine k_slice ?_
    refine k_n 1 ?_
    refine p_some ?_
    refine k_bin ?_
    refine k_n 2 ?_
    refine k_int ?_
    walk_at "opAdd"
    refine ⟨_, rfl, ?_⟩
    refine p_none ?_
    refine Pch.sl_tJ j2 (Pch.sqt_le (Pch.jn_same l1) htj) fun q2 B2 l2 j3 s2 => ?_; rw [show ((at1 : Int) + 1) = ((at1 + 1 : Nat) : Int) from rfl, cut_from'] at s2
    refine Pch.o_cattJ j3 (Pch.sqt_le (Pch.jn_same l2) s1) s2 (by rw [List.length_take, List.length_drop]; omega) fun q3 B3 l3 j4 s3 => ?_
    refine a_cons ?_
    refine k_bin ?_
    refine k_slice ?_
    refine k_n 1 ?_
    refine p_none ?_
    refine p_some ?_
    refine k_bin ?_
    refine k_n 2 ?_
    refine k_int ?_
    walk_at "opAdd"
    refine ⟨_, rfl, ?_⟩
    refine Pch.sl_tJ j4 (Pch.sqt_le (Pch.jn_same fun b o z => l3 _ _ (l2 _ _ (l1 _ _ z))) htj) fun q4 B4 l4 j5 s4 => ?_; rw [show ((at1 : Int) + 1) = ((at1 + 1 : Nat) : Int) from rfl, cut_to'] at s4
    refine k_slice ?_
    refine k_n 1 ?_
    refine p_some ?_
    refine k_n 2 ?_
    refine ⟨_, rfl, ?_⟩
    refine p_none ?_
    refine Pch.sl_tJ j5 (Pch.sqt_le (Pch.jn_same fun b o z => l4 _ _ (l3 _ _ (l2 _ _ (l1 _ _ z)))) htj) fun q5 B5 l5 j6 s5 => ?_; rw [cut_from'] at s5
    refine Pch.o_cattJ j6 (Pch.sqt_le (Pch.jn_same l5) s4) s5 (by rw [List.length_take, List.length_drop]; omega) fun q6 B6 l6 j7 s6 => ?_
    refine a_nil ?_
    refine ⟨by simp, fun ps => ?_⟩
    have lB : Le (rmH H p) B6 := fun b o z => l6 _ _ (l5 _ _ (l4 _ _ (l3 _ _ (l2 _ _ (l1 _ _ z)))))
    have tB : Tp K B6 [] t xs := .inl (Pch.sqt_le lB (Pch.sqt_le lG ht))
    show kSs _ _ _ _ _ _
    refine k_norm (by simp only [L2.start, N_law_step, List.map_cons, List.map_nil, List.length_cons, List.length_nil, Nat.reduceAdd, Nat.reduceSub, List.replicate_succ, List.replicate_zero, List.cons_append, List.nil_append, List.set_cons_succ, List.set_cons_zero]; exact rfl) ?_
    refine k_cons ?_
    refine k_expr ?_
    refine k_m PySem.F.plainAttrs_list PySem.F.slot_list_append PySem.F.type_list_append ?_
    refine k_n 3 ?_
    refine ⟨ty_l (.inr (.head _)), ?_⟩
    refine a_cons ?_
    refine k_revt ?_
    refine k_n 1 ?_
    refine ⟨t, xs, rfl, tB.imp id fun z => (nomatch z), fun pr => ?_⟩
    refine a_nil ?_
    refine m_append (xs := [.ref q3, .ref q6]) (by walk_at "rep") ?_ (by simp)
    show kSs _ _ _ _ _ _
    refine k_one ?_
    refine k_ret ?_
    refine k_ix ?_
    refine k_bin ?_
    refine k_n 3 ?_
    refine k_lst ?_
    refine a_cons ?_
    refine k_callT (T := "list") T.b_list ?_
    refine a_cons ?_
    refine k_n 1 ?_
    refine a_nil ?_
    refine c_listt (tB.imp id fun z => (nomatch z)) fun pl => ?_
    refine a_cons ?_
    refine k_tup ?_
    refine a_cons ?_
    refine k_n 1 ?_
    refine a_nil ?_
    refine ⟨by simp, fun pt => ?_⟩
    refine a_cons ?_
    refine k_tup ?_
    refine a_nil ?_
    refine ⟨by simp, fun p0 => ?_⟩
    refine a_cons ?_
    refine k_non ?_
    refine a_nil ?_
    refine ⟨by simp, fun pe => ?_⟩
    refine o_catl (xs := [.ref q3, .ref q6, .ref pr]) (ys := [.ref pl, .ref pt, .ref p0, .non]) (.inr (by walk_at "mm")) (.inr (by walk_at "mm")) (by simp) fun pz => ?_
    refine k_fn F_law_next (hr.mono (by decide)) ?_
    refine a_cons ?_
    refine k_n 0 ?_
    refine a_cons ?_
    refine k_int ?_
    refine a_nil ?_
    refine use_law_next hf (by walk_at "mm") (by omega) fun n5 d5 h51 h52 => ⟨_, by walk_at "rep", ?_⟩; obtain ⟨v, hvm, hva⟩ := atI_mem (l := [V.ref q3, .ref q6, .ref pr, .ref pl, .ref pt, .ref p0, .non]) h51 h52
    refine i_lv v (.inr (by walk_at "mm")) ?_ hva
    have ne : ∀ {H' : Hp} {q : Addr} {o : HO} {L : HL}, Sat B6 L H' → (q, o) ∈ L → (p, HO.lst [.int n5, .int f1]) ∈ L → o ≠ .lst [.int n5, .int f1] → q ≠ p := fun {H' q o L} s9 h1 h2 h3 z => by
      have a1 := s9.own _ h1
      have a2 := s9.own _ h2
      rw [z] at a1
      rw [a1] at a2
      exact h3 (Option.some.inj a2)
    have hdj : ∀ {H' : Hp} {L : HL}, Sat B6 L H' → DpAll K (Pch.jnH G (nwH H H')) xs ds := fun {H' L} s9 => dp_leA Pch.jn_l _ _ hds
    have upj : ∀ {H' : Hp} {L : HL}, Sat B6 L H' → Le (Pch.jnH G (nwH H B6)) (Pch.jnH G (nwH H H')) := fun {H' L} s9 => Pch.jn_same s9.ext
    have szd : Pch.sz (.tuple ds) = Pch.szA ds + 1 := by simp only [Pch.sz]
    have dpd : (PyData.tuple ds).depth = PyData.depthAll ds + 1 := by simp only [PyData.depth]
    have a1 := Pch.szA_take ds at1
    have a2 := Pch.szA_drop ds (at1 + 1)
    have a3 := Pch.szA_take ds (at1 + 1)
    have a4 := Pch.szA_drop ds at1
    have hcu : ∀ d ∈ ds, Pch.Cm true d := fun d hd => (hce d hd).up
    have tpc : ∀ es : List PyData, (∀ d ∈ es, d ∈ ds) → Pch.szA es ≤ 2 * Pch.szA ds → Chg (.tuple ds) (.tuple es) := fun es h1 h2 => ⟨.tup fun d hd => hcu d (h1 d hd), by rw [szd]; simp only [Pch.sz]; omega, by
      rw [dpd]
      have := Pch.depthA_le (ds := es) (n := PyData.depthAll ds) fun d hd => Pch.depthA_mem (h1 d hd)
      simp only [PyData.depth]; omega⟩
    simp only [List.mem_cons, List.not_mem_nil, or_false] at hvm
    rcases hvm with rfl | rfl | rfl | rfl | rfl | rfl | rfl
    · refine fin (x := .tuple (ds.take at1 ++ ds.drop (at1 + 1))) lB (by walk_at "mm") (fun H' s9 => .tup (Pch.sqt_le (Pch.jn_same fun b o z => s9.ext _ _ (l6 _ _ (l5 _ _ (l4 _ _ z)))) s3) (Pch.dpa_app (Pch.dpa_take _ (hdj s9)) (Pch.dpa_drop _ (hdj s9)))) (tpc _ (fun d hd => ?_) (by rw [Pch.szA_app]; omega))
      exact (List.mem_append.mp hd).elim List.mem_of_mem_take List.mem_of_mem_drop
    · refine fin (x := .tuple (ds.take (at1 + 1) ++ ds.drop at1)) lB (by walk_at "mm") (fun H' s9 => .tup (Pch.sqt_le (Pch.jn_same s9.ext) s6) (Pch.dpa_app (Pch.dpa_take _ (hdj s9)) (Pch.dpa_drop _ (hdj s9)))) (tpc _ (fun d hd => ?_) (by rw [Pch.szA_app]; omega))
      exact (List.mem_append.mp hd).elim List.mem_of_mem_take List.mem_of_mem_drop
    · exact fin (x := .tuple ds.reverse) lB (by walk_at "mm") (fun H' s9 => .tup (.inl (.inl (isN lB s9 (by walk_at "mm") (ne (o := HO.tup xs.reverse) s9 (by walk_at "mm") (by walk_at "mm") (fun z => (nomatch z)))))) (Pch.dpa_rev (hdj s9))) (tpc _ (fun d hd => List.mem_reverse.mp hd) (by rw [Pch.szA_rev]; omega))
    · refine fin (x := .list ds) lB (by walk_at "mm") (fun H' s9 => .lst (.inl (.inl (isN lB s9 (by walk_at "mm") (fun z => ?_)))) (hdj s9)) ⟨.lst rfl hcu, by rw [szd]; simp only [Pch.sz]; omega, by rw [dpd]; simp only [PyData.depth]; omega⟩
      have hnd := s9.nd
      simp only [List.map_cons, List.map_nil, List.nodup_cons, List.mem_cons, not_or] at hnd
      simp [z] at hnd
    · exact fin (x := .tuple [.tuple ds]) lB (by walk_at "mm") (fun H' s9 => .tup (.inl (.inl (isN lB s9 (by walk_at "mm") (ne (o := HO.tup [.ref t]) s9 (by walk_at "mm") (by walk_at "mm") (fun z => (nomatch z)))))) (.cons (dp_le Pch.jn_l _ _ (.tup ht hds)) .nil)) ⟨.tup fun d hd => by rw [List.mem_singleton.mp hd]; exact .tup hcu, by rw [szd]; simp only [Pch.sz, Pch.szA]; omega, by rw [dpd]; simp only [PyData.depth, PyData.depthAll]; omega⟩
    · exact fin (x := .tuple []) lB (by walk_at "mm") (fun H' s9 => .tup (.inl (.inl (isN lB s9 (by walk_at "mm") (ne (o := HO.tup []) s9 (by walk_at "mm") (by walk_at "mm") (fun z => (nomatch z)))))) .nil) ⟨.tup fun d hd => (nomatch hd), by simp only [Pch.sz, Pch.szA]; omega, by rw [dpd]; simp only [PyData.depth, PyData.depthAll]; omega⟩
    · exact fin lB (by walk_at "mm") (fun _ _ => .non) ⟨.non rfl, by simp only [Pch.sz]; omega, by simp only [PyData.depth]; omega⟩
  | _ => cases hc <;> contradiction
abbrev N_law_spoilt : List Str := ["_law_drawn_here", "_law_thing", "_law_spots_here", "_law_way", "_law_one", "_law_k"]
theorem sc_law_spoilt : FnScope N_law_spoilt ["_law_drawn_here", "_law_thing"] (defScope s_law_spoilt) := ⟨rfl, rfl, rfl, by decide +kernel, rfl, by decide +kernel, by decide +kernel⟩
theorem ways_at {G : Hp} {xs : List V} {ws : List (List Nat)} (h : Pch.WayV G xs ws) {z : V} (hz : z ∈ xs) : ∃ p w, z = .ref p ∧ w ∈ ws ∧ G p = some (.tup (Pch.iV w)) := by
  obtain ⟨i, hi⟩ := List.mem_iff_getElem?.mp hz
  obtain ⟨p, w, e, h1, h2⟩ := h.at hi
  exact ⟨p, w, e, List.mem_of_getElem? h1, h2⟩
def Spo (d x : PyData) : Prop := Pch.Cm true x ∧ Pch.sz x ≤ 3 * Pch.sz d + 20 ∧ x.depth ≤ 2 * d.depth + 1
def sp_law_spoilt (K : PySem.W.Frag) (n : Nat) : Sp := fun vs H Q _ => ∃ (p : Addr) (m f : Int) (v : V) (d : PyData) (G : Hp), vs = [.ref p, v] ∧ H p = some (.lst [.int m, .int f]) ∧ Dr f ∧ Le G (rmH H p) ∧ Dp K G v d ∧ Pch.Cm false d ∧ Pch.sz d ≤ 10000 ∧ d.depth ≤ n ∧
  ∀ (H' : Hp) (m' : Int) (r : V) (x : PyData), (∀ b o, b ≠ p → H b = some o → H' b = some o) → H' p = some (.lst [.int m', .int f]) → Dp K (Pch.jnH G (nwH H H')) r x → Spo d x → Q r H'
theorem use_law_spoilt {B G : Hp} {L : HL} {Q : KQ} {E : XK} {p : Addr} {m f : Int} {v : V} {d : PyData} {n : Nat} (hf : Dr f) (hp : (p, HO.lst [.int m, .int f]) ∈ L) (lG : Le G B) (hd : Dp K G v d) (hc : Pch.Cm false d) (hs : Pch.sz d ≤ 10000) (hn : d.depth ≤ n)
    (q : ∀ m' r x B', Le B B' → (∀ H0, Le H0 B → Dp K (Pch.jnH G (nwH H0 B')) r x) → Spo d x → ∃ L', Rep L p (.lst [.int m, .int f]) (.lst [.int m', .int f]) L' ∧ Q r B' L') : ∀ H, Sat B L H → sp_law_spoilt K n [.ref p, v] H (up Q) E :=
  fun H s => ⟨p, m, f, v, d, G, rfl, s.own _ hp, hf, fun b o z => by
    have hb : b ≠ p := fun e => by have := s.nb _ hp; rw [← e, lG _ _ z] at this; cases this
    rw [rm_ne hb]; exact s.ext _ _ (lG _ _ z), hd, hc, hs, hn, fun H' m' r x e1 e2 hr hx => by
    obtain ⟨l, s2, nw⟩ := s.allG hp e1
    obtain ⟨L', rp, hq⟩ := q m' r x (rmK H' L) l (fun H0 l0 => dp_le (Pch.jn_mono fun b o hb => by
      obtain ⟨e3, e4⟩ := nw_some hb
      exact nw_of (new_of (fun b o z => s.ext _ _ (l0 _ _ z)) e3) (nw _ _ e3 e4)) _ _ hr) hx
    exact ⟨rmK H' L, L', s2 rp e2, hq⟩⟩
theorem ok_law_spoilt {n : Nat} {f : Addr} {fd : FuncData} (F : Fun K "_law_spoilt" "_law_spoilt" s_law_spoilt f fd) (hm : mg "_law_spoilt" = some (.ref f)) (T : Tx mg) (F_law_next : Fn P w K mg base 1 "_law_next" sp_law_next) (F_law_spots : Fn P w K mg base (n + 1) "_law_spots" (sp_law_spots K n)) (F_law_with : Fn P w K mg base (n + 1) "_law_with" (sp_law_with K n)) (F_law_step : Fn P w K mg base 2 "_law_step" (sp_law_step K)) : Fn P w K mg base (n + 3) "_law_spoilt" (sp_law_spoilt K n) := by
  refine fn_ok F sc_law_spoilt hm (fun _ _ _ _ _ _ us hl => match us, hl with | [_, _], _ => rfl) ?_ fun cdv A outer s H vs Q E hr h tk po => ?_
  · rintro vs H Q E ⟨_, _, _, _, _, _, rfl, _⟩; rfl
  obtain ⟨p, m, f1, v, d, G, rfl, hp, hf, lG, hd, hc, hs, hn, hq⟩ := h
  refine ⟨rmH H p, _, sat_rm hp, ?_⟩
  refine k_cons ?_
  refine k_set 2 ?_ sc_law_spoilt.nd
  refine k_call F_law_spots (hr.mono (by omega)) tk ?_
  refine a_cons ?_
  refine k_n 1 ?_
  refine a_nil ?_
  refine use_law_spots (d := d) (fun H' s' => dp_le (fun b o z => s'.ext _ _ (lG _ _ z)) _ _ hd) hc hs hn fun B1 a xs ws l1 hn1 hA hl1 hne => ?_
  have hn0 := hn1 (fun _ => none) emp_le
  have ha := nw_emp _ _ hn0.1
  have hw := (hn1 _ (fun _ _ z => z)).2
  have hxl : xs.length = ws.length := hw.len
  have hwl : 0 < ws.length := List.length_pos_iff.mpr hne
  show kSs _ _ _ _ _ _
  refine k_norm (by simp only [L2.start, N_law_spoilt, List.map_cons, List.map_nil, List.length_cons, List.length_nil, Nat.reduceAdd, Nat.reduceSub, List.replicate_succ, List.replicate_zero, List.cons_append, List.nil_append, List.set_cons_succ, List.set_cons_zero]; exact rfl) ?_
  refine k_cons ?_
  refine k_set 3 ?_ sc_law_spoilt.nd
  refine k_ix ?_
  refine k_n 2 ?_
  refine k_fn F_law_next (hr.mono (by omega)) ?_
  refine a_cons ?_
  refine k_n 0 ?_
  refine a_cons ?_
  refine k_callB (id := "len") T.b_len ?_
  refine a_cons ?_
  refine k_n 2 ?_
  refine a_nil ?_
  refine c_lenl (.inl (.inl (.inl ha))) ?_
  refine a_nil ?_
  refine use_law_next hf (.head _) (by omega) fun n1 d1 h11 h12 => ⟨_, by walk_at "rep", ?_⟩; obtain ⟨z0, hz0, hza⟩ := atI_mem (l := xs) h11 h12
  refine i_list (xs := xs) (.inl (.inl (.inl ha))) hza ?_
  obtain ⟨pw, wy, rfl, hwm, hpw⟩ := ways_at hw hz0
  obtain ⟨e, hA⟩ := hA wy hwm
  have hpB := nw_le _ _ hpw
  show kSs _ _ _ _ _ _
  refine k_norm (by simp only [L2.start, N_law_spoilt, List.map_cons, List.map_nil, List.length_cons, List.length_nil, Nat.reduceAdd, Nat.reduceSub, List.replicate_succ, List.replicate_zero, List.cons_append, List.nil_append, List.set_cons_succ, List.set_cons_zero]; exact rfl) ?_
  refine k_cons ?_
  refine k_set 4 ?_ sc_law_spoilt.nd
  refine k_n 1 ?_
  show kSs _ _ _ _ _ _
  refine k_norm (by simp only [L2.start, N_law_spoilt, List.map_cons, List.map_nil, List.length_cons, List.length_nil, Nat.reduceAdd, Nat.reduceSub, List.replicate_succ, List.replicate_zero, List.cons_append, List.nil_append, List.set_cons_succ, List.set_cons_zero]; exact rfl) ?_
  refine k_cons ?_
  refine k_for_t2 po ?_
  refine k_n 3 ?_
  refine ⟨pw, Pch.iV wy, fun i σ B L => ∃ z di v5, σ = [some (.ref p), some v, some (.ref a), some (.ref pw), some z, v5] ∧ B = B1 ∧ L = [(p, .lst [.int n1, .int f1])] ∧ Dp K G z di ∧ Pch.At di (wy.drop i) e ∧ Pch.Cm false di ∧ Pch.sz di ≤ Pch.sz d ∧ di.depth ≤ d.depth, rfl, .inl (.inl (.inl hpB)), ⟨v, d, none, rfl, rfl, rfl, hd, hA, hc, Nat.le_refl _, Nat.le_refl _⟩, ?_, ?_, ?_⟩
  · rintro i σ B L _ ⟨z, di, v5, rfl, rfl, rfl, _⟩
    exact .inl (.inl (.inl hpB))
  · rintro i x σ B L hx ⟨z, di, v5, rfl, rfl, rfl, hz, hAi, hci, hsi, hni⟩
    obtain ⟨k, hk, rfl⟩ : ∃ k, wy[i]? = some k ∧ x = .int (k : Nat) := by
      unfold Pch.iV at hx
      rw [List.getElem?_map] at hx
      cases h : wy[i]? with
      | none => rw [h] at hx; cases hx
      | some k => rw [h] at hx; exact ⟨k, rfl, (Option.some.inj hx).symm⟩
    have hil := (List.getElem?_eq_some_iff.mp hk).1
    rw [List.drop_eq_getElem_cons hil, (List.getElem?_eq_some_iff.mp hk).2] at hAi
    cases hAi with
    | @cons ds _ de _ _ he1 hA' =>
    cases hz with
    | @tup t ys _ ht hds =>
    have hkl := (List.getElem?_eq_some_iff.mp he1).1
    have hyl := Pch.dpa_len hds
    obtain ⟨z1, hz1⟩ : ∃ z1, ys[k]? = some z1 := ⟨ys[k]'(by omega), by simp⟩
    obtain ⟨de', he1', hz1d⟩ := Pch.dpa_at hds hz1
    rw [he1] at he1'
    cases he1'
    have hA1 : Pch.At (.tuple ds) [k] de := .cons he1 (.nil _)
    refine g_name 5 ?_ sc_law_spoilt.nd
    show kSs _ _ _ _ _ _
    refine k_norm (by simp only [L2.start, N_law_spoilt, List.map_cons, List.map_nil, List.length_cons, List.length_nil, Nat.reduceAdd, Nat.reduceSub, List.replicate_succ, List.replicate_zero, List.cons_append, List.nil_append, List.set_cons_succ, List.set_cons_zero]; exact rfl) ?_
    refine k_one ?_
    refine k_set 4 ?_ sc_law_spoilt.nd
    refine k_ix ?_
    refine k_n 4 ?_
    refine k_n 5 ?_
    refine i_tup (xs := ys) (.inl (Pch.sqt_le (fun b o z => l1 _ _ (lG _ _ z)) ht)) (v := z1) (atI_nat hz1) ?_
    exact ⟨z1, de, _, rfl, rfl, rfl, hz1d, hA', hA1.cm hci, Nat.le_trans hA1.sz hsi, Nat.le_trans hA1.dp hni⟩
  · rintro σ B L ⟨z, di, v5, rfl, rfl, rfl, hz, hAi, hci, hsi, hni⟩
    rw [List.drop_eq_nil_of_le (by unfold Pch.iV; rw [List.length_map]; exact Nat.le_refl _)] at hAi
    cases hAi
    show kSs _ _ _ _ _ _
    have pB1 : rmH H p p = none := rm_eq
    refine k_one ?_
    refine k_ret ?_
    refine k_call F_law_with (hr.mono (by omega)) tk ?_
    refine a_cons ?_
    refine k_n 1 ?_
    refine a_cons ?_
    refine k_n 3 ?_
    refine a_cons ?_
    refine k_call F_law_step (hr.mono (by omega)) tk ?_
    refine a_cons ?_
    refine k_n 0 ?_
    refine a_cons ?_
    refine k_n 4 ?_
    refine a_nil ?_
    refine use_law_step (G := G) (d := e) hf (.head _) (fun b o z => l1 _ _ (lG _ _ z)) hz hci (by omega) fun n2 rx x B2 l2 hx2 hchg => ⟨_, .here, ?_⟩
    refine a_nil ?_
    refine use_law_with (G := Pch.jnH G (nwH (rmH H p) B2)) (d := d) (e := e) (x := x) (w := wy) (Pch.jn_le (fun b o z => l2 _ _ (l1 _ _ (lG _ _ z))) nw_le) (dp_le Pch.jn_l _ _ hd) (Pch.jn_new lG _ _ (nw_mono l2 _ _ hpw)) (hx2 _ l1) hA hs (by have := hA.len; omega) fun B3 r l3 hr3 => ?_
    have hr4 := hr3 B2 fun _ _ z => z
    intro H' s9
    have l03 : Le (rmH H p) B3 := fun b o z => l3 _ _ (l2 _ _ (l1 _ _ z))
    have hp3 : B3 p = none := s9.nb (p, .lst [.int n2, .int f1]) (.head _)
    obtain ⟨c1, c2, c3⟩ := Pch.put_ok hA hc.up hchg.1
    refine hq H' n2 r _ (fun b o hne e => s9.ext b o (l03 _ _ (by rw [rm_ne hne]; exact e))) (s9.own _ (.head _)) (dp_le (fun b o z => ?_) _ _ hr4) ⟨c1, by have := hchg.2.1; have := hA.sz; omega, by have := hchg.2.2; omega⟩
    unfold Pch.jnH at z ⊢
    have toH : ∀ {B' : Hp}, B' p = none → Le B' H' → ∀ b o, rmH H p b = none → B' b = some o → nwH H H' b = some o := fun {B'} n l b o h1 h2 => by
      have hb : b ≠ p := fun w => by rw [w, n] at h2; cases h2
      rw [rm_ne hb] at h1
      exact nw_of h1 (l _ _ h2)
    cases eg : G b with
    | some u => rw [eg] at z; exact z
    | none =>
      rw [eg] at z
      cases en : nwH (rmH H p) B2 b with
      | some u =>
        rw [en] at z
        cases z
        obtain ⟨q1, q2⟩ := nw_some en
        exact toH hp3 s9.ext b _ q1 (l3 _ _ q2)
      | none =>
        rw [en] at z
        obtain ⟨q1, q2⟩ := nw_some z
        exact toH hp3 s9.ext b _ (new_of (fun b o z => l2 _ _ (l1 _ _ z)) q1) q2
/-- an error of the j-th of the eight classes -/
structure ErrIs (K : PySem.W.Frag) (mg : Str → Option Value) (D : Addr) (j : Nat) : Prop where
  c : ExcC K D
  i0 : ∃ C, mg "NoWord" = some (.ref C) ∧ PySem.W.kitOne K (.ref D) (.ref C) = some (decide (0 = j))
  i1 : ∃ C, mg "NoWeb" = some (.ref C) ∧ PySem.W.kitOne K (.ref D) (.ref C) = some (decide (1 = j))
  i2 : ∃ C, mg "NoPlace" = some (.ref C) ∧ PySem.W.kitOne K (.ref D) (.ref C) = some (decide (2 = j))
  i3 : ∃ C, mg "NoRow" = some (.ref C) ∧ PySem.W.kitOne K (.ref D) (.ref C) = some (decide (3 = j))
  i4 : ∃ C, mg "NoSending" = some (.ref C) ∧ PySem.W.kitOne K (.ref D) (.ref C) = some (decide (4 = j))
  i5 : ∃ C, mg "NoClub" = some (.ref C) ∧ PySem.W.kitOne K (.ref D) (.ref C) = some (decide (5 = j))
  i6 : ∃ C, mg "TooMany" = some (.ref C) ∧ PySem.W.kitOne K (.ref D) (.ref C) = some (decide (6 = j))
  i7 : ∃ C, mg "NoText" = some (.ref C) ∧ PySem.W.kitOne K (.ref D) (.ref C) = some (decide (7 = j))
  w : ∃ C, mg "WordError" = some (.ref C) ∧ PySem.W.exmOne K (.ref D) (.ref C) = some true
def kdL : List (List Nat) := [[119, 111, 114, 100], [119, 101, 98], [112, 108, 97, 99, 101], [114, 111, 119], [115, 101, 110, 100, 105, 110, 103], [99, 108, 117, 98], [109, 97, 110, 121], [116, 101, 120, 116]]
def kdN (j : Nat) : List Nat := kdL[j]?.getD []
def blL (j : Nat) : List V := [.bl (decide (0 = j)), .bl (decide (1 = j)), .bl (decide (2 = j)), .bl (decide (3 = j)), .bl (decide (4 = j)), .bl (decide (5 = j)), .bl (decide (6 = j)), .bl (decide (7 = j))]
theorem blL_at (j : Nat) : ∀ m : Nat, m < 8 → (blL j)[m]? = some (.bl (decide (m = j)))
  | 0, _ => rfl | 1, _ => rfl | 2, _ => rfl | 3, _ => rfl | 4, _ => rfl | 5, _ => rfl | 6, _ => rfl | 7, _ => rfl
  | n + 8, h => absurd h (by omega)
abbrev N_law_word_of : List Str := ["_law_error", "_law_kinds", "_law_some"]
theorem sc_law_word_of : FnScope N_law_word_of ["_law_error"] (defScope s_law_word_of) := ⟨rfl, rfl, rfl, by decide +kernel, rfl, by decide +kernel, by decide +kernel⟩
def sp_law_word_of (K : PySem.W.Frag) (mg : Str → Option Value) : Sp := fun vs H Q _ => ∃ a D j, vs = [.ref a] ∧ H a = some (ErO (.ref D) none a) ∧ ErrIs K mg D j ∧ j < 8 ∧ ∀ H', (∀ b o, H b = some o → H' b = some o) → Q (.str (sOf (kdN j))) H'
theorem use_law_word_of {B : Hp} {L : HL} {Q : KQ} {E : XK} {a D : Addr} {j : Nat} (h : At B L a (ErO (.ref D) none a)) (e : ErrIs K mg D j) (hj : j < 8) (q : Q (.str (sOf (kdN j))) B L) : ∀ H, Sat B L H → sp_law_word_of K mg [.ref a] H (up Q) E := fun H s => ⟨a, D, j, rfl, h.at s, e, hj, fun H' e => s.upq e q⟩
theorem ok_law_word_of {f : Addr} {fd : FuncData} (F : Fun K "_law_word_of" "_law_word_of" s_law_word_of f fd) (hm : mg "_law_word_of" = some (.ref f)) (T : Tx mg) : FnWn P w K mg base 1 "_law_word_of" (sp_law_word_of K mg) := by
  refine ⟨f, fd, ["_law_error"], fn_okW F sc_law_word_of ?_ fun cdv A outer s H vs Q E hr h => ?_, hm, F.kp, F.binds (ps := ["_law_error"]) fun _ _ _ _ _ _ us hl => match us, hl with | [_], _ => rfl⟩
  · rintro vs H Q E ⟨_, _, _, rfl, _⟩; rfl
  obtain ⟨a, D, j, rfl, ha, he, hj, hq⟩ := h
  obtain ⟨C0, g0, k0⟩ := he.i0
  obtain ⟨C1, g1, k1⟩ := he.i1
  obtain ⟨C2, g2, k2⟩ := he.i2
  obtain ⟨C3, g3, k3⟩ := he.i3
  obtain ⟨C4, g4, k4⟩ := he.i4
  obtain ⟨C5, g5, k5⟩ := he.i5
  obtain ⟨C6, g6, k6⟩ := he.i6
  obtain ⟨C7, g7, k7⟩ := he.i7
  have hj8 : j = 0 ∨ j = 1 ∨ j = 2 ∨ j = 3 ∨ j = 4 ∨ j = 5 ∨ j = 6 ∨ j = 7 := by omega
  refine ⟨H, [], Sat.whole, ?_⟩
  refine k_cons ?_
  refine k_set 1 ?_ sc_law_word_of.nd
  refine k_lst ?_
  refine a_cons ?_
  refine k_callB (id := "isinstance") T.b_isinstance ?_
  refine a_cons ?_
  refine k_n 0 ?_
  refine a_cons ?_
  refine k_cls g0 ?_
  refine a_nil ?_
  refine c_isErr he.c (.own _) (.inl ha) k0 ?_
  refine a_cons ?_
  refine k_callB (id := "isinstance") T.b_isinstance ?_
  refine a_cons ?_
  refine k_n 0 ?_
  refine a_cons ?_
  refine k_cls g1 ?_
  refine a_nil ?_
  refine c_isErr he.c (.own _) (.inl ha) k1 ?_
  refine a_cons ?_
  refine k_callB (id := "isinstance") T.b_isinstance ?_
  refine a_cons ?_
  refine k_n 0 ?_
  refine a_cons ?_
  refine k_cls g2 ?_
  refine a_nil ?_
  refine c_isErr he.c (.own _) (.inl ha) k2 ?_
  refine a_nil ?_
  refine ⟨by first | decide | simp, fun p => ?_⟩
  show kSs _ _ _ _ _ _
  refine k_norm (by simp only [L2.start, N_law_word_of, List.map_cons, List.map_nil, List.length_cons, List.length_nil, Nat.reduceAdd, Nat.reduceSub, List.replicate_succ, List.replicate_zero, List.cons_append, List.nil_append, List.set_cons_succ, List.set_cons_zero]; exact rfl) ?_
  refine k_cons ?_
  refine k_set 1 ?_ sc_law_word_of.nd
  refine k_bin ?_
  refine k_n 1 ?_
  refine k_lst ?_
  refine a_cons ?_
  refine k_callB (id := "isinstance") T.b_isinstance ?_
  refine a_cons ?_
  refine k_n 0 ?_
  refine a_cons ?_
  refine k_cls g3 ?_
  refine a_nil ?_
  refine c_isErr he.c (.own _) (.inl ha) k3 ?_
  refine a_cons ?_
  refine k_callB (id := "isinstance") T.b_isinstance ?_
  refine a_cons ?_
  refine k_n 0 ?_
  refine a_cons ?_
  refine k_cls g4 ?_
  refine a_nil ?_
  refine c_isErr he.c (.own _) (.inl ha) k4 ?_
  refine a_nil ?_
  refine ⟨by simp, fun p2 => ?_⟩
  refine o_catl (.inr (by walk_at "mm")) (.inr (by walk_at "mm")) (by simp) fun pm => ?_
  show kSs _ _ _ _ _ _
  refine k_norm (by simp only [L2.start, N_law_word_of, List.map_cons, List.map_nil, List.length_cons, List.length_nil, Nat.reduceAdd, Nat.reduceSub, List.replicate_succ, List.replicate_zero, List.cons_append, List.nil_append, List.set_cons_succ, List.set_cons_zero]; exact rfl) ?_
  refine k_cons ?_
  refine k_set 1 ?_ sc_law_word_of.nd
  refine k_bin ?_
  refine k_n 1 ?_
  refine k_lst ?_
  refine a_cons ?_
  refine k_callB (id := "isinstance") T.b_isinstance ?_
  refine a_cons ?_
  refine k_n 0 ?_
  refine a_cons ?_
  refine k_cls g5 ?_
  refine a_nil ?_
  refine c_isErr he.c (.own _) (.inl ha) k5 ?_
  refine a_cons ?_
  refine k_callB (id := "isinstance") T.b_isinstance ?_
  refine a_cons ?_
  refine k_n 0 ?_
  refine a_cons ?_
  refine k_cls g6 ?_
  refine a_nil ?_
  refine c_isErr he.c (.own _) (.inl ha) k6 ?_
  refine a_cons ?_
  refine k_callB (id := "isinstance") T.b_isinstance ?_
  refine a_cons ?_
  refine k_n 0 ?_
  refine a_cons ?_
  refine k_cls g7 ?_
  refine a_nil ?_
  refine c_isErr he.c (.own _) (.inl ha) k7 ?_
  refine a_nil ?_
  refine ⟨by simp, fun p3 => ?_⟩
  refine o_catl (.inr (by walk_at "mm")) (.inr (by walk_at "mm")) (by simp) fun pk => ?_
  show kSs _ _ _ _ _ _
  refine k_norm (by simp only [L2.start, N_law_word_of, List.map_cons, List.map_nil, List.length_cons, List.length_nil, Nat.reduceAdd, Nat.reduceSub, List.replicate_succ, List.replicate_zero, List.cons_append, List.nil_append, List.set_cons_succ, List.set_cons_zero]; exact rfl) ?_
  refine k_sub (L' := [(pk, .lst (blL j))]) (.cons_cons _ (List.nil_sublist _)) ?_
  refine k_cons ?_
  refine k_set 2 ?_ sc_law_word_of.nd
  refine k_lst ?_
  refine a_cons ?_
  refine k_s [119, 111, 114, 100] ?_
  refine a_cons ?_
  refine k_s [119, 101, 98] ?_
  refine a_cons ?_
  refine k_s [112, 108, 97, 99, 101] ?_
  refine a_cons ?_
  refine k_s [114, 111, 119] ?_
  refine a_cons ?_
  refine k_s [115, 101, 110, 100, 105, 110, 103] ?_
  refine a_cons ?_
  refine k_s [99, 108, 117, 98] ?_
  refine a_cons ?_
  refine k_s [109, 97, 110, 121] ?_
  refine a_cons ?_
  refine k_s [116, 101, 120, 116] ?_
  refine a_nil ?_
  refine ⟨by simp, fun p4 => ?_⟩
  show kSs _ _ _ _ _ _
  refine k_norm (by simp only [L2.start, N_law_word_of, List.map_cons, List.map_nil, List.length_cons, List.length_nil, Nat.reduceAdd, Nat.reduceSub, List.replicate_succ, List.replicate_zero, List.cons_append, List.nil_append, List.set_cons_succ, List.set_cons_zero]; exact rfl) ?_
  refine k_one ?_
  refine k_ret ?_
  refine k_ife ?_
  refine t_pure (v := true) ?_ ⟨fun _ => ?_, fun z => (nomatch z)⟩
  · skip
    refine t_cmp ?_
    refine k_m PySem.F.plainAttrs_list PySem.F.slot_list_count PySem.F.type_list_count ?_
    refine k_n 1 ?_
    refine ⟨ty_l (xs := blL j) (.inr (.tail _ (.head _))), ?_⟩
    refine a_cons ?_
    refine k_bl ?_
    refine a_nil ?_
    refine m_lcount (ys := blL j) (.inr (.tail _ (.head _))) rfl rfl ?_
    refine k_int ?_
    walk_at "opEq"
    refine ⟨_, rfl, ?_⟩
    refine ⟨?_, rfl, by walk_at "sfx"⟩
    rcases hj8 with rfl | rfl | rfl | rfl | rfl | rfl | rfl | rfl <;> rfl
  refine k_ix ?_
  refine k_n 2 ?_
  refine k_m PySem.F.plainAttrs_list PySem.F.slot_list_index PySem.F.type_list_index ?_
  refine k_n 1 ?_
  refine ⟨ty_l (xs := blL j) (.inr (.tail _ (.head _))), ?_⟩
  refine a_cons ?_
  refine k_bl ?_
  refine a_nil ?_
  refine m_lindex (ys := blL j) (z := .bl true) j (.inr (.tail _ (.head _))) rfl rfl ?_ rfl ?_ ?_
  skip
  · rw [blL_at j j hj, decide_eq_true rfl]
  · intro m z' hm hz
    rw [blL_at j m (by omega)] at hz
    cases hz
    rw [decide_eq_false (by omega)]; rfl
  · refine i_lv (.str (sOf (kdN j))) (.inr (.head _)) ?_ ?_
    · exact fun H' s => hq H' s.ext
    · rcases hj8 with rfl | rfl | rfl | rfl | rfl | rfl | rfl | rfl <;> rfl
/-! ### told -/
def rfs (j : Nat) : List Nat := [114, 101, 102, 117, 115, 101, 100, 32] ++ kdN j
def ERw (K : PySem.W.Frag) (mg : Str → Option Value) : Addr → List Nat → Prop := fun D l => ∃ j, j < 8 ∧ ErrIs K mg D j ∧ l = rfs j
abbrev N_law_told : List Str := ["_law_work", "_law_found", "_law_error"]
theorem sc_law_told : FnScope N_law_told ["_law_work"] (defScope s_law_told) := ⟨rfl, rfl, rfl, by decide +kernel, rfl, by decide +kernel, by decide +kernel⟩
open LamX in
theorem ok_law_told {f CW : Addr} {fd : FuncData} (F : Fun K "_law_told" "_law_told" s_law_told f fd) (hm : mg "_law_told" = some (.ref f)) (gW : mg "WordError" = some (.ref CW)) (F_law_word_of : FnWn P w K mg base 1 "_law_word_of" (sp_law_word_of K mg)) : Told P w K mg base 8 "_law_told" (ERw K mg) := by
  obtain ⟨oc, od, kV, doc, pm, an, cdv, ct, osl, rfl, lk, hcd⟩ := F.ex
  refine ⟨f, "_law_work", defArgs s_law_told, defBody s_law_told, defScope s_law_told, .none, kV, doc, pm, cdv, ct, oc, an, od, osl, N_law_told, hm, F.kp, lk, hcd, F.binds (ps := ["_law_work"]) (fun _ _ _ _ _ _ us hl => match us, hl with | [_], _ => rfl), sc_law_told, rfl, .inl rfl, by decide, by decide, fun X e1 e2 e3 e4 e5 hr q => ?_⟩
  subst e1 e2 e3 e4 e5
  intro g c' s H Q tl act hc htl
  have hr2 : Room 9 (X.A.deeper (envOfC "_law_told" (defScope s_law_told) s.heap.objs.size f cdv)) := hr.deeper _
  have hrW : L2H.RoomH 1 (X.A.deeper (envOfC "_law_told" (defScope s_law_told) s.heap.objs.size f cdv)) := ⟨by have := hr2.dp; omega, by have := hr2.un; omega⟩
  have key : kSs (cxOf C8.CX0 X.prog X.w X.K X.mg X.base N_law_told "_law_told" (defScope s_law_told) f cdv X.A X.stack s H C8.E0).nox (defBody s_law_told) (L2.start N_law_told [.ref g]) H [] (fD Q) := by
    refine k_cons ?_
    refine k_set 1 ?_ sc_law_told.nd
    refine k_non ?_
    show kSs _ _ _ _ _ _
    refine k_norm (by simp only [L2.start, N_law_told, List.map_cons, List.map_nil, List.length_cons, List.length_nil, Nat.reduceAdd, Nat.reduceSub, List.replicate_succ, List.replicate_zero, List.cons_append, List.nil_append, List.set_cons_succ, List.set_cons_zero]; exact rfl) ?_
    refine k_cons ?_
    refine k_try_trk 2 L2.takes0 ⟨rfl, rfl, .inl gW⟩ sc_law_told.nd ?_
    intro qs xe tk2 po2
    refine k_one ?_
    refine k_set 1 ?_ sc_law_told.nd
    refine ⟨_, act _ qs xe (EL (ERw X.K X.mg) Q) _ _ (takes_len tk2) ?_, fun H1 s1 => ⟨rfl, s1.ext _ _ hc, htl.2 H1 s1.ext _ fun v H' hv => ⟨H', [], Sat.whole, ?_⟩⟩⟩
    · rintro cls d σ' H' ⟨rfl, D, l, rfl, ⟨j, hj, hE, rfl⟩, hq⟩ hlen
      obtain ⟨v1, v2, v3, rfl⟩ : ∃ v1 v2 v3, σ' = [v1, v2, v3] := by
        match σ', hlen with
        | [v1, v2, v3], _ => exact ⟨v1, v2, v3, rfl⟩
      obtain ⟨C, hC, hx⟩ := hE.w
      obtain rfl : C = CW := by rw [gW] at hC; cases hC; rfl
      refine w_trk hx Sat.whole fun e qs2 => ?_
      show kSs _ _ _ _ _ _
      refine k_one ?_
      refine k_set 1 ?_ sc_law_told.nd
      refine k_bin ?_
      refine k_s [114, 101, 102, 117, 115, 101, 100, 32] ?_
      refine k_fnWn F_law_word_of ⟨hrW.dp, hrW.un⟩ ?_
      refine a_cons ?_
      refine k_n 2 ?_
      refine a_nil ?_
      refine use_law_word_of (.inr (.head _)) hE hj ?_
      refine o_adds ?_ ((show ∀ j, j < 8 → ([114, 101, 102, 117, 115, 101, 100, 32] : List Nat).length + (kdN j).length ≤ 16777216 by decide) j hj)
      show kSs _ _ _ _ _ _
      refine k_one ?_
      refine k_ret ?_
      refine k_n 1 ?_
      exact fun H2 s2 => hq H2 s2.ext
    · show kSs _ _ _ _ _ _
      refine k_one ?_
      refine k_ret ?_
      refine k_n 1 ?_
      exact fun H2 s2 => htl.1 v H' H2 s2.ext hv
  obtain ⟨t, h1, h2⟩ := key
  refine ⟨_, pss_c, H, [], fD Q, Sat.whole, ⟨t, h1, h2⟩, ?_, ?_, ?_, ?_⟩
  · rintro σ' H' ⟨B', L', s', q⟩
    exact q H' s'
  · rintro v H' ⟨B', L', s', q⟩
    exact q H' s'
  · rintro σ' H' ⟨B', L', s', q⟩
    exact q.elim
  · rintro σ' H' ⟨B', L', s', q⟩
    exact q.elim
/-! ### words that fit -/
theorem lw_ord {c : Nat} (h : c ∈ ordL) : (c ∈ ltL → PyProof.Rows.lo1 c = c) ∧ (c ∉ ltL → PyProof.Rows.lo1 c = bk c) := (show ∀ c ∈ ordL, (c ∈ ltL → PyProof.Rows.lo1 c = c) ∧ (c ∉ ltL → PyProof.Rows.lo1 c = bk c) by decide) c h
theorem lw_take {c n : Nat} (h : c ∈ ordL) : PyProof.Rows.lo1 c ∈ ltL.take n ↔ (c ∈ ltL.take n ∨ bk c ∈ ltL.take n) := by
  by_cases hc : c ∈ ltL
  · rw [(lw_ord h).1 hc]
    exact ⟨.inl, fun z => z.elim id fun z => absurd (List.mem_of_mem_take z) (lt_bk hc)⟩
  · rw [(lw_ord h).2 hc]
    exact ⟨.inr, fun z => z.elim (fun z => absurd (List.mem_of_mem_take z) hc) id⟩
theorem low_c {l : List Nat} (h : Let l) : (∀ c ∈ l, c < 128) ∧ ∀ c ∈ l.map PyProof.Rows.lo1, c < 128 := ⟨fun c hc => (show ∀ c ∈ ordL, c < 128 by decide) c (h c hc), fun c hc => by
  obtain ⟨d, hd, rfl⟩ := List.mem_map.mp hc
  exact (show ∀ c ∈ ordL, PyProof.Rows.lo1 c < 128 by decide) d (h d hd)⟩
abbrev N_law_fits : List Str := ["_law_one", "_law_many", "_law_letter"]
theorem sc_law_fits : FnScope N_law_fits ["_law_one", "_law_many"] (defScope s_law_fits) := ⟨rfl, rfl, rfl, by decide +kernel, rfl, by decide +kernel, by decide +kernel⟩
def sp_law_fits (K : PySem.W.Frag) : Sp := fun vs H Q _ => ∃ v d n, vs = [v, .int (n : Nat)] ∧ Dp K H v d ∧ Pch.Cm true d ∧ Pch.sz d ≤ 900 ∧ ∀ H', (∀ b o, H b = some o → H' b = some o) → Q (.bl (wdD n d)) H'
theorem use_law_fits {B : Hp} {L : HL} {Q : KQ} {E : XK} {v : V} {d : PyData} {n : Nat} (h : ∀ H, Sat B L H → Dp K H v d) (hc : Pch.Cm true d) (hs : Pch.sz d ≤ 900) (q : Q (.bl (wdD n d)) B L) : ∀ H, Sat B L H → sp_law_fits K [v, .int (n : Nat)] H (up Q) E := fun H s => ⟨v, d, n, rfl, h H s, hc, hs, fun H' e => s.upq e q⟩
theorem ok_law_fits {f : Addr} {fd : FuncData} (F : Fun K "_law_fits" "_law_fits" s_law_fits f fd) (hm : mg "_law_fits" = some (.ref f)) (T : Tx mg) (F_law_is_word : Fn P w K mg base 3 "_law_is_word" (sp_law_is_word K)) : Fn P w K mg base 4 "_law_fits" (sp_law_fits K) := by
  refine fn_ok F sc_law_fits hm (fun _ _ _ _ _ _ us hl => match us, hl with | [_, _], _ => rfl) ?_ fun cdv A outer s H vs Q E hr h tk po => ?_
  · rintro vs H Q E ⟨_, _, _, rfl, _⟩; rfl
  obtain ⟨v, d, n, rfl, hd, hc, hs, hq⟩ := h
  refine ⟨H, [], Sat.whole, ?_⟩
  by_cases h2 : isStr d = true
  · obtain ⟨l, rfl, rfl, hl1, hl2⟩ : ∃ l, v = .str (sOf l) ∧ d = .str (sOf l) ∧ l.length ≤ 900 ∧ ∀ c ∈ l, c < 128 := by
      cases hd with
      | str s =>
        cases hc with
        | @str l h =>
          refine ⟨l, rfl, rfl, ?_, h⟩
          simp only [Pch.sz] at hs
          rw [sOf_len] at hs
          omega
      | _ => cases h2
    have ew : wdD n (.str (sOf l)) = (isW l && hasL n l) := by show (isW (sOf l).cps.toList && hasL n (sOf l).cps.toList) = _; rw [cps_sOf]
    refine k_cons ?_
    refine k_if ?_
    refine t_not ?_
    refine t_val ?_
    refine k_fn F_law_is_word (hr.mono (by decide)) ?_
    refine a_cons ?_
    refine k_n 0 ?_
    refine a_nil ?_
    refine use_law_is_word ⟨by omega, hl2⟩ ?_
    refine ⟨_, rfl, ?_⟩
    refine ⟨fun hk => ?_, fun hk => ?_⟩
    · have hk : isW l = false := by simpa using hk
      refine k_one ?_
      refine k_ret ?_
      refine k_bl ?_
      rw [show false = wdD n (.str (sOf l)) by rw [ew, hk]; rfl]
      exact fun H' s => hq H' s.ext
    · have hk : isW l = true := by simpa using hk
      have hlt := ((isW_iff l).mp hk).2.1
      refine k_nil ?_
      generalize hm9 : l.map PyProof.Rows.lo1 = m
      have hmc := (low_c hlt).2
      rw [hm9] at hmc
      have hml : m.length = l.length := by rw [← hm9, List.length_map]
      refine k_one ?_
      refine k_ret ?_
      refine k_cmp ?_
      refine k_le (k_lcvf_s (j := 2) (fun i acc B' L' => B' = H ∧ L' = [] ∧ acc = (((m.take i).filter fun c => !decide (c ∈ ltL.take n)).map fun c => [c]).map fun l => V.str (sOf l)) sc_law_fits.nd (blkOk_by (N := N_law_fits) (sc := defScope s_law_fits) (by decide +kernel)) ?_)
      refine k_slower ?_
      refine k_n 0 ?_
      refine ⟨l, rfl, ?_⟩
      skip
      refine m_lower (y := sOf m) (by rw [← hm9]; exact SX.lower_S (List.all_eq_true.mpr fun c h => decide_eq_true (hl2 c h))) ?_ (by rw [sOf_len]; omega)
      refine ⟨m, rfl, ⟨rfl, rfl, rfl⟩, ?_, ?_⟩
      · rintro i acc B L c hi ⟨rfl, rfl, rfl⟩
        refine ⟨by rw [List.length_map, List.length_map]; have h1 := List.length_filter_le (fun c => !decide (c ∈ ltL.take n)) (m.take i); rw [List.length_take] at h1; omega, fun D sb Hb Cb clb fpb => ?_⟩
        have htk : m.take (i + 1) = m.take i ++ [c] := by rw [List.take_add_one, hi]; rfl
        refine t_cmp ?_
        refine k_n 2 ?_
        refine k_slice ?_
        refine k_s ltL ?_
        refine p_none ?_
        refine p_some ?_
        refine k_n 1 ?_
        refine ⟨_, rfl, ?_⟩
        refine sl_s ?_ (by decide); rw [cut_to]
        refine o_nins ?_
        refine ⟨_, rfl, ?_⟩
        refine ⟨fun hk sb Hb Cb clb fpb => ?_, fun hk => ⟨_, rfl, rfl, rfl, ?_⟩⟩
        · skip
          refine k_n 2 ?_
          refine ⟨_, rfl, rfl, rfl, ?_⟩
          rw [htk, List.filter_append, List.filter_cons, hk, List.map_append, List.map_append]
          rfl
        · rw [htk, List.filter_append, List.filter_cons, hk, List.map_append, List.map_append]
          simp
      rintro acc B L D ⟨rfl, rfl, rfl⟩
      rw [List.take_length]
      refine k_lst ?_
      refine a_nil ?_
      refine ⟨by simp, fun pe => ?_⟩
      refine o_eqss (a := (m.filter fun c => !decide (c ∈ ltL.take n)).map fun c => [c]) (b := []) hr.units (.inr (.tail _ (.head _))) (.inr (.head _)) ?_ (fun y hy x hx => by obtain ⟨c, hcm, rfl⟩ := List.mem_map.mp hy; rw [List.mem_singleton.mp hx]; have := hmc c (List.mem_filter.mp hcm).1; omega) (fun _ z => (nomatch z))
      have e : decide (((m.filter fun c => !decide (c ∈ ltL.take n)).map fun c => [c]) = []) = hasL n l := by
        rw [Bool.eq_iff_iff, decide_eq_true_iff, List.map_eq_nil_iff, List.filter_eq_nil_iff]
        unfold hasL
        rw [List.all_eq_true, ← hm9]
        constructor
        · intro h c hc
          have h9 := h _ (List.mem_map.mpr ⟨c, hc, rfl⟩)
          have h8 : PyProof.Rows.lo1 c ∈ ltL.take n := by simpa using h9
          rw [lw_take (hlt c hc)] at h8
          simpa using h8
        · intro h c hc
          obtain ⟨x, hx, rfl⟩ := List.mem_map.mp hc
          have h9 := h x hx
          have h8 : PyProof.Rows.lo1 x ∈ ltL.take n := (lw_take (hlt x hx)).mpr (by simpa using h9)
          simpa using h8
      rw [e, show hasL n l = wdD n (.str (sOf l)) by rw [ew, hk]; rfl]
      exact fun H' s => hq H' s.ext
  · have ew : wdD n d = false := by cases d <;> first | rfl | (exact absurd rfl h2)
    refine k_cons ?_
    refine k_if ?_
    refine t_not ?_
    refine t_val ?_
    refine k_fn F_law_is_word (hr.mono (by decide)) ?_
    refine a_cons ?_
    refine k_n 0 ?_
    refine a_nil ?_
    refine use_law_is_wordN (fun H' s' => (ntx_d hd (by simpa using h2)).le s'.ext) ?_
    refine ⟨_, rfl, ?_⟩
    refine ⟨fun _ => ?_, fun hk => (nomatch hk)⟩
    refine k_one ?_
    refine k_ret ?_
    refine k_bl ?_
    rw [← ew]
    exact fun H' s => hq H' s.ext
abbrev N_law_is_sending : List Str := ["_law_into", "_law_words", "_law_one"]
theorem sc_law_is_sending : FnScope N_law_is_sending ["_law_into", "_law_words"] (defScope s_law_is_sending) := ⟨rfl, rfl, rfl, by decide +kernel, rfl, by decide +kernel, by decide +kernel⟩
theorem eqv_nil2 (xs : List PyData) : PyData.eqv (.list xs) (.list []) = xs.isEmpty := by cases xs <;> rfl
theorem cm_sub {ds es : List PyData} (h : ∀ d ∈ ds, Pch.Cm true d) (hs : List.Sublist es ds) : Pch.Cm true (.list es) := .lst rfl fun d hd => h d (hs.subset hd)
def sp_law_is_sending (K : PySem.W.Frag) : Sp := fun vs H Q _ => ∃ vm vr dm dr, vs = [vm, vr] ∧ Dp K H vm dm ∧ Dp K H vr dr ∧ Pch.Cm true dr ∧ Pch.sz dr ≤ 900 ∧ dr.depth ≤ 40 ∧ ∀ H' b, (b = true ↔ ∃ m ws, FineS dm dr m ws) → (∀ b o, H b = some o → H' b = some o) → Q (.bl b) H'
theorem use_law_is_sending {B : Hp} {L : HL} {Q : KQ} {E : XK} {vm vr : V} {dm dr : PyData} (hm : ∀ H, Sat B L H → Dp K H vm dm) (hr : ∀ H, Sat B L H → Dp K H vr dr) (hc : Pch.Cm true dr) (hs : Pch.sz dr ≤ 900) (hd : dr.depth ≤ 40) (q : ∀ b, (b = true ↔ ∃ m ws, FineS dm dr m ws) → Q (.bl b) B L) : ∀ H, Sat B L H → sp_law_is_sending K [vm, vr] H (up Q) E :=
  fun H s => ⟨vm, vr, dm, dr, rfl, hm H s, hr H s, hc, hs, hd, fun H' b hb e => s.upq e (q b hb)⟩
theorem ok_law_is_sending {f : Addr} {fd : FuncData} (F : Fun K "_law_is_sending" "_law_is_sending" s_law_is_sending f fd) (hm : mg "_law_is_sending" = some (.ref f)) (T : Tx mg) (F_law_is_number : Fn P w K mg base 1 "_law_is_number" (sp_law_is_number K)) (F_law_fits : Fn P w K mg base 4 "_law_fits" (sp_law_fits K)) : Fn P w K mg base 5 "_law_is_sending" (sp_law_is_sending K) := by
  refine fn_ok F sc_law_is_sending hm (fun _ _ _ _ _ _ us hl => match us, hl with | [_, _], _ => rfl) ?_ fun cdv A outer s H vs Q E hr h tk po => ?_
  · rintro vs H Q E ⟨_, _, _, _, rfl, _⟩; rfl
  obtain ⟨vm, vr, dm, dr, rfl, hdm, hdr, hc, hs, hdd, hq⟩ := h
  have no : (¬ ∃ m ws, FineS dm dr m ws) → ∀ {B : Hp} {L : HL}, Le H B → ∀ H', Sat B L H' → Q (.bl false) H' := fun h {B L} l H' s => hq H' false ⟨fun z => (nomatch z), fun z => absurd z h⟩ fun b o e => s.ext _ _ (l _ _ e)
  refine ⟨H, [], Sat.whole, ?_⟩
  by_cases w1 : numB dm 1 6 = true ∧ isList dr = true
  · obtain ⟨w1, w2⟩ := w1
    obtain ⟨m, rfl, rfl, m1⟩ : ∃ m : Nat, vm = .int (m : Nat) ∧ dm = .int (m : Nat) ∧ 1 ≤ m ∧ m ≤ 6 := by
      cases hdm with
      | int i =>
        simp [numB] at w1
        exact ⟨i.toNat, by rw [Int.toNat_of_nonneg (by omega)], by rw [Int.toNat_of_nonneg (by omega)], by omega, by omega⟩
      | _ => cases w1
    obtain ⟨a, xs, ds, rfl, rfl, ha, hxs⟩ : ∃ a xs ds, vr = .ref a ∧ dr = .list ds ∧ SqL K H a xs ∧ DpAll K H xs ds := by
      cases hdr with
      | lst h1 h2 => exact ⟨_, _, _, rfl, rfl, h1, h2⟩
      | _ => cases w2
    have hce : ∀ d ∈ ds, Pch.Cm true d := by cases hc with | lst _ h => exact h
    have hxl := Pch.dpa_len hxs
    have hll := Pch.len_szA ds
    have hs' : Pch.szA ds + 1 ≤ 900 := by simpa only [Pch.sz] using hs
    have nof : (¬ (1 ≤ ds.length ∧ ds.length ≤ 6)) ∨ (∃ d ∈ ds, wdD m d = false) → ¬ ∃ m' ws, FineS (.int (m : Nat)) (.list ds) m' ws := fun h ⟨m', ws, hf⟩ => by
      have e1 := hf.em
      injection e1 with e1
      have e1 : m = m' := by omega
      subst e1
      have e2 := hf.er
      injection e2 with e2
      subst e2
      rcases h with h | ⟨d, hd, hb⟩
      · exact h ⟨by rw [List.length_map]; exact hf.g.w1, by rw [List.length_map]; exact hf.g.w6⟩
      · obtain ⟨l, hl, rfl⟩ := List.mem_map.mp hd
        have := hf.g.ok l hl
        have hb : (isW (sOf l).cps.toList && hasL m (sOf l).cps.toList) = false := hb
        rw [cps_sOf, this.1, this.2] at hb
        cases hb
    refine k_cons ?_
    refine k_if ?_
    refine t_w ?_
    refine w_orP ?_
    refine t_not ?_
    refine t_val ?_
    refine k_fn F_law_is_number (hr.mono (by decide)) ?_
    refine a_cons ?_
    refine k_n 0 ?_
    refine a_cons ?_
    refine k_int ?_
    refine a_cons ?_
    refine k_int ?_
    refine a_nil ?_
    refine use_law_is_number (d := .int (m : Nat)) (fun H' s' => .int _) ?_
    refine ⟨_, rfl, ?_⟩
    apply Exists.intro; refine ⟨fun hk => ?_, ?_⟩
    {
    refine w_orP ?_
    refine t_not ?_
    refine t_val ?_
    refine k_callB (id := "isinstance") T.b_isinstance ?_
    refine a_cons ?_
    refine k_n 1 ?_
    refine a_cons ?_
    refine k_ty (T := "list") T.b_list ?_
    refine a_nil ?_
    refine c_isL (k := true) (.inl ha) ?_
    refine ⟨_, rfl, ?_⟩
    apply Exists.intro; refine ⟨fun hk => ?_, ?_⟩
    {
    refine w_or1 ?_
    refine t_not ?_
    refine t_chainP ?_
    refine k_int ?_
    refine k_callB (id := "len") T.b_len ?_
    refine a_cons ?_
    refine k_n 1 ?_
    refine a_nil ?_
    refine c_lenl (.inl ha) ?_
    walk_at "opLtE"
    refine ⟨_, rfl, ?_⟩; apply Exists.intro; refine ⟨fun hk => ?_, ?_⟩
    {
    refine k_int ?_
    walk_at "opLtE"
    exact ⟨rfl, rfl, by walk_at "sfx"⟩
    all_goals (try walk_at "side")
    }
    exact ⟨rfl, rfl, by walk_at "sfx"⟩
    all_goals (try walk_at "side")
    }
    exact ⟨rfl, rfl, by walk_at "sfx"⟩
    all_goals (try walk_at "side")
    }
    refine ⟨fun hk => ?_, fun hk => ?_⟩
    · skip
      refine k_one ?_
      refine k_ret ?_
      refine k_bl ?_
      refine no (nof (.inl fun h9 => ?_)) fun _ _ z => z
      simp [numB] at hk
      omega
    · have hlen : 1 ≤ ds.length ∧ ds.length ≤ 6 := by
        simp [numB] at hk
        omega
      refine k_nil ?_
      refine k_one ?_
      refine k_ret ?_
      refine k_cmp ?_
      refine k_le (k_lcvf_l (j := 2) sc_law_is_sending.nd (blkOk_by (N := N_law_is_sending) (sc := defScope s_law_is_sending) (by decide +kernel)) ?_)
      refine k_n 1 ?_
      refine ⟨a, xs, fun i acc B' L' => B' = H ∧ L' = [] ∧ DpAll K H acc ((ds.take i).filter fun d => !wdD m d), rfl, by omega, ⟨rfl, rfl, .nil⟩, ?_, ?_, ?_⟩
      · rintro i acc B' L' ⟨rfl, rfl, h⟩
        refine ⟨.inl ha, ?_⟩
        have h1 := Pch.dpa_len h
        have h2 := List.length_filter_le (fun d => !wdD m d) (ds.take i)
        rw [List.length_take] at h2
        omega
      · rintro i acc B' L' z hz ⟨rfl, rfl, h⟩ D sb Hb Cb clb fpb
        obtain ⟨d, hd1, hdz⟩ := Pch.dpa_at hxs hz
        have hdm := List.mem_of_getElem? hd1
        have hszd := Pch.szA_mem hdm
        have htk : ds.take (i + 1) = ds.take i ++ [d] := by rw [List.take_add_one, hd1]; rfl
        refine t_not ?_
        refine t_val ?_
        refine k_fn F_law_fits (hr.mono (by decide)) ?_
        refine a_cons ?_
        refine k_n 2 ?_
        refine a_cons ?_
        refine k_n 0 ?_
        refine a_nil ?_
        refine use_law_fits (fun H' s' => dp_le s'.ext _ _ hdz) (hce d hdm) (by omega) ?_
        refine ⟨_, rfl, ?_⟩
        refine ⟨fun hk sb Hb Cb clb fpb => ?_, fun hk => ⟨_, rfl, rfl, rfl, ?_⟩⟩
        · skip
          refine k_n 2 ?_
          refine ⟨_, rfl, rfl, rfl, ?_⟩
          rw [htk, List.filter_append, List.filter_cons, hk]
          exact dpa_snoc hdz h
        · rw [htk, List.filter_append, List.filter_cons, hk]
          simpa using h
      rintro acc B L D ⟨rfl, rfl, h⟩
      rw [hxl, List.take_length] at h
      refine k_lst ?_
      refine a_nil ?_
      refine ⟨by simp, fun pe => ?_⟩
      refine o_eqD hr.units (d := .list (ds.filter fun d => !wdD m d)) (e := .list []) (fun H' s' => .lst (.inl (.inl (s'.own _ (.tail _ List.mem_cons_self)))) (dp_leA s'.ext _ _ h)) (fun H' s' => .lst (.inl (.inl (s'.own _ List.mem_cons_self))) .nil) ?_ (Pch.shaped_of (cm_sub hce List.filter_sublist) ?_) rfl
      · rw [eqv_nil2]
        refine fun H' s => hq H' _ ?_ s.ext
        rw [List.isEmpty_iff, List.filter_eq_nil_iff]
        constructor
        · intro h9
          obtain ⟨ws, rfl, hw⟩ := words_of (m := m) (ds := ds) fun d hd => by simpa using h9 d hd
          rw [List.length_map] at hlen
          exact ⟨m, ws, rfl, rfl, ⟨m1.1, m1.2, hlen.1, hlen.2, hw⟩⟩
        · intro h9 d hd hb
          exact nof (.inr ⟨d, hd, by simpa using hb⟩) h9
      · have h9 : (PyData.list ds).depth ≤ 40 := hdd
        simp only [PyData.depth] at h9 ⊢
        have : PyData.depthAll (ds.filter fun d => !wdD m d) ≤ 40 := Pch.depthA_le fun d hd => by
          have := Pch.depthA_mem (List.mem_filter.mp hd).1
          omega
        omega
  · refine k_cons ?_
    refine k_if ?_
    refine t_w ?_
    refine w_or ?_
    refine t_not ?_
    refine t_val ?_
    refine k_fn F_law_is_number (hr.mono (by decide)) ?_
    refine a_cons ?_
    refine k_n 0 ?_
    refine a_cons ?_
    refine k_int ?_
    refine a_cons ?_
    refine k_int ?_
    refine a_nil ?_
    refine use_law_is_number (d := dm) (fun H' s' => dp_le s'.ext _ _ hdm) ?_
    refine ⟨_, rfl, ?_⟩
    have nof : ¬ ∃ m ws, FineS dm dr m ws := fun ⟨m, ws, hf⟩ => w1 ⟨by rw [hf.em]; have := hf.g.m1; have := hf.g.m6; simp [numB]; omega, by rw [hf.er]; rfl⟩
    refine ⟨fun hk => ?_, fun _ => ⟨fun _ => ?_, fun z => (nomatch z)⟩⟩
    · refine w_or ?_
      refine t_not ?_
      refine t_val ?_
      refine k_callB (id := "isinstance") T.b_isinstance ?_
      refine a_cons ?_
      refine k_n 1 ?_
      refine a_cons ?_
      refine k_ty (T := "list") T.b_list ?_
      refine a_nil ?_
      refine c_isD (d := dr) (fun H' s' => dp_le s'.ext _ _ hdr) (kit_list dr) ?_
      refine ⟨_, rfl, ?_⟩
      refine ⟨fun hk2 => absurd ⟨by simpa using hk, by simpa using hk2⟩ w1, fun _ => ⟨fun _ => ?_, fun z => (nomatch z)⟩⟩
      refine k_one ?_
      refine k_ret ?_
      refine k_bl ?_
      exact no nof fun _ _ z => z
    · skip
      refine k_one ?_
      refine k_ret ?_
      refine k_bl ?_
      exact no nof fun _ _ z => z
abbrev N_law_sent : List Str := ["_law_words", "_law_one", "_law_letters", "_law_letter", "_law_some", "_law_sign"]
theorem sc_law_sent : FnScope N_law_sent ["_law_words", "_law_one"] (defScope s_law_sent) := ⟨rfl, rfl, rfl, by decide +kernel, rfl, by decide +kernel, by decide +kernel⟩
/-- what a word is sent to, or the refusal -/
def sntD (ws : List (List Nat)) : PyData → List Nat
  | .str s => if wdD ws.length (.str s) then snt ws s.cps.toList else rfs 0
  | _ => rfs 0
theorem sntD_no {ws : List (List Nat)} {d : PyData} (h : wdD ws.length d = false) : sntD ws d = rfs 0 := by
  cases d with
  | str s => show (if wdD ws.length (.str s) then snt ws s.cps.toList else rfs 0) = _; rw [h]; rfl
  | _ => rfl
theorem sntD_yes {ws : List (List Nat)} {l : List Nat} (h : wdD ws.length (.str (sOf l)) = true) : sntD ws (.str (sOf l)) = snt ws l := by
  show (if wdD ws.length (.str (sOf l)) then snt ws (sOf l).cps.toList else rfs 0) = _
  rw [if_pos h, cps_sOf]
def sp_law_sent (K : PySem.W.Frag) : Sp := fun vs H Q _ => ∃ p ws v d m, vs = [.ref p, v] ∧ SqL K H p (ws.map tS) ∧ Gd m ws ∧ Dp K H v d ∧ Pch.Cm true d ∧ Pch.sz d ≤ 900 ∧ ∀ H', (∀ b o, H b = some o → H' b = some o) → Q (.str (sOf (sntD ws d))) H'
theorem use_law_sent {B : Hp} {L : HL} {Q : KQ} {E : XK} {p : Addr} {v : V} {d : PyData} {ws : List (List Nat)} {m : Nat} (hp : ∀ H, Sat B L H → SqL K H p (ws.map tS)) (g : Gd m ws) (h : ∀ H, Sat B L H → Dp K H v d) (hc : Pch.Cm true d) (hs : Pch.sz d ≤ 900) (q : Q (.str (sOf (sntD ws d))) B L) : ∀ H, Sat B L H → sp_law_sent K [.ref p, v] H (up Q) E := fun H s => ⟨p, ws, v, d, m, rfl, hp H s, g, h H s, hc, hs, fun H' e => s.upq e q⟩
theorem lo_S {c : Nat} (h : c ∈ ordL) : Txt.lower (sOf [c]) = sOf [PyProof.Rows.lo1 c] := SX.lower_S (a := [c]) (List.all_eq_true.mpr fun x hx => by rw [List.mem_singleton.mp hx]; exact decide_eq_true ((show ∀ c ∈ ordL, c < 128 by decide) c h))
theorem up_mem {c : Nat} (h : c ∈ ordL) : c ∈ [65, 66, 67, 68, 69, 70] ↔ c ∉ ltL := (show ∀ c ∈ ordL, c ∈ [65, 66, 67, 68, 69, 70] ↔ c ∉ ltL by decide) c h
theorem i_lget {X : Cx} {B : Hp} {L : HL} {Q : KQ} {t : Addr} {ws : List (List Nat)} {n : Nat} (h : Ls X.K B L t (ws.map tS)) (hn : n < ws.length) (q : Q (tS (ws.getD n [])) B L) : kI X (.ref t) (.int (n : Nat)) B L Q := by
  refine i_lv _ h q ?_
  rw [atI_n, List.getElem?_map, List.getD_eq_getElem?_getD, List.getElem?_eq_getElem hn]; rfl
theorem ok_law_sent {f : Addr} {fd : FuncData} (F : Fun K "_law_sent" "_law_sent" s_law_sent f fd) (hm : mg "_law_sent" = some (.ref f)) (T : Tx mg) (F_law_fits : Fn P w K mg base 4 "_law_fits" (sp_law_fits K)) (F_law_back_of : Fn P w K mg base 1 "_law_back_of" sp_law_back_of) (F_law_free : Fn P w K mg base 2 "_law_free" sp_law_free) : Fn P w K mg base 5 "_law_sent" (sp_law_sent K) := by
  refine fn_ok F sc_law_sent hm (fun _ _ _ _ _ _ us hl => match us, hl with | [_, _], _ => rfl) ?_ fun cdv A outer s H vs Q E hr h tk po => ?_
  · rintro vs H Q E ⟨_, _, _, _, _, rfl, _⟩; rfl
  obtain ⟨p, ws, v, d, m, rfl, hp, g, hd, hc, hs, hq⟩ := h
  refine ⟨H, [], Sat.whole, ?_⟩
  refine k_cons ?_
  refine k_if ?_
  refine t_not ?_
  refine t_val ?_
  refine k_fn F_law_fits (hr.mono (by decide)) ?_
  refine a_cons ?_
  refine k_n 1 ?_
  refine a_cons ?_
  refine k_callB (id := "len") T.b_len ?_
  refine a_cons ?_
  refine k_n 0 ?_
  refine a_nil ?_
  refine c_lenl (.inl hp) ?_; rw [List.length_map]
  refine a_nil ?_
  refine use_law_fits (fun H' s' => dp_le s'.ext _ _ hd) hc hs ?_
  refine ⟨_, rfl, ?_⟩
  refine ⟨fun hk => ?_, fun hk => ?_⟩
  · skip
    refine k_one ?_
    refine k_ret ?_
    refine k_s [114, 101, 102, 117, 115, 101, 100, 32, 119, 111, 114, 100] ?_
    rw [show ([114, 101, 102, 117, 115, 101, 100, 32, 119, 111, 114, 100] : List Nat) = rfs 0 from rfl, ← sntD_no (ws := ws) (d := d) (by simpa using hk)]
    exact fun H' s => hq H' s.ext
  · have hk : wdD ws.length d = true := by simpa using hk
    obtain ⟨l, rfl, rfl⟩ : ∃ l, v = .str (sOf l) ∧ d = .str (sOf l) := by
      cases hd with
      | str s => exact ⟨s.cps.toList, by rw [sOf_cps], by rw [sOf_cps]⟩
      | _ => cases hk
    have hk2 : (isW (sOf l).cps.toList && hasL ws.length (sOf l).cps.toList) = true := hk
    rw [cps_sOf, Bool.and_eq_true] at hk2
    obtain ⟨hw, hl⟩ := hk2
    have hw := (isW_iff l).mp hw
    have hin : ∀ c ∈ l, InL ws c := fun c hc => inL_of hl hc
    have hraw := snt_raw g.gw hin
    refine k_nil ?_
    refine k_cons ?_
    refine k_set 2 ?_ sc_law_sent.nd
    refine k_s [] ?_
    refine k_cons ?_
    refine k_for_s (fun i σ B L => ∃ v3 v4 v5, σ = [some (.ref p), some (.str (sOf l)), some (.str (sOf ((l.take i).map (img ws)).flatten)), v3, v4, v5] ∧ B = H ∧ L = []) po ?_
    refine k_n 1 ?_
    refine ⟨l, rfl, ⟨_, _, _, rfl, rfl, rfl⟩, ?_, ?_⟩
    · rintro i c σ B L hi ⟨v3, v4, v5, rfl, rfl, rfl⟩
      have hcm := List.mem_of_getElem? hi
      have hc : c ∈ ordL := hw.2.1 c hcm
      have hic := hin c hcm
      have hi60 := (img_ok g.gw hic)
      have hlt : (if c ∈ ltL then ltL.idxOf c else ltL.idxOf (bk c)) < ws.length ∧ PyProof.Rows.lo1 c ∈ ltL ∧ ltL.idxOf (PyProof.Rows.lo1 c) = (if c ∈ ltL then ltL.idxOf c else ltL.idxOf (bk c)) := by
        by_cases hcl : c ∈ ltL
        · rw [if_pos hcl, (lw_ord hc).1 hcl]
          rcases hic with h | h
          · exact ⟨h.2, hcl, rfl⟩
          · exact absurd h.1 (lt_bk hcl)
        · rw [if_neg hcl, (lw_ord hc).2 hcl]
          rcases hic with h | h
          · exact absurd h.1 hcl
          · exact ⟨h.2, h.1, rfl⟩
      have hflen : (((l.take i).map (img ws)).flatten).length ≤ 3600 := by
        have h9 := (snt_raw g.gw (l := l.take i) fun x hx => hin x (List.mem_of_mem_take hx)).2
        rw [List.length_take] at h9
        have := hw.1
        omega
      have hgm := g.let_ (getD_mem hlt.1)
      have hstep : ((l.take (i + 1)).map (img ws)).flatten = ((l.take i).map (img ws)).flatten ++ img ws c := by
        rw [List.take_add_one, hi, List.map_append, List.flatten_append]
        simp
      refine g_name 3 ?_ sc_law_sent.nd
      show kSs _ _ _ _ _ _
      refine k_norm (by simp only [L2.start, N_law_sent, List.map_cons, List.map_nil, List.length_cons, List.length_nil, Nat.reduceAdd, Nat.reduceSub, List.replicate_succ, List.replicate_zero, List.cons_append, List.nil_append, List.set_cons_succ, List.set_cons_zero]; exact rfl) ?_
      refine k_cons ?_
      refine k_set 4 ?_ sc_law_sent.nd
      refine k_ix ?_
      refine k_n 0 ?_
      refine k_sindex ?_ (name := "")
      refine k_s ltL ?_
      refine ⟨_, rfl, ?_⟩
      refine a_cons ?_
      refine k_slower ?_
      refine k_n 3 ?_
      refine ⟨[c], rfl, ?_⟩
      skip
      refine m_lower (lo_S hc) ?_ (by rw [sOf_len]; simp)
      refine a_nil ?_
      refine m_index (lt_ix hlt.2.1) ?_
      rw [hlt.2.2]; refine i_lget (.inl hp) hlt.1 ?_
      show kSs _ _ _ _ _ _
      refine k_norm (by simp only [L2.start, N_law_sent, List.map_cons, List.map_nil, List.length_cons, List.length_nil, Nat.reduceAdd, Nat.reduceSub, List.replicate_succ, List.replicate_zero, List.cons_append, List.nil_append, List.set_cons_succ, List.set_cons_zero]; exact rfl) ?_
      refine k_cut (fun σ' B' L' => ∃ v5', σ' = [some (.ref p), some (.str (sOf l)), some (.str (sOf ((l.take i).map (img ws)).flatten)), some (.str (sOf [c])), some (.str (sOf (img ws c))), v5'] ∧ B' = B ∧ L' = []) ?_ ?_
      · refine k_if ?_
        refine t_cmp ?_
        refine k_n 3 ?_
        refine k_s [65, 66, 67, 68, 69, 70] ?_
        refine o_ins ?_
        refine ⟨_, rfl, ?_⟩
        refine ⟨fun hk9 => ?_, fun hk9 => ?_⟩
        · have hcl : c ∉ ltL := (up_mem hc).mp (by simpa using hk9)
          rw [if_neg hcl] at hgm
          have e9 : img ws c = inv (ws.getD (ltL.idxOf (bk c)) []) := by unfold img; rw [if_neg hcl]
          rw [if_neg hcl]
          generalize ws.getD (ltL.idxOf (bk c)) [] = z at hgm e9 ⊢
          refine k_cons ?_
          refine k_set 4 ?_ sc_law_sent.nd
          refine k_join ?_
          refine k_s [] ?_
          refine ⟨_, rfl, ?_⟩
          skip
          refine k_le (k_lcm_s (j := 5) (fun c => .str (sOf [bk c])) sc_law_sent.nd (blkOk_by (N := N_law_sent) (sc := defScope s_law_sent) (by decide +kernel)) ?_)
          refine k_revs ?_
          refine k_n 4 ?_
          refine ⟨z, rfl, by omega, ?_⟩
          refine ⟨z.reverse, rfl, by rw [List.length_reverse]; omega, fun c hc D acc sb Hb Cb clb fpb => ?_, fun D => ?_⟩
          ·
            refine k_fn F_law_back_of (hr.mono (by decide)) ?_
            refine a_cons ?_
            refine k_n 5 ?_
            refine a_nil ?_
            refine use_law_back_of (hgm.1 c (List.mem_reverse.mp hc)) ?_
            exact ⟨rfl, rfl, rfl⟩
          skip
          refine m_join0 (ls := (inv z).map fun c => [c]) ?_ ?_ ?_
          · rw [← map_one]
            have e : z.reverse.map (fun c => V.str (sOf [bk c])) = (inv z).map one := by unfold inv; rw [← List.map_reverse, List.map_map]; rfl
            rw [← e]; exact Or.inr (List.Mem.head _)
          · rw [flat_one, ← e9]
            show kSs _ _ _ _ _ _
            refine k_sub (L' := []) (List.nil_sublist _) ?_
            refine k_nil ?_
            exact ⟨_, rfl, rfl, rfl⟩
          · rw [flat_one, inv_len]; omega
        · refine k_nil ?_
          have hcl : c ∈ ltL := Classical.byContradiction fun h9 => absurd ((up_mem hc).mpr h9) (of_decide_eq_false hk9)
          have e9 : img ws c = ws.getD (ltL.idxOf c) [] := by unfold img; rw [if_pos hcl]
          rw [if_pos hcl, ← e9]
          exact ⟨_, rfl, rfl, rfl⟩
      rintro σ' B' L' ⟨v5', rfl, rfl, rfl⟩
      refine k_one ?_
      refine k_set 2 ?_ sc_law_sent.nd
      refine k_bin ?_
      refine k_n 2 ?_
      refine k_n 4 ?_
      refine o_adds ?_ (by omega)
      exact ⟨_, _, _, by rw [hstep]; rfl, rfl, rfl⟩
    · rintro σ B L ⟨v3, v4, v5, rfl, rfl, rfl⟩
      rw [List.take_length]
      refine k_one ?_
      refine k_ret ?_
      refine k_fn F_law_free (hr.mono (by decide)) ?_
      refine a_cons ?_
      refine k_n 2 ?_
      refine a_nil ?_
      refine use_law_free ?_ ⟨hraw.1, by have := hraw.2; have := hw.1; omega⟩
      rw [show red (l.map (img ws)).flatten = snt ws l from rfl, ← sntD_yes hk]
      exact fun H' s => hq H' s.ext
abbrev N_law_drawn : List Str := ["_law_drawn_here", "_law_into", "_law_size", "_law_letters", "_law_k"]
theorem sc_law_drawn : FnScope N_law_drawn ["_law_drawn_here", "_law_into", "_law_size"] (defScope s_law_drawn) := ⟨rfl, rfl, rfl, by decide +kernel, rfl, by decide +kernel, by decide +kernel⟩
theorem lts_ok {m : Nat} (h : m < 7) : ∀ c ∈ ltL.take m ++ [65, 66, 67, 68, 69, 70].take m, c ∈ ordL ∧ (c ∈ ltL.take m ∨ bk c ∈ ltL.take m) := (show ∀ m < 7, ∀ c ∈ ltL.take m ++ [65, 66, 67, 68, 69, 70].take m, c ∈ ordL ∧ (c ∈ ltL.take m ∨ bk c ∈ ltL.take m) by decide) m h
theorem lts_has {m : Nat} (h : m < 7) {l : List Nat} (hl : ∀ c ∈ l, c ∈ ltL.take m ++ [65, 66, 67, 68, 69, 70].take m) : hasL m l = true := by
  unfold hasL
  rw [List.all_eq_true]
  intro c hc
  rw [Bool.or_eq_true, decide_eq_true_iff, decide_eq_true_iff]
  exact (lts_ok h c (hl c hc)).2
theorem lts_w {m : Nat} (h : 1 ≤ m ∧ m ≤ 6) : 7 ≤ 1000 ∧ Let (ltL.take m ++ [65, 66, 67, 68, 69, 70].take m) ∧ ltL.take m ++ [65, 66, 67, 68, 69, 70].take m ≠ [] ∧ (ltL.take m ++ [65, 66, 67, 68, 69, 70].take m).length ≤ 1000 :=
  ⟨by decide, fun c hc => (lts_ok (m := m) (by omega) c hc).1, fun e => by have := congrArg List.length e; rw [List.length_append, List.length_take, List.length_take] at this; simp [ltL] at this; omega, by rw [List.length_append, List.length_take, List.length_take]; simp [ltL]; omega⟩
/-- short good words -/
def Wds (m : Nat) (ws : List (List Nat)) : Prop := ∀ l ∈ ws, isW l = true ∧ hasL m l = true ∧ l.length ≤ 7
theorem Wds.gd {m : Nat} {ws : List (List Nat)} (h : Wds m ws) (hm : 1 ≤ m ∧ m ≤ 6) (hw : 1 ≤ ws.length ∧ ws.length ≤ 6) : Gd m ws := ⟨hm.1, hm.2, hw.1, hw.2, fun l hl => ⟨(h l hl).1, (h l hl).2.1⟩⟩
def sp_law_drawn : Sp := fun vs H Q _ => ∃ (p : Addr) (n f : Int) (m k : Nat), vs = [.ref p, .int (m : Nat), .int (k : Nat)] ∧ H p = some (.lst [.int n, .int f]) ∧ Dr f ∧ (1 ≤ m ∧ m ≤ 6) ∧ (1 ≤ k ∧ k ≤ 6) ∧
  ∀ (H' : Hp) (n' : Int) (t : Addr) (ws : List (List Nat)), (∀ b o, b ≠ p → H b = some o → H' b = some o) → H' p = some (.lst [.int n', .int f]) → H t = none → H' t = some (.tup (ws.map tS)) → Wds m ws → ws.length = k → Q (.ref t) H'
theorem use_law_drawn {B : Hp} {L : HL} {Q : KQ} {E : XK} {p : Addr} {n f : Int} {m k : Nat} (hf : Dr f) (hp : (p, HO.lst [.int n, .int f]) ∈ L) (hm : 1 ≤ m ∧ m ≤ 6) (hk : 1 ≤ k ∧ k ≤ 6)
    (q : ∀ n' t ws B', Le B B' → B' t = some (.tup (ws.map tS)) → Wds m ws → ws.length = k → ∃ L', Rep L p (.lst [.int n, .int f]) (.lst [.int n', .int f]) L' ∧ Q (.ref t) B' L') : ∀ H, Sat B L H → sp_law_drawn [.ref p, .int (m : Nat), .int (k : Nat)] H (up Q) E :=
  fun H s => ⟨p, n, f, m, k, rfl, s.own _ hp, hf, hm, hk, fun H' n' t ws e1 e2 ht1 ht2 h1 h2 => by
    obtain ⟨l, s2, nw⟩ := s.allG hp e1
    obtain ⟨L', rp, hq⟩ := q n' t ws (rmK H' L) l (nw _ _ ht1 ht2) h1 h2
    exact ⟨rmK H' L, L', s2 rp e2, hq⟩⟩
theorem ok_law_drawn {f : Addr} {fd : FuncData} (F : Fun K "_law_drawn" "_law_drawn" s_law_drawn f fd) (hm : mg "_law_drawn" = some (.ref f)) (T : Tx mg) (F_law_word : Fn P w K mg base 3 "_law_word" sp_law_word) : Fn P w K mg base 4 "_law_drawn" sp_law_drawn := by
  refine fn_ok F sc_law_drawn hm (fun _ _ _ _ _ _ us hl => match us, hl with | [_, _, _], _ => rfl) ?_ fun cdv A outer s H vs Q E hr h tk po => ?_
  · rintro vs H Q E ⟨_, _, _, _, _, rfl, _⟩; rfl
  obtain ⟨p, n, f1, m, k, rfl, hp, hf, hm6, hk6, hq⟩ := h
  refine ⟨rmH H p, _, sat_rm hp, ?_⟩
  refine k_cons ?_
  refine k_set 3 ?_ sc_law_drawn.nd
  refine k_bin ?_
  refine k_slice ?_
  refine k_s ltL ?_
  refine p_none ?_
  refine p_some ?_
  refine k_n 1 ?_
  refine ⟨_, rfl, ?_⟩
  refine sl_s ?_ (by decide); rw [cut_to]
  refine k_slice ?_
  refine k_s [65, 66, 67, 68, 69, 70] ?_
  refine p_none ?_
  refine p_some ?_
  refine k_n 1 ?_
  refine ⟨_, rfl, ?_⟩
  refine sl_s ?_ (by decide); rw [cut_to]
  refine o_adds ?_ (by rw [List.length_take, List.length_take]; simp [ltL]; omega)
  show kSs _ _ _ _ _ _
  refine k_norm (by simp only [L2.start, N_law_drawn, List.map_cons, List.map_nil, List.length_cons, List.length_nil, Nat.reduceAdd, Nat.reduceSub, List.replicate_succ, List.replicate_zero, List.cons_append, List.nil_append, List.set_cons_succ, List.set_cons_zero]; exact rfl) ?_
  refine k_one ?_
  refine k_ret ?_
  refine k_callT (T := "tuple") T.b_tuple ?_
  refine a_cons ?_
  refine k_le (k_lcv_r1 (j := 4) (fun i acc B' L' => ∃ n' ws, B' = rmH H p ∧ L' = [(p, .lst [.int n', .int f1])] ∧ acc = ws.map tS ∧ ws.length = i ∧ Wds m ws) sc_law_drawn.nd (blkOk_by (N := N_law_drawn) (sc := defScope s_law_drawn) (by decide +kernel)) T.b_range ?_)
  refine k_n 2 ?_
  refine ⟨k, rfl, by omega, ⟨n, [], rfl, rfl, rfl, rfl, fun _ z => (nomatch z)⟩, ?_, fun acc B5 L5 D hP => ?_⟩
  · rintro i acc B5 L5 hi ⟨n', ws, rfl, rfl, rfl, hwl, hws⟩
    refine ⟨by rw [List.length_map]; exact hwl, fun D sb Hb Cb clb fpb => ?_⟩
    refine k_fn F_law_word (hr.mono (by decide)) ?_
    refine a_cons ?_
    refine k_n 0 ?_
    refine a_cons ?_
    refine k_int ?_
    refine a_cons ?_
    refine k_n 3 ?_
    refine a_nil ?_
    refine use_law_word (m := 7) hf (by walk_at "mm") (lts_w hm6) fun n2 l h1 h2 h3 h4 => ⟨_, by walk_at "rep", ?_⟩
    refine ⟨_, rfl, n2, ws ++ [l], rfl, rfl, by rw [List.map_append]; rfl, by rw [List.length_append, hwl]; rfl, fun x hx => ?_⟩
    rcases List.mem_append.mp hx with hx | hx
    · exact hws x hx
    · rw [List.mem_singleton.mp hx]
      exact ⟨(isW_iff l).mpr ⟨by omega, h1, h2⟩, lts_has (by omega) h4, h3⟩
  refine a_nil ?_; obtain ⟨n', ws, rfl, rfl, rfl, hwl, hws⟩ := hP
  refine c_tupl (.inr (.head _)) fun pt => ?_
  intro H' s
  have hpt := s.own (pt, .tup (ws.map tS)) (.head _)
  have hpn := s.nb (pt, .tup (ws.map tS)) (.head _)
  have hp2 := s.own (p, .lst [.int n', .int f1]) (by walk_at "mm")
  have ne : pt ≠ p := fun z => by rw [z] at hpt; rw [hpt] at hp2; cases hp2
  refine hq H' n' pt ws (fun b o hne e => s.ext b o (by rw [rm_ne hne]; exact e)) hp2 (by have : rmH H p pt = none := hpn; rwa [rm_ne ne] at this) hpt hws hwl
def rwb : List Nat := rfs 1
theorem el_of {B : Hp} {L : HL} {Q : KQ} {CW : Addr} {j : Nat} (e : ErrIs K mg CW j) (hj : j < 8) (q : Q (.str (sOf (rfs j))) B L) : ∀ H, Sat B L H → EL (ERw K mg) (up Q) (.ref CW) none H := fun H s => ⟨rfl, CW, rfs j, rfl, ⟨j, hj, e, rfl⟩, fun H'' k => s.upq k q⟩
abbrev qR : Str := (("_law_right" : Str) ++ ".<locals>.") ++ "<lambda>"
abbrev qT : Str := (("_law_then_right" : Str) ++ ".<locals>.") ++ "<lambda>"
theorem Snd.noT {C : Addr} {B : Hp} {x : Addr} {m : Nat} {ws : List (List Nat)} (h : Snd C B x m ws) : Snd C (noTb B) x m ws := by
  obtain ⟨dx, t, h1, h2⟩ := h
  exact ⟨dx, t, noTb_of h1 fun _ z => (nomatch z), noTb_of h2 fun _ z => (nomatch z)⟩
/-- what a sending sent on tells -/
def ThO (C : Addr) (m g : Nat) (ws zs : List (List Nat)) (B : Hp) (v : V) : Prop :=
  (zs.length ≠ m ∧ v = .str (sOf (rfs 4))) ∨ (zs.length = m ∧ (∃ l ∈ ws, 60 < (snt zs l).length) ∧ v = .str (sOf (rfs 6))) ∨
  (zs.length = m ∧ (∀ l ∈ ws, (snt zs l).length ≤ 60) ∧ ∃ z, v = .ref z ∧ Snd C B z g (sntW zs ws))
theorem ThO.noT {C : Addr} {m g : Nat} {ws zs : List (List Nat)} {B : Hp} {v : V} (h : ThO C m g ws zs B v) : ThO C m g ws zs (noTb B) v := h.imp id (Or.imp id fun ⟨h1, h2, z, h3, h4⟩ => ⟨h1, h2, z, h3, h4.noT⟩)
abbrev N_law_then_right : List Str := ["_law_drawn_here", "_law_one", "_law_into", "_law_words", "_law_size", "_law_goal", "_law_rivals", "_law_odd", "_law_told_here", "_law_due", "_law_some"]
theorem sc_law_then_right : FnScope N_law_then_right ["_law_drawn_here", "_law_one", "_law_into", "_law_words"] (defScope s_law_then_right) := ⟨rfl, rfl, rfl, by decide +kernel, rfl, by decide +kernel, by decide +kernel⟩
def nF (v : V) : V := match v with | .str s => .int (s.cps.toList.length : Nat) | v => v
theorem map_nF (zs : List (List Nat)) : (zs.map tS).map nF = (zs.map fun l => (l.length : Int)).map V.int := by
  rw [List.map_map, List.map_map]
  apply List.map_congr_left
  intro l _
  simp [nF, tS, sOf]
def sp_law_then_right (K : PySem.W.Frag) (P1 P0 C : Addr) : Sp := fun vs H Q _ => ∃ (pd : Addr) (n f : Int) (x pr : Addr) (m : Nat) (ws : List (List Nat)), vs = [.ref pd, .ref x, .int (m : Nat), .ref pr] ∧ H pd = some (.lst [.int n, .int f]) ∧ Dr f ∧ LamX.Tabs [(P1, qT), (P0, qR)] H ∧ Snd C (rmH (noTb H) pd) x m ws ∧ SqL K (rmH (noTb H) pd) pr (ws.map tS) ∧ Gd m ws ∧
  ∀ H' n', (∀ b o, b ≠ pd → (∀ ps, o ≠ .tbl ps) → H b = some o → H' b = some o) → H' pd = some (.lst [.int n', .int f]) → LamX.Tabs [(P1, qT), (P0, qR)] H' → Q (.bl true) H'
theorem use_law_then_right {P1 P0 C : Addr} {B : Hp} {L L1 : HL} {Q : KQ} {E : XK} {pd x pr : Addr} {n f : Int} {m : Nat} {ws : List (List Nat)} {ps ps' : Array Value} (pl : L.Perm ((P1, .tbl ps) :: (P0, .tbl ps') :: (pd, .lst [.int n, .int f]) :: L1)) (hf : Dr f) (tab : TabI B qT ps) (tab' : TabI B qR ps') (nL : ∀ p ∈ L1, Pln p.2) (hx : Snd C B x m ws) (hp : SqL K B pr (ws.map tS)) (g : Gd m ws)
    (q : ∀ B' n' qs qs', Le (noTb B) B' → NoT B' → TabI B' qT qs → TabI B' qR qs' → Q (.bl true) B' ((P1, .tbl qs) :: (P0, .tbl qs') :: (pd, .lst [.int n', .int f]) :: L1)) : ∀ H, Sat B L H → sp_law_then_right K P1 P0 C [.ref pd, .ref x, .int (m : Nat), .ref pr] H (up Q) E := fun H s => by
  obtain ⟨h1, h2, h3, h4⟩ := call_tab2 s pl tab tab' nL
  refine ⟨pd, n, f, x, pr, m, ws, rfl, h1, hf, h2, hx.noT.le h3, Pch.sql_le h3 (sqlT hp), g, fun H' n' k e t => ?_⟩
  obtain ⟨B', qs, qs', l, nB, t1, t2, s2⟩ := h4 H' n' k e t
  exact ⟨B', _, s2, q B' n' qs qs' l nB t1 t2⟩
theorem pick3 {m : Nat} {g d : Int} (hm : 1 ≤ m ∧ m ≤ 6) (hg : 1 ≤ g ∧ g ≤ 6) (h0 : 0 ≤ d) (h3 : d < 3) : ∃ k : Nat, (1 ≤ k ∧ k ≤ 6) ∧ atI [V.int (m : Nat), V.int (m : Nat), V.int g] d = some (.int (k : Nat)) := by
  have : d = 0 ∨ d = 1 ∨ d = 2 := by omega
  rcases this with rfl | rfl | rfl
  · exact ⟨m, hm, rfl⟩
  · exact ⟨m, hm, rfl⟩
  · exact ⟨g.toNat, by omega, by rw [Int.toNat_of_nonneg (by omega)]; rfl⟩
theorem ok_law_then_right {f C CE CS CT P0 P1 : Addr} {fd : FuncData} (F : Fun K "_law_then_right" "_law_then_right" s_law_then_right f fd) (hfa : f = He.fAd K (("_law_then_right" : Str), none)) (T : Tx mg) (h01 : P0 ≠ P1) (TB : LamX.TabB base mg (He.codeOf K (("_law_then_right" : Str), none)) P1) (Tk : Told P w K mg base 8 "_law_told" (ERw K mg)) (eS : ErrIs K mg CS 4) (eT : ErrIs K mg CT 6) (gC : mg "Sending" = some (.ref C)) (O : IsO K C)
    (mk : Mkr P w K mg base 3 "Sending" C (sp_sinit K C CE)) (M_many : Mt P w K mg base 1 C "many" (sp_smany C)) (M_into : Mt P w K mg base 1 C "into" (sp_sinto C)) (M_words : Mt P w K mg base 1 C "words" (sp_swords C)) (M_then : Mt P w K mg base 5 C "then" (sp_sthen K C CS CT))
    (F_law_next : Fn P w K mg base 1 "_law_next" sp_law_next) (F_law_drawn : Fn P w K mg base 4 "_law_drawn" sp_law_drawn) (F_law_sent : Fn P w K mg base 5 "_law_sent" (sp_law_sent K)) : FnOkG P w K mg base (L2.CX P w) 12 f fd ["_law_drawn_here", "_law_one", "_law_into", "_law_words"] (sp_law_then_right K P1 P0 C) := by
  refine fn_okCG F hfa sc_law_then_right ?_ fun A outer s H vs Q E hr hgd h tk po => ?_
  · rintro vs H Q E ⟨_, _, _, _, _, _, _, rfl, _⟩; rfl
  obtain ⟨pd, n, f1, x, pr, m, ws, rfl, hpd, hf1, hT, hx, hpr, gw, hq⟩ := h
  obtain ⟨ps, ps2, sat, nB, tab, tab2, kept⟩ := tab_go2 hpd (pln_lst _) h01 hT
  generalize rmH (noTb H) pd = B0 at *
  have hm6 : 1 ≤ m ∧ m ≤ 6 := ⟨gw.m1, gw.m6⟩
  refine ⟨B0, _, sat, ?_⟩
  refine k_cons ?_
  refine k_set 4 ?_ sc_law_then_right.nd
  refine k_ix ?_
  refine k_lst ?_
  refine a_cons ?_
  refine k_n 2 ?_
  refine a_cons ?_
  refine k_n 2 ?_
  refine a_cons ?_
  refine k_bin ?_
  refine k_int ?_
  refine k_fn F_law_next (hr.mono (by decide)) ?_
  refine a_cons ?_
  refine k_n 0 ?_
  refine a_cons ?_
  refine k_int ?_
  refine a_nil ?_
  refine use_law_next hf1 (by walk_at "mm") (by omega) fun n2 d2 h21 h22 => ⟨_, by walk_at "rep", ?_⟩
  walk_at "opAdd"
  refine a_nil ?_
  refine ⟨by simp, fun p9 => ?_⟩
  refine k_fn F_law_next (hr.mono (by decide)) ?_
  refine a_cons ?_
  refine k_n 0 ?_
  refine a_cons ?_
  refine k_int ?_
  refine a_nil ?_
  refine use_law_next hf1 (by walk_at "mm") (by omega) fun n3 d3 h31 h32 => ⟨_, by walk_at "rep", ?_⟩; obtain ⟨sz, hsz, hat⟩ := pick3 (m := m) (g := 1 + d2) hm6 (by omega) h31 h32
  refine i_lv (xs := [V.int (m : Nat), V.int (m : Nat), V.int (1 + d2)]) _ (.inr (by walk_at "mm")) ?_ hat
  show kSs _ _ _ _ _ _
  refine k_norm (by simp only [L2.start, N_law_then_right, List.map_cons, List.map_nil, List.length_cons, List.length_nil, Nat.reduceAdd, Nat.reduceSub, List.replicate_succ, List.replicate_zero, List.cons_append, List.nil_append, List.set_cons_succ, List.set_cons_zero]; exact rfl) ?_
  refine k_sub (L' := [(pd, .lst [.int n3, .int f1]), (P1, .tbl ps), (P0, .tbl ps2)]) (by walk_at "subl") ?_
  refine k_cons ?_
  refine k_set 5 ?_ sc_law_then_right.nd
  refine k_bin ?_
  refine k_int ?_
  refine k_fn F_law_next (hr.mono (by decide)) ?_
  refine a_cons ?_
  refine k_n 0 ?_
  refine a_cons ?_
  refine k_int ?_
  refine a_nil ?_
  refine use_law_next hf1 (by walk_at "mm") (by omega) fun n4 d4 h41 h42 => ⟨_, by walk_at "rep", ?_⟩
  walk_at "opAdd"
  obtain ⟨g, hg9⟩ : ∃ g : Nat, (1 : Int) + d4 = g := ⟨(1 + d4).toNat, by omega⟩
  have hg6 : 1 ≤ g ∧ g ≤ 6 := by omega
  rw [hg9]
  show kSs _ _ _ _ _ _
  refine k_norm (by simp only [L2.start, N_law_then_right, List.map_cons, List.map_nil, List.length_cons, List.length_nil, Nat.reduceAdd, Nat.reduceSub, List.replicate_succ, List.replicate_zero, List.cons_append, List.nil_append, List.set_cons_succ, List.set_cons_zero]; exact rfl) ?_
  refine k_cons ?_
  refine k_set 6 ?_ sc_law_then_right.nd
  refine k_callT (T := "list") T.b_list ?_
  refine a_cons ?_
  refine k_fn F_law_drawn (hr.mono (by decide)) ?_
  refine a_cons ?_
  refine k_n 0 ?_
  refine a_cons ?_
  refine k_n 5 ?_
  refine a_cons ?_
  refine k_n 4 ?_
  refine a_nil ?_
  refine use_law_drawn hf1 (by walk_at "mm") hg6 hsz fun n5 t zs B1 l1 et hzs hzl => ⟨_, by walk_at "rep", ?_⟩
  refine a_nil ?_
  refine c_listt (.inl (.inl (.inl et))) fun pv => ?_
  have gz : Gd g zs := hzs.gd hg6 (by omega)
  show kSs _ _ _ _ _ _
  refine k_norm (by simp only [L2.start, N_law_then_right, List.map_cons, List.map_nil, List.length_cons, List.length_nil, Nat.reduceAdd, Nat.reduceSub, List.replicate_succ, List.replicate_zero, List.cons_append, List.nil_append, List.set_cons_succ, List.set_cons_zero]; exact rfl) ?_
  refine k_fz fun B2 l2 _ epv => ?_
  have hpr2 : SqL K B2 pr (ws.map tS) := Pch.sql_le (fun b o z => l2 _ _ (l1 _ _ z)) hpr
  refine k_cons ?_
  refine k_set 7 ?_ sc_law_then_right.nd
  refine k_ix ?_
  refine k_lst ?_
  refine a_cons ?_
  refine k_non ?_
  refine a_cons ?_
  refine k_int ?_
  refine a_cons ?_
  refine k_callT (T := "list") T.b_list ?_
  refine a_cons ?_
  refine k_n 3 ?_
  refine a_nil ?_
  refine c_listl (.inl hpr2) fun pw => ?_
  refine a_cons ?_
  refine k_s [97] ?_
  refine a_cons ?_
  refine k_tup ?_
  refine a_cons ?_
  refine k_n 5 ?_
  refine a_cons ?_
  refine k_n 6 ?_
  refine a_nil ?_
  refine ⟨by simp, fun pt => ?_⟩
  refine a_nil ?_
  refine ⟨by simp, fun pq => ?_⟩
  refine k_fn F_law_next (hr.mono (by decide)) ?_
  refine a_cons ?_
  refine k_n 0 ?_
  refine a_cons ?_
  refine k_int ?_
  refine a_nil ?_
  refine use_law_next hf1 (by walk_at "mm") (by omega) fun n6 d6 h61 h62 => ⟨_, by walk_at "rep", ?_⟩; obtain ⟨vo, hvm, hva⟩ := atI_mem (l := [V.non, .int 5, .ref pw, .str (sOf [97]), .ref pt]) h61 h62
  refine i_lv (xs := [V.non, .int 5, .ref pw, .str (sOf [97]), .ref pt]) _ (.inr (by walk_at "mm")) ?_ hva
  show kSs _ _ _ _ _ _
  refine k_norm (by simp only [L2.start, N_law_then_right, List.map_cons, List.map_nil, List.length_cons, List.length_nil, Nat.reduceAdd, Nat.reduceSub, List.replicate_succ, List.replicate_zero, List.cons_append, List.nil_append, List.set_cons_succ, List.set_cons_zero]; exact rfl) ?_
  refine k_sub (L' := [(pt, .tup [.int (g : Nat), .ref pv]), (pw, .lst (ws.map tS)), (pd, .lst [.int n6, .int f1]), (P1, .tbl ps), (P0, .tbl ps2)]) (by walk_at "subl") ?_
  refine k_fz fun B3 l3 _ ept => ?_
  refine k_fz fun B4 l4 _ epw => ?_
  refine k_noT ?_
  have ept : noTb B4 pt = some (.tup [.int (g : Nat), .ref pv]) := noTb_of (l4 _ _ ept) fun _ z => (nomatch z)
  have epw : noTb B4 pw = some (.lst (ws.map tS)) := noTb_of epw fun _ z => (nomatch z)
  have epv : noTb B4 pv = some (.lst (zs.map tS)) := noTb_of (l4 _ _ (l3 _ _ epv)) fun _ z => (nomatch z)
  have l04 : Le B0 (noTb B4) := noTb_le nB fun b o z => l4 _ _ (l3 _ _ (l2 _ _ (l1 _ _ z)))
  have nB4 := noT_noTb B4
  have tab4 := tab.le l04
  have tab24 := tab2.le l04
  have hx4 := hx.le l04
  have hpr4 := Pch.sql_le l04 hpr
  clear hpr2
  generalize noTb B4 = B4 at *
  have hod : ∃ d, Dp K B4 vo d := by
    simp only [List.mem_cons, List.not_mem_nil, or_false] at hvm
    rcases hvm with rfl | rfl | rfl | rfl | rfl
    · exact ⟨_, .non⟩
    · exact ⟨_, .int 5⟩
    · exact ⟨_, .lst (.inl (.inl epw)) (dpa_words _)⟩
    · exact ⟨_, .str _⟩
    · exact ⟨_, .tup (.inl (.inl ept)) (.cons (.int _) (.cons (.lst (.inl (.inl epv)) (dpa_words _)) .nil))⟩
  obtain ⟨d9, hod⟩ := hod
  have hne : P0 ≠ P1 := h01
  refine k_cons ?_
  refine k_if ?_
  refine t_cmp ?_
  refine k_mono (Q1 := fun v B' L' => ∃ qs qs2 Bt, Le B4 Bt ∧ NoT Bt ∧ TabI Bt qT qs ∧ TabI Bt qR qs2 ∧ Le Bt B' ∧ L' = [(P1, .tbl qs), (P0, .tbl qs2), (pd, .lst [.int n6, .int f1])] ∧ v = .str (sOf (rfs 4))) ?_ ?_
  · refine k_told2 Tk (hr.mono (by decide)) TB rfl h01 (List.perm_append_comm (l₁ := [_]) (l₂ := [_, _])) tab4 tab24 nB4 (fun p hp => by rw [List.mem_singleton.mp hp]; exact pln_lst _) fun B5 qs qs2 l5 n5' t5 t25 A2 o2 s2 H2 f2 c2 hr2 tk2 => ?_
    refine k_meth M_then (hr2.mono (by decide)) tk2 ?_
    refine k_n 1 ?_
    obtain ⟨dx, tx, hx1, hx2⟩ := hx4
    refine ⟨_, _, _, rfl, .inl (l5 _ _ hx1), rfl, ?_⟩
    refine a_cons ?_
    refine k_n 7 ?_
    refine a_nil ?_
    refine use_sthenB (n := m) (zs := ws) ⟨dx, tx, l5 _ _ hx1, l5 _ _ hx2⟩ gw (.inl ⟨d9, fun H' s' => dp_le (fun b o z => s'.ext _ _ (l5 _ _ z)) _ _ hod⟩) (el_of eS (by decide) ?_)
    exact ⟨qs, qs2, B5, l5, n5', t5, t25, fun _ _ z => z, rfl, rfl⟩
  rintro v B5' L5 ⟨qs, qs2, B5, l5, nB5, tab5, tab25, l55, rfl, rfl⟩
  refine k_s [114, 101, 102, 117, 115, 101, 100, 32, 115, 101, 110, 100, 105, 110, 103] ?_
  refine o_neS rfl ?_
  rw [decide_eq_true (show V.str (sOf (rfs 4)) = .str (sOf [114, 101, 102, 117, 115, 101, 100, 32, 115, 101, 110, 100, 105, 110, 103]) from rfl)]
  refine ⟨_, rfl, fun z => (nomatch z), fun _ => ?_⟩
  refine k_nil ?_
  refine k_noT ?_
  have l56 := noTb_le nB5 l55
  have nB6 := noT_noTb B5'
  have tab6 := tab5.le l56
  have tab26 := tab25.le l56
  have l46 : Le B4 (noTb B5') := fun b o z => l56 _ _ (l5 _ _ z)
  have hx6 := hx4.le l46
  have hpr6 := Pch.sql_le l46 hpr4
  have epv6 := l46 _ _ epv
  have l06 : Le B0 (noTb B5') := fun b o z => l46 _ _ (l04 _ _ z)
  clear l55 l56
  generalize noTb B5' = B6 at *
  refine k_cons ?_
  refine k_set 8 ?_ sc_law_then_right.nd
  refine k_mono (Q1 := fun v B' L' => ∃ qs qs2 Bt, Le B6 Bt ∧ NoT Bt ∧ TabI Bt qT qs ∧ TabI Bt qR qs2 ∧ Le Bt B' ∧ L' = [(P1, .tbl qs), (P0, .tbl qs2), (pd, .lst [.int n6, .int f1])] ∧ ThO C m g ws zs B' v) ?_ ?_
  · refine k_told2 Tk (hr.mono (by decide)) TB rfl h01 (.refl _) tab6 tab26 nB6 (fun p hp => by rw [List.mem_singleton.mp hp]; exact pln_lst _) fun B7 qs qs2 l7 n7 t7 t27 A2 o2 s2 H2 f2 c2 hr2 tk2 => ?_
    refine k_meth M_then (hr2.mono (by decide)) tk2 ?_
    refine k_n 1 ?_
    obtain ⟨dx, tx, hx1, hx2⟩ := hx6
    refine ⟨_, _, _, rfl, .inl (l7 _ _ hx1), rfl, ?_⟩
    refine a_cons ?_
    refine k_makeS mk (hr2.mono (by decide)) tk2 ?_
    refine a_cons ?_
    refine k_n 5 ?_
    refine a_cons ?_
    refine k_n 6 ?_
    refine a_nil ?_
    refine use_smake (dm := .int (g : Nat)) (dr := .list (zs.map fun l => PyData.str (sOf l))) (fun H' s' => .int _) (fun H' s' => .lst (.inl (.inl (s'.ext _ _ (l7 _ _ epv6)))) (dpa_words _)) (shortS_words (fun l hl => by have := (hzs l hl).2.2; omega) (by omega)) ⟨rfl, rfl, gz⟩ fun y B8 l8 hY => ?_
    refine a_nil ?_
    have hx8 : Snd C B8 x m ws := ⟨dx, tx, l8 _ _ (l7 _ _ hx1), l8 _ _ (l7 _ _ hx2)⟩
    by_cases hsm : zs.length = m
    · refine use_sthen (n := m) (zs := ws) (ws := zs) ⟨hx8, hY.snd, gw, gz, hsm⟩ (fun hall B9 z l9 hZ => ?_) fun hex => el_of eT (by decide) ?_
      · exact ⟨qs, qs2, B7, l7, n7, t7, t27, fun b o e => l9 _ _ (l8 _ _ e), rfl, .inr (.inr ⟨hsm, hall, z, rfl, hZ.snd⟩)⟩
      · exact ⟨qs, qs2, B7, l7, n7, t7, t27, l8, rfl, .inr (.inl ⟨hsm, hex, rfl⟩)⟩
    · refine use_sthenB (n := m) (zs := ws) hx8 gw (.inr ⟨y, g, zs, rfl, hY.snd, gz, hsm⟩) (el_of eS (by decide) ?_)
      exact ⟨qs, qs2, B7, l7, n7, t7, t27, l8, rfl, .inl ⟨hsm, rfl⟩⟩
  rintro v B7' L7 ⟨qs7, qs27, B7, l7, nB7, tab7, tab27, l77, rfl, hO⟩
  show kSs _ _ _ _ _ _
  refine k_norm (by simp only [L2.start, N_law_then_right, List.map_cons, List.map_nil, List.length_cons, List.length_nil, Nat.reduceAdd, Nat.reduceSub, List.replicate_succ, List.replicate_zero, List.cons_append, List.nil_append, List.set_cons_succ, List.set_cons_zero]; exact rfl) ?_
  have fin : ∀ {B : Hp} {L : HL}, Le B7' B → (pd, HO.lst [.int n6, .int f1]) ∈ L → (P1, HO.tbl qs7) ∈ L → (P0, HO.tbl qs27) ∈ L → ∀ H', Sat B L H' → Q (.bl true) H' := fun {B L} lB h1 h2 h3 H' s9 =>
    hq H' n6 (fun b o a1 a2 a3 => s9.ext _ _ (lB _ _ (l77 _ _ (l7 _ _ (l06 _ _ (kept b o a1 a2 a3)))))) (s9.own _ h1) (tabs2 s9 (tab7.le fun b o z => lB _ _ (l77 _ _ z)) (tab27.le fun b o z => lB _ _ (l77 _ _ z)) h2 h3)
  have l67 : Le B6 B7' := fun b o z => l77 _ _ (l7 _ _ z)
  have hpr7 := Pch.sql_le l67 hpr6
  have epv7 := l67 _ _ epv6
  refine k_cons ?_
  refine k_if ?_
  refine t_cmp ?_
  refine k_n 4 ?_
  refine k_n 2 ?_
  walk_at "opNotEq"
  refine ⟨_, rfl, ?_⟩
  refine ⟨fun hk => ?_, fun hk => ?_⟩
  · have hne : zs.length ≠ m := by simp at hk; omega
    obtain rfl : v = .str (sOf (rfs 4)) := by
      rcases hO with h | h | h
      · exact h.2
      · exact absurd h.1 hne
      · exact absurd h.1 hne
    refine k_one ?_
    refine k_ret ?_
    refine k_cmp ?_
    refine k_n 8 ?_
    refine k_s [114, 101, 102, 117, 115, 101, 100, 32, 115, 101, 110, 100, 105, 110, 103] ?_
    refine o_eqS rfl ?_; rw [decide_eq_true (show V.str (sOf (rfs 4)) = .str (sOf [114, 101, 102, 117, 115, 101, 100, 32, 115, 101, 110, 100, 105, 110, 103]) from rfl)]
    exact fin (fun _ _ z => z) (by walk_at "mm") (by walk_at "mm") (by walk_at "mm")
  have hsm : zs.length = m := by simp at hk; omega
  have hin : ∀ l ∈ ws, ∀ c ∈ l, InL zs c := fun l hl c hc => inL_of (by rw [hsm]; exact (gw.ok l hl).2) hc
  have w6 := gw.w6
  have w1 := gw.w1
  refine k_nil ?_
  refine k_cons ?_
  refine k_sle 9 (k_lcm_l (j := 10) (sF zs) sc_law_then_right.nd (blkOk_by (N := N_law_then_right) (sc := defScope s_law_then_right) (by decide +kernel)) ?_)
  refine k_n 3 ?_
  refine ⟨pr, ws.map tS, rfl, .inl hpr7, by rw [List.length_map]; omega, fun z hz D acc sb Hb Cb clb fpb => ?_, fun D => ?_⟩
  ·
    obtain ⟨l, hl, rfl⟩ := List.mem_map.mp hz
    have hg := gw.ok l hl
    have hgl := gw.let_ hl
    refine k_fn F_law_sent (hr.mono (by decide)) ?_
    refine a_cons ?_
    refine k_n 6 ?_
    refine a_cons ?_
    refine k_n 10 ?_
    refine a_nil ?_
    refine use_law_sent (ws := zs) (d := .str (sOf l)) (fun H' s' => .inl (.inl (s'.ext _ _ epv7))) gz (fun H' s' => .str _) (.str fun c hc => (show ∀ c ∈ ordL, c < 128 by decide) c (hgl.1 c hc)) (by simp only [Pch.sz]; rw [sOf_len]; omega) ?_
    refine ⟨?_, rfl, rfl⟩
    rw [sntD_yes (by show (isW (sOf l).cps.toList && hasL zs.length (sOf l).cps.toList) = true; rw [cps_sOf, hsm, hg.1, hg.2]; rfl), sF_tS]
    rfl
  show kSs _ _ _ _ _ _
  rw [map_sF]
  have hlen : ∀ l ∈ sntW zs ws, l.length ≤ 3600 := fun l hl => by
    obtain ⟨z, hz, rfl⟩ := List.mem_map.mp hl
    have h1 := snt_len gz.gw (hin z hz)
    have h2 := (gw.let_ hz).2.1
    omega
  have hsz : (sntW zs ws).length = ws.length := List.length_map ..
  refine k_cons ?_
  refine k_if ?_
  refine t_cmp ?_
  refine k_callB (id := "max") T.b_max ?_
  refine a_cons ?_
  refine k_le (k_lcm_l (j := 10) nF sc_law_then_right.nd (blkOk_by (N := N_law_then_right) (sc := defScope s_law_then_right) (by decide +kernel)) ?_)
  refine k_n 9 ?_
  refine ⟨D, _, rfl, .inr List.mem_cons_self, by rw [List.length_map]; omega, fun z hz D2 acc sb Hb Cb clb fpb => ?_, fun D2 => ?_⟩
  ·
    obtain ⟨l, hl, rfl⟩ := List.mem_map.mp hz
    have hg := hlen l hl
    refine k_callB (id := "len") T.b_len ?_
    refine a_cons ?_
    refine k_n 10 ?_
    refine a_nil ?_
    refine c_lens ?_ (by omega)
    refine ⟨?_, rfl, rfl⟩
    simp [nF, tS, sOf]
  refine a_nil ?_
  refine c_maxl (ns := (sntW zs ws).map fun l => (l.length : Int)) (by rw [map_nF]; exact Or.inr (List.Mem.head _)) (by rw [List.length_map]; omega) fun mx hmx1 hmx2 => ?_
  refine k_int ?_
  walk_at "opGt"
  refine ⟨_, rfl, ?_⟩
  refine ⟨fun hk9 => ?_, fun hk9 => ?_⟩
  · have hex : ∃ l ∈ ws, 60 < (snt zs l).length := by
      obtain ⟨l, hl, rfl⟩ := List.mem_map.mp hmx1
      obtain ⟨z, hz, rfl⟩ := List.mem_map.mp hl
      exact ⟨z, hz, by have := of_decide_eq_true hk9; omega⟩
    obtain rfl : v = .str (sOf (rfs 6)) := by
      rcases hO with h | h | h
      · exact absurd hsm h.1
      · exact h.2.2
      · obtain ⟨l, hl, h9⟩ := hex
        have := h.2.1 l hl
        omega
    refine k_one ?_
    refine k_ret ?_
    refine k_cmp ?_
    refine k_n 8 ?_
    refine k_s [114, 101, 102, 117, 115, 101, 100, 32, 109, 97, 110, 121] ?_
    refine o_eqS rfl ?_; rw [decide_eq_true (show V.str (sOf (rfs 6)) = .str (sOf [114, 101, 102, 117, 115, 101, 100, 32, 109, 97, 110, 121]) from rfl)]
    exact fin (fun _ _ z => z) (by walk_at "mm") (by walk_at "mm") (by walk_at "mm")
  have hall : ∀ l ∈ ws, (snt zs l).length ≤ 60 := fun l hl => by
    have h1 := hmx2 ((snt zs l).length : Int) (List.mem_map.mpr ⟨snt zs l, List.mem_map.mpr ⟨l, hl, rfl⟩, rfl⟩)
    have h2 := of_decide_eq_false hk9
    omega
  obtain ⟨z, rfl, hZ⟩ : ∃ z, v = .ref z ∧ Snd C B7' z g (sntW zs ws) := by
    rcases hO with h | h | h
    · exact absurd hsm h.1
    · obtain ⟨_, ⟨l, hl, h9⟩, _⟩ := h
      have := hall l hl
      omega
    · exact h.2.2
  have ⟨dz, tz, hz1, hz2⟩ := hZ
  refine k_nil ?_
  refine k_cons ?_
  refine k_if ?_
  refine t_not ?_
  refine t_val ?_
  refine k_callB (id := "isinstance") T.b_isinstance ?_
  refine a_cons ?_
  refine k_n 8 ?_
  refine a_cons ?_
  refine k_cls gC ?_
  refine a_nil ?_
  refine c_isO O (.inl hz1) ?_
  refine ⟨_, rfl, ?_⟩
  refine ⟨fun z => (nomatch z), fun _ => ?_⟩
  refine k_nil ?_
  refine k_one ?_
  refine k_ret ?_
  have hch : ∀ l ∈ sntW zs ws, ∀ c ∈ l, c < 1114112 := fun l hl c hc => by
    obtain ⟨z, hz, rfl⟩ := List.mem_map.mp hl
    exact (show ∀ c ∈ ordL, c < 1114112 by decide) c (snt_let gz.gw (hin z hz) c hc)
  refine k_and ?_
  refine k_cmp ?_
  refine k_meth0 M_words (hr.mono (by decide)) tk ?_
  refine k_n 8 ?_
  refine ⟨_, _, _, rfl, .inl hz1, rfl, ?_⟩
  skip
  refine use_swords hZ fun pz => ?_
  refine k_n 9 ?_
  refine o_eqss (a := sntW zs ws) (b := sntW zs ws) hr.units (.inr (by walk_at "mm")) (.inr (by walk_at "mm")) ?_ ?_ ?_
  · rw [decide_eq_true rfl]
    refine ⟨_, rfl, fun _ => ?_, fun z => (nomatch z)⟩
    refine k_and ?_
    refine k_cmp ?_
    refine k_meth0 M_into (hr.mono (by decide)) tk ?_
    refine k_n 8 ?_
    refine ⟨_, _, _, rfl, .inl hz1, rfl, ?_⟩
    skip
    refine use_sinto hZ ?_
    refine k_n 5 ?_
    refine o_eqS rfl ?_; rw [decide_eq_true rfl]
    refine ⟨_, rfl, fun _ => ?_, fun z => (nomatch z)⟩
    refine k_and1 ?_
    refine k_cmp ?_
    refine k_meth0 M_many (hr.mono (by decide)) tk ?_
    refine k_n 8 ?_
    refine ⟨_, _, _, rfl, .inl hz1, rfl, ?_⟩
    skip
    refine use_smany hZ ?_
    refine k_callB (id := "len") T.b_len ?_
    refine a_cons ?_
    refine k_n 3 ?_
    refine a_nil ?_
    refine c_lenl (.inl hpr7) ?_; rw [List.length_map, hsz]
    refine o_eqS rfl ?_; rw [decide_eq_true rfl]
    exact fin (fun _ _ z => z) (by walk_at "mm") (by walk_at "mm") (by walk_at "mm")
  · exact hch
  · exact hch
/-! ### a def with tables: its beginning and end -/
theorem dpT {K : PySem.W.Frag} {H : Hp} : ∀ (d : PyData) (v : V), Dp K H v d → Dp K (noTb H) v d
  | .none, _, h => by cases h; exact .non
  | .bool b, _, h => by cases h; exact .bl b
  | .int i, _, h => by cases h; exact .int i
  | .str s, _, h => by cases h; exact .str s
  | .list ds, _, h => by
    cases h with
    | lst h1 h2 => exact .lst (sqlT h1) (go ds _ h2)
  | .tuple ds, _, h => by
    cases h with
    | tup h1 h2 => exact .tup (sqtT h1) (go ds _ h2)
  | .dict _, _, h => by cases h
where go : ∀ (ds : List PyData) (vs : List V), DpAll K H vs ds → DpAll K (noTb H) vs ds
  | [], _, h => by cases h; exact .nil
  | d :: ds, _, h => by
    cases h with
    | cons h1 h2 => exact .cons (dpT d _ h1) (go ds _ h2)
theorem tab_go {H : Hp} {pd P0 : Addr} {o : HO} {q : Str} (hpd : H pd = some o) (no : Pln o) (hT : LamX.Tabs [(P0, q)] H) : ∃ ps, Sat (rmH (noTb H) pd) [(pd, o), (P0, .tbl ps)] H ∧ NoT (rmH (noTb H) pd) ∧ TabI (rmH (noTb H) pd) q ps ∧ ∀ b u, b ≠ pd → (∀ ps, u ≠ .tbl ps) → H b = some u → rmH (noTb H) pd b = some u := by
  obtain ⟨ps, hP, ht, ha⟩ := hT (P0, q) List.mem_cons_self
  have hP : H P0 = some (.tbl ps) := hP
  have hne : pd ≠ P0 := fun z => by rw [z, hP] at hpd; exact no.1 ps (Option.some.inj hpd).symm
  have kept : ∀ b u, b ≠ pd → (∀ ps, u ≠ .tbl ps) → H b = some u → rmH (noTb H) pd b = some u := fun b u h1 h2 h3 => by rw [rm_ne h1]; exact noTb_of h3 h2
  refine ⟨ps, ?_, fun b qs e => ?_, ⟨ht, fun pos cv hc => ?_⟩, kept⟩
  · refine ⟨fun b u e => ?_, fun p hp => ?_, fun p hp => ?_, ?_⟩
    · by_cases k : b = pd
      · rw [k, rm_eq] at e; cases e
      · rw [rm_ne k] at e; exact (noTb_some e).1
    · rcases List.mem_cons.mp hp with rfl | hp
      · exact hpd
      · rw [List.mem_singleton.mp hp]; exact hP
    · rcases List.mem_cons.mp hp with rfl | hp
      · exact rm_eq
      · rw [List.mem_singleton.mp hp]
        show rmH (noTb H) pd P0 = none
        rw [rm_ne (Ne.symm hne)]
        unfold noTb
        rw [hP]
    · simp [hne]
  · by_cases k : b = pd
    · rw [k, rm_eq] at e; cases e
    · rw [rm_ne k] at e; exact noT_noTb H b qs e
  · obtain ⟨c, e1, e2⟩ := ha pos cv hc
    refine ⟨c, e1, kept c _ (fun z => ?_) (fun qs => LamX.codeO_ne qs) e2⟩
    rw [z, hpd] at e2
    exact no.2 _ _ (Option.some.inj e2)
theorem tab_end {B : Hp} {L : HL} {H' : Hp} {P0 : Addr} {q : Str} {ps : Array Value} (s : Sat B L H') (t : TabI B q ps) (h : (P0, HO.tbl ps) ∈ L) : LamX.Tabs [(P0, q)] H' := fun z hz => by
  rw [List.mem_singleton.mp hz]
  refine ⟨ps, s.own _ h, t.1, fun pos cv hc => ?_⟩
  obtain ⟨c, e1, e2⟩ := t.2 pos cv hc
  exact ⟨c, e1, s.ext _ _ e2⟩
/-- what making a sending tells -/
def SdO (C : Addr) (dm dr : PyData) (B : Hp) (v : V) : Prop := ((¬ ∃ m ws, FineS dm dr m ws) ∧ v = .str (sOf (rfs 4))) ∨ ∃ m ws x, FineS dm dr m ws ∧ v = .ref x ∧ Snd C B x m ws
theorem SdO.noT {C : Addr} {dm dr : PyData} {B : Hp} {v : V} (h : SdO C dm dr B v) : SdO C dm dr (noTb B) v := h.imp id fun ⟨m, ws, x, h1, h2, h3⟩ => ⟨m, ws, x, h1, h2, h3.noT⟩
theorem shortS_of {dr : PyData} (hc : Pch.Cm true dr) (hs : Pch.sz dr ≤ 1000) : ShortS dr := fun ds e => by
  subst e
  have hll := Pch.len_szA ds
  simp only [Pch.sz] at hs
  refine ⟨by omega, fun s hx => ?_⟩
  have := Pch.szA_mem hx
  simp only [Pch.sz] at this
  have h : s.length ≤ 1000 := by omega
  rw [Array.length_toList]
  exact Nat.le_trans h (by decide)
/-- a text that a sending gives, or the refusal -/
theorem sntD_ok {m : Nat} {ws : List (List Nat)} (g : Gd m ws) (d : PyData) : Pch.Cm true (.str (sOf (sntD ws d))) ∧ Pch.sz (.str (sOf (sntD ws d))) ≤ 4000 := by
  by_cases hb : wdD ws.length d = true
  · cases d with
    | str s =>
      have e : sntD ws (.str s) = snt ws s.cps.toList := if_pos hb
      have hb : (isW s.cps.toList && hasL ws.length s.cps.toList) = true := hb
      rw [Bool.and_eq_true] at hb
      have hin : ∀ c ∈ s.cps.toList, InL ws c := fun c hc => inL_of hb.2 hc
      have h1 := snt_len g.gw hin
      have h2 := ((isW_iff _).mp hb.1).1
      rw [e]
      exact ⟨.str fun c hc => (show ∀ c ∈ ordL, c < 128 by decide) c (snt_let g.gw hin c hc), by simp only [Pch.sz]; rw [sOf_len]; omega⟩
    | _ => cases hb
  · rw [sntD_no (by simpa using hb)]
    exact ⟨.str (by decide), by simp only [Pch.sz]; rw [sOf_len]; decide⟩
abbrev N_law_right : List Str := ["_law_drawn_here", "_law_into", "_law_words", "_law_kept", "_law_one", "_law_turn", "_law_told_here", "_law_some", "_law_thing"]
theorem sc_law_right : FnScope N_law_right ["_law_drawn_here", "_law_into", "_law_words"] (defScope s_law_right) := ⟨rfl, rfl, rfl, by decide +kernel, rfl, by decide +kernel, by decide +kernel⟩
def sp_law_right (K : PySem.W.Frag) (P0 P1 : Addr) : Sp := fun vs H Q _ => ∃ (pd : Addr) (n f : Int) (vm vr : V) (dm dr : PyData), vs = [.ref pd, vm, vr] ∧ H pd = some (.lst [.int n, .int f]) ∧ Dr f ∧ LamX.Tabs [(P0, qR), (P1, qT)] H ∧ Dp K (rmH (noTb H) pd) vm dm ∧ Dp K (rmH (noTb H) pd) vr dr ∧ (Pch.Cm true dm ∧ Pch.sz dm ≤ 900 ∧ dm.depth ≤ 40) ∧ (Pch.Cm true dr ∧ Pch.sz dr ≤ 900 ∧ dr.depth ≤ 40) ∧
  ∀ H' n', (∀ b o, b ≠ pd → (∀ ps, o ≠ .tbl ps) → H b = some o → H' b = some o) → H' pd = some (.lst [.int n', .int f]) → LamX.Tabs [(P0, qR), (P1, qT)] H' → Q (.bl true) H'
set_option maxRecDepth 100000 in
theorem ok_law_right {f C CE CW P0 P1 : Addr} {fd : FuncData} (F : Fun K "_law_right" "_law_right" s_law_right f fd) (hfa : f = He.fAd K (("_law_right" : Str), none)) (T : Tx mg) (h01 : P1 ≠ P0) (TB : LamX.TabB base mg (He.codeOf K (("_law_right" : Str), none)) P0) (Tk : Told P w K mg base 8 "_law_told" (ERw K mg)) (eS : ErrIs K mg CE 4) (eW : ErrIs K mg CW 0) (gC : mg "Sending" = some (.ref C)) (O : IsO K C)
    (mk : Mkr P w K mg base 3 "Sending" C (sp_sinit K C CE)) (M_many : Mt P w K mg base 1 C "many" (sp_smany C)) (M_into : Mt P w K mg base 1 C "into" (sp_sinto C)) (M_words : Mt P w K mg base 1 C "words" (sp_swords C)) (M_sent : Mt P w K mg base 4 C "sent" (sp_ssent K C CW))
    (F_law_next : Fn P w K mg base 1 "_law_next" sp_law_next) (F_law_word : Fn P w K mg base 3 "_law_word" sp_law_word) (F_law_step : Fn P w K mg base 2 "_law_step" (sp_law_step K)) (F_law_is_sending : Fn P w K mg base 5 "_law_is_sending" (sp_law_is_sending K)) (F_law_sent : Fn P w K mg base 5 "_law_sent" (sp_law_sent K)) (F_law_then_right : FnG P w K mg base 12 "_law_then_right" (sp_law_then_right K P1 P0 C)) : FnOkG P w K mg base (L2.CX P w) 13 f fd ["_law_drawn_here", "_law_into", "_law_words"] (sp_law_right K P0 P1) := by
  refine fn_okCG F hfa sc_law_right ?_ fun A outer s H vs Q E hr hgd h tk po => ?_
  · rintro vs H Q E ⟨_, _, _, _, _, _, _, rfl, _⟩; rfl
  obtain ⟨pd, n, f1, vm, vr, dm, dr, rfl, hpd, hf1, hT, hdm, hdr, ⟨cm, sm, dpm⟩, ⟨cr, sr, dpr⟩, hq⟩ := h
  obtain ⟨ps, ps2, sat, nB, tab, tab2, kept⟩ := tab_go2 hpd (pln_lst _) h01 hT
  generalize rmH (noTb H) pd = B0 at *
  have hun : ∀ d : PyData, d.depth ≤ 41 → (cxOf (L2.CX P w) P w K mg base N_law_right "_law_right" (defScope s_law_right) f (.ref (He.codeOf K (("_law_right" : Str), none))) A outer s H E).A.units + (d.depth + 1) < cLine := fun d hd => by
    have h9 := hr.un
    rw [Nat.add_assoc] at h9
    exact Nat.lt_of_le_of_lt (Nat.add_le_add_left (by omega) _) h9
  refine ⟨B0, _, sat, ?_⟩
  refine k_cons ?_
  refine k_set 3 ?_ sc_law_right.nd
  refine k_callB (id := "repr") T.b_repr ?_
  refine a_cons ?_
  refine k_n 2 ?_
  refine a_nil ?_
  refine c_reprD (d := dr) (fun H' s' => dp_le s'.ext _ _ hdr) (Pch.shown_ok cr (by omega)) hgd (hun dr (by omega)) ?_
  show kSs _ _ _ _ _ _
  refine k_norm (by simp only [L2.start, N_law_right, List.map_cons, List.map_nil, List.length_cons, List.length_nil, Nat.reduceAdd, Nat.reduceSub, List.replicate_succ, List.replicate_zero, List.cons_append, List.nil_append, List.set_cons_succ, List.set_cons_zero]; exact rfl) ?_
  refine k_cons ?_
  refine k_set 4 ?_ sc_law_right.nd
  refine k_mono (Q1 := fun v B' L' => ∃ qs qs2 Bt, Le B0 Bt ∧ NoT Bt ∧ TabI Bt qR qs ∧ TabI Bt qT qs2 ∧ Le Bt B' ∧ L' = [(P0, .tbl qs), (P1, .tbl qs2), (pd, .lst [.int n, .int f1])] ∧ SdO C dm dr B' v) ?_ ?_
  · refine k_told2 Tk (hr.mono (by decide)) TB rfl h01 (List.perm_append_comm (l₁ := [_]) (l₂ := [_, _])) tab tab2 nB (fun p hp => by rw [List.mem_singleton.mp hp]; exact pln_lst _) fun B2 qs qs2 l2 n2 t2 t22 A2 o2 s2 H2 f2 c2 hr2 tk2 => ?_
    refine k_makeS mk (hr2.mono (by decide)) tk2 ?_
    refine a_cons ?_
    refine k_n 1 ?_
    refine a_cons ?_
    refine k_n 2 ?_
    refine a_nil ?_
    have hdm2 := dp_le l2 _ _ hdm
    have hdr2 := dp_le l2 _ _ hdr
    by_cases hF : ∃ m ws, FineS dm dr m ws
    · obtain ⟨m, ws, hF⟩ := hF
      refine use_smake (fun H' s' => dp_le s'.ext _ _ hdm2) (fun H' s' => dp_le s'.ext _ _ hdr2) (shortS_of cr (by omega)) hF fun x B3 l3 hX => ?_
      exact ⟨qs, qs2, B2, l2, n2, t2, t22, l3, rfl, .inr ⟨m, ws, x, hF, rfl, hX.snd⟩⟩
    · refine use_smake_bad (fun H' s' => dp_le s'.ext _ _ hdm2) (fun H' s' => dp_le s'.ext _ _ hdr2) (shortS_of cr (by omega)) hF (el_of eS (by decide) ?_)
      exact ⟨qs, qs2, B2, l2, n2, t2, t22, fun _ _ z => z, rfl, .inl ⟨hF, rfl⟩⟩
  rintro v B2 LX ⟨qs, qs2, Bt, lt1, nBt, tabt, tabt2, lt2, rfl, hW⟩
  show kSs _ _ _ _ _ _
  refine k_norm (by simp only [L2.start, N_law_right, List.map_cons, List.map_nil, List.length_cons, List.length_nil, Nat.reduceAdd, Nat.reduceSub, List.replicate_succ, List.replicate_zero, List.cons_append, List.nil_append, List.set_cons_succ, List.set_cons_zero]; exact rfl) ?_
  refine k_noT ?_
  replace hW := hW.noT
  have lt2 := noTb_le nBt lt2
  have nB2 := noT_noTb B2
  have tab9 := tabt.le lt2
  have tab29 := tabt2.le lt2
  have l2 : Le B0 (noTb B2) := fun b o e => lt2 _ _ (lt1 _ _ e)
  generalize noTb B2 = B2 at hW nB2 tab9 tab29 l2 ⊢
  clear lt2 lt1 nBt tabt tabt2
  have hdm2 := dp_le l2 _ _ hdm
  have hdr2 := dp_le l2 _ _ hdr
  have fin : ∀ {B : Hp} {L : HL} {n' : Int} {ps ps'}, Le B2 B → TabI B qR ps → TabI B qT ps' → (pd, HO.lst [.int n', .int f1]) ∈ L → (P0, HO.tbl ps) ∈ L → (P1, HO.tbl ps') ∈ L → ∀ H', Sat B L H' → Q (.bl true) H' := fun {B L n' ps ps'} lB t t' h1 h2 h3 H' s9 =>
    hq H' n' (fun b o a1 a2 a3 => s9.ext _ _ (lB _ _ (l2 _ _ (kept b o a1 a2 a3)))) (s9.own _ h1) (tabs2 s9 t t' h2 h3)
  refine k_cons ?_
  refine k_if ?_
  refine t_not ?_
  refine t_val ?_
  refine k_fn F_law_is_sending (hr.mono (by decide)) ?_
  refine a_cons ?_
  refine k_n 1 ?_
  refine a_cons ?_
  refine k_n 2 ?_
  refine a_nil ?_
  refine use_law_is_sending (fun H s => dp_le s.ext _ _ hdm2) (fun H s => dp_le s.ext _ _ hdr2) cr sr dpr fun b hb => ?_
  refine ⟨_, rfl, ?_⟩
  refine ⟨fun hk => ?_, fun hk => ?_⟩
  · have hno : ¬ ∃ m ws, FineS dm dr m ws := fun z => by rw [hb.mpr z] at hk; cases hk
    rcases hW with ⟨_, rfl⟩ | ⟨m, ws, x, h1, _⟩
    · refine k_one ?_
      refine k_ret ?_
      refine k_and ?_
      refine k_cmp ?_
      refine k_n 4 ?_
      refine k_s [114, 101, 102, 117, 115, 101, 100, 32, 115, 101, 110, 100, 105, 110, 103] ?_
      refine o_eqS rfl ?_; rw [decide_eq_true (show V.str (sOf (rfs 4)) = .str (sOf [114, 101, 102, 117, 115, 101, 100, 32, 115, 101, 110, 100, 105, 110, 103]) from rfl)]
      refine ⟨_, rfl, fun _ => ?_, fun z => (nomatch z)⟩
      refine k_and1 ?_
      refine k_cmp ?_
      refine k_callB (id := "repr") T.b_repr ?_
      refine a_cons ?_
      refine k_n 2 ?_
      refine a_nil ?_
      refine c_reprD (d := dr) (fun H' s' => dp_le s'.ext _ _ hdr2) (Pch.shown_ok cr (by omega)) hgd (hun dr (by omega)) ?_
      refine k_n 3 ?_
      refine o_eqS rfl ?_; rw [decide_eq_true rfl]
      exact fin (fun _ _ z => z) tab9 tab29 (by walk_at "mm") (by walk_at "mm") (by walk_at "mm")
    · exact absurd ⟨m, ws, h1⟩ hno
  have hyes : ∃ m ws, FineS dm dr m ws := hb.mp (by simpa using hk)
  rcases hW with ⟨h9, _⟩ | ⟨m, ws, x, hF, rfl, hW⟩
  · exact absurd hyes h9
  have gw := hF.g
  obtain rfl := hF.em
  obtain rfl := hF.er
  cases hdm2
  cases hdm
  obtain ⟨pr, rfl, hpr⟩ : ∃ pr, vr = .ref pr ∧ SqL K B2 pr (ws.map tS) := by
    cases hdr2 with
    | lst h1 h2 => rw [dp_words h2] at h1; exact ⟨_, rfl, h1⟩
  obtain ⟨dW, hdW⟩ : ∃ dW, dW = PyData.list (ws.map fun l => PyData.str (sOf l)) := ⟨_, rfl⟩
  have hdr3 : Dp K B2 (.ref pr) (.list (ws.map fun l => PyData.str (sOf l))) := .lst hpr (dpa_words _)
  have w6 := gw.w6
  have w1 := gw.w1
  have m1 := gw.m1
  have m6 := gw.m6
  obtain ⟨dx, tx, hx1, hx2⟩ := id hW
  have cmL : Pch.Cm true (.int (ws.length : Nat)) := .int (by simp; omega)
  refine k_nil ?_
  refine k_cons ?_
  refine k_if ?_
  refine t_not ?_
  refine t_val ?_
  refine k_callB (id := "isinstance") T.b_isinstance ?_
  refine a_cons ?_
  refine k_n 4 ?_
  refine a_cons ?_
  refine k_cls gC ?_
  refine a_nil ?_
  refine c_isO O (.inl hx1) ?_
  refine ⟨_, rfl, ?_⟩
  refine ⟨fun z => (nomatch z), fun _ => ?_⟩
  refine k_nil ?_
  generalize hkep : (PyData.list (ws.map fun l => PyData.str (sOf l))).shown = kep
  refine k_cut (fun σ' B' L' => ∃ v5 v6, σ' = [some (.ref pd), some (.int (m : Nat)), some (.ref pr), some (.str kep), some (.ref x), v5, v6, none, none] ∧ B' = B2 ∧ L' = [(P0, .tbl qs), (P1, .tbl qs2), (pd, .lst [.int n, .int f1])]) ?_ ?_
  · refine k_for_r1 (fun i σ B L => ∃ v5 v6, σ = [some (.ref pd), some (.int (m : Nat)), some (.ref pr), some (.str kep), some (.ref x), v5, v6, none, none] ∧ B = B2 ∧ L = [(P0, .tbl qs), (P1, .tbl qs2), (pd, .lst [.int n, .int f1])]) po T.b_range ?_
    refine k_int ?_
    refine ⟨2, rfl, by decide, by decide, ⟨none, none, rfl, rfl, rfl⟩, ?_, ?_⟩
    · rintro i σ B L hi ⟨v5, v6, rfl, rfl, rfl⟩
      refine g_name 5 ?_ sc_law_right.nd
      show kSs _ _ _ _ _ _
      refine k_norm (by simp only [L2.start, N_law_right, List.map_cons, List.map_nil, List.length_cons, List.length_nil, Nat.reduceAdd, Nat.reduceSub, List.replicate_succ, List.replicate_zero, List.cons_append, List.nil_append, List.set_cons_succ, List.set_cons_zero]; exact rfl) ?_
      refine k_cons ?_
      refine k_set 6 ?_ sc_law_right.nd
      refine k_meth0 M_words (hr.mono (by decide)) tk ?_
      refine k_n 4 ?_
      refine ⟨_, _, _, rfl, .inl hx1, rfl, ?_⟩
      skip
      refine use_swords hW fun pw => ?_
      show kSs _ _ _ _ _ _
      refine k_norm (by simp only [L2.start, N_law_right, List.map_cons, List.map_nil, List.length_cons, List.length_nil, Nat.reduceAdd, Nat.reduceSub, List.replicate_succ, List.replicate_zero, List.cons_append, List.nil_append, List.set_cons_succ, List.set_cons_zero]; exact rfl) ?_
      refine k_cons ?_
      refine k_if ?_
      refine t_w ?_
      refine w_or ?_
      refine t_cmp ?_
      refine k_callB (id := "repr") T.b_repr ?_
      refine a_cons ?_
      refine k_n 6 ?_
      refine a_nil ?_
      refine c_reprD (d := .list (ws.map fun l => PyData.str (sOf l))) (fun H' s' => .lst (.inl (.inl (s'.own (pw, .lst (ws.map tS)) (.head _)))) (dpa_words _)) (Pch.shown_ok cr (by omega)) hgd (hun _ (by omega)) ?_
      refine k_callB (id := "repr") T.b_repr ?_
      refine a_cons ?_
      refine k_n 2 ?_
      refine a_nil ?_
      refine c_reprD (fun H' s' => dp_le s'.ext _ _ hdr3) (Pch.shown_ok cr (by omega)) hgd (hun _ (by omega)) ?_
      refine o_neS rfl ?_; rw [decide_eq_true rfl]
      refine ⟨_, rfl, ?_⟩
      refine ⟨fun _ => ?_, fun z => (nomatch z)⟩
      refine w_or1 ?_
      refine t_cmp ?_
      refine k_callB (id := "repr") T.b_repr ?_
      refine a_cons ?_
      refine k_meth0 M_into (hr.mono (by decide)) tk ?_
      refine k_n 4 ?_
      refine ⟨_, _, _, rfl, .inl hx1, rfl, ?_⟩
      skip
      refine use_sinto hW ?_
      refine a_nil ?_
      refine c_reprD (d := .int (m : Nat)) (fun H' s' => .int _) (Pch.shown_ok cm (by omega)) hgd (hun _ (by omega)) ?_
      refine k_callB (id := "repr") T.b_repr ?_
      refine a_cons ?_
      refine k_n 1 ?_
      refine a_nil ?_
      refine c_reprD (d := .int (m : Nat)) (fun H' s' => .int _) (Pch.shown_ok cm (by omega)) hgd (hun _ (by omega)) ?_
      refine o_neS rfl ?_; rw [decide_eq_true rfl]
      refine ⟨_, rfl, ?_⟩
      refine ⟨fun z => (nomatch z), fun _ => ?_⟩
      refine k_nil ?_
      refine k_cons ?_
      refine k_if ?_
      refine t_cmp ?_
      refine k_callB (id := "repr") T.b_repr ?_
      refine a_cons ?_
      refine k_meth0 M_many (hr.mono (by decide)) tk ?_
      refine k_n 4 ?_
      refine ⟨_, _, _, rfl, .inl hx1, rfl, ?_⟩
      skip
      refine use_smany hW ?_
      refine a_nil ?_
      refine c_reprD (d := .int (ws.length : Nat)) (fun H' s' => .int _) (Pch.shown_ok cmL (by simp only [Pch.sz]; omega)) hgd (hun _ (by simp only [PyData.depth]; omega)) ?_
      refine k_callB (id := "repr") T.b_repr ?_
      refine a_cons ?_
      refine k_callB (id := "len") T.b_len ?_
      refine a_cons ?_
      refine k_n 2 ?_
      refine a_nil ?_
      refine c_lenl (.inl hpr) ?_; rw [List.length_map]
      refine a_nil ?_
      refine c_reprD (d := .int (ws.length : Nat)) (fun H' s' => .int _) (Pch.shown_ok cmL (by simp only [Pch.sz]; omega)) hgd (hun _ (by simp only [PyData.depth]; omega)) ?_
      refine o_neS rfl ?_; rw [decide_eq_true rfl]
      refine ⟨_, rfl, ?_⟩
      refine ⟨fun z => (nomatch z), fun _ => ?_⟩
      refine k_nil ?_
      refine k_cons ?_
      refine k_expr ?_
      refine k_m PySem.F.plainAttrs_list PySem.F.slot_list_append PySem.F.type_list_append ?_
      refine k_n 6 ?_
      refine ⟨ty_l (xs := ws.map tS) (.inr (by walk_at "mm")), ?_⟩
      refine a_cons ?_
      refine k_non ?_
      refine a_nil ?_
      refine m_append (xs := ws.map tS) (by walk_at "rep") ?_ (by rw [List.length_map]; omega)
      show kSs _ _ _ _ _ _
      refine k_sub (L' := [(P0, .tbl qs), (P1, .tbl qs2), (pd, .lst [.int n, .int f1])]) (by walk_at "subl") ?_
      refine k_nil ?_
      exact ⟨_, _, rfl, rfl, rfl⟩
    · rintro σ B L ⟨v5, v6, rfl, rfl, rfl⟩
      exact ⟨_, _, rfl, rfl, rfl⟩
  rintro σ' B' L' ⟨v5, v6, rfl, rfl, rfl⟩
  refine k_cut (fun σ' B3 L' => ∃ v5 v6 v7 v8 n' qs qs2 LX, σ' = [some (.ref pd), some (.int (m : Nat)), some (.ref pr), some (.str kep), some (.ref x), v5, v6, v7, v8] ∧ Le B' B3 ∧ TabI B3 qR qs ∧ TabI B3 qT qs2 ∧ L'.Perm LX ∧ List.Sublist [(P0, .tbl qs), (P1, .tbl qs2), (pd, .lst [.int n', .int f1])] LX) ?_ ?_
  · refine k_for_r1 (fun i σ B3 L => ∃ v5 v6 v7 v8 n' qs qs2 LX, σ = [some (.ref pd), some (.int (m : Nat)), some (.ref pr), some (.str kep), some (.ref x), v5, v6, v7, v8] ∧ Le B' B3 ∧ TabI B3 qR qs ∧ TabI B3 qT qs2 ∧ L.Perm LX ∧ List.Sublist [(P0, .tbl qs), (P1, .tbl qs2), (pd, .lst [.int n', .int f1])] LX) po T.b_range ?_
    refine k_int ?_
    refine ⟨3, rfl, by decide, by decide, ⟨v5, v6, none, none, n, qs, qs2, _, rfl, fun _ _ z => z, tab9, tab29, .refl _, .refl _⟩, ?_, ?_⟩
    · rintro i σ B L hi ⟨v5, v6, v7, v8, n', qs, qs2, LX, rfl, lB, tab3, tab23, hp2, hs2⟩
      refine g_name 5 ?_ sc_law_right.nd
      show kSs _ _ _ _ _ _
      refine k_norm (by simp only [L2.start, N_law_right, List.map_cons, List.map_nil, List.length_cons, List.length_nil, Nat.reduceAdd, Nat.reduceSub, List.replicate_succ, List.replicate_zero, List.cons_append, List.nil_append, List.set_cons_succ, List.set_cons_zero]; exact rfl) ?_
      refine k_perm hp2 ?_
      refine k_sub hs2 ?_
      refine k_noT ?_
      replace lB := noTb_le nB2 lB
      have nB3 := noT_noTb B
      replace tab3 := tabi_noT tab3
      replace tab23 := tabi_noT tab23
      generalize noTb B = B at *
      have hprB := Pch.sql_le lB hpr
      refine k_cons ?_
      refine k_set 7 ?_ sc_law_right.nd
      refine k_fn F_law_word (hr.mono (by decide)) ?_
      refine a_cons ?_
      refine k_n 0 ?_
      refine a_cons ?_
      refine k_int ?_
      refine a_cons ?_
      refine k_bin ?_
      refine k_slice ?_
      refine k_s ltL ?_
      refine p_none ?_
      refine p_some ?_
      refine k_callB (id := "len") T.b_len ?_
      refine a_cons ?_
      refine k_n 2 ?_
      refine a_nil ?_
      refine c_lenl (.inl hprB) ?_; rw [List.length_map]
      refine ⟨_, rfl, ?_⟩
      refine sl_s ?_ (by decide); rw [cut_to]
      refine k_slice ?_
      refine k_s [65, 66, 67, 68, 69, 70] ?_
      refine p_none ?_
      refine p_some ?_
      refine k_callB (id := "len") T.b_len ?_
      refine a_cons ?_
      refine k_n 2 ?_
      refine a_nil ?_
      refine c_lenl (.inl hprB) ?_; rw [List.length_map]
      refine ⟨_, rfl, ?_⟩
      refine sl_s ?_ (by decide); rw [cut_to]
      refine o_adds ?_ (by rw [List.length_take, List.length_take]; simp [ltL]; omega)
      refine a_nil ?_
      refine use_law_word (m := 6) hf1 (by walk_at "mm") ⟨by decide, (lts_w (m := ws.length) ⟨w1, w6⟩).2⟩ fun n6 l hl1 hl2 hl3 hl4 => ⟨_, by walk_at "rep", ?_⟩
      show kSs _ _ _ _ _ _
      refine k_norm (by simp only [L2.start, N_law_right, List.map_cons, List.map_nil, List.length_cons, List.length_nil, Nat.reduceAdd, Nat.reduceSub, List.replicate_succ, List.replicate_zero, List.cons_append, List.nil_append, List.set_cons_succ, List.set_cons_zero]; exact rfl) ?_
      have hl128 : ∀ c ∈ l, c < 128 := fun c hc => (show ∀ c ∈ ordL, c < 128 by decide) c (hl1 c hc)
      refine k_one ?_
      refine k_for_l2 po ?_
      refine k_lst ?_
      refine a_cons ?_
      refine k_n 7 ?_
      refine a_cons ?_
      refine k_fn F_law_step (hr.mono (by decide)) ?_
      refine a_cons ?_
      refine k_n 0 ?_
      refine a_cons ?_
      refine k_n 7 ?_
      refine a_nil ?_
      refine use_law_step (G := B) (d := .str (sOf l)) hf1 (by walk_at "mm") (fun _ _ z => z) (.str _) (.str hl128) (by simp only [Pch.sz]; rw [sOf_len]; omega) fun n7 rx y B4 l4 hy hch => ⟨_, by walk_at "rep", ?_⟩
      refine a_nil ?_
      refine ⟨by simp, fun pl => ?_⟩
      have hy4 : Dp K B4 rx y := dp_le (Pch.jn_le l4 nw_le) _ _ (hy B fun _ _ z => z)
      have lBn : Le B' (noTb B4) := noTb_le nB2 fun b o z => l4 _ _ (lB _ _ z)
      have one : ∀ z ∈ [V.str (sOf l), rx], ∃ d, Dp K (noTb B4) z d ∧ Pch.Cm true d ∧ Pch.sz d ≤ 900 := fun z hz => by
        simp only [List.mem_cons, List.not_mem_nil, or_false] at hz
        rcases hz with rfl | rfl
        · exact ⟨.str (sOf l), .str _, .str hl128, by simp only [Pch.sz]; rw [sOf_len]; omega⟩
        · exact ⟨y, dpT _ _ hy4, hch.1, by have h9 := hch.2.1; simp only [Pch.sz] at h9; rw [sOf_len] at h9; omega⟩
      refine ⟨pl, [.str (sOf l), rx], fun i σ B5 L => ∃ v8 qs qs2 LX, σ = [some (.ref pd), some (.int (m : Nat)), some (.ref pr), some (.str kep), some (.ref x), _, v6, some (.str (sOf l)), v8] ∧ Le (noTb B4) B5 ∧ TabI B5 qR qs ∧ TabI B5 qT qs2 ∧ L.Perm LX ∧ LX = [(P0, .tbl qs), (P1, .tbl qs2), (pl, .lst [.str (sOf l), rx]), (pd, .lst [.int n7, .int f1])], rfl, .inr (.head _), ⟨_, _, _, _, rfl, fun b o z => (noTb_some z).1, tab3.le l4, tab23.le l4, ?_, rfl⟩, ?_, ?_, ?_⟩
      · exact (List.Perm.swap _ _ _).trans ((List.Perm.swap _ _ _).cons _)
      · rintro i σ B5 L _ ⟨v8, qs, qs2, LX, rfl, _, _, _, hp, rfl⟩
        exact .inr (hp.mem_iff.mpr (by walk_at "mm"))
      · rintro i z σ B5 L hz ⟨v8, qs5, qs25, LX, rfl, l5, tab5, tab25, hp, rfl⟩
        obtain ⟨d, hd4, cd, sd⟩ := one z (List.mem_of_getElem? hz)
        refine g_name 8 ?_ sc_law_right.nd
        show kSs _ _ _ _ _ _
        refine k_norm (by simp only [L2.start, N_law_right, List.map_cons, List.map_nil, List.length_cons, List.length_nil, Nat.reduceAdd, Nat.reduceSub, List.replicate_succ, List.replicate_zero, List.cons_append, List.nil_append, List.set_cons_succ, List.set_cons_zero]; exact rfl) ?_
        refine k_perm hp ?_
        refine k_noT ?_
        have l6 : Le (noTb B4) (noTb B5) := noTb_le (noT_noTb B4) l5
        have nB6 := noT_noTb B5
        replace tab5 := tabi_noT tab5
        replace tab25 := tabi_noT tab25
        generalize noTb B5 = B6 at *
        generalize noTb B4 = B4n at *
        have hx6 : Le B' B6 := fun b o z => l6 _ _ (lBn _ _ z)
        have hdd := sntD_ok gw d
        refine k_one ?_
        refine k_if ?_
        refine t_cmp ?_
        refine k_callB (id := "repr") T.b_repr ?_
        refine a_cons ?_
        refine k_mono (Q1 := fun v B' L' => ∃ qs qs2 Bt, Le B6 Bt ∧ NoT Bt ∧ TabI Bt qR qs ∧ TabI Bt qT qs2 ∧ Le Bt B' ∧ L' = [(P0, .tbl qs), (P1, .tbl qs2), (pl, .lst [.str (sOf l), rx]), (pd, .lst [.int n7, .int f1])] ∧ v = .str (sOf (sntD ws d))) ?_ ?_
        · refine k_told2 Tk (hr.mono (by decide)) TB rfl h01 (.refl _) tab5 tab25 nB6 (fun p hp => by rcases List.mem_cons.mp hp with rfl | hp; exact pln_lst _; rw [List.mem_singleton.mp hp]; exact pln_lst _) fun B7 qs qs2 l7 n7' t7 t27 A2 o2 s2 H2 f2 c2 hr2 tk2 => ?_
          have hX7 : Snd C B7 x m ws := hW.le fun b o z => l7 _ _ (hx6 _ _ z)
          have hd7 : ∀ H', Sat B7 [(P0, .tbl qs), (P1, .tbl qs2), (pl, .lst [.str (sOf l), rx]), (pd, .lst [.int n7, .int f1])] H' → Dp K H' z d := fun H' s' => dp_le (fun b o z => s'.ext _ _ (l7 _ _ (l6 _ _ z))) _ _ hd4
          refine k_meth M_sent (hr2.mono (by decide)) tk2 ?_
          refine k_n 4 ?_
          refine ⟨_, _, _, rfl, .inl (l7 _ _ (hx6 _ _ hx1)), rfl, ?_⟩
          refine a_cons ?_
          refine k_n 8 ?_
          refine a_nil ?_
          by_cases hb : wdD ws.length d = true
          · obtain ⟨s0, rfl, rfl⟩ : ∃ s0, z = .str (sOf s0) ∧ d = .str (sOf s0) := by
              cases hd4 with
              | str s => exact ⟨s.cps.toList, by rw [sOf_cps], by rw [sOf_cps]⟩
              | _ => cases hb
            have hb2 : (isW (sOf s0).cps.toList && hasL ws.length (sOf s0).cps.toList) = true := hb
            rw [cps_sOf, Bool.and_eq_true] at hb2
            refine use_ssent hX7 ?_ gw hb2.1 hb2.2
            exact ⟨qs, qs2, B7, l7, n7', t7, t27, fun _ _ z => z, rfl, by rw [sntD_yes hb]⟩
          · have hb : wdD ws.length d = false := by simpa using hb
            refine use_ssentB hX7 gw hd7 (fun s e => ?_) hb (el_of eW (by decide) ?_)
            · subst e
              simp only [Pch.sz] at sd
              rw [Array.length_toList]
              have h : s.length ≤ 900 := by omega
              exact Nat.le_trans h (by decide)
            · exact ⟨qs, qs2, B7, l7, n7', t7, t27, fun _ _ z => z, rfl, by rw [sntD_no hb]⟩
        rintro v B8 L8 ⟨qs8, qs28, B7, l7, nB7, tab7, tab27, l78, rfl, rfl⟩
        have l68 : Le B6 B8 := fun b o z => l78 _ _ (l7 _ _ z)
        refine a_nil ?_
        refine c_reprD (d := .str (sOf (sntD ws d))) (fun H' s' => .str _) (Pch.shown_ok hdd.1 (by omega)) hgd (hun _ (by simp only [PyData.depth]; omega)) ?_
        refine k_callB (id := "repr") T.b_repr ?_
        refine a_cons ?_
        refine k_fn F_law_sent (hr.mono (by decide)) ?_
        refine a_cons ?_
        refine k_n 2 ?_
        refine a_cons ?_
        refine k_n 8 ?_
        refine a_nil ?_
        refine use_law_sent (m := m) (ws := ws) (d := d) (fun H' s' => Pch.sql_le (fun b o z => s'.ext _ _ (l68 _ _ (hx6 _ _ z))) hpr) gw (fun H' s' => dp_le (fun b o z => s'.ext _ _ (l68 _ _ (l6 _ _ z))) _ _ hd4) cd sd ?_
        refine a_nil ?_
        refine c_reprD (d := .str (sOf (sntD ws d))) (fun H' s' => .str _) (Pch.shown_ok hdd.1 (by omega)) hgd (hun _ (by simp only [PyData.depth]; omega)) ?_
        refine o_neS rfl ?_
        rw [decide_eq_true rfl]
        refine ⟨_, rfl, fun z => (nomatch z), fun _ => ?_⟩
        refine k_nil ?_
        exact ⟨_, qs8, qs28, _, rfl, fun b o z => l68 _ _ (l6 _ _ z), tab7.le l78, tab27.le l78, .refl _, rfl⟩
      · rintro σ B5 L ⟨v8, qs5, qs25, LX, rfl, l5, tab5, tab25, hp, rfl⟩
        exact ⟨_, _, _, _, n7, qs5, qs25, _, rfl, fun b o z => l5 _ _ (lBn _ _ z), tab5, tab25, hp, .cons_cons _ (.cons_cons _ (List.sublist_cons_self _ _))⟩
    · rintro σ B L ⟨v5, v6, v7, v8, n', qs, qs2, LX, rfl, lB, tab3, tab23, hp2, hs2⟩
      exact ⟨_, _, _, _, _, _, _, _, rfl, lB, tab3, tab23, hp2, hs2⟩
  rintro σ' B3 L' ⟨v5, v6, v7, v8, n', qs, qs2, LX, rfl, lB, tab3, tab23, hp2, hs2⟩
  refine k_perm hp2 ?_
  refine k_sub hs2 ?_
  refine k_one ?_
  refine k_ret ?_
  refine k_and ?_
  refine k_callG F_law_then_right (hr.mono (by decide)) hgd tk ?_
  refine a_cons ?_
  refine k_n 0 ?_
  refine a_cons ?_
  refine k_n 4 ?_
  refine a_cons ?_
  refine k_n 1 ?_
  refine a_cons ?_
  refine k_n 2 ?_
  refine a_nil ?_
  refine use_law_then_right (L1 := []) (List.Perm.swap _ _ _) hf1 tab23 tab3 (fun _ z => (nomatch z)) (hW.le lB) (Pch.sql_le lB hpr) gw fun B4 n8 qs8 qs28 l8 nB8 tab8 tab28 => ?_
  have l4 : Le B' B4 := fun b o z => l8 _ _ (noTb_le nB2 lB _ _ z)
  refine ⟨_, rfl, fun _ => ?_, fun z => (nomatch z)⟩
  refine k_and1 ?_
  refine k_cmp ?_
  refine k_callB (id := "repr") T.b_repr ?_
  refine a_cons ?_
  refine k_n 2 ?_
  refine a_nil ?_
  refine c_reprD (d := .list (ws.map fun l => PyData.str (sOf l))) (fun H' s' => dp_le (fun b o z => s'.ext _ _ (l4 _ _ z)) _ _ hdr3) (Pch.shown_ok cr (by omega)) hgd (hun _ (by omega)) ?_
  refine k_n 3 ?_
  refine o_eqS rfl ?_; rw [hkep, decide_eq_true rfl]
  exact fin l4 tab28 tab8 (by walk_at "mm") (by walk_at "mm") (by walk_at "mm")
abbrev Gd3 (d : PyData) : Prop := Pch.Cm true d ∧ Pch.sz d ≤ 900 ∧ d.depth ≤ 40
theorem use_law_right {P0 P1 : Addr} {B : Hp} {L L1 : HL} {Q : KQ} {E : XK} {pd : Addr} {n f : Int} {vm vr : V} {dm dr : PyData} {ps ps' : Array Value} (pl : L.Perm ((P0, .tbl ps) :: (P1, .tbl ps') :: (pd, .lst [.int n, .int f]) :: L1)) (hf : Dr f) (tab : TabI B qR ps) (tab' : TabI B qT ps') (nL : ∀ p ∈ L1, Pln p.2) (hm : Dp K B vm dm) (hr : Dp K B vr dr) (cm : Gd3 dm) (cr : Gd3 dr)
    (q : ∀ B' n' qs qs', Le (noTb B) B' → NoT B' → TabI B' qR qs → TabI B' qT qs' → Q (.bl true) B' ((P0, .tbl qs) :: (P1, .tbl qs') :: (pd, .lst [.int n', .int f]) :: L1)) : ∀ H, Sat B L H → sp_law_right K P0 P1 [.ref pd, vm, vr] H (up Q) E := fun H s => by
  obtain ⟨h1, h2, h3, h4⟩ := call_tab2 s pl tab tab' nL
  refine ⟨pd, n, f, vm, vr, dm, dr, rfl, h1, hf, h2, dp_le h3 _ _ (dpT _ _ hm), dp_le h3 _ _ (dpT _ _ hr), cm, cr, fun H' n' k e t => ?_⟩
  obtain ⟨B', qs, qs', l, nB, t1, t2, s2⟩ := h4 H' n' k e t
  exact ⟨B', _, s2, q B' n' qs qs' l nB t1 t2⟩
theorem permA (a b c d : Addr × HO) : List.Perm [a, b, c, d] [c, d, a, b] := List.perm_append_comm (l₁ := [a, b]) (l₂ := [c, d])
theorem dws_cm {b : Bool} {m : Nat} {ws : List (List Nat)} (h : Wds m ws) : ∀ d ∈ ws.map (fun l => PyData.str (sOf l)), Pch.Cm b d := fun d hd => by
  obtain ⟨l, hl, rfl⟩ := List.mem_map.mp hd
  exact .str fun c hc => (show ∀ c ∈ ordL, c < 128 by decide) c (((isW_iff l).mp (h l hl).1).2.1 c hc)
theorem dws_sz {m : Nat} : ∀ {ws : List (List Nat)}, Wds m ws → Pch.szA (ws.map fun l => PyData.str (sOf l)) ≤ 10 * ws.length
  | [], _ => by simp [Pch.szA]
  | l :: ws, h => by
    have h1 := dws_sz (ws := ws) fun x hx => h x (.tail _ hx)
    have h2 := (h l List.mem_cons_self).2.2
    rw [List.map_cons, Pch.szA, List.length_cons]
    simp only [Pch.sz]
    rw [sOf_len]
    omega
theorem dws_dp (ws : List (List Nat)) : PyData.depthAll (ws.map fun l => PyData.str (sOf l)) ≤ 0 := Pch.depthA_le fun d hd => by
  obtain ⟨l, _, rfl⟩ := List.mem_map.mp hd
  simp only [PyData.depth]
  omega
theorem cm_pair {m : Nat} {ds : List PyData} (hm : m ≤ 1000) (h : ∀ d ∈ ds, Pch.Cm false d) : Pch.Cm false (.tuple [.int (m : Nat), .tuple ds]) := .tup fun d hd => by
  simp only [List.mem_cons, List.not_mem_nil, or_false] at hd
  rcases hd with rfl | rfl
  · exact .int (by simp; omega)
  · exact .tup h
abbrev N_law : List Str := ["_law_script", "_law_k", "_law_cell", "_law_drawn_here", "_law_into", "_law_words", "_law_turn", "_law_other", "_law_some"]
theorem sc_law : FnScope N_law ["_law_script"] (defScope s_law) := ⟨rfl, rfl, rfl, by decide +kernel, rfl, by decide +kernel, by decide +kernel⟩
def spLaw (K : PySem.W.Frag) (P0 P1 : Addr) : Sp := fun vs H Q _ => ∃ (a : Addr) (ns : List Int), vs = [.ref a] ∧ SqL K H a (ns.map V.int) ∧ ns.length ≤ 63 ∧ H P0 = some (.tbl #[]) ∧ H P1 = some (.tbl #[]) ∧ ∀ H', Q (.bl true) H'
theorem ok_law {f P0 P1 : Addr} {fd : FuncData} (F : Fun K "law" "law" s_law f fd) (hfa : f = He.fAd K (("law" : Str), none)) (T : Tx mg) (h01 : P1 ≠ P0) (F_law_begun : Fn P w K mg base 1 "_law_begun" sp_law_begun) (F_law_next : Fn P w K mg base 1 "_law_next" sp_law_next) (F_law_drawn : Fn P w K mg base 4 "_law_drawn" sp_law_drawn) (F_law_spoilt : Fn P w K mg base 5 "_law_spoilt" (sp_law_spoilt K 2)) (F_law_right : FnG P w K mg base 13 "_law_right" (sp_law_right K P0 P1)) : FnOkG P w K mg base (L2.CX P w) 14 f fd ["_law_script"] (spLaw K P0 P1) := by
  refine fn_okCG F hfa sc_law ?_ fun A outer s0 H vs Q E hr hgd h tk po => ?_
  · rintro vs H Q E ⟨_, _, rfl, _⟩; rfl
  obtain ⟨a0, ns, rfl, ha, hn, hP, hP1, hq⟩ := h
  have ha0 := sqlT ha
  refine ⟨noTb H, [(P0, .tbl #[]), (P1, .tbl #[])], ⟨fun b o e => (noTb_some e).1, fun p hp => by rcases List.mem_cons.mp hp with rfl | hp; exact hP; rw [List.mem_singleton.mp hp]; exact hP1, fun p hp => by rcases List.mem_cons.mp hp with rfl | hp; show noTb H P0 = none; unfold noTb; rw [hP]; rw [List.mem_singleton.mp hp]; show noTb H P1 = none; unfold noTb; rw [hP1], by simp [Ne.symm h01]⟩, ?_⟩
  have nB0 := noT_noTb H
  generalize noTb H = B0 at ha0 nB0
  refine k_cons ?_
  refine k_for_en2 po T.b_enumerate ?_
  refine k_mono (Q1 := fun v B' L' => ∃ (pl : Addr) (cs : List Int) (L0 : HL), v = .ref pl ∧ B' = B0 ∧ L' = (pl, .lst (cs.map V.int)) :: L0 ∧ List.Sublist [(P0, .tbl #[]), (P1, .tbl #[])] L0 ∧ cs.length ≤ 10) ?_ ?_
  · refine k_slice ?_
    refine k_orL ?_
    refine k_n 0 ?_
    refine ⟨a0, ns.map V.int, rfl, .inl ha0, fun _ => ?_, fun _ => ?_⟩
    · refine p_none ?_
      refine p_some ?_
      refine k_int ?_
      refine ⟨_, rfl, ?_⟩
      refine sl_l (xs := ns.map V.int) (.inl ha0) fun pl => ?_
      rw [show (10 : Int) = ((10 : Nat) : Int) from rfl, cut_to, ← List.map_take]
      exact ⟨pl, ns.take 10, _, rfl, rfl, rfl, List.Sublist.refl _, by rw [List.length_take]; omega⟩
    · refine k_or1 ?_
      refine k_lst ?_
      refine a_cons ?_
      refine k_int ?_
      refine a_nil ?_
      refine ⟨by simp, fun p9 => ?_⟩
      refine p_none ?_
      refine p_some ?_
      refine k_int ?_
      refine ⟨_, rfl, ?_⟩
      refine sl_l (xs := [(5 : Int)].map V.int) (.inr (.head _)) fun pl => ?_
      rw [show (10 : Int) = ((10 : Nat) : Int) from rfl, cut_to, ← List.map_take]
      exact ⟨pl, [(5 : Int)].take 10, _, rfl, rfl, rfl, List.sublist_cons_self _ _, by simp⟩
  rintro v B' L' ⟨pl, cs, L0, rfl, rfl, rfl, hsub, hcl⟩
  refine ⟨pl, cs.map V.int, fun i σ B L => ∃ (v1 v2 v3 v4 v5 v6 v7 v8 : Option V) (ps pu : Array Value) (L1 : HL), σ = [some (.ref a0), v1, v2, v3, v4, v5, v6, v7, v8] ∧ NoT B ∧ TabI B qR ps ∧ TabI B qT pu ∧ L.Perm L1 ∧ List.Sublist [(pl, .lst (cs.map V.int)), (P0, .tbl ps), (P1, .tbl pu)] L1, rfl, .inr (.head _), ⟨_, _, _, _, _, _, _, _, #[], #[], _, rfl, nB0, TabI.nil _ _, TabI.nil _ _, .refl _, .cons_cons _ hsub⟩, ?_, ?_, ?_⟩
  · rintro i σ B L _ ⟨_, _, _, _, _, _, _, _, ps, pu, L1, rfl, _, _, _, hp, hs⟩
    exact .inr (hp.mem_iff.mpr (hs.subset List.mem_cons_self))
  · rintro i z σ B L hz ⟨v1, v2, v3, v4, v5, v6, v7, v8, ps, pu, L1, rfl, nB, tab, tabu, hp, hs⟩
    obtain ⟨c, hc, rfl⟩ := List.mem_map.mp (List.mem_of_getElem? hz)
    have hi16 : i < 10 := by have := (List.getElem?_eq_some_iff.mp hz).1; rw [List.length_map] at this; omega
    refine gs_cons ?_
    refine g_name 1 ?_ sc_law.nd
    refine gs_cons ?_
    refine g_name 2 ?_ sc_law.nd
    refine gs_nil ?_
    show kSs _ _ _ _ _ _
    refine k_norm (by simp only [L2.start, N_law, List.map_cons, List.map_nil, List.length_cons, List.length_nil, Nat.reduceAdd, Nat.reduceSub, List.replicate_succ, List.replicate_zero, List.cons_append, List.nil_append, List.set_cons_succ, List.set_cons_zero]; exact rfl) ?_
    refine k_perm hp ?_
    refine k_sub hs ?_
    refine k_cons ?_
    refine k_set 3 ?_ sc_law.nd
    refine k_fn F_law_begun (hr.mono (by decide)) ?_
    refine a_cons ?_
    refine k_n 2 ?_
    refine a_cons ?_
    refine k_n 1 ?_
    refine a_nil ?_
    refine use_law_begun ⟨by omega, by omega⟩ fun pd n0 f1 hf1 => ?_
    show kSs _ _ _ _ _ _
    refine k_norm (by simp only [L2.start, N_law, List.map_cons, List.map_nil, List.length_cons, List.length_nil, Nat.reduceAdd, Nat.reduceSub, List.replicate_succ, List.replicate_zero, List.cons_append, List.nil_append, List.set_cons_succ, List.set_cons_zero]; exact rfl) ?_
    refine k_cons ?_
    refine k_set 4 ?_ sc_law.nd
    refine k_bin ?_
    refine k_int ?_
    refine k_fn F_law_next (hr.mono (by decide)) ?_
    refine a_cons ?_
    refine k_n 3 ?_
    refine a_cons ?_
    refine k_int ?_
    refine a_nil ?_
    refine use_law_next hf1 (by walk_at "mm") (by omega) fun n2 d2 h21 h22 => ⟨_, by walk_at "rep", ?_⟩
    walk_at "opAdd"
    obtain ⟨m, hm9⟩ : ∃ m : Nat, (1 : Int) + d2 = m := ⟨(1 + d2).toNat, by omega⟩
    have hm : 1 ≤ m ∧ m ≤ 6 := by omega
    rw [hm9]
    show kSs _ _ _ _ _ _
    refine k_norm (by simp only [L2.start, N_law, List.map_cons, List.map_nil, List.length_cons, List.length_nil, Nat.reduceAdd, Nat.reduceSub, List.replicate_succ, List.replicate_zero, List.cons_append, List.nil_append, List.set_cons_succ, List.set_cons_zero]; exact rfl) ?_
    refine k_cons ?_
    refine k_set 5 ?_ sc_law.nd
    refine k_fn F_law_drawn (hr.mono (by decide)) ?_
    refine a_cons ?_
    refine k_n 3 ?_
    refine a_cons ?_
    refine k_n 4 ?_
    refine a_cons ?_
    refine k_bin ?_
    refine k_int ?_
    refine k_fn F_law_next (hr.mono (by decide)) ?_
    refine a_cons ?_
    refine k_n 3 ?_
    refine a_cons ?_
    refine k_int ?_
    refine a_nil ?_
    refine use_law_next hf1 (by walk_at "mm") (by omega) fun n2' d2' h21' h22' => ⟨_, by walk_at "rep", ?_⟩
    walk_at "opAdd"; obtain ⟨kz, hkz⟩ : ∃ kz : Nat, (1 : Int) + d2' = kz := ⟨(1 + d2').toNat, by omega⟩; rw [hkz]
    refine a_nil ?_
    refine use_law_drawn hf1 (by walk_at "mm") hm (by omega) fun n3 pt ws B1 l1 ept hws hwl => ⟨_, by walk_at "rep", ?_⟩
    show kSs _ _ _ _ _ _
    refine k_norm (by simp only [L2.start, N_law, List.map_cons, List.map_nil, List.length_cons, List.length_nil, Nat.reduceAdd, Nat.reduceSub, List.replicate_succ, List.replicate_zero, List.cons_append, List.nil_append, List.set_cons_succ, List.set_cons_zero]; exact rfl) ?_
    refine k_noT ?_
    have tab1 := tabi_noT (tab.le l1)
    have tabu1 := tabi_noT (tabu.le l1)
    have nB1 := noT_noTb B1
    have ept1 : noTb B1 pt = some (.tup (ws.map tS)) := noTb_of ept fun _ z => (nomatch z)
    clear ept
    generalize noTb B1 = B1 at *
    have hxs : ∀ {B : Hp}, DpAll K B (ws.map tS) (ws.map fun l => PyData.str (sOf l)) := dpa_words ws
    have hrl : ws.length ≤ 6 := by omega
    have cmr : ∀ d ∈ ws.map (fun l => PyData.str (sOf l)), Pch.Cm true d := dws_cm hws
    have cmr0 : ∀ d ∈ ws.map (fun l => PyData.str (sOf l)), Pch.Cm false d := dws_cm hws
    have szr := dws_sz hws
    have dpr := dws_dp ws
    have gm : Gd3 (.int (m : Nat)) := ⟨.int (by simp; omega), by simp only [Pch.sz]; omega, by simp only [PyData.depth]; omega⟩
    have gl : Gd3 (.list (ws.map fun l => PyData.str (sOf l))) := ⟨.lst rfl cmr, by simp only [Pch.sz]; omega, by simp only [PyData.depth]; omega⟩
    have gt : Gd3 (.tuple (ws.map fun l => PyData.str (sOf l))) := ⟨.tup cmr, by simp only [Pch.sz]; omega, by simp only [PyData.depth]; omega⟩
    refine k_cons ?_
    refine k_if ?_
    refine t_not ?_
    refine t_val ?_
    refine k_callG F_law_right (hr.mono (by decide)) hgd tk ?_
    refine a_cons ?_
    refine k_n 3 ?_
    refine a_cons ?_
    refine k_n 4 ?_
    refine a_cons ?_
    refine e_fz1 ?_; refine k_callT (T := "list") T.b_list ?_
    refine a_cons ?_
    refine k_n 5 ?_
    refine a_nil ?_
    refine c_listt (.inl (.inl (.inl ept1))) fun pz => ⟨pz, _, _, rfl, fun B2 l2 nn2 e2 => ?_⟩
    refine a_nil ?_
    refine use_law_right (L1 := [(pl, .lst (cs.map V.int))]) (permA _ _ _ _) hf1 (tab1.le l2) (tabu1.le l2) (fun p hp => by rw [List.mem_singleton.mp hp]; exact pln_lst _) (.int (m : Nat)) (.lst (.inl (.inl e2)) (hxs)) gm gl fun B3 n4 ps3 pu3 l3 nB3 tab3 tabu3 => ?_
    refine ⟨_, rfl, ?_⟩
    refine ⟨fun z => (nomatch z), fun _ => ?_⟩
    refine k_nil ?_
    have l13 : Le B1 B3 := fun b o z => l3 _ _ (noTb_le nB1 l2 _ _ z)
    refine k_one ?_
    refine k_for_r1 (fun j σ B L => ∃ (v6 v7 v8 : Option V) (n' : Int) (ps' pu' : Array Value), σ = [some (.ref a0), some (.int (i : Nat)), some (.int c), some (.ref pd), some (.int (m : Nat)), some (.ref pt), v6, v7, v8] ∧ Le B1 B ∧ NoT B ∧ TabI B qR ps' ∧ TabI B qT pu' ∧ L = [(P0, .tbl ps'), (P1, .tbl pu'), (pd, .lst [.int n', .int f1]), (pl, .lst (cs.map V.int))]) po T.b_range ?_
    refine k_int ?_
    refine ⟨4, rfl, by decide, by decide, ⟨_, _, _, n4, ps3, pu3, rfl, l13, nB3, tab3, tabu3, rfl⟩, ?_, ?_⟩
    · rintro j σ B L hj ⟨v6, v7, v8, n', ps', pu', rfl, lB, nB', tab', tabu', rfl⟩
      refine g_name 6 ?_ sc_law.nd
      show kSs _ _ _ _ _ _
      refine k_norm (by simp only [L2.start, N_law, List.map_cons, List.map_nil, List.length_cons, List.length_nil, Nat.reduceAdd, Nat.reduceSub, List.replicate_succ, List.replicate_zero, List.cons_append, List.nil_append, List.set_cons_succ, List.set_cons_zero]; exact rfl) ?_
      have hptB := lB _ _ ept1
      refine k_cons ?_
      refine k_set 7 ?_ sc_law.nd
      refine k_call F_law_spoilt (hr.mono (by decide)) tk ?_
      refine a_cons ?_
      refine k_n 3 ?_
      refine a_cons ?_
      refine e_fz1 ?_; refine k_tup ?_
      refine a_cons ?_
      refine k_n 4 ?_
      refine a_cons ?_
      refine k_n 5 ?_
      refine a_nil ?_
      refine ⟨by simp, fun pq => ⟨pq, _, _, rfl, fun B4 l4 nn4 e4 => ?_⟩⟩
      refine a_nil ?_
      refine use_law_spoilt (G := B4) (d := .tuple [.int (m : Nat), .tuple (ws.map fun l => PyData.str (sOf l))]) hf1 (by walk_at "mm") (fun _ _ z => z) (.tup (.inl (.inl e4)) (.cons (.int _) (.cons (.tup (.inl (.inl (l4 _ _ hptB))) (hxs)) .nil))) (cm_pair (by omega) cmr0) (by simp only [Pch.sz, Pch.szA]; omega) (by simp only [PyData.depth, PyData.depthAll]; omega) fun n5 rx x B5 l5 hx5 hsp => ⟨_, by walk_at "rep", ?_⟩
      have hx5 := dp_le (Pch.jn_le l5 nw_le) _ _ (hx5 B4 fun _ _ z => z)
      have hgx : Pch.Cm true x ∧ Pch.sz x ≤ 500 ∧ x.depth ≤ 10 := ⟨hsp.1, by have := hsp.2.1; simp only [Pch.sz, Pch.szA] at this; omega, by have := hsp.2.2; simp only [PyData.depth, PyData.depthAll] at this; omega⟩
      have lB5 : Le B (noTb B5) := noTb_le nB' fun b o z => l5 _ _ (l4 _ _ z)
      show kSs _ _ _ _ _ _
      refine k_norm (by simp only [L2.start, N_law, List.map_cons, List.map_nil, List.length_cons, List.length_nil, Nat.reduceAdd, Nat.reduceSub, List.replicate_succ, List.replicate_zero, List.cons_append, List.nil_append, List.set_cons_succ, List.set_cons_zero]; exact rfl) ?_
      refine k_noT ?_
      replace hx5 := dpT _ _ hx5
      have nB5 := noT_noTb B5
      generalize noTb B5 = B5 at *
      have l15 : Le B1 B5 := fun b o z => lB5 _ _ (lB _ _ z)
      have tab5 := tab'.le lB5
      have tabu5 := tabu'.le lB5
      have gsub : ∀ {d : PyData} {es : List PyData}, d ∈ es → (PyData.tuple es).depth ≤ 10 ∧ Pch.sz (.tuple es) ≤ 500 ∧ Pch.Cm true (.tuple es) → Gd3 d := fun {d es} h ⟨h1, h2, h3⟩ => by
        have a1 := Pch.szA_mem h
        have a2 := Pch.depthA_mem h
        simp only [Pch.sz] at h2
        simp only [PyData.depth] at h1
        refine ⟨?_, by omega, by omega⟩
        cases h3 with
        | tup h3 => exact h3 d h
      refine k_cut (fun σ' B' L' => ∃ ov w1 w2 d1 d2 v8, σ' = [some (.ref a0), some (.int (i : Nat)), some (.int c), some (.ref pd), some (.int (m : Nat)), some (.ref pt), some (.int (j : Nat)), some (.ref ov), v8] ∧ Le B5 B' ∧ SqT K B' ov [w1, w2] ∧ Dp K B' w1 d1 ∧ Dp K B' w2 d2 ∧ Gd3 d1 ∧ Gd3 d2 ∧ L' = [(P0, .tbl ps'), (P1, .tbl pu'), (pd, .lst [.int n5, .int f1]), (pl, .lst (cs.map V.int))]) ?_ ?_
      · have asg : ∀ {D : KD}, (∀ σ' B' L', (∃ ov w1 w2 d1 d2 v8, σ' = [some (.ref a0), some (.int (i : Nat)), some (.int c), some (.ref pd), some (.int (m : Nat)), some (.ref pt), some (.int (j : Nat)), some (.ref ov), v8] ∧ Le B5 B' ∧ SqT K B' ov [w1, w2] ∧ Dp K B' w1 d1 ∧ Dp K B' w2 d2 ∧ Gd3 d1 ∧ Gd3 d2 ∧ L' = [(P0, .tbl ps'), (P1, .tbl pu'), (pd, .lst [.int n5, .int f1]), (pl, .lst (cs.map V.int))]) → D.nx σ' B' L') → ∀ q1 q2 B6 B7, Le B5 B6 → Le B6 B7 → B6 q1 = some (.tup [.ref pt, .int (m : Nat)]) → B7 q2 = some (.tup [.int (m : Nat), .ref q1]) → D.nx [some (.ref a0), some (.int (i : Nat)), some (.int c), some (.ref pd), some (.int (m : Nat)), some (.ref pt), some (.int (j : Nat)), some (.ref q2), v8] B7 [(P0, .tbl ps'), (P1, .tbl pu'), (pd, .lst [.int n5, .int f1]), (pl, .lst (cs.map V.int))] := fun {D} h q1 q2 B6 B7 l6 l7 e6 e7 => by
          have l17 : Le B1 B7 := fun b o z => l7 _ _ (l6 _ _ (l15 _ _ z))
          refine h _ _ _ ⟨q2, _, _, .int (m : Nat), .tuple [.tuple (ws.map fun l => PyData.str (sOf l)), .int (m : Nat)], v8, rfl, fun b o z => l7 _ _ (l6 _ _ z), .inl (.inl e7), .int _, .tup (.inl (.inl (l7 _ _ e6))) (.cons (.tup (.inl (.inl (l17 _ _ ept1))) (hxs)) (.cons (.int _) .nil)), gm, ⟨.tup fun d hd => ?_, ?_, ?_⟩, rfl⟩
          · simp only [List.mem_cons, List.not_mem_nil, or_false] at hd
            rcases hd with rfl | rfl
            · exact gt.1
            · exact gm.1
          · simp only [Pch.sz, Pch.szA]; omega
          · simp only [PyData.depth, PyData.depthAll]; omega
        refine k_if ?_
        refine t_w ?_
        refine w_or ?_
        refine t_not ?_
        refine t_val ?_
        refine k_callB (id := "isinstance") T.b_isinstance ?_
        refine a_cons ?_
        refine k_n 7 ?_
        refine a_cons ?_
        refine k_ty (T := "tuple") T.b_tuple ?_
        refine a_nil ?_
        refine c_isD (d := x) (fun H' s' => dp_le s'.ext _ _ hx5) (kit_tup x) ?_
        refine ⟨_, rfl, ?_⟩
        refine ⟨fun hk => ?_, fun hk => ⟨fun _ => ?_, fun z => (nomatch z)⟩⟩
        · obtain ⟨t, ys, es, rfl, rfl, ht, hys⟩ : ∃ t ys es, rx = .ref t ∧ x = .tuple es ∧ SqT K B5 t ys ∧ DpAll K B5 ys es := by
            cases hx5 with
            | tup h1 h2 => exact ⟨_, _, _, rfl, rfl, h1, h2⟩
            | _ => simp [isTup] at hk
          refine w_or1 ?_
          refine t_cmp ?_
          refine k_callB (id := "len") T.b_len ?_
          refine a_cons ?_
          refine k_n 7 ?_
          refine a_nil ?_
          refine c_lent (.inl ht) ?_
          refine k_int ?_
          walk_at "opNotEq"
          refine ⟨_, rfl, ?_⟩
          refine ⟨fun hk2 => ?_, fun hk2 => ?_⟩
          · refine k_one ?_
            refine k_set 7 ?_ sc_law.nd
            refine e_fz1 ?_
            refine k_tup ?_
            refine a_cons ?_
            refine k_n 4 ?_
            refine a_cons ?_
            refine e_fz1 ?_
            refine k_tup ?_
            refine a_cons ?_
            refine k_n 5 ?_
            refine a_cons ?_
            refine k_n 4 ?_
            refine a_nil ?_
            refine ⟨by simp, fun q1 => ⟨q1, _, _, rfl, fun B6 l6 n6 e6 => ?_⟩⟩
            refine a_nil ?_
            refine ⟨by simp, fun q2 => ⟨q2, _, _, rfl, fun B7 l7 n7 e7 => ?_⟩⟩
            exact asg (fun _ _ _ z => z) q1 q2 B6 B7 l6 l7 e6 e7
          · have hyl : ys.length = 2 := by simp at hk2; omega
            refine k_nil ?_
            obtain ⟨w1, w2, d1, d2, rfl, rfl, h1, h2⟩ : ∃ w1 w2 d1 d2, ys = [w1, w2] ∧ es = [d1, d2] ∧ Dp K B5 w1 d1 ∧ Dp K B5 w2 d2 := by
              cases hys with
              | nil => cases hyl
              | cons h1 t =>
                cases t with
                | nil => cases hyl
                | cons h2 t =>
                  cases t with
                  | nil => exact ⟨_, _, _, _, rfl, rfl, h1, h2⟩
                  | cons _ _ => simp at hyl
            exact ⟨t, w1, w2, d1, d2, v8, rfl, fun _ _ z => z, ht, h1, h2, gsub (by simp) ⟨hgx.2.2, hgx.2.1, hgx.1⟩, gsub (by simp) ⟨hgx.2.2, hgx.2.1, hgx.1⟩, rfl⟩
        · refine k_one ?_
          refine k_set 7 ?_ sc_law.nd
          refine e_fz1 ?_
          refine k_tup ?_
          refine a_cons ?_
          refine k_n 4 ?_
          refine a_cons ?_
          refine e_fz1 ?_
          refine k_tup ?_
          refine a_cons ?_
          refine k_n 5 ?_
          refine a_cons ?_
          refine k_n 4 ?_
          refine a_nil ?_
          refine ⟨by simp, fun q1 => ⟨q1, _, _, rfl, fun B6 l6 n6 e6 => ?_⟩⟩
          refine a_nil ?_
          refine ⟨by simp, fun q2 => ⟨q2, _, _, rfl, fun B7 l7 n7 e7 => ?_⟩⟩
          exact asg (fun _ _ _ z => z) q1 q2 B6 B7 l6 l7 e6 e7
      rintro σ' B6 L' ⟨ov, w1, w2, d1, d2, v8', rfl, l56, hov, h1, h2, g1, g2, rfl⟩
      refine k_cons ?_
      refine k_set 8 ?_ sc_law.nd
      refine k_ix ?_
      refine k_n 7 ?_
      refine k_int ?_
      refine i_tup (xs := [w1, w2]) (.inl hov) (v := w2) (atI_nat (j := 1) rfl) ?_
      show kSs _ _ _ _ _ _
      refine k_norm (by simp only [L2.start, N_law, List.map_cons, List.map_nil, List.length_cons, List.length_nil, Nat.reduceAdd, Nat.reduceSub, List.replicate_succ, List.replicate_zero, List.cons_append, List.nil_append, List.set_cons_succ, List.set_cons_zero]; exact rfl) ?_
      refine k_cut (fun σ' B' L' => ∃ sv d3 n6, σ' = [some (.ref a0), some (.int (i : Nat)), some (.int c), some (.ref pd), some (.int (m : Nat)), some (.ref pt), some (.int (j : Nat)), some (.ref ov), some sv] ∧ Le B6 B' ∧ Dp K B' sv d3 ∧ Gd3 d3 ∧ L' = [(P0, .tbl ps'), (P1, .tbl pu'), (pd, .lst [.int n6, .int f1]), (pl, .lst (cs.map V.int))]) ?_ ?_
      · refine k_if ?_
        refine t_w ?_
        refine w_and ?_
        refine t_val ?_
        refine k_callB (id := "isinstance") T.b_isinstance ?_
        refine a_cons ?_
        refine k_n 8 ?_
        refine a_cons ?_
        refine k_ty (T := "tuple") T.b_tuple ?_
        refine a_nil ?_
        refine c_isD (d := d2) (fun H' s' => dp_le s'.ext _ _ h2) (kit_tup d2) ?_
        refine ⟨_, rfl, ?_⟩
        refine ⟨fun hk => ?_, fun hk => ⟨fun z => (nomatch z), fun _ => ?_⟩⟩
        · obtain ⟨t, ys, es, rfl, rfl, ht, hys⟩ : ∃ t ys es, w2 = .ref t ∧ d2 = .tuple es ∧ SqT K B6 t ys ∧ DpAll K B6 ys es := by
            cases h2 with
            | tup h1 h2 => exact ⟨_, _, _, rfl, rfl, h1, h2⟩
            | _ => simp [isTup] at hk
          refine w_and1 ?_
          refine t_cmp ?_
          refine k_fn F_law_next (hr.mono (by decide)) ?_
          refine a_cons ?_
          refine k_n 3 ?_
          refine a_cons ?_
          refine k_int ?_
          refine a_nil ?_
          refine use_law_next hf1 (by walk_at "mm") (by omega) fun n7 d7 h71 h72 => ⟨_, by walk_at "rep", ?_⟩
          refine k_int ?_
          walk_at "opGt"
          refine ⟨_, rfl, ?_⟩
          refine ⟨fun _ => ?_, fun _ => ?_⟩
          · refine k_one ?_
            refine k_set 8 ?_ sc_law.nd
            refine e_fz1 ?_
            refine k_callT (T := "list") T.b_list ?_
            refine a_cons ?_
            refine k_n 8 ?_
            refine a_nil ?_
            refine c_listt (.inl ht) fun pz => ⟨pz, _, _, rfl, fun B7 l7 n7' e7 => ?_⟩
            refine ⟨.ref pz, .list es, n7, rfl, l7, .lst (.inl (.inl e7)) (dp_leA l7 _ _ hys), ⟨?_, ?_, ?_⟩, rfl⟩
            · cases g2.1 with
              | tup h3 => exact .lst rfl h3
            · have := g2.2.1
              simp only [Pch.sz] at this ⊢; omega
            · have := g2.2.2
              simp only [PyData.depth] at this ⊢; omega
          · refine k_nil ?_
            exact ⟨.ref t, .tuple es, n7, rfl, fun _ _ z => z, .tup ht hys, g2, rfl⟩
        · refine k_nil ?_
          exact ⟨w2, d2, n5, rfl, fun _ _ z => z, h2, g2, rfl⟩
      rintro σ' B7 L' ⟨sv, d3, n6, rfl, l67, h3, g3, rfl⟩
      have l57 : Le B5 B7 := fun b o z => l67 _ _ (l56 _ _ z)
      refine k_one ?_
      refine k_if ?_
      refine t_not ?_
      refine t_val ?_
      refine k_callG F_law_right (hr.mono (by decide)) hgd tk ?_
      refine a_cons ?_
      refine k_n 3 ?_
      refine a_cons ?_
      refine k_ix ?_
      refine k_n 7 ?_
      refine k_int ?_
      refine i_tup (xs := [w1, w2]) (.inl (Pch.sqt_le l67 hov)) (v := w1) (atI_nat (j := 0) rfl) ?_
      refine a_cons ?_
      refine k_n 8 ?_
      refine a_nil ?_
      refine use_law_right (L1 := [(pl, .lst (cs.map V.int))]) (.refl _) hf1 (tab5.le l57) (tabu5.le l57) (fun p hp => by rw [List.mem_singleton.mp hp]; exact pln_lst _) (dp_le l67 _ _ h1) h3 g1 g3 fun B8 n8 ps8 pu8 l8 nB8 tab8 tabu8 => ?_
      refine ⟨_, rfl, ?_⟩
      refine ⟨fun z => (nomatch z), fun _ => ?_⟩
      refine k_nil ?_
      exact ⟨_, _, _, n8, ps8, pu8, rfl, fun b o z => l8 _ _ (noTb_le nB5 l57 _ _ (l15 _ _ z)), nB8, tab8, tabu8, rfl⟩
    · rintro σ B L ⟨v6, v7, v8, n', ps', pu', rfl, lB, nB', tab', tabu', rfl⟩
      exact ⟨_, _, _, _, _, _, _, _, ps', pu', _, rfl, nB', tab', tabu', List.perm_append_comm (l₁ := [_, _, _]) (l₂ := [_]), .cons_cons _ (.cons_cons _ (.cons_cons _ (List.nil_sublist _)))⟩
  · rintro σ B L ⟨v1, v2, v3, v4, v5, v6, v7, v8, ps, pu, L1, rfl, nB, tab, tabu, hp, hs⟩
    show kSs _ _ _ _ _ _
    refine k_one ?_
    refine k_ret ?_
    refine k_bl ?_
    exact fun H' s => hq H'
end
theorem facts {P : Program} {w : World} {K : PySem.W.Frag} {h : Heap} {mg : Str → Option Value} {f : Addr} (X : K.In h) (G : h.Ns mainGlobals mg) (hlf : mg ("law" : Str) = some (.ref f)) (c : He.SaysX hfa hfn [] htf hex w h K) :
    ∃ fd : FuncData, (∀ (s : Shared) (v : Value), BindsTo s fd ⟨[v], []⟩ [("_law_script", v)]) ∧ ∀ base : Heap, K.In base → base.Ns mainGlobals mg → (∀ p ∈ htf, LamX.TabB base mg (He.cT K p).1 (He.cT K p).2) → FnOkG P w K mg base (L2.CX P w) 14 f fd ["_law_script"] (spLaw K (He.cT K (("_law_right" : Str), none)).2 (He.cT K (("_law_then_right" : Str), none)).2) := by
  have cd := c.t.d
  obtain ⟨fd0, G_back_of⟩ := d_top (x := "back_of") (st := s_back_of) cd 0 rfl
  have m_back_of := He.glo_ok X G (cd.fact 0 (f := .glo "back_of") rfl)
  have D_back_of := fun_d G_back_of
  obtain ⟨fd1, G_are_letters⟩ := d_top (x := "are_letters") (st := s_are_letters) cd 1 rfl
  have m_are_letters := He.glo_ok X G (cd.fact 1 (f := .glo "are_letters") rfl)
  have D_are_letters := fun_d G_are_letters
  obtain ⟨fd2, G_is_word⟩ := d_top (x := "is_word") (st := s_is_word) cd 2 rfl
  have m_is_word := He.glo_ok X G (cd.fact 2 (f := .glo "is_word") rfl)
  have D_is_word := fun_d G_is_word
  obtain ⟨fd3, G_need_word⟩ := d_top (x := "need_word") (st := s_need_word) cd 3 rfl
  have m_need_word := He.glo_ok X G (cd.fact 3 (f := .glo "need_word") rfl)
  have D_need_word := fun_d G_need_word
  obtain ⟨fd4, G_put_together⟩ := d_top (x := "put_together") (st := s_put_together) cd 4 rfl
  have m_put_together := He.glo_ok X G (cd.fact 4 (f := .glo "put_together") rfl)
  have D_put_together := fun_d G_put_together
  obtain ⟨fd5, G_back⟩ := d_top (x := "back") (st := s_back) cd 5 rfl
  have m_back := He.glo_ok X G (cd.fact 5 (f := .glo "back") rfl)
  have D_back := fun_d G_back
  obtain ⟨fd6, G_is_whole⟩ := d_top (x := "is_whole") (st := s_is_whole) cd 6 rfl
  have m_is_whole := He.glo_ok X G (cd.fact 6 (f := .glo "is_whole") rfl)
  have D_is_whole := fun_d G_is_whole
  obtain ⟨fd7, G_has_letters⟩ := d_top (x := "has_letters") (st := s_has_letters) cd 7 rfl
  have m_has_letters := He.glo_ok X G (cd.fact 7 (f := .glo "has_letters") rfl)
  have D_has_letters := fun_d G_has_letters
  obtain ⟨fd8, G_Sending_init⟩ := d_mth (C := "Sending") (m := "__init__") (q := "Sending.__init__") (st := s_Sending_init) cd 8 rfl
  have m_Sending_init := He.mkr_ok (cd.fact 8 (f := .mkr "Sending") rfl)
  have D_Sending_init := fun_d G_Sending_init
  obtain ⟨fd9, G_Sending_into⟩ := d_mth (C := "Sending") (m := "into") (q := "Sending.into") (st := s_Sending_into) cd 9 rfl
  have m_Sending_into := He.meth_ok (cd.fact 9 (f := .meth "Sending" "into") rfl)
  have D_Sending_into := fun_d G_Sending_into
  obtain ⟨fd10, G_Sending_many⟩ := d_mth (C := "Sending") (m := "many") (q := "Sending.many") (st := s_Sending_many) cd 10 rfl
  have m_Sending_many := He.meth_ok (cd.fact 10 (f := .meth "Sending" "many") rfl)
  have D_Sending_many := fun_d G_Sending_many
  obtain ⟨fd11, G_Sending_words⟩ := d_mth (C := "Sending") (m := "words") (q := "Sending.words") (st := s_Sending_words) cd 11 rfl
  have m_Sending_words := He.meth_ok (cd.fact 11 (f := .meth "Sending" "words") rfl)
  have D_Sending_words := fun_d G_Sending_words
  obtain ⟨fd12, G_Sending_image⟩ := d_mth (C := "Sending") (m := "image") (q := "Sending.image") (st := s_Sending_image) cd 12 rfl
  have m_Sending_image := He.meth_ok (cd.fact 12 (f := .meth "Sending" "image") rfl)
  have D_Sending_image := fun_d G_Sending_image
  obtain ⟨fd13, G_Sending_sent⟩ := d_mth (C := "Sending") (m := "sent") (q := "Sending.sent") (st := s_Sending_sent) cd 13 rfl
  have m_Sending_sent := He.meth_ok (cd.fact 13 (f := .meth "Sending" "sent") rfl)
  have D_Sending_sent := fun_d G_Sending_sent
  obtain ⟨fd14, G_Sending_then⟩ := d_mth (C := "Sending") (m := "then") (q := "Sending.then") (st := s_Sending_then) cd 14 rfl
  have m_Sending_then := He.meth_ok (cd.fact 14 (f := .meth "Sending" "then") rfl)
  have D_Sending_then := fun_d G_Sending_then
  obtain ⟨fd15, G_law_begun⟩ := d_top (x := "_law_begun") (st := s_law_begun) cd 15 rfl
  have m_law_begun := He.glo_ok X G (cd.fact 15 (f := .glo "_law_begun") rfl)
  have D_law_begun := fun_d G_law_begun
  obtain ⟨fd16, G_law_next⟩ := d_top (x := "_law_next") (st := s_law_next) cd 16 rfl
  have m_law_next := He.glo_ok X G (cd.fact 16 (f := .glo "_law_next") rfl)
  have D_law_next := fun_d G_law_next
  obtain ⟨fd17, G_law_spots⟩ := d_top (x := "_law_spots") (st := s_law_spots) cd 17 rfl
  have m_law_spots := He.glo_ok X G (cd.fact 17 (f := .glo "_law_spots") rfl)
  have D_law_spots := fun_d G_law_spots
  obtain ⟨fd18, G_law_with⟩ := d_top (x := "_law_with") (st := s_law_with) cd 18 rfl
  have m_law_with := He.glo_ok X G (cd.fact 18 (f := .glo "_law_with") rfl)
  have D_law_with := fun_d G_law_with
  obtain ⟨fd19, G_law_step⟩ := d_top (x := "_law_step") (st := s_law_step) cd 19 rfl
  have m_law_step := He.glo_ok X G (cd.fact 19 (f := .glo "_law_step") rfl)
  have D_law_step := fun_d G_law_step
  obtain ⟨fd20, G_law_spoilt⟩ := d_top (x := "_law_spoilt") (st := s_law_spoilt) cd 20 rfl
  have m_law_spoilt := He.glo_ok X G (cd.fact 20 (f := .glo "_law_spoilt") rfl)
  have D_law_spoilt := fun_d G_law_spoilt
  obtain ⟨fd21, G_law_back_of⟩ := d_top (x := "_law_back_of") (st := s_law_back_of) cd 21 rfl
  have m_law_back_of := He.glo_ok X G (cd.fact 21 (f := .glo "_law_back_of") rfl)
  have D_law_back_of := fun_d G_law_back_of
  obtain ⟨fd22, G_law_free⟩ := d_top (x := "_law_free") (st := s_law_free) cd 22 rfl
  have m_law_free := He.glo_ok X G (cd.fact 22 (f := .glo "_law_free") rfl)
  have D_law_free := fun_d G_law_free
  obtain ⟨fd23, G_law_has_letters⟩ := d_top (x := "_law_has_letters") (st := s_law_has_letters) cd 23 rfl
  have m_law_has_letters := He.glo_ok X G (cd.fact 23 (f := .glo "_law_has_letters") rfl)
  have D_law_has_letters := fun_d G_law_has_letters
  obtain ⟨fd24, G_law_is_word⟩ := d_top (x := "_law_is_word") (st := s_law_is_word) cd 24 rfl
  have m_law_is_word := He.glo_ok X G (cd.fact 24 (f := .glo "_law_is_word") rfl)
  have D_law_is_word := fun_d G_law_is_word
  obtain ⟨fd25, G_law_is_number⟩ := d_top (x := "_law_is_number") (st := s_law_is_number) cd 25 rfl
  have m_law_is_number := He.glo_ok X G (cd.fact 25 (f := .glo "_law_is_number") rfl)
  have D_law_is_number := fun_d G_law_is_number
  obtain ⟨fd26, G_law_word⟩ := d_top (x := "_law_word") (st := s_law_word) cd 26 rfl
  have m_law_word := He.glo_ok X G (cd.fact 26 (f := .glo "_law_word") rfl)
  have D_law_word := fun_d G_law_word
  obtain ⟨fd27, G_law_word_of⟩ := d_top (x := "_law_word_of") (st := s_law_word_of) cd 27 rfl
  have m_law_word_of := He.glo_ok X G (cd.fact 27 (f := .glo "_law_word_of") rfl)
  have D_law_word_of := fun_d G_law_word_of
  obtain ⟨fd28, G_law_told⟩ := d_top (x := "_law_told") (st := s_law_told) cd 28 rfl
  have m_law_told := He.glo_ok X G (cd.fact 28 (f := .glo "_law_told") rfl)
  have D_law_told := fun_d G_law_told
  obtain ⟨fd29, G_law_fits⟩ := d_top (x := "_law_fits") (st := s_law_fits) cd 29 rfl
  have m_law_fits := He.glo_ok X G (cd.fact 29 (f := .glo "_law_fits") rfl)
  have D_law_fits := fun_d G_law_fits
  obtain ⟨fd30, G_law_is_sending⟩ := d_top (x := "_law_is_sending") (st := s_law_is_sending) cd 30 rfl
  have m_law_is_sending := He.glo_ok X G (cd.fact 30 (f := .glo "_law_is_sending") rfl)
  have D_law_is_sending := fun_d G_law_is_sending
  obtain ⟨fd31, G_law_sent⟩ := d_top (x := "_law_sent") (st := s_law_sent) cd 31 rfl
  have m_law_sent := He.glo_ok X G (cd.fact 31 (f := .glo "_law_sent") rfl)
  have D_law_sent := fun_d G_law_sent
  obtain ⟨fd32, G_law_drawn⟩ := d_top (x := "_law_drawn") (st := s_law_drawn) cd 32 rfl
  have m_law_drawn := He.glo_ok X G (cd.fact 32 (f := .glo "_law_drawn") rfl)
  have D_law_drawn := fun_d G_law_drawn
  obtain ⟨fd33, G_law_then_right⟩ := d_top (x := "_law_then_right") (st := s_law_then_right) cd 33 rfl
  have m_law_then_right := He.glo_ok X G (cd.fact 33 (f := .glo "_law_then_right") rfl)
  have D_law_then_right := fun_d G_law_then_right
  obtain ⟨fd34, G_law_right⟩ := d_top (x := "_law_right") (st := s_law_right) cd 34 rfl
  have m_law_right := He.glo_ok X G (cd.fact 34 (f := .glo "_law_right") rfl)
  have D_law_right := fun_d G_law_right
  obtain ⟨fd35, G_law⟩ := d_top (x := "law") (st := s_law) cd 35 rfl
  have m_law := He.glo_ok X G (cd.fact 35 (f := .glo "law") rfl)
  have D_law := fun_d G_law
  have g_back_of := He.glo_ok X G (cd.fact 0 (f := .glo "back_of") rfl)
  have g_are_letters := He.glo_ok X G (cd.fact 1 (f := .glo "are_letters") rfl)
  have g_is_word := He.glo_ok X G (cd.fact 2 (f := .glo "is_word") rfl)
  have g_need_word := He.glo_ok X G (cd.fact 3 (f := .glo "need_word") rfl)
  have g_put_together := He.glo_ok X G (cd.fact 4 (f := .glo "put_together") rfl)
  have g_back := He.glo_ok X G (cd.fact 5 (f := .glo "back") rfl)
  have g_is_whole := He.glo_ok X G (cd.fact 6 (f := .glo "is_whole") rfl)
  have g_has_letters := He.glo_ok X G (cd.fact 7 (f := .glo "has_letters") rfl)
  have g__law_begun := He.glo_ok X G (cd.fact 15 (f := .glo "_law_begun") rfl)
  have g__law_next := He.glo_ok X G (cd.fact 16 (f := .glo "_law_next") rfl)
  have g__law_spots := He.glo_ok X G (cd.fact 17 (f := .glo "_law_spots") rfl)
  have g__law_with := He.glo_ok X G (cd.fact 18 (f := .glo "_law_with") rfl)
  have g__law_step := He.glo_ok X G (cd.fact 19 (f := .glo "_law_step") rfl)
  have g__law_spoilt := He.glo_ok X G (cd.fact 20 (f := .glo "_law_spoilt") rfl)
  have g__law_back_of := He.glo_ok X G (cd.fact 21 (f := .glo "_law_back_of") rfl)
  have g__law_free := He.glo_ok X G (cd.fact 22 (f := .glo "_law_free") rfl)
  have g__law_has_letters := He.glo_ok X G (cd.fact 23 (f := .glo "_law_has_letters") rfl)
  have g__law_is_word := He.glo_ok X G (cd.fact 24 (f := .glo "_law_is_word") rfl)
  have g__law_is_number := He.glo_ok X G (cd.fact 25 (f := .glo "_law_is_number") rfl)
  have g__law_word := He.glo_ok X G (cd.fact 26 (f := .glo "_law_word") rfl)
  have g__law_word_of := He.glo_ok X G (cd.fact 27 (f := .glo "_law_word_of") rfl)
  have g__law_told := He.glo_ok X G (cd.fact 28 (f := .glo "_law_told") rfl)
  have g__law_fits := He.glo_ok X G (cd.fact 29 (f := .glo "_law_fits") rfl)
  have g__law_is_sending := He.glo_ok X G (cd.fact 30 (f := .glo "_law_is_sending") rfl)
  have g__law_sent := He.glo_ok X G (cd.fact 31 (f := .glo "_law_sent") rfl)
  have g__law_drawn := He.glo_ok X G (cd.fact 32 (f := .glo "_law_drawn") rfl)
  have g__law_then_right := He.glo_ok X G (cd.fact 33 (f := .glo "_law_then_right") rfl)
  have g__law_right := He.glo_ok X G (cd.fact 34 (f := .glo "_law_right") rfl)
  have g_law := He.glo_ok X G (cd.fact 35 (f := .glo "law") rfl)
  have g_Sending := He.glo_ok X G (cd.fact 54 (f := .glo "Sending") rfl)
  have cls_Sending := He.cls_ok (cd.fact 55 (f := .cls "Sending") rfl)
  have c0_Sending := cd.fact 55 (f := .cls "Sending") rfl
  have no_Sending_goal := He.noat_ok (cd.fact 56 (f := .noat "Sending" "goal") rfl)
  have no_Sending_first_words := He.noat_ok (cd.fact 57 (f := .noat "Sending" "first_words") rfl)
  have g_NoSending := He.glo_ok X G (cd.fact 58 (f := .glo "NoSending") rfl)
  have e_NoSending := exk_of X G (cd.fact 58 (f := .glo "NoSending") rfl) (cd.fact 59 (f := .exc "NoSending") rfl)
  have g_NoWord := He.glo_ok X G (cd.fact 60 (f := .glo "NoWord") rfl)
  have e_NoWord := exk_of X G (cd.fact 60 (f := .glo "NoWord") rfl) (cd.fact 61 (f := .exc "NoWord") rfl)
  have g_TooMany := He.glo_ok X G (cd.fact 62 (f := .glo "TooMany") rfl)
  have e_TooMany := exk_of X G (cd.fact 62 (f := .glo "TooMany") rfl) (cd.fact 63 (f := .exc "TooMany") rfl)
  have g_NoWeb := He.glo_ok X G (cd.fact 64 (f := .glo "NoWeb") rfl)
  have g_NoPlace := He.glo_ok X G (cd.fact 65 (f := .glo "NoPlace") rfl)
  have g_NoRow := He.glo_ok X G (cd.fact 66 (f := .glo "NoRow") rfl)
  have g_NoClub := He.glo_ok X G (cd.fact 67 (f := .glo "NoClub") rfl)
  have g_NoText := He.glo_ok X G (cd.fact 68 (f := .glo "NoText") rfl)
  have g_WordError := He.glo_ok X G (cd.fact 69 (f := .glo "WordError") rfl)
  have exm_NoWord_WordError := He.exm_ok (cd.fact 70 (f := .exm "NoWord" "WordError" true) rfl)
  have exm_NoSending_WordError := He.exm_ok (cd.fact 71 (f := .exm "NoSending" "WordError" true) rfl)
  have exm_TooMany_WordError := He.exm_ok (cd.fact 72 (f := .exm "TooMany" "WordError" true) rfl)
  have T : Tx mg := ⟨He.str_ok X G (cd.fact 36 (f := .str "LETTERS" (sOf ltL)) rfl), He.str_ok X G (cd.fact 37 (f := .str "ORDER" (sOf ordL)) rfl), He.int_ok X G (cd.fact 38 (f := .int "MOST_LETTERS" 60) rfl), He.free_ok X G (cd.fact 39 (f := .free "ValueError") rfl), He.free_ok X G (cd.fact 40 (f := .free "all") rfl), He.free_ok X G (cd.fact 41 (f := .free "isinstance") rfl), He.free_ok X G (cd.fact 42 (f := .free "tuple") rfl), He.free_ok X G (cd.fact 43 (f := .free "str") rfl), He.free_ok X G (cd.fact 44 (f := .free "int") rfl), He.free_ok X G (cd.fact 45 (f := .free "range") rfl), He.free_ok X G (cd.fact 46 (f := .free "list") rfl), He.free_ok X G (cd.fact 47 (f := .free "repr") rfl), He.free_ok X G (cd.fact 48 (f := .free "enumerate") rfl), He.free_ok X G (cd.fact 49 (f := .free "any") rfl), He.free_ok X G (cd.fact 50 (f := .free "len") rfl), He.free_ok X G (cd.fact 51 (f := .free "max") rfl), He.free_ok X G (cd.fact 52 (f := .free "bool") rfl), He.free_ok X G (cd.fact 53 (f := .free "reversed") rfl)⟩
  have h34 := He.ba (show ((((((((((((((((((((((((((((((((((isoB K "Sending" && excB K "NoWord") && excB K "NoSending") && excB K "TooMany") && kitB2 K "NoWord" "NoWord" true) && kitB2 K "NoWord" "NoWeb" false) && kitB2 K "NoWord" "NoPlace" false) && kitB2 K "NoWord" "NoRow" false) && kitB2 K "NoWord" "NoSending" false) && kitB2 K "NoWord" "NoClub" false) && kitB2 K "NoWord" "TooMany" false) && kitB2 K "NoWord" "NoText" false) && kitB2 K "NoSending" "NoWord" false) && kitB2 K "NoSending" "NoWeb" false) && kitB2 K "NoSending" "NoPlace" false) && kitB2 K "NoSending" "NoRow" false) && kitB2 K "NoSending" "NoSending" true) && kitB2 K "NoSending" "NoClub" false) && kitB2 K "NoSending" "TooMany" false) && kitB2 K "NoSending" "NoText" false) && kitB2 K "TooMany" "NoWord" false) && kitB2 K "TooMany" "NoWeb" false) && kitB2 K "TooMany" "NoPlace" false) && kitB2 K "TooMany" "NoRow" false) && kitB2 K "TooMany" "NoSending" false) && kitB2 K "TooMany" "NoClub" false) && kitB2 K "TooMany" "TooMany" true) && kitB2 K "TooMany" "NoText" false) && kitBR K "NoneType" "Sending" false) && kitBR K "bool" "Sending" false) && kitBR K "int" "Sending" false) && kitBR K "str" "Sending" false) && kitBR K "list" "Sending" false) && kitBR K "tuple" "Sending" false) && neT K "_law_right" "_law_then_right") = true from c.more)
  have h33 := He.ba h34.1
  have h32 := He.ba h33.1
  have h31 := He.ba h32.1
  have h30 := He.ba h31.1
  have h29 := He.ba h30.1
  have h28 := He.ba h29.1
  have h27 := He.ba h28.1
  have h26 := He.ba h27.1
  have h25 := He.ba h26.1
  have h24 := He.ba h25.1
  have h23 := He.ba h24.1
  have h22 := He.ba h23.1
  have h21 := He.ba h22.1
  have h20 := He.ba h21.1
  have h19 := He.ba h20.1
  have h18 := He.ba h19.1
  have h17 := He.ba h18.1
  have h16 := He.ba h17.1
  have h15 := He.ba h16.1
  have h14 := He.ba h15.1
  have h13 := He.ba h14.1
  have h12 := He.ba h13.1
  have h11 := He.ba h12.1
  have h10 := He.ba h11.1
  have h9 := He.ba h10.1
  have h8 := He.ba h9.1
  have h7 := He.ba h8.1
  have h6 := He.ba h7.1
  have h5 := He.ba h6.1
  have h4 := He.ba h5.1
  have h3 := He.ba h4.1
  have h2 := He.ba h3.1
  have h1 := He.ba h2.1
  have O_Sending : IsO K (He.ga K "Sending") := iso_of c0_Sending h1.1
  have E_NoWord : ErrIs K mg (He.ga K "NoWord") 0 := ⟨excc_of h1.2, ⟨_, g_NoWord, kit2_of h4.2⟩, ⟨_, g_NoWeb, kit2_of h5.2⟩, ⟨_, g_NoPlace, kit2_of h6.2⟩, ⟨_, g_NoRow, kit2_of h7.2⟩, ⟨_, g_NoSending, kit2_of h8.2⟩, ⟨_, g_NoClub, kit2_of h9.2⟩, ⟨_, g_TooMany, kit2_of h10.2⟩, ⟨_, g_NoText, kit2_of h11.2⟩, ⟨_, g_WordError, exm_NoWord_WordError⟩⟩
  have E_NoSending : ErrIs K mg (He.ga K "NoSending") 4 := ⟨excc_of h2.2, ⟨_, g_NoWord, kit2_of h12.2⟩, ⟨_, g_NoWeb, kit2_of h13.2⟩, ⟨_, g_NoPlace, kit2_of h14.2⟩, ⟨_, g_NoRow, kit2_of h15.2⟩, ⟨_, g_NoSending, kit2_of h16.2⟩, ⟨_, g_NoClub, kit2_of h17.2⟩, ⟨_, g_TooMany, kit2_of h18.2⟩, ⟨_, g_NoText, kit2_of h19.2⟩, ⟨_, g_WordError, exm_NoSending_WordError⟩⟩
  have E_TooMany : ErrIs K mg (He.ga K "TooMany") 6 := ⟨excc_of h3.2, ⟨_, g_NoWord, kit2_of h20.2⟩, ⟨_, g_NoWeb, kit2_of h21.2⟩, ⟨_, g_NoPlace, kit2_of h22.2⟩, ⟨_, g_NoRow, kit2_of h23.2⟩, ⟨_, g_NoSending, kit2_of h24.2⟩, ⟨_, g_NoClub, kit2_of h25.2⟩, ⟨_, g_TooMany, kit2_of h26.2⟩, ⟨_, g_NoText, kit2_of h27.2⟩, ⟨_, g_WordError, exm_TooMany_WordError⟩⟩
  have NI_Sending : NoInst K (He.ga K "Sending") := ⟨kitR_of h28.2, kitR_of h29.2, kitR_of h30.2, kitR_of h31.2, kitR_of h32.2, kitR_of h33.2⟩
  have NE0 := neT_of h34.2
  have e := hlf.symm.trans m_law
  cases e
  have b := FunD.bindsA (ps := ["_law_script"]) G_law fun _ _ _ _ _ _ us hl => match us, hl with | [_], _ => rfl
  refine ⟨_, fun s v => b s [v] rfl, fun base _ _ hTB => ?_⟩
  have TB := hTB (("_law_right" : Str), none) List.mem_cons_self
  have TB2 := hTB (("_law_then_right" : Str), none) (.tail _ List.mem_cons_self)
  have F1 := ok_back_of (P := P) (w := w) (base := base) D_back_of m_back_of T
  have F2 := ok_are_letters (P := P) (w := w) (base := base) D_are_letters m_are_letters T
  have F3 := ok_is_word D_is_word m_is_word T F2 F1
  have F4 := ok_need_word D_need_word m_need_word T F3 e_NoWord
  have F5 := ok_put_together D_put_together m_put_together T F1
  have F6 := ok_back D_back m_back T F1
  have F7 := ok_is_whole (P := P) (w := w) (base := base) D_is_whole m_is_whole T
  have F8 := ok_has_letters D_has_letters m_has_letters T F1
  have F9 := ok_sinit D_Sending_init T cls_Sending no_Sending_goal no_Sending_first_words e_NoSending F7 F3 F8
  have mk := mk_okM D_Sending_init F9 m_Sending_init g_Sending fun _ _ _ _ _ _ us hl => match us, hl with | [_, _, _], _ => rfl
  have M1 := ok_sinto (P := P) (w := w) (mg := mg) (base := base) D_Sending_into m_Sending_into cls_Sending no_Sending_goal
  have M2 := ok_smany (P := P) (w := w) (base := base) D_Sending_many m_Sending_many cls_Sending no_Sending_first_words T
  have M3 := ok_swords (P := P) (w := w) (base := base) D_Sending_words m_Sending_words cls_Sending no_Sending_first_words T
  have M4 := ok_simg D_Sending_image m_Sending_image cls_Sending no_Sending_first_words T F1 F6
  have M5 := ok_ssent D_Sending_sent m_Sending_sent cls_Sending T e_NoWord F4 F8 F5 M2 M4
  have M6 := ok_sthen D_Sending_then m_Sending_then cls_Sending no_Sending_goal no_Sending_first_words T g_Sending O_Sending NI_Sending e_NoSending e_TooMany M2 M1 M5 mk
  have L1 := ok_law_begun (P := P) (w := w) (K := K) (base := base) D_law_begun m_law_begun
  have L2 := ok_law_next (P := P) (w := w) (K := K) (base := base) D_law_next m_law_next
  have L3 := ok_law_back_of (P := P) (w := w) (K := K) (base := base) D_law_back_of m_law_back_of
  have L4 := ok_law_free D_law_free m_law_free T L3
  have L5 := ok_law_word D_law_word m_law_word T L2 L4
  have L6 := ok_law_is_number (P := P) (w := w) (base := base) D_law_is_number m_law_is_number T
  have L7 := ok_law_spots (P := P) (w := w) (base := base) D_law_spots m_law_spots T 2
  have L8 := ok_law_with (P := P) (w := w) (base := base) D_law_with m_law_with T 2
  have L9 := ok_law_step D_law_step m_law_step T L2
  have L9S := ok_law_spoilt D_law_spoilt m_law_spoilt T L2 L7 L8 L9
  have L10 := ok_law_word_of (P := P) (w := w) (base := base) D_law_word_of m_law_word_of T
  have L11 := ok_law_told D_law_told m_law_told g_WordError L10
  have L12 := ok_law_has_letters (P := P) (w := w) (base := base) D_law_has_letters m_law_has_letters T
  have L13 := ok_law_is_word D_law_is_word m_law_is_word T L12 L4
  have L14 := ok_law_fits D_law_fits m_law_fits T L13
  have L15 := ok_law_is_sending D_law_is_sending m_law_is_sending T L6 L14
  have L16 := ok_law_sent D_law_sent m_law_sent T L14 L3 L4
  have L17 := ok_law_drawn D_law_drawn m_law_drawn T L5
  have L18 : FnG P w K mg base 12 "_law_then_right" _ := ⟨_, _, _, ok_law_then_right D_law_then_right rfl T NE0 TB2 L11 E_NoSending E_TooMany g_Sending O_Sending mk M2 M1 M3 M6 L2 L17 L16, m_law_then_right, D_law_then_right.kp, D_law_then_right.binds fun _ _ _ _ _ _ us hl => match us, hl with | [_, _, _, _], _ => rfl⟩
  have L19 : FnG P w K mg base 13 "_law_right" _ := ⟨_, _, _, ok_law_right D_law_right rfl T NE0.symm TB L11 E_NoSending E_NoWord g_Sending O_Sending mk M2 M1 M3 M5 L2 L5 L9 L15 L16 L18, m_law_right, D_law_right.kp, D_law_right.binds fun _ _ _ _ _ _ us hl => match us, hl with | [_, _, _], _ => rfl⟩
  exact ok_law D_law rfl T NE0.symm L1 L2 L17 L9S L19
end K85
open PySem PySem.W PySem.Calls PyProof.Rows
theorem PySem.Challenge.cw_backwords_k85_sendings_changed_anywhere_holds : PySem.Challenge.rw_backwords_k85_sendings_changed_anywhere.Holds := by
  w_on; o_law
  refine HandSHeadRun.head_any (r := OpenLaw.row PySem.Challenge.rw_backwords_k85_sendings_changed_anywhere) (q := K85.hq) (H := K85.hk) (ob := K85.hob) (M := 20000) (loose := K85.hnm) (d := HandSHeadRun.topDef (OpenLaw.row PySem.Challenge.rw_backwords_k85_sendings_changed_anywhere).prog 45) (kwd := []) K85.hob_eq
    (by kernel_rfl) (fun s => by kernel_rfl) K85.hrun (by kernel_rfl) (by kernel_rfl) (by kernel_rfl) (by rfl) (by first | assumption | decide +kernel) (by decide +kernel) ⟨rfl, rfl, rfl, rfl, rfl, by decide +kernel⟩ ?hw ?hc
  case hw => w_witness2
  case hc =>
    refine Kv.walk_endG (l := PySem.Challenge.rw_backwords_k85_sendings_changed_anywhere) (n := 63) (k := 14) (x := "_law_script") rfl (by decide) (by kernel_rfl) ⟨rfl, by decide, by decide⟩ ?F
    intro w mg fa h Y G hmg0
    obtain ⟨K, KX, c⟩ := Y
    have hmg : mg ("law" : PySem.Str) = some (.ref fa) := by
      have e : (HandSHeadRun.topDef (OpenLaw.row PySem.Challenge.rw_backwords_k85_sendings_changed_anywhere).prog 45).name = ("law" : PySem.Str) := by kernel_rfl
      rw [← e]
      exact hmg0
    obtain ⟨fd, hb, hF⟩ := K85.facts (P := (PySem.Challenge.rw_backwords_k85_sendings_changed_anywhere).prog) (w := w) KX G hmg c
    exact ⟨K, fd, K85.htf, K85.spLaw K (He.cT K (("_law_right" : Str), none)).2 (He.cT K (("_law_then_right" : Str), none)).2, KX, c.hd, c.out, c.empty, hb, fun H a ns hl hT hS => ⟨a, ns, rfl, hS, hl, hT _ List.mem_cons_self, hT _ (.tail _ List.mem_cons_self), fun _ => rfl⟩, hF⟩

