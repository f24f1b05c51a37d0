import PyProof.Rows.All
import Wide.All
import OpenK.AllK
import Wide.FinOn
import PySem.Challenge.RW_pb0551_01
open PySem PySem.W PyProof.Rows PySem.Calls
set_option Elab.async false
set_option linter.unusedVariables false
namespace Mine
set_option maxRecDepth 100000 in
set_option maxHeartbeats 8000000 in
open_top hd for PySem.Challenge.rw_pb0551_01
end Mine
namespace Mine
noncomputable section
set_option genInjectivity false
set_option genSizeOf false
/-- one entry of an instance's dict -/
abbrev ent (P : Params) (x : String) (t : Tok) (v : Value) : DictEntry := { hash := PyData.keyHash P (Str.ofString x), key := .str (Str.ofString x) t, val := v }
/-- the port's part that a turn may change -/
inductive Mig where
  | ch
  | se
  | sl
def Mig.s : Mig → Str
  | .ch => Str.ofString "checking"
  | .se => Str.ofString "sensing"
  | .sl => Str.ofString "selecting"
structure St where
  mig : Mig
  en : Bool
  rap : Bool
  ho : Bool
  hr : Bool
  k : Int
/-- what no turn changes of the port's dict: its keys' tokens, the values that nothing here reads -/
structure PK where
  k : Nat → Tok
  v : Nat → Value
def mkPK (ks : List Tok) (vs : List Value) : PK := ⟨fun i => ks.getD i 0, fun i => vs.getD i .none⟩
abbrev portL (P : Params) (κ : PK) (T : Addr) (mig : Str) (en rap ho hr : Bool) (μ : Tok) : List DictEntry := [
  ent P "row" (κ.k 0) (κ.v 0),
  ent P "timers" (κ.k 1) (.ref T),
  ent P "change" (κ.k 2) (κ.v 1),
  ent P "is_enabled" (κ.k 3) (.bool en),
  ent P "is_edge" (κ.k 4) (κ.v 2),
  ent P "told" (κ.k 5) (κ.v 3),
  ent P "info" (κ.k 6) (κ.v 4),
  ent P "vector" (κ.k 7) (κ.v 5),
  ent P "times" (κ.k 8) (κ.v 6),
  ent P "own_vector" (κ.k 9) (κ.v 7),
  ent P "own_times" (κ.k 10) (κ.v 8),
  ent P "role" (κ.k 11) (κ.v 9),
  ent P "chosen" (κ.k 12) (κ.v 10),
  ent P "selected" (κ.k 13) (κ.v 11),
  ent P "reselect" (κ.k 14) (κ.v 12),
  ent P "update" (κ.k 15) (κ.v 13),
  ent P "proposing" (κ.k 16) (κ.v 14),
  ent P "proposed" (κ.k 17) (κ.v 15),
  ent P "agree" (κ.k 18) (κ.v 16),
  ent P "agreed" (κ.k 19) (κ.v 17),
  ent P "disputed" (κ.k 20) (κ.v 18),
  ent P "sync" (κ.k 21) (κ.v 19),
  ent P "synced" (κ.k 22) (κ.v 20),
  ent P "re_root" (κ.k 23) (κ.v 21),
  ent P "learn" (κ.k 24) (κ.v 22),
  ent P "forward" (κ.k 25) (κ.v 23),
  ent P "learning" (κ.k 26) (κ.v 24),
  ent P "forwarding" (κ.k 27) (κ.v 25),
  ent P "is_new" (κ.k 28) (κ.v 26),
  ent P "is_rapid" (κ.k 29) (.bool rap),
  ent P "migration" (κ.k 30) (.str mig μ),
  ent P "heard_old" (κ.k 31) (.bool ho),
  ent P "heard_rapid" (κ.k 32) (.bool hr)]
/-- the timers' keys' tokens; their values' tokens -/
abbrev TK := Nat → Tok
abbrev TV := Nat → Tok
def mkTK (ks : List Tok) : Nat → Tok := fun i => ks.getD i 0
abbrev timL (P : Params) (θ : TK) (k : Int) (τ : TV) : List DictEntry := [
  ent P "forward" (θ 0) (.int 0 (τ 0)),
  ent P "hello" (θ 1) (.int 0 (τ 1)),
  ent P "migrate" (θ 2) (.int k (τ 2)),
  ent P "backup" (θ 3) (.int 0 (τ 3)),
  ent P "info" (θ 4) (.int 0 (τ 4)),
  ent P "root" (θ 5) (.int 0 (τ 5)),
  ent P "change" (θ 6) (.int 0 (τ 6)),
  ent P "sent" (θ 7) (.int 0 (τ 7))]
/-- what a call says: from the ledger news it ends with a value and a ledger of which Post holds -/
def Meets (w : World) (mg mb : Str → Option Value) (mean : ExcName → Option Value) (dp un : Nat) (f : Addr) (vs : List Value) (news : List (Addr × Obj)) (Post : Value → List (Addr × Obj) → Prop) : Prop :=
  ∀ (gd : Option (List Code)) (cn : Str) (cs : Scope) (a : Addr) (ccd : Value) (cl : List (Str × Addr)) (outer : List Env) (A₀ : Around) (base h₀ : Heap) (L : Addr) (m : Str → Option Value) (s : Shared) (Q E : Value → Shared → Prop),
    Below A₀ base outer h₀ → Fr h₀ L s.heap m → (hd.heap_39 w.params).In h₀ → News h₀ L s.heap news → Top hd.view_39 (looseW hd.view_39 []) mean mg mb h₀ → cs.kind = .function →
    (∀ r news' h' tk', Fr h₀ L h' m → News h₀ L h' news' → Post r news' → Q r { s with heap := h', toks := tk' }) →
    wpAny (model PySem.Challenge.rw_pb0551_01.row.prog w) (ktrTop dp un gd cn cs L a ccd cl outer) (call (.ref f) vs) Q E s
def led (P : Params) (x d T dT : Addr) (κ : PK) (θ : TK) (σ : St) (μ : Tok) (τ : TV) (rest : List (Addr × Obj)) : List (Addr × Obj) :=
  (x, instObj 165 d) :: (d, dictOf (portL P κ T σ.mig.s σ.en σ.rap σ.ho σ.hr μ) 33) :: (T, instObj 81 dT) :: (dT, dictOf (timL P θ σ.k τ) 8) :: rest
/-- the two dicts stand apart from all else of the port -/
structure Apart (x d T dT : Addr) : Prop where
  a1 : @Ne Nat x d
  a2 : @Ne Nat T d
  a3 : @Ne Nat dT d
  a4 : @Ne Nat x dT
  a5 : @Ne Nat d dT
  a6 : @Ne Nat T dT
/-- what one call of move_migration makes of the port: none where it answers False -/
def moveF (σ : St) : Option St :=
  match σ.mig with
  | .ch => if σ.en then (if 0 < σ.k then none else some { σ with mig := .se, ho := false, hr := false }) else (if σ.k = 3 then none else some { σ with mig := .ch, rap := true, k := 3 })
  | .sl => if 0 < σ.k ∧ σ.en = true then none else some { σ with mig := .se, ho := false, hr := false }
  | .se => if σ.en = false ∨ (σ.rap = false ∧ σ.hr = true) then some { σ with mig := .ch, rap := true, k := 3 } else if σ.rap = true ∧ σ.ho = true then some { σ with mig := .sl, rap := false, k := 3 } else none
/-- a block's start and end forget the token's number, and say the state by s (k_gentoks does the first too; on a deep term it costs minutes) -/
theorem nil_tok {M : Model} {A : Around} {env : Env} {Q : Flow → Shared → Prop} {E : Value → Shared → Prop} {H : Heap} {X : Nat} (s : Shared) (h : ∀ tk, wpAny M A (execs [] env) Q E { heap := H, gens := s.gens, drawn := s.drawn, toks := tk, os := s.os }) : wpAny M A (execs [] env) Q E { heap := H, gens := s.gens, drawn := s.drawn, toks := X, os := s.os } := h X
theorem cons_tok {M : Model} {A : Around} {env : Env} {a : Stmt} {l : List Stmt} {Q : Flow → Shared → Prop} {E : Value → Shared → Prop} {H : Heap} {X : Nat} (s : Shared) (h : ∀ tk, wpAny M A (execs (a :: l) env) Q E { heap := H, gens := s.gens, drawn := s.drawn, toks := tk, os := s.os }) : wpAny M A (execs (a :: l) env) Q E { heap := H, gens := s.gens, drawn := s.drawn, toks := X, os := s.os } := h X
section
variable {w : World} {A : Around} {E : Value → Shared → Prop} {s : Shared} {h₀ : Heap} {L : Addr} {m : Str → Option Value} {news : List (Addr × Obj)} {x d T dT : Addr} {κ : PK} {θ : TK} {mig : Str} {en rap ho hr : Bool} {μ : Tok} {τ : TV} {k : Int}
set_option maxRecDepth 100000
theorem set_is_enabled {v : Bool} {Q : Unit → Shared → Prop} {news' : List (Addr × Obj)} (F : Fr h₀ L s.heap m) (X : (hd.heap_39 w.params).In h₀) (N : News h₀ L s.heap news) (hx : (x, instObj 165 d) ∈ news) (hm : (d, dictOf (portL w.params κ T mig en rap ho hr μ) 33) ∈ news)
    (U : Upd d (dictOf (portL w.params κ T mig en rap ho hr μ) 33) (dictOf (portL w.params κ T mig v rap ho hr μ) 33) news news') (h : ∀ h', Fr h₀ L h' m → News h₀ L h' news' → Q () { s with heap := h', toks := s.toks + 2 }) :
    wpAny (model PySem.Challenge.rw_pb0551_01.row.prog w) A (setAttr (.ref x) (Str.ofString "is_enabled") (.bool v)) Q E s := by
  revert X; k_fill; intro X
  k_dflt (refine' set_dict F X N (InstAt.of_news N hx hm) ?k5 ?k6 ?k7 ?k8 ?k9 ?k10 ?k11 U ?k13 h)
  case k5 => exact rfl
  case k6 => k_is
  case k7 => k_is
  case k8 => k_is
  case k9 => k_is
  case k10 => k_get
  case k11 => k_put
  case k13 => exact Nat.le_of_ble_eq_true rfl
theorem set_is_rapid {v : Bool} {Q : Unit → Shared → Prop} {news' : List (Addr × Obj)} (F : Fr h₀ L s.heap m) (X : (hd.heap_39 w.params).In h₀) (N : News h₀ L s.heap news) (hx : (x, instObj 165 d) ∈ news) (hm : (d, dictOf (portL w.params κ T mig en rap ho hr μ) 33) ∈ news)
    (U : Upd d (dictOf (portL w.params κ T mig en rap ho hr μ) 33) (dictOf (portL w.params κ T mig en v ho hr μ) 33) news news') (h : ∀ h', Fr h₀ L h' m → News h₀ L h' news' → Q () { s with heap := h', toks := s.toks + 2 }) :
    wpAny (model PySem.Challenge.rw_pb0551_01.row.prog w) A (setAttr (.ref x) (Str.ofString "is_rapid") (.bool v)) Q E s := by
  revert X; k_fill; intro X
  k_dflt (refine' set_dict F X N (InstAt.of_news N hx hm) ?k5 ?k6 ?k7 ?k8 ?k9 ?k10 ?k11 U ?k13 h)
  case k5 => exact rfl
  case k6 => k_is
  case k7 => k_is
  case k8 => k_is
  case k9 => k_is
  case k10 => k_get
  case k11 => k_put
  case k13 => exact Nat.le_of_ble_eq_true rfl
theorem set_heard_old {v : Bool} {Q : Unit → Shared → Prop} {news' : List (Addr × Obj)} (F : Fr h₀ L s.heap m) (X : (hd.heap_39 w.params).In h₀) (N : News h₀ L s.heap news) (hx : (x, instObj 165 d) ∈ news) (hm : (d, dictOf (portL w.params κ T mig en rap ho hr μ) 33) ∈ news)
    (U : Upd d (dictOf (portL w.params κ T mig en rap ho hr μ) 33) (dictOf (portL w.params κ T mig en rap v hr μ) 33) news news') (h : ∀ h', Fr h₀ L h' m → News h₀ L h' news' → Q () { s with heap := h', toks := s.toks + 2 }) :
    wpAny (model PySem.Challenge.rw_pb0551_01.row.prog w) A (setAttr (.ref x) (Str.ofString "heard_old") (.bool v)) Q E s := by
  revert X; k_fill; intro X
  k_dflt (refine' set_dict F X N (InstAt.of_news N hx hm) ?k5 ?k6 ?k7 ?k8 ?k9 ?k10 ?k11 U ?k13 h)
  case k5 => exact rfl
  case k6 => k_is
  case k7 => k_is
  case k8 => k_is
  case k9 => k_is
  case k10 => k_get
  case k11 => k_put
  case k13 => exact Nat.le_of_ble_eq_true rfl
theorem set_heard_rapid {v : Bool} {Q : Unit → Shared → Prop} {news' : List (Addr × Obj)} (F : Fr h₀ L s.heap m) (X : (hd.heap_39 w.params).In h₀) (N : News h₀ L s.heap news) (hx : (x, instObj 165 d) ∈ news) (hm : (d, dictOf (portL w.params κ T mig en rap ho hr μ) 33) ∈ news)
    (U : Upd d (dictOf (portL w.params κ T mig en rap ho hr μ) 33) (dictOf (portL w.params κ T mig en rap ho v μ) 33) news news') (h : ∀ h', Fr h₀ L h' m → News h₀ L h' news' → Q () { s with heap := h', toks := s.toks + 2 }) :
    wpAny (model PySem.Challenge.rw_pb0551_01.row.prog w) A (setAttr (.ref x) (Str.ofString "heard_rapid") (.bool v)) Q E s := by
  revert X; k_fill; intro X
  k_dflt (refine' set_dict F X N (InstAt.of_news N hx hm) ?k5 ?k6 ?k7 ?k8 ?k9 ?k10 ?k11 U ?k13 h)
  case k5 => exact rfl
  case k6 => k_is
  case k7 => k_is
  case k8 => k_is
  case k9 => k_is
  case k10 => k_get
  case k11 => k_put
  case k13 => exact Nat.le_of_ble_eq_true rfl
theorem set_migration {v : Str} {tv : Tok} {Q : Unit → Shared → Prop} {news' : List (Addr × Obj)} (F : Fr h₀ L s.heap m) (X : (hd.heap_39 w.params).In h₀) (N : News h₀ L s.heap news) (hx : (x, instObj 165 d) ∈ news) (hm : (d, dictOf (portL w.params κ T mig en rap ho hr μ) 33) ∈ news)
    (U : Upd d (dictOf (portL w.params κ T mig en rap ho hr μ) 33) (dictOf (portL w.params κ T v en rap ho hr tv) 33) news news') (h : ∀ h', Fr h₀ L h' m → News h₀ L h' news' → Q () { s with heap := h', toks := s.toks + 2 }) :
    wpAny (model PySem.Challenge.rw_pb0551_01.row.prog w) A (setAttr (.ref x) (Str.ofString "migration") (.str v tv)) Q E s := by
  revert X; k_fill; intro X
  k_dflt (refine' set_dict F X N (InstAt.of_news N hx hm) ?k5 ?k6 ?k7 ?k8 ?k9 ?k10 ?k11 U ?k13 h)
  case k5 => exact rfl
  case k6 => k_is
  case k7 => k_is
  case k8 => k_is
  case k9 => k_is
  case k10 => k_get
  case k11 => k_put
  case k13 => exact Nat.le_of_ble_eq_true rfl
theorem set_forward {v : Int} {tv : Tok} {Q : Unit → Shared → Prop} {news' : TV → List (Addr × Obj)} (F : Fr h₀ L s.heap m) (X : (hd.heap_39 w.params).In h₀) (N : News h₀ L s.heap news) (hx : (T, instObj 81 dT) ∈ news) (hm : (dT, dictOf (timL w.params θ k τ) 8) ∈ news)
    (hv : v = 0) (U : ∀ τ', Upd dT (dictOf (timL w.params θ k τ) 8) (dictOf (timL w.params θ k τ') 8) news (news' τ')) (h : ∀ h' τ', Fr h₀ L h' m → News h₀ L h' (news' τ') → Q () { s with heap := h', toks := s.toks + 2 }) :
    wpAny (model PySem.Challenge.rw_pb0551_01.row.prog w) A (setAttr (.ref T) (Str.ofString "forward") (.int v tv)) Q E s := by
  revert X; k_fill; intro X
  subst hv
  k_dflt (refine' set_dict F X N (InstAt.of_news N hx hm) ?k5 ?k6 ?k7 ?k8 ?k9 ?k10 ?k11 (U (fun i => if i = 0 then tv else τ i)) ?k13 (fun h' => h h' (fun i => if i = 0 then tv else τ i)))
  case k5 => exact rfl
  case k6 => k_is
  case k7 => k_is
  case k8 => k_is
  case k9 => k_is
  case k10 => k_get
  case k11 => k_put
  case k13 => exact Nat.le_of_ble_eq_true rfl
theorem set_hello {v : Int} {tv : Tok} {Q : Unit → Shared → Prop} {news' : TV → List (Addr × Obj)} (F : Fr h₀ L s.heap m) (X : (hd.heap_39 w.params).In h₀) (N : News h₀ L s.heap news) (hx : (T, instObj 81 dT) ∈ news) (hm : (dT, dictOf (timL w.params θ k τ) 8) ∈ news)
    (hv : v = 0) (U : ∀ τ', Upd dT (dictOf (timL w.params θ k τ) 8) (dictOf (timL w.params θ k τ') 8) news (news' τ')) (h : ∀ h' τ', Fr h₀ L h' m → News h₀ L h' (news' τ') → Q () { s with heap := h', toks := s.toks + 2 }) :
    wpAny (model PySem.Challenge.rw_pb0551_01.row.prog w) A (setAttr (.ref T) (Str.ofString "hello") (.int v tv)) Q E s := by
  revert X; k_fill; intro X
  subst hv
  k_dflt (refine' set_dict F X N (InstAt.of_news N hx hm) ?k5 ?k6 ?k7 ?k8 ?k9 ?k10 ?k11 (U (fun i => if i = 1 then tv else τ i)) ?k13 (fun h' => h h' (fun i => if i = 1 then tv else τ i)))
  case k5 => exact rfl
  case k6 => k_is
  case k7 => k_is
  case k8 => k_is
  case k9 => k_is
  case k10 => k_get
  case k11 => k_put
  case k13 => exact Nat.le_of_ble_eq_true rfl
theorem set_migrate {v : Int} {tv : Tok} {Q : Unit → Shared → Prop} {news' : TV → List (Addr × Obj)} (F : Fr h₀ L s.heap m) (X : (hd.heap_39 w.params).In h₀) (N : News h₀ L s.heap news) (hx : (T, instObj 81 dT) ∈ news) (hm : (dT, dictOf (timL w.params θ k τ) 8) ∈ news)
    (U : ∀ τ', Upd dT (dictOf (timL w.params θ k τ) 8) (dictOf (timL w.params θ v τ') 8) news (news' τ')) (h : ∀ h' τ', Fr h₀ L h' m → News h₀ L h' (news' τ') → Q () { s with heap := h', toks := s.toks + 2 }) :
    wpAny (model PySem.Challenge.rw_pb0551_01.row.prog w) A (setAttr (.ref T) (Str.ofString "migrate") (.int v tv)) Q E s := by
  revert X; k_fill; intro X
  skip
  k_dflt (refine' set_dict F X N (InstAt.of_news N hx hm) ?k5 ?k6 ?k7 ?k8 ?k9 ?k10 ?k11 (U (fun i => if i = 2 then tv else τ i)) ?k13 (fun h' => h h' (fun i => if i = 2 then tv else τ i)))
  case k5 => exact rfl
  case k6 => k_is
  case k7 => k_is
  case k8 => k_is
  case k9 => k_is
  case k10 => k_get
  case k11 => k_put
  case k13 => exact Nat.le_of_ble_eq_true rfl
theorem set_backup {v : Int} {tv : Tok} {Q : Unit → Shared → Prop} {news' : TV → List (Addr × Obj)} (F : Fr h₀ L s.heap m) (X : (hd.heap_39 w.params).In h₀) (N : News h₀ L s.heap news) (hx : (T, instObj 81 dT) ∈ news) (hm : (dT, dictOf (timL w.params θ k τ) 8) ∈ news)
    (hv : v = 0) (U : ∀ τ', Upd dT (dictOf (timL w.params θ k τ) 8) (dictOf (timL w.params θ k τ') 8) news (news' τ')) (h : ∀ h' τ', Fr h₀ L h' m → News h₀ L h' (news' τ') → Q () { s with heap := h', toks := s.toks + 2 }) :
    wpAny (model PySem.Challenge.rw_pb0551_01.row.prog w) A (setAttr (.ref T) (Str.ofString "backup") (.int v tv)) Q E s := by
  revert X; k_fill; intro X
  subst hv
  k_dflt (refine' set_dict F X N (InstAt.of_news N hx hm) ?k5 ?k6 ?k7 ?k8 ?k9 ?k10 ?k11 (U (fun i => if i = 3 then tv else τ i)) ?k13 (fun h' => h h' (fun i => if i = 3 then tv else τ i)))
  case k5 => exact rfl
  case k6 => k_is
  case k7 => k_is
  case k8 => k_is
  case k9 => k_is
  case k10 => k_get
  case k11 => k_put
  case k13 => exact Nat.le_of_ble_eq_true rfl
theorem set_info {v : Int} {tv : Tok} {Q : Unit → Shared → Prop} {news' : TV → List (Addr × Obj)} (F : Fr h₀ L s.heap m) (X : (hd.heap_39 w.params).In h₀) (N : News h₀ L s.heap news) (hx : (T, instObj 81 dT) ∈ news) (hm : (dT, dictOf (timL w.params θ k τ) 8) ∈ news)
    (hv : v = 0) (U : ∀ τ', Upd dT (dictOf (timL w.params θ k τ) 8) (dictOf (timL w.params θ k τ') 8) news (news' τ')) (h : ∀ h' τ', Fr h₀ L h' m → News h₀ L h' (news' τ') → Q () { s with heap := h', toks := s.toks + 2 }) :
    wpAny (model PySem.Challenge.rw_pb0551_01.row.prog w) A (setAttr (.ref T) (Str.ofString "info") (.int v tv)) Q E s := by
  revert X; k_fill; intro X
  subst hv
  k_dflt (refine' set_dict F X N (InstAt.of_news N hx hm) ?k5 ?k6 ?k7 ?k8 ?k9 ?k10 ?k11 (U (fun i => if i = 4 then tv else τ i)) ?k13 (fun h' => h h' (fun i => if i = 4 then tv else τ i)))
  case k5 => exact rfl
  case k6 => k_is
  case k7 => k_is
  case k8 => k_is
  case k9 => k_is
  case k10 => k_get
  case k11 => k_put
  case k13 => exact Nat.le_of_ble_eq_true rfl
theorem set_root {v : Int} {tv : Tok} {Q : Unit → Shared → Prop} {news' : TV → List (Addr × Obj)} (F : Fr h₀ L s.heap m) (X : (hd.heap_39 w.params).In h₀) (N : News h₀ L s.heap news) (hx : (T, instObj 81 dT) ∈ news) (hm : (dT, dictOf (timL w.params θ k τ) 8) ∈ news)
    (hv : v = 0) (U : ∀ τ', Upd dT (dictOf (timL w.params θ k τ) 8) (dictOf (timL w.params θ k τ') 8) news (news' τ')) (h : ∀ h' τ', Fr h₀ L h' m → News h₀ L h' (news' τ') → Q () { s with heap := h', toks := s.toks + 2 }) :
    wpAny (model PySem.Challenge.rw_pb0551_01.row.prog w) A (setAttr (.ref T) (Str.ofString "root") (.int v tv)) Q E s := by
  revert X; k_fill; intro X
  subst hv
  k_dflt (refine' set_dict F X N (InstAt.of_news N hx hm) ?k5 ?k6 ?k7 ?k8 ?k9 ?k10 ?k11 (U (fun i => if i = 5 then tv else τ i)) ?k13 (fun h' => h h' (fun i => if i = 5 then tv else τ i)))
  case k5 => exact rfl
  case k6 => k_is
  case k7 => k_is
  case k8 => k_is
  case k9 => k_is
  case k10 => k_get
  case k11 => k_put
  case k13 => exact Nat.le_of_ble_eq_true rfl
theorem set_change {v : Int} {tv : Tok} {Q : Unit → Shared → Prop} {news' : TV → List (Addr × Obj)} (F : Fr h₀ L s.heap m) (X : (hd.heap_39 w.params).In h₀) (N : News h₀ L s.heap news) (hx : (T, instObj 81 dT) ∈ news) (hm : (dT, dictOf (timL w.params θ k τ) 8) ∈ news)
    (hv : v = 0) (U : ∀ τ', Upd dT (dictOf (timL w.params θ k τ) 8) (dictOf (timL w.params θ k τ') 8) news (news' τ')) (h : ∀ h' τ', Fr h₀ L h' m → News h₀ L h' (news' τ') → Q () { s with heap := h', toks := s.toks + 2 }) :
    wpAny (model PySem.Challenge.rw_pb0551_01.row.prog w) A (setAttr (.ref T) (Str.ofString "change") (.int v tv)) Q E s := by
  revert X; k_fill; intro X
  subst hv
  k_dflt (refine' set_dict F X N (InstAt.of_news N hx hm) ?k5 ?k6 ?k7 ?k8 ?k9 ?k10 ?k11 (U (fun i => if i = 6 then tv else τ i)) ?k13 (fun h' => h h' (fun i => if i = 6 then tv else τ i)))
  case k5 => exact rfl
  case k6 => k_is
  case k7 => k_is
  case k8 => k_is
  case k9 => k_is
  case k10 => k_get
  case k11 => k_put
  case k13 => exact Nat.le_of_ble_eq_true rfl
theorem set_sent {v : Int} {tv : Tok} {Q : Unit → Shared → Prop} {news' : TV → List (Addr × Obj)} (F : Fr h₀ L s.heap m) (X : (hd.heap_39 w.params).In h₀) (N : News h₀ L s.heap news) (hx : (T, instObj 81 dT) ∈ news) (hm : (dT, dictOf (timL w.params θ k τ) 8) ∈ news)
    (hv : v = 0) (U : ∀ τ', Upd dT (dictOf (timL w.params θ k τ) 8) (dictOf (timL w.params θ k τ') 8) news (news' τ')) (h : ∀ h' τ', Fr h₀ L h' m → News h₀ L h' (news' τ') → Q () { s with heap := h', toks := s.toks + 2 }) :
    wpAny (model PySem.Challenge.rw_pb0551_01.row.prog w) A (setAttr (.ref T) (Str.ofString "sent") (.int v tv)) Q E s := by
  revert X; k_fill; intro X
  subst hv
  k_dflt (refine' set_dict F X N (InstAt.of_news N hx hm) ?k5 ?k6 ?k7 ?k8 ?k9 ?k10 ?k11 (U (fun i => if i = 7 then tv else τ i)) ?k13 (fun h' => h h' (fun i => if i = 7 then tv else τ i)))
  case k5 => exact rfl
  case k6 => k_is
  case k7 => k_is
  case k8 => k_is
  case k9 => k_is
  case k10 => k_get
  case k11 => k_put
  case k13 => exact Nat.le_of_ble_eq_true rfl
end

end
end Mine

namespace Mine
noncomputable section
theorem news_sub {h₀ h : Heap} {L : Addr} {l l' : List (Addr × Obj)} (N : News h₀ L h l) (hs : ∀ p ∈ l', p ∈ l) : News h₀ L h l' := fun p hp => N p (hs p hp)
/-- what the contract of move_migration says of a result -/
abbrev MvPost (w : World) (x d T dT : Addr) (κ : PK) (θ : TK) (rest : List (Addr × Obj)) (σ : St) (r : Value) (n : List (Addr × Obj)) : Prop :=
  r = .bool (moveF σ).isSome ∧ ∃ μ' τ', n = led w.params x d T dT κ θ ((moveF σ).getD σ) μ' τ' rest
section
variable {w : World} {x d T dT : Addr} {κ : PK} {θ : TK} {rest all : List (Addr × Obj)} {σ σ' : St} {Q : Value → Shared → Prop} {s : Shared} {h₀ h' : Heap} {L : Addr} {m : Str → Option Value} {tk' : Nat} {μ : Tok} {τ : TV}
theorem mv_none (hret : ∀ r n h' tk', Fr h₀ L h' m → News h₀ L h' n → MvPost w x d T dT κ θ rest σ r n → Q r { s with heap := h', toks := tk' }) (hc : moveF σ = none) (F : Fr h₀ L h' m) (N : News h₀ L h' (led w.params x d T dT κ θ σ μ τ rest)) : Q (.bool false) { s with heap := h', toks := tk' } :=
  hret _ _ h' tk' F N (by rw [MvPost, hc]; exact ⟨rfl, _, _, rfl⟩)
theorem mv_some (hret : ∀ r n h' tk', Fr h₀ L h' m → News h₀ L h' n → MvPost w x d T dT κ θ rest σ r n → Q r { s with heap := h', toks := tk' }) (hc : moveF σ = some σ') (F : Fr h₀ L h' m) (N : News h₀ L h' all) (sub : ∀ p ∈ led w.params x d T dT κ θ σ' μ τ rest, p ∈ all) : Q (.bool true) { s with heap := h', toks := tk' } :=
  hret _ _ h' tk' F (news_sub N sub) (by rw [MvPost, hc]; exact ⟨rfl, _, _, rfl⟩)
end
section
variable {en rap ho hr : Bool} {k : Int}
theorem m_ch0 (h : en = false) (hk : k = 3) : moveF ⟨.ch, en, rap, ho, hr, k⟩ = none := by simp [moveF, h, hk]
theorem m_ch1 (h : en = false) (hk : k ≠ 3) : moveF ⟨.ch, en, rap, ho, hr, k⟩ = some ⟨.ch, en, true, ho, hr, 3⟩ := by simp [moveF, h, hk]
theorem m_ch2 (h : en = true) (hk : 0 < k) : moveF ⟨.ch, en, rap, ho, hr, k⟩ = none := by simp [moveF, h, hk]
theorem m_ch3 (h : en = true) (hk : ¬ 0 < k) : moveF ⟨.ch, en, rap, ho, hr, k⟩ = some ⟨.se, en, rap, false, false, k⟩ := by simp [moveF, h, hk]
theorem m_sl0 (hk : 0 < k) (h : en = true) : moveF ⟨.sl, en, rap, ho, hr, k⟩ = none := by simp [moveF, h, hk]
theorem m_sl1 (h : en = false) : moveF ⟨.sl, en, rap, ho, hr, k⟩ = some ⟨.se, en, rap, false, false, k⟩ := by simp [moveF, h]
theorem m_sl2 (hk : ¬ 0 < k) : moveF ⟨.sl, en, rap, ho, hr, k⟩ = some ⟨.se, en, rap, false, false, k⟩ := by simp [moveF, hk]
theorem m_se0 (h : en = false) : moveF ⟨.se, en, rap, ho, hr, k⟩ = some ⟨.ch, en, true, ho, hr, 3⟩ := by simp [moveF, h]
theorem m_se1 (h : en = true) (h1 : rap = false) (h2 : hr = true) : moveF ⟨.se, en, rap, ho, hr, k⟩ = some ⟨.ch, en, true, ho, hr, 3⟩ := by simp [moveF, h, h1, h2]
theorem m_se2 (h : en = true) (h1 : rap = false) (h2 : hr = false) : moveF ⟨.se, en, rap, ho, hr, k⟩ = none := by simp [moveF, h, h1, h2]
theorem m_se3 (h : en = true) (h1 : rap = true) (h2 : ho = true) : moveF ⟨.se, en, rap, ho, hr, k⟩ = some ⟨.sl, en, false, ho, hr, 3⟩ := by simp [moveF, h, h1, h2]
theorem m_se4 (h : en = true) (h1 : rap = true) (h2 : ho = false) : moveF ⟨.se, en, rap, ho, hr, k⟩ = none := by simp [moveF, h, h1, h2]
end
set_option maxRecDepth 100000 in
set_option maxHeartbeats 8000000 in
theorem check_ok {w : World} {mg mb : Str → Option Value} {mean : ExcName → Option Value} {dp un : Nat} {x d T dT : Addr} {κ : PK} {θ : TK} {μ : Tok} {τ : TV} {rest : List (Addr × Obj)} {mig : Str} {en rap ho hr : Bool} {k : Int} (hdp : dp + 1 < recursionLimit) (ne : Apart x d T dT) (off : OwnOff rest [x, d, T, dT]) :
    Meets w mg mb mean dp un 176 [.ref x] ((x, instObj 165 d) :: (d, dictOf (portL w.params κ T mig en rap ho hr μ) 33) :: (T, instObj 81 dT) :: (dT, dictOf (timL w.params θ k τ) 8) :: rest)
      (fun r n => r = .none ∧ ∃ μ' τ', n = (x, instObj 165 d) :: (d, dictOf (portL w.params κ T (Str.ofString "checking") en true ho hr μ') 33) :: (T, instObj 81 dT) :: (dT, dictOf (timL w.params θ 3 τ') 8) :: rest) := by
  unfold Meets
  k_fill
  intro gd cn cs a ccd cl outer A₀ base h₀ L m s Q E B F X N T' hk hret
  obtain ⟨n1, n2, n3, n4, n5, n6⟩ := ne
  refine wpAny_call ?_
  k_dflt cell_enter
  (rename Fr _ _ _ _ => F9); replace F9 : Fr _ _ _ (fun y => List.lookup y [(Str.ofString "port", Value.ref x)]) := F9
  k_with_none
  k_with "execs nil" => (refine nil_tok s ?_; intro tk; refine wpAny_execs_nil ?_)
  k_with "execs cons" => (refine cons_tok s ?_; intro tk; refine wpAny_execs_cons ?_; (try k_fold))
  k_with "setAttr ref" => (first | ((with_reducible show wpAny _ _ (setAttr _ (Str.ofString "migration") _) _ _ _); k_dflt (refine' set_migration ?k1 ?k2 ?k3 ?k4 ?k5 ?k6 ?_; (case k1 => k_asm); (case k2 => k_asm); (case k3 => k_asm); (case k4 => k_mem); (case k5 => k_mem); (case k6 => k_upd); k_whole); intro h' F' N'; (try k_sweep)) | ((with_reducible show wpAny _ _ (setAttr _ (Str.ofString "is_rapid") _) _ _ _); k_dflt (refine' set_is_rapid ?k1 ?k2 ?k3 ?k4 ?k5 ?k6 ?_; (case k1 => k_asm); (case k2 => k_asm); (case k3 => k_asm); (case k4 => k_mem); (case k5 => k_mem); (case k6 => k_upd); k_whole); intro h' F' N'; (try k_sweep)) | ((with_reducible show wpAny _ _ (setAttr _ (Str.ofString "migrate") _) _ _ _); k_dflt (refine' set_migrate ?k1 ?k2 ?k3 ?k4 ?k5 ?k6 ?_; (case k1 => k_asm); (case k2 => k_asm); (case k3 => k_asm); (case k4 => k_mem); (case k5 => k_mem); (case k6 => (intro τ'; k_upd)); k_whole); intro h' τ' F' N'; (try k_sweep)))
  k_steps
  all_goals exact hret _ _ _ _ (by k_asm) (by k_asm) ⟨rfl, _, _, rfl⟩
set_option maxRecDepth 100000 in
set_option maxHeartbeats 8000000 in
theorem sense_ok {w : World} {mg mb : Str → Option Value} {mean : ExcName → Option Value} {dp un : Nat} {x d : Addr} {κ : PK} {T : Addr} {μ : Tok} {rest : List (Addr × Obj)} {mig : Str} {en rap ho hr : Bool} (hdp : dp + 1 < recursionLimit) (n1 : @Ne Nat x d) (off : OwnOff rest [d]) :
    Meets w mg mb mean dp un 183 [.ref x] ((x, instObj 165 d) :: (d, dictOf (portL w.params κ T mig en rap ho hr μ) 33) :: rest)
      (fun r n => r = .none ∧ ∃ μ', n = (x, instObj 165 d) :: (d, dictOf (portL w.params κ T (Str.ofString "sensing") en rap false false μ') 33) :: rest) := by
  unfold Meets
  k_fill
  intro gd cn cs a ccd cl outer A₀ base h₀ L m s Q E B F X N T' hk hret
  refine wpAny_call ?_
  k_dflt cell_enter
  (rename Fr _ _ _ _ => F9); replace F9 : Fr _ _ _ (fun y => List.lookup y [(Str.ofString "port", Value.ref x)]) := F9
  k_with_none
  k_with "execs nil" => (refine nil_tok s ?_; intro tk; refine wpAny_execs_nil ?_)
  k_with "execs cons" => (refine cons_tok s ?_; intro tk; refine wpAny_execs_cons ?_; (try k_fold))
  k_with "setAttr ref" => (first | ((with_reducible show wpAny _ _ (setAttr _ (Str.ofString "migration") _) _ _ _); k_dflt (refine' set_migration ?k1 ?k2 ?k3 ?k4 ?k5 ?k6 ?_; (case k1 => k_asm); (case k2 => k_asm); (case k3 => k_asm); (case k4 => k_mem); (case k5 => k_mem); (case k6 => k_upd); k_whole); intro h' F' N'; (try k_sweep)) | ((with_reducible show wpAny _ _ (setAttr _ (Str.ofString "heard_old") _) _ _ _); k_dflt (refine' set_heard_old ?k1 ?k2 ?k3 ?k4 ?k5 ?k6 ?_; (case k1 => k_asm); (case k2 => k_asm); (case k3 => k_asm); (case k4 => k_mem); (case k5 => k_mem); (case k6 => k_upd); k_whole); intro h' F' N'; (try k_sweep)) | ((with_reducible show wpAny _ _ (setAttr _ (Str.ofString "heard_rapid") _) _ _ _); k_dflt (refine' set_heard_rapid ?k1 ?k2 ?k3 ?k4 ?k5 ?k6 ?_; (case k1 => k_asm); (case k2 => k_asm); (case k3 => k_asm); (case k4 => k_mem); (case k5 => k_mem); (case k6 => k_upd); k_whole); intro h' F' N'; (try k_sweep)))
  k_steps
  all_goals exact hret _ _ _ _ (by k_asm) (by k_asm) ⟨rfl, _, rfl⟩
section
variable {w : World} {mg mb : Str → Option Value} {mean : ExcName → Option Value} {x d T dT : Addr} {κ : PK} {θ : TK} {μ : Tok} {τ : TV} {rest : List (Addr × Obj)} {mig : Str} {en rap ho hr : Bool} {k : Int}
  {gd : Option (List Code)} {cn : Str} {cs : Scope} {a : Addr} {ccd : Value} {cl : List (Str × Addr)} {outer : List Env} {A₀ : Around} {base h₀ : Heap} {L : Addr} {m : Str → Option Value} {s : Shared} {Q E : Value → Shared → Prop}
theorem check_call (B : Below A₀ base outer h₀) (F : Fr h₀ L s.heap m) (X : (hd.heap_39 w.params).In h₀) (N : News h₀ L s.heap ((x, instObj 165 d) :: (d, dictOf (portL w.params κ T mig en rap ho hr μ) 33) :: (T, instObj 81 dT) :: (dT, dictOf (timL w.params θ k τ) 8) :: rest)) (T' : Top hd.view_39 (looseW hd.view_39 []) mean mg mb h₀) (hk : cs.kind = .function)
    (off : OwnOff rest [x, d, T, dT]) (ne : Apart x d T dT)
    (hret : ∀ μ' τ' h' tk', Fr h₀ L h' m → News h₀ L h' ((x, instObj 165 d) :: (d, dictOf (portL w.params κ T (Str.ofString "checking") en true ho hr μ') 33) :: (T, instObj 81 dT) :: (dT, dictOf (timL w.params θ 3 τ') 8) :: rest) → Q .none { s with heap := h', toks := tk' }) :
    wpAny (model PySem.Challenge.rw_pb0551_01.row.prog w) (ktrTop 305 16 gd cn cs L a ccd cl outer) (call (.ref 176) [.ref x]) Q E s :=
  check_ok (by decide) ne off gd cn cs a ccd cl outer A₀ base h₀ L m s Q E B F X N T' hk fun r n h' tk' F' N' hP => by obtain ⟨hr, μ', τ', hn⟩ := hP; subst hr; subst hn; exact hret μ' τ' h' tk' F' N'
theorem sense_call (B : Below A₀ base outer h₀) (F : Fr h₀ L s.heap m) (X : (hd.heap_39 w.params).In h₀) (N : News h₀ L s.heap ((x, instObj 165 d) :: (d, dictOf (portL w.params κ T mig en rap ho hr μ) 33) :: (T, instObj 81 dT) :: (dT, dictOf (timL w.params θ k τ) 8) :: rest)) (T' : Top hd.view_39 (looseW hd.view_39 []) mean mg mb h₀) (hk : cs.kind = .function)
    (off : OwnOff rest [x, d, T, dT]) (ne : Apart x d T dT)
    (hret : ∀ μ' h' tk', Fr h₀ L h' m → News h₀ L h' ((x, instObj 165 d) :: (d, dictOf (portL w.params κ T (Str.ofString "sensing") en rap false false μ') 33) :: (T, instObj 81 dT) :: (dT, dictOf (timL w.params θ k τ) 8) :: rest) → Q .none { s with heap := h', toks := tk' }) :
    wpAny (model PySem.Challenge.rw_pb0551_01.row.prog w) (ktrTop 305 16 gd cn cs L a ccd cl outer) (call (.ref 183) [.ref x]) Q E s :=
  sense_ok (by decide) ne.a1
    (by
      intro p hp c hc
      rw [List.mem_singleton.mp hc]
      rcases List.mem_cons.mp hp with rfl | hp
      · exact ne.a2
      rcases List.mem_cons.mp hp with rfl | hp
      · exact ne.a3
      exact off p hp d (.tail _ (.head _)))
    gd cn cs a ccd cl outer A₀ base h₀ L m s Q E B F X N T' hk fun r n h' tk' F' N' hP => by obtain ⟨hr, μ', hn⟩ := hP; subst hr; subst hn; exact hret μ' h' tk' F' N'
end
set_option maxRecDepth 100000 in
set_option maxHeartbeats 8000000 in
theorem mv_ch {w : World} {mg mb : Str → Option Value} {mean : ExcName → Option Value} {x d T dT : Addr} {κ : PK} {θ : TK} {μ : Tok} {τ : TV} {rest : List (Addr × Obj)} {vb : Value}
    {en rap ho hr : Bool} {k : Int} (ne : Apart x d T dT) (off : OwnOff rest [x, d, T, dT]) :
    Meets w mg mb mean 304 13 190 [vb, .ref x] (led w.params x d T dT κ θ ⟨.ch, en, rap, ho, hr, k⟩ μ τ rest)
      (MvPost w x d T dT κ θ rest ⟨.ch, en, rap, ho, hr, k⟩) := by
  unfold Meets
  k_fill
  intro gd cn cs a ccd cl outer A₀ base h₀ L m s Q E B F X N T' hk hret
  unfold led at N
  dsimp only [Mig.s] at N
  refine wpAny_call ?_
  k_dflt cell_enter
  skip
  (rename Fr _ _ _ _ => F9); replace F9 : Fr _ _ _ (fun y => List.lookup y [(Str.ofString "port", Value.ref x), (Str.ofString "bridge", vb)]) := F9
  k_with_none
  k_with "execs nil" => (refine nil_tok s ?_; intro tk; refine wpAny_execs_nil ?_)
  k_with "execs cons" => (refine cons_tok s ?_; intro tk; refine wpAny_execs_cons ?_; (try k_fold))
  k_with "call ref" => (first | (k_dflt (refine' check_call ?k1 ?k2 ?k3 ?k4 ?k5 ?k6 ?k7 ?k8 ?_; (case k1 => k_asm); (case k2 => k_asm); (case k3 => k_asm); (case k4 => k_asm); (case k5 => k_asm); (case k6 => exact rfl); (case k7 => assumption); (case k8 => assumption); k_whole); intro μ' τ' h' tk' F' N'; (try k_sweep); (try k_fold)) | (k_dflt (refine' sense_call ?k1 ?k2 ?k3 ?k4 ?k5 ?k6 ?k7 ?k8 ?_; (case k1 => k_asm); (case k2 => k_asm); (case k3 => k_asm); (case k4 => k_asm); (case k5 => k_asm); (case k6 => exact rfl); (case k7 => assumption); (case k8 => assumption); k_whole); intro μ' h' tk' F' N'; (try k_sweep); (try k_fold)))
  skip
  k_steps
  all_goals first
    | (refine' mv_none hret ?hc ?F ?N; (case F => k_asm); (case N => k_asm); (case hc => first | exact m_ch0 (by assumption) (by assumption) | exact m_ch2 (by assumption) (by assumption)))
    | (refine' mv_some hret ?hc ?F ?N ?sub; (case F => k_asm); (case N => k_asm); (case hc => first | exact m_ch1 (by assumption) (by assumption) | exact m_ch3 (by assumption) (by assumption)); (case sub => (unfold led; dsimp only [Mig.s]; exact fun _ h => h)))
set_option maxRecDepth 100000 in
set_option maxHeartbeats 8000000 in
theorem mv_sl {w : World} {mg mb : Str → Option Value} {mean : ExcName → Option Value} {x d T dT : Addr} {κ : PK} {θ : TK} {μ : Tok} {τ : TV} {rest : List (Addr × Obj)} {vb : Value}
    {en rap ho hr : Bool} {k : Int} (ne : Apart x d T dT) (off : OwnOff rest [x, d, T, dT]) :
    Meets w mg mb mean 304 13 190 [vb, .ref x] (led w.params x d T dT κ θ ⟨.sl, en, rap, ho, hr, k⟩ μ τ rest)
      (MvPost w x d T dT κ θ rest ⟨.sl, en, rap, ho, hr, k⟩) := by
  unfold Meets
  k_fill
  intro gd cn cs a ccd cl outer A₀ base h₀ L m s Q E B F X N T' hk hret
  unfold led at N
  dsimp only [Mig.s] at N
  refine wpAny_call ?_
  k_dflt cell_enter
  skip
  (rename Fr _ _ _ _ => F9); replace F9 : Fr _ _ _ (fun y => List.lookup y [(Str.ofString "port", Value.ref x), (Str.ofString "bridge", vb)]) := F9
  k_with_none
  k_with "execs nil" => (refine nil_tok s ?_; intro tk; refine wpAny_execs_nil ?_)
  k_with "execs cons" => (refine cons_tok s ?_; intro tk; refine wpAny_execs_cons ?_; (try k_fold))
  k_with "call ref" => (first | (k_dflt (refine' check_call ?k1 ?k2 ?k3 ?k4 ?k5 ?k6 ?k7 ?k8 ?_; (case k1 => k_asm); (case k2 => k_asm); (case k3 => k_asm); (case k4 => k_asm); (case k5 => k_asm); (case k6 => exact rfl); (case k7 => assumption); (case k8 => assumption); k_whole); intro μ' τ' h' tk' F' N'; (try k_sweep); (try k_fold)) | (k_dflt (refine' sense_call ?k1 ?k2 ?k3 ?k4 ?k5 ?k6 ?k7 ?k8 ?_; (case k1 => k_asm); (case k2 => k_asm); (case k3 => k_asm); (case k4 => k_asm); (case k5 => k_asm); (case k6 => exact rfl); (case k7 => assumption); (case k8 => assumption); k_whole); intro μ' h' tk' F' N'; (try k_sweep); (try k_fold)))
  skip
  k_steps
  all_goals first
    | (refine' mv_none hret ?hc ?F ?N; (case F => k_asm); (case N => k_asm); (case hc => first | exact m_sl0 (by assumption) (by assumption)))
    | (refine' mv_some hret ?hc ?F ?N ?sub; (case F => k_asm); (case N => k_asm); (case hc => first | exact m_sl1 (by assumption) | exact m_sl2 (by assumption)); (case sub => (unfold led; dsimp only [Mig.s]; exact fun _ h => h)))
set_option maxRecDepth 100000 in
set_option maxHeartbeats 8000000 in
theorem mv_se {w : World} {mg mb : Str → Option Value} {mean : ExcName → Option Value} {x d T dT : Addr} {κ : PK} {θ : TK} {μ : Tok} {τ : TV} {rest : List (Addr × Obj)} {vb : Value}
    {en rap ho hr : Bool} {k : Int} (ne : Apart x d T dT) (off : OwnOff rest [x, d, T, dT]) :
    Meets w mg mb mean 304 13 190 [vb, .ref x] (led w.params x d T dT κ θ ⟨.se, en, rap, ho, hr, k⟩ μ τ rest)
      (MvPost w x d T dT κ θ rest ⟨.se, en, rap, ho, hr, k⟩) := by
  unfold Meets
  k_fill
  intro gd cn cs a ccd cl outer A₀ base h₀ L m s Q E B F X N T' hk hret
  unfold led at N
  dsimp only [Mig.s] at N
  refine wpAny_call ?_
  k_dflt cell_enter
  obtain ⟨n1, n2, n3, n4, n5, n6⟩ := id ne
  (rename Fr _ _ _ _ => F9); replace F9 : Fr _ _ _ (fun y => List.lookup y [(Str.ofString "port", Value.ref x), (Str.ofString "bridge", vb)]) := F9
  k_with_none
  k_with "execs nil" => (refine nil_tok s ?_; intro tk; refine wpAny_execs_nil ?_)
  k_with "execs cons" => (refine cons_tok s ?_; intro tk; refine wpAny_execs_cons ?_; (try k_fold))
  k_with "call ref" => (first | (k_dflt (refine' check_call ?k1 ?k2 ?k3 ?k4 ?k5 ?k6 ?k7 ?k8 ?_; (case k1 => k_asm); (case k2 => k_asm); (case k3 => k_asm); (case k4 => k_asm); (case k5 => k_asm); (case k6 => exact rfl); (case k7 => assumption); (case k8 => assumption); k_whole); intro μ' τ' h' tk' F' N'; (try k_sweep); (try k_fold)) | (k_dflt (refine' sense_call ?k1 ?k2 ?k3 ?k4 ?k5 ?k6 ?k7 ?k8 ?_; (case k1 => k_asm); (case k2 => k_asm); (case k3 => k_asm); (case k4 => k_asm); (case k5 => k_asm); (case k6 => exact rfl); (case k7 => assumption); (case k8 => assumption); k_whole); intro μ' h' tk' F' N'; (try k_sweep); (try k_fold)))
  k_with "setAttr ref" => (first | ((with_reducible show wpAny _ _ (setAttr _ (Str.ofString "is_rapid") _) _ _ _); k_dflt (refine' set_is_rapid ?k1 ?k2 ?k3 ?k4 ?k5 ?k6 ?_; (case k1 => k_asm); (case k2 => k_asm); (case k3 => k_asm); (case k4 => k_mem); (case k5 => k_mem); (case k6 => k_upd); k_whole); intro h' F' N'; (try k_sweep)) | ((with_reducible show wpAny _ _ (setAttr _ (Str.ofString "migration") _) _ _ _); k_dflt (refine' set_migration ?k1 ?k2 ?k3 ?k4 ?k5 ?k6 ?_; (case k1 => k_asm); (case k2 => k_asm); (case k3 => k_asm); (case k4 => k_mem); (case k5 => k_mem); (case k6 => k_upd); k_whole); intro h' F' N'; (try k_sweep)) | ((with_reducible show wpAny _ _ (setAttr _ (Str.ofString "migrate") _) _ _ _); k_dflt (refine' set_migrate ?k1 ?k2 ?k3 ?k4 ?k5 ?k6 ?_; (case k1 => k_asm); (case k2 => k_asm); (case k3 => k_asm); (case k4 => k_mem); (case k5 => k_mem); (case k6 => (intro τ'; k_upd)); k_whole); intro h' τ' F' N'; (try k_sweep)))
  k_steps
  all_goals first
    | (refine' mv_none hret ?hc ?F ?N; (case F => k_asm); (case N => k_asm); (case hc => first | exact m_se2 (by assumption) (by assumption) (by assumption) | exact m_se4 (by assumption) (by assumption) (by assumption)))
    | (refine' mv_some hret ?hc ?F ?N ?sub; (case F => k_asm); (case N => k_asm); (case hc => first | exact m_se0 (by assumption) | exact m_se1 (by assumption) (by assumption) (by assumption) | exact m_se3 (by assumption) (by assumption) (by assumption)); (case sub => (unfold led; dsimp only [Mig.s]; exact fun _ h => h)))
theorem move_ok (w : World) (mg mb : Str → Option Value) (mean : ExcName → Option Value) (x d T dT : Addr) (κ : PK) (θ : TK) (μ : Tok) (τ : TV) (rest : List (Addr × Obj)) (vb : Value)
    (σ : St) (ne : Apart x d T dT) (off : OwnOff rest [x, d, T, dT]) :
    Meets w mg mb mean 304 13 190 [vb, .ref x] (led w.params x d T dT κ θ σ μ τ rest) (MvPost w x d T dT κ θ rest σ) := by
  obtain ⟨mig, en, rap, ho, hr, k⟩ := σ
  cases mig with
  | ch => exact mv_ch ne off
  | sl => exact mv_sl ne off
  | se => exact mv_se ne off
end
end Mine

namespace Mine
noncomputable section
theorem perm5 {α : Type} {a b c d q p : α} {r : List α} : p ∈ a :: b :: c :: d :: q :: r ↔ p ∈ q :: a :: b :: c :: d :: r := by
  simp only [List.mem_cons]
  constructor <;> (rintro (h | h | h | h | h | h) <;> simp [h])
theorem led_mono {P : Params} {x d T dT : Addr} {κ : PK} {θ : TK} {μ : Tok} {τ : TV} {rest rest2 : List (Addr × Obj)} {σ : St} (h : ∀ p ∈ rest, p ∈ rest2) : ∀ p ∈ led P x d T dT κ θ σ μ τ rest, p ∈ led P x d T dT κ θ σ μ τ rest2 := by
  intro p hp
  unfold led at hp ⊢
  simp only [List.mem_cons] at hp ⊢
  exact hp.imp_right (Or.imp_right (Or.imp_right (Or.imp_right (h p))))
theorem led_in {P : Params} {x d T dT : Addr} {κ : PK} {θ : TK} {μ : Tok} {τ : TV} {rest : List (Addr × Obj)} {σ : St} {q : Addr × Obj} : ∀ p ∈ led P x d T dT κ θ σ μ τ (q :: rest), p ∈ q :: led P x d T dT κ θ σ μ τ rest := fun _ h => perm5.mp h
theorem led_out {P : Params} {x d T dT : Addr} {κ : PK} {θ : TK} {μ : Tok} {τ : TV} {rest : List (Addr × Obj)} {σ : St} {q : Addr × Obj} : ∀ p ∈ q :: led P x d T dT κ θ σ μ τ rest, p ∈ led P x d T dT κ θ σ μ τ (q :: rest) := fun _ h => perm5.mpr h
/-- a call of move_migration -/
theorem move_call {w : World} {mg mb : Str → Option Value} {mean : ExcName → Option Value} {x d T dT : Addr} {κ : PK} {θ : TK} {μ : Tok} {τ : TV} {rest : List (Addr × Obj)} {vb : Value}
    {σ : St} {gd : Option (List Code)} {cn : Str} {cs : Scope} {a : Addr} {ccd : Value} {cl : List (Str × Addr)} {outer : List Env} {A₀ : Around} {base h₀ : Heap} {L : Addr} {m : Str → Option Value} {s : Shared} {Q E : Value → Shared → Prop}
    (ne : Apart x d T dT) (off : OwnOff rest [x, d, T, dT]) (B : Below A₀ base outer h₀) (F : Fr h₀ L s.heap m) (X : (hd.heap_39 w.params).In h₀) (N : News h₀ L s.heap (led w.params x d T dT κ θ σ μ τ rest)) (T' : Top hd.view_39 (looseW hd.view_39 []) mean mg mb h₀) (hk : cs.kind = .function)
    (hret : ∀ b σ' μ' τ' h' tk', b = (moveF σ).isSome → σ' = (moveF σ).getD σ → Fr h₀ L h' m → News h₀ L h' (led w.params x d T dT κ θ σ' μ' τ' rest) → Q (.bool b) { s with heap := h', toks := tk' }) :
    wpAny (model PySem.Challenge.rw_pb0551_01.row.prog w) (ktrTop 304 13 gd cn cs L a ccd cl outer) (call (.ref 190) [vb, .ref x]) Q E s :=
  move_ok w mg mb mean x d T dT κ θ μ τ rest vb σ ne off gd cn cs a ccd cl outer A₀ base h₀ L m s Q E B F X N T' hk
    fun r n h' tk' F' N' hP => by obtain ⟨hr, μ', τ', hn⟩ := hP; subst hr; subst hn; exact hret _ _ μ' τ' h' tk' rfl rfl F' N'
/-- the port behind up to n calls: where a call answers False -/
def settle : Nat → St → Option St
  | 0, _ => none
  | n + 1, σ => match moveF σ with
    | none => some σ
    | some σ' => settle n σ'
theorem settle_none {n : Nat} {σ σ' σ₁ : St} {b : Bool} (hs : settle (n + 1) σ = some σ') (hb : b = (moveF σ).isSome) (h1 : σ₁ = (moveF σ).getD σ) (h0 : b = false) : σ₁ = σ' := by
  subst hb; subst h1
  unfold settle at hs
  cases h : moveF σ with
  | none => rw [h] at hs; exact Option.some.inj hs
  | some v => rw [h] at h0; cases h0
theorem settle_some {n : Nat} {σ σ' σ₁ : St} {b : Bool} (hs : settle (n + 1) σ = some σ') (hb : b = (moveF σ).isSome) (h1 : σ₁ = (moveF σ).getD σ) (h0 : b = true) : settle n σ₁ = some σ' := by
  subst hb; subst h1
  unfold settle at hs
  cases h : moveF σ with
  | none => rw [h] at h0; cases h0
  | some v => rw [h] at hs; exact hs
/-- a turn that goes on -/
def SetEnd (w : World) (h₀ : Heap) (L : Addr) (y : Str) (m₀ : Str → Option Value) (x d T dT : Addr) (κ : PK) (θ : TK) (rest : List (Addr × Obj)) (σe : St) (n : Nat) (s₁ s₂ : Shared) : Prop :=
  ∃ h' tk m' σ μ τ, s₂ = { s₁ with heap := h', toks := tk } ∧ Fr h₀ L h' m' ∧ News h₀ L h' (led w.params x d T dT κ θ σ μ τ rest) ∧ settle n σ = some σe ∧ ∀ z, z ≠ y → m' z = m₀ z
def SetPost (w : World) (h₀ : Heap) (L : Addr) (y : Str) (m₀ : Str → Option Value) (x d T dT : Addr) (κ : PK) (θ : TK) (rest : List (Addr × Obj)) (σe : St) (n : Nat) (s₁ : Shared) (Q : Flow → Shared → Prop) (f : Flow) (s₂ : Shared) : Prop :=
  match f with
  | .ret v => Q (.ret v) s₂
  | .brk => Q .next s₂
  | _ => SetEnd w h₀ L y m₀ x d T dT κ θ rest σe n s₁ s₂
def SetJ (w : World) (y : Str) (m₀ : Str → Option Value) (x d T dT : Addr) (κ : PK) (θ : TK) (rest : List (Addr × Obj)) (σe : St) (i : Nat) (m : Str → Option Value) (nx : List (Addr × Obj)) : Prop :=
  ∃ σ μ τ, nx = led w.params x d T dT κ θ σ μ τ rest ∧ settle (6 - i) σ = some σe ∧ ∀ z, z ≠ y → m z = m₀ z
theorem set_end {w : World} {h₀ h' : Heap} {L : Addr} {y : Str} {m₀ m' : Str → Option Value} {x d T dT : Addr} {κ : PK} {θ : TK} {rest : List (Addr × Obj)} {σe σ σ' : St} {n : Nat} {s₁ : Shared} {Q : Flow → Shared → Prop} {tk : Nat} {μ : Tok} {τ : TV} {b : Bool}
    (F : Fr h₀ L h' m') (N : News h₀ L h' (led w.params x d T dT κ θ σ' μ τ rest)) (hs : settle (n + 1) σ = some σe) (hb : b = (moveF σ).isSome) (h1 : σ' = (moveF σ).getD σ) (h0 : b = true) (hm : ∀ z, z ≠ y → m' z = m₀ z) :
    SetPost w h₀ L y m₀ x d T dT κ θ rest σe n s₁ Q .next { s₁ with heap := h', toks := tk } :=
  ⟨h', tk, m', σ', μ, τ, rfl, F, N, settle_some hs hb h1 h0, hm⟩
theorem iter_settle {w : World} {A : Around} {E : Value → Shared → Prop} {s : Shared} {env : Env} {h₀ : Heap} {y : Str} {body : List Stmt} {Q : Flow → Shared → Prop} {r x d T dT : Addr} {t₀ u₀ v₀ : Tok} {m₀ : Str → Option Value} {κ : PK} {θ : TK} {μ₀ : Tok} {τ₀ : TV} {rest : List (Addr × Obj)} {σ₀ σe : St}
    (hh : A.handled = none) (hr : IsRange s.heap r 0 6 1 t₀ u₀ v₀) (F : Fr h₀ env.locals s.heap m₀) (N : News h₀ env.locals s.heap (led w.params x d T dT κ θ σ₀ μ₀ τ₀ rest)) (hs : settle 6 σ₀ = some σe) (off : OwnOff rest [x, d, T, dT])
    (turn : ∀ n σ μ τ rest2 k t h tk, settle (n + 1) σ = some σe → OwnOff rest2 [x, d, T, dT] → (∀ p ∈ rest, p ∈ rest2) → Fr h₀ env.locals h (fun z => if z = y then some (.int k t) else m₀ z) → News h₀ env.locals h (led w.params x d T dT κ θ σ μ τ rest2) →
      wpAny (model PySem.Challenge.rw_pb0551_01.row.prog w) A (execs body env) (SetPost w h₀ env.locals y m₀ x d T dT κ θ rest2 σe n { s with heap := h, toks := tk } Q) E { s with heap := h, toks := tk }) :
    wpAny (model PySem.Challenge.rw_pb0551_01.row.prog w) A (pyIter (.ref r)) (fun it s₂ => LoopAtV PySem.Challenge.rw_pb0551_01.row.prog w A h₀ env y body Q E it s₂) E s := by
  refine wpAny_pyIter_range hr (by decide) ?_
  have hsz : Builtin.Range.rangeSize 0 6 1 = ((6 : Nat) : Int) := by decide
  have Wk : Walks PySem.Challenge.rw_pb0551_01.row.prog w A s.heap.objs.size [s.heap.objs.size] [s.heap.objs.size] 6 (fun i v => i < 6 ∧ ∃ t, v = .int (0 + i * 1) t)
      (fun i h => IsRangeIter h s.heap.objs.size (0 + (i : Nat) * 1) ((6 : Nat) - (i : Nat) : Int) 1) := (Walks.range hh _ 0 1 6).bound
  refine kdr_loop (SetJ w y m₀ x d T dT κ θ rest σe) Wk (fun _ h => h) (fun _ h => h) ?_ ?_ ?_ ?_ (by show IsRangeIter _ _ _ _ _; rw [hsz]; simpa using Heap.get?_push_size _ rfl) (F.push _) (fun p hp => ⟨Heap.get?_push_of_some _ (N p hp).1, (N p hp).2⟩) ⟨σ₀, μ₀, τ₀, rfl, hs, fun _ _ => rfl⟩ ?_ ?_
  · intro i h hi b hb
    rw [List.mem_singleton.mp hb]
    exact ⟨_, hi⟩
  · intro hm
    exact absurd F.ns.lt ((List.mem_singleton.mp hm) ▸ Nat.lt_irrefl _)
  · intro b hb
    rw [List.mem_singleton.mp hb]
    exact next_is_new F
  · intro p hp hI
    exact absurd (Heap.lt_size (N p hp).1) ((List.mem_singleton.mp hI) ▸ Nat.lt_irrefl _)
  · rintro i v m₁ nx h tk own hi ⟨_, t, rfl⟩ hoff ⟨σ, μ, τ, rfl, q1, q2⟩ F₁ N₁
    have e6 : 6 - i = (5 - i) + 1 := by omega
    rw [e6] at q1
    have N₂ : News h₀ env.locals h (led w.params x d T dT κ θ σ μ τ (rest ++ own)) := N₁
    have ho : ∀ p ∈ own, ∀ c ∈ [x, d, T, dT], p.1 ≠ c := fun p hp c hc => hoff p hp c (by
      show c ∈ x :: d :: T :: dT :: rest.map (·.1)
      exact List.mem_append.mpr (.inl hc) : c ∈ [x, d, T, dT] ++ rest.map (·.1))
    have e : (fun z => if z = y then some (Value.int (0 + (i : Int) * 1) t) else m₁ z) = fun z => if z = y then some (Value.int (0 + (i : Int) * 1) t) else m₀ z := by
      funext z
      by_cases h1 : z = y
      · simp [h1]
      · simp only [if_neg h1]; exact q2 z h1
    rw [e] at F₁
    refine wpAny_mono (turn (5 - i) σ μ τ (rest ++ own) _ t h tk q1 (fun p hp => (List.mem_append.mp hp).elim (off p) (ho p)) (fun p hp => List.mem_append.mpr (.inl hp)) F₁ N₂) (fun f s₂ p => ?_) fun _ _ x => x
    have up : SetEnd w h₀ env.locals y m₀ x d T dT κ θ (rest ++ own) σe (5 - i) { s with heap := h, toks := tk } s₂ → InvEndG h₀ env.locals (SetJ w y m₀ x d T dT κ θ rest σe (i + 1)) own { s with heap := h, toks := tk } s₂ := by
      rintro ⟨h', tk', m', σ', μ', τ', e, F', N', g1, g2⟩
      have key : ∀ p ∈ led w.params x d T dT κ θ σ' μ' τ' rest ++ own, p ∈ led w.params x d T dT κ θ σ' μ' τ' (rest ++ own) := fun p hp => hp
      exact ⟨h', tk', m', _, led w.params x d T dT κ θ σ' μ' τ' rest, e, F', N', fun p hp => key p (List.mem_append.mpr (.inl hp)), fun p hp => key p (List.mem_append.mpr (.inr hp)), hoff, σ', μ', τ', rfl, by rw [show 6 - (i + 1) = 5 - i by omega]; exact g1, g2⟩
    cases f with
    | ret v => exact p
    | brk => exact p
    | next => exact up p
    | cont => exact up p
  · rintro m₁ nx h tk ⟨σ, μ, τ, rfl, q1, _⟩ _ _
    cases q1
set_option maxRecDepth 100000 in
set_option maxHeartbeats 8000000 in
theorem settled_ok (w : World) (mg mb : Str → Option Value) (mean : ExcName → Option Value) (x d T dT : Addr) (κ : PK) (θ : TK) (μ : Tok) (τ : TV) (rest : List (Addr × Obj))
    (σ σe : St) (hs : settle 6 σ = some σe) (ne : Apart x d T dT) (off : OwnOff rest [x, d, T, dT]) :
    Meets w mg mb mean 303 10 253 [.ref x] (led w.params x d T dT κ θ σ μ τ rest)
      (fun r n => r = .bool true ∧ ∃ μ' τ', n = led w.params x d T dT κ θ σe μ' τ' rest) := by
  unfold Meets
  k_fill
  intro gd cn cs a ccd cl outer A₀ base h₀ L m s Q E B F X N T' hk hret
  refine wpAny_call ?_
  k_dflt cell_enter
  (rename Fr _ _ _ _ => F9); replace F9 : Fr _ _ _ (fun y => List.lookup y [(Str.ofString "port", Value.ref x)]) := F9
  k_with_none
  k_with "execs nil" => (refine nil_tok s ?_; intro tk; refine wpAny_execs_nil ?_)
  k_with "execs cons" => (refine cons_tok s ?_; intro tk; refine wpAny_execs_cons ?_; (try k_fold))
  k_with "pyIter ref" => (k_dflt (refine' iter_settle ?kh ?kr ?kF ?kN ?ks ?ko ?_; (case kh => exact rfl); (case kr => assumption); (case kF => k_asm); (case kN => k_asm); (case ks => assumption); (case ko => assumption); k_whole); intro n σ1 μ1 τ1 rest2 k1 t1 h' tk' hs1 off1 sub1 F' N'; (try k_sweep); (try k_fold))
  k_with "call ref" => (k_dflt (refine' move_call ?k1 ?k2 ?k4 ?k5 ?k6 ?k7 ?k8 ?k9 ?_; (case k4 => k_asm); (case k5 => k_asm); (case k6 => k_asm); (case k7 => k_asm); (case k8 => k_asm); (case k9 => exact rfl); (case k1 => assumption); (case k2 => assumption); k_whole); intro b' σ' μ' τ' h' tk' hb' hσ' F' N'; (try k_sweep); (try k_fold))
  k_steps
  all_goals first
    | exact set_end (by k_asm) (by k_asm) hs1 hb' hσ' (by assumption) (fun z hz => if_neg hz)
    | (dsimp only [SetPost]; k_steps; all_goals (have e := settle_none hs1 hb' hσ' (by assumption); subst e; exact hret _ _ _ _ (by k_asm) (news_sub (by k_asm) (led_mono sub1)) ⟨rfl, _, _, rfl⟩))
end
end Mine

namespace Mine
noncomputable section
/-- a second passed -/
def tickK (k : Int) : Int := if 0 > k - 1 then 0 else k - 1
set_option maxRecDepth 100000 in
set_option maxHeartbeats 8000000 in
theorem tick0 (w : World) (mg mb : Str → Option Value) (mean : ExcName → Option Value) (x d T dT : Addr) (ox od : Obj) (θ : TK) (k : Int) (τ : TV) (rest : List (Addr × Obj))
    (ne : Apart x d T dT) (off : OwnOff rest [x, d, T, dT]) :
    Meets w mg mb mean 304 13 71 [.ref T] ((x, ox) :: (d, od) :: (T, instObj 81 dT) :: (dT, dictOf (timL w.params θ k τ) 8) :: rest)
      (fun r n => r = .none ∧ ∃ τ', n = (x, ox) :: (d, od) :: (T, instObj 81 dT) :: (dT, dictOf (timL w.params θ (tickK k) τ') 8) :: rest) := by
  unfold Meets
  k_fill
  intro gd cn cs a ccd cl outer A₀ base h₀ L m s Q E B F X N T' hk hret
  obtain ⟨n1, n2, n3, n4, n5, n6⟩ := ne
  refine wpAny_call ?_
  k_dflt cell_enter
  (rename Fr _ _ _ _ => F9); replace F9 : Fr _ _ _ (fun y => List.lookup y [(Str.ofString "self", Value.ref T)]) := F9
  k_with_none
  k_with "execs nil" => (refine nil_tok s ?_; intro tk; refine wpAny_execs_nil ?_)
  k_with "execs cons" => (refine cons_tok s ?_; intro tk; refine wpAny_execs_cons ?_; (try k_fold))
  k_with "setAttr ref" => (first | ((with_reducible show wpAny _ _ (setAttr _ (Str.ofString "forward") _) _ _ _); k_dflt (refine' set_forward ?k1 ?k2 ?k3 ?k4 ?k5 ?kv ?k6 ?_; (case k1 => k_asm); (case k2 => k_asm); (case k3 => k_asm); (case k4 => k_mem); (case k5 => k_mem); (case kv => first | exact rfl | decide); (case k6 => (intro τ'; k_upd)); k_whole); intro h' τ' F' N'; (try k_sweep)) | ((with_reducible show wpAny _ _ (setAttr _ (Str.ofString "hello") _) _ _ _); k_dflt (refine' set_hello ?k1 ?k2 ?k3 ?k4 ?k5 ?kv ?k6 ?_; (case k1 => k_asm); (case k2 => k_asm); (case k3 => k_asm); (case k4 => k_mem); (case k5 => k_mem); (case kv => first | exact rfl | decide); (case k6 => (intro τ'; k_upd)); k_whole); intro h' τ' F' N'; (try k_sweep)) | ((with_reducible show wpAny _ _ (setAttr _ (Str.ofString "migrate") _) _ _ _); k_dflt (refine' set_migrate ?k1 ?k2 ?k3 ?k4 ?k5 ?k6 ?_; (case k1 => k_asm); (case k2 => k_asm); (case k3 => k_asm); (case k4 => k_mem); (case k5 => k_mem); (case k6 => (intro τ'; k_upd)); k_whole); intro h' τ' F' N'; (try k_sweep)) | ((with_reducible show wpAny _ _ (setAttr _ (Str.ofString "backup") _) _ _ _); k_dflt (refine' set_backup ?k1 ?k2 ?k3 ?k4 ?k5 ?kv ?k6 ?_; (case k1 => k_asm); (case k2 => k_asm); (case k3 => k_asm); (case k4 => k_mem); (case k5 => k_mem); (case kv => first | exact rfl | decide); (case k6 => (intro τ'; k_upd)); k_whole); intro h' τ' F' N'; (try k_sweep)) | ((with_reducible show wpAny _ _ (setAttr _ (Str.ofString "info") _) _ _ _); k_dflt (refine' set_info ?k1 ?k2 ?k3 ?k4 ?k5 ?kv ?k6 ?_; (case k1 => k_asm); (case k2 => k_asm); (case k3 => k_asm); (case k4 => k_mem); (case k5 => k_mem); (case kv => first | exact rfl | decide); (case k6 => (intro τ'; k_upd)); k_whole); intro h' τ' F' N'; (try k_sweep)) | ((with_reducible show wpAny _ _ (setAttr _ (Str.ofString "root") _) _ _ _); k_dflt (refine' set_root ?k1 ?k2 ?k3 ?k4 ?k5 ?kv ?k6 ?_; (case k1 => k_asm); (case k2 => k_asm); (case k3 => k_asm); (case k4 => k_mem); (case k5 => k_mem); (case kv => first | exact rfl | decide); (case k6 => (intro τ'; k_upd)); k_whole); intro h' τ' F' N'; (try k_sweep)) | ((with_reducible show wpAny _ _ (setAttr _ (Str.ofString "change") _) _ _ _); k_dflt (refine' set_change ?k1 ?k2 ?k3 ?k4 ?k5 ?kv ?k6 ?_; (case k1 => k_asm); (case k2 => k_asm); (case k3 => k_asm); (case k4 => k_mem); (case k5 => k_mem); (case kv => first | exact rfl | decide); (case k6 => (intro τ'; k_upd)); k_whole); intro h' τ' F' N'; (try k_sweep)) | ((with_reducible show wpAny _ _ (setAttr _ (Str.ofString "sent") _) _ _ _); k_dflt (refine' set_sent ?k1 ?k2 ?k3 ?k4 ?k5 ?kv ?k6 ?_; (case k1 => k_asm); (case k2 => k_asm); (case k3 => k_asm); (case k4 => k_mem); (case k5 => k_mem); (case kv => first | exact rfl | decide); (case k6 => (intro τ'; k_upd)); k_whole); intro h' τ' F' N'; (try k_sweep)))
  k_steps
  all_goals first
    | exact hret _ _ _ _ (by k_asm) (by k_asm) ⟨rfl, _, rfl⟩
end
end Mine

namespace Mine
noncomputable section
inductive Md where
  | ra
  | ol
def Md.isRa : Md → Bool
  | .ra => true
  | .ol => false
def Md.s : Md → Str
  | .ra => Str.ofString "rapid"
  | .ol => Str.ofString "old"
/-- the law's book as data -/
def bkD (on : Bool) (md : Md) (wt : Int) : List (PyData × PyData) :=
  [(.str (Str.ofString "is_on"), .bool on), (.str (Str.ofString "mode"), .str md.s), (.str (Str.ofString "wait"), .int wt)]
structure ApartB (b x d T dT : Addr) : Prop where
  lo : (b == sysModules) = false
  b1 : @Ne Nat b x
  b2 : @Ne Nat b d
  b3 : @Ne Nat b T
  b4 : @Ne Nat b dT
theorem tick_call {w : World} {mg mb : Str → Option Value} {mean : ExcName → Option Value} {x d T dT : Addr} {ox od ob : Obj} {b : Addr} {θ : TK} {k : Int} {τ : TV} {rest : List (Addr × Obj)}
    {gd : Option (List Code)} {cn : Str} {cs : Scope} {a : Addr} {ccd : Value} {cl : List (Str × Addr)} {outer : List Env} {A₀ : Around} {base h₀ : Heap} {L : Addr} {m : Str → Option Value} {s : Shared} {Q E : Value → Shared → Prop}
    (ne : Apart x d T dT) (nb : ApartB b x d T dT) (off : OwnOff rest [b, x, d, T, dT]) (B : Below A₀ base outer h₀) (F : Fr h₀ L s.heap m) (X : (hd.heap_39 w.params).In h₀) (N : News h₀ L s.heap ((b, ob) :: (x, ox) :: (d, od) :: (T, instObj 81 dT) :: (dT, dictOf (timL w.params θ k τ) 8) :: rest)) (T' : Top hd.view_39 (looseW hd.view_39 []) mean mg mb h₀) (hk : cs.kind = .function)
    (hret : ∀ τ' h' tk', Fr h₀ L h' m → News h₀ L h' ((b, ob) :: (x, ox) :: (d, od) :: (T, instObj 81 dT) :: (dT, dictOf (timL w.params θ (tickK k) τ') 8) :: rest) → Q .none { s with heap := h', toks := tk' }) :
    wpAny (model PySem.Challenge.rw_pb0551_01.row.prog w) (ktrTop 304 13 gd cn cs L a ccd cl outer) (call (.ref 71) [.ref T]) Q E s :=
  tick0 w mg mb mean x d T dT ox od θ k τ ((b, ob) :: rest) ne
    (by
      intro p hp c hc
      rcases List.mem_cons.mp hp with rfl | hp
      · simp only [List.mem_cons, List.not_mem_nil, or_false] at hc
        rcases hc with rfl | rfl | rfl | rfl
        · exact nb.b1
        · exact nb.b2
        · exact nb.b3
        · exact nb.b4
      · exact off p hp c (List.Mem.tail _ hc))
    gd cn cs a ccd cl outer A₀ base h₀ L m s Q E B F X (news_sub N (by intro p hp; simp only [List.mem_cons] at hp ⊢; rcases hp with h | h | h | h | h | h <;> simp [h])) T' hk
    fun r n h' tk' F' N' hP => by
      obtain ⟨hr, τ', hn⟩ := hP
      subst hr; subst hn
      exact hret τ' h' tk' F' (news_sub N' (by intro p hp; simp only [List.mem_cons] at hp ⊢; rcases hp with h | h | h | h | h | h <;> simp [h]))
theorem check_call_b {w : World} {mg mb : Str → Option Value} {mean : ExcName → Option Value} {b x d T dT : Addr} {ob : Obj} {κ : PK} {θ : TK} {μ : Tok} {τ : TV} {rest : List (Addr × Obj)} {mig : Str} {en rap ho hr : Bool} {k : Int}
    {gd : Option (List Code)} {cn : Str} {cs : Scope} {a : Addr} {ccd : Value} {cl : List (Str × Addr)} {outer : List Env} {A₀ : Around} {base h₀ : Heap} {L : Addr} {m : Str → Option Value} {s : Shared} {Q E : Value → Shared → Prop}
    (B : Below A₀ base outer h₀) (F : Fr h₀ L s.heap m) (X : (hd.heap_39 w.params).In h₀) (N : News h₀ L s.heap ((b, ob) :: (x, instObj 165 d) :: (d, dictOf (portL w.params κ T mig en rap ho hr μ) 33) :: (T, instObj 81 dT) :: (dT, dictOf (timL w.params θ k τ) 8) :: rest)) (T' : Top hd.view_39 (looseW hd.view_39 []) mean mg mb h₀) (hk : cs.kind = .function)
    (off : OwnOff rest [b, x, d, T, dT]) (nb : ApartB b x d T dT) (ne : Apart x d T dT)
    (hret : ∀ μ' τ' h' tk', Fr h₀ L h' m → News h₀ L h' ((b, ob) :: (x, instObj 165 d) :: (d, dictOf (portL w.params κ T (Str.ofString "checking") en true ho hr μ') 33) :: (T, instObj 81 dT) :: (dT, dictOf (timL w.params θ 3 τ') 8) :: rest) → Q .none { s with heap := h', toks := tk' }) :
    wpAny (model PySem.Challenge.rw_pb0551_01.row.prog w) (ktrTop 304 13 gd cn cs L a ccd cl outer) (call (.ref 176) [.ref x]) Q E s :=
  check_ok (rest := (b, ob) :: rest) (by decide) ne
    (by
      intro p hp c hc
      rcases List.mem_cons.mp hp with rfl | hp
      · simp only [List.mem_cons, List.not_mem_nil, or_false] at hc
        rcases hc with rfl | rfl | rfl | rfl
        · exact nb.b1
        · exact nb.b2
        · exact nb.b3
        · exact nb.b4
      · exact off p hp c (List.Mem.tail _ hc))
    gd cn cs a ccd cl outer A₀ base h₀ L m s Q E B F X (news_sub N fun p hp => perm5.mp hp) T' hk
    fun r n h' tk' F' N' hP => by obtain ⟨hr, μ', τ', hn⟩ := hP; subst hr; subst hn; exact hret μ' τ' h' tk' F' (news_sub N' fun p hp => perm5.mpr hp)
/-- the law's words -/
inductive Wd where
  | up
  | dn
  | sc
  | ol
  | ra
def Wd.s : Wd → Str
  | .up => Str.ofString "up"
  | .dn => Str.ofString "down"
  | .sc => Str.ofString "second"
  | .ol => Str.ofString "old"
  | .ra => Str.ofString "rapid"
structure Bk where
  on : Bool
  md : Md
  wt : Int
/-- one event: what it makes of the port and of the book -/
def evF (wd : Wd) (σ : St) (β : Bk) : St × Bk :=
  match wd with
  | .up => if β.on = true then (σ, β) else ({ σ with mig := .ch, en := true, rap := true, k := 3 }, ⟨true, .ra, 3⟩)
  | .dn => ({ σ with en := false }, ⟨false, .ra, 3⟩)
  | .sc => ({ σ with k := tickK σ.k }, if β.on = true then { β with wt := tickK β.wt } else { β with wt := 3 })
  | .ol => if β.on = true then ({ σ with ho := true }, if β.wt = 0 ∧ β.md.isRa = true then ⟨true, .ol, 3⟩ else β) else (σ, β)
  | .ra => if β.on = true then ({ σ with hr := true }, if β.wt = 0 ∧ β.md.isRa = false then ⟨true, .ra, 3⟩ else β) else (σ, β)
/-- what the contract of an event says of a result -/
abbrev EvPost (w : World) (b x d T dT : Addr) (κ : PK) (θ : TK) (rest : List (Addr × Obj)) (c : St × Bk) (r : Value) (n : List (Addr × Obj)) : Prop :=
  r = .none ∧ ∃ μ' τ' ob' kvs', n = (b, ob') :: led w.params x d T dT κ θ c.1 μ' τ' rest ∧ ob'.IsDictOf (PySem.strKind PySem.Challenge.rw_pb0551_01.row.prog w) kvs' ∧ PyProof.V.FlatPairs PyData.str kvs' (bkD c.2.on c.2.md c.2.wt)
section
variable {mig : Mig} {en rap ho hr : Bool} {k : Int} {on : Bool} {md : Md} {wt : Int}
theorem c_up0 (h : on = true) : evF .up ⟨mig, en, rap, ho, hr, k⟩ ⟨on, md, wt⟩ = (⟨mig, en, rap, ho, hr, k⟩, ⟨on, md, wt⟩) := by simp [evF, h]
theorem c_up1 (h : on = false) : evF .up ⟨mig, en, rap, ho, hr, k⟩ ⟨on, md, wt⟩ = (⟨.ch, true, true, ho, hr, 3⟩, ⟨true, .ra, 3⟩) := by simp [evF, h]
theorem c_dn : evF .dn ⟨mig, en, rap, ho, hr, k⟩ ⟨on, md, wt⟩ = (⟨mig, false, rap, ho, hr, k⟩, ⟨false, .ra, 3⟩) := rfl
theorem c_sc0 (h : on = true) : evF .sc ⟨mig, en, rap, ho, hr, k⟩ ⟨on, md, wt⟩ = (⟨mig, en, rap, ho, hr, tickK k⟩, ⟨on, md, tickK wt⟩) := by simp [evF, h]
theorem c_sc1 (h : on = false) : evF .sc ⟨mig, en, rap, ho, hr, k⟩ ⟨on, md, wt⟩ = (⟨mig, en, rap, ho, hr, tickK k⟩, ⟨on, md, 3⟩) := by simp [evF, h]
theorem c_ol0 (h : on = false) : evF .ol ⟨mig, en, rap, ho, hr, k⟩ ⟨on, md, wt⟩ = (⟨mig, en, rap, ho, hr, k⟩, ⟨on, md, wt⟩) := by simp [evF, h]
theorem c_ol1 (h : on = true) (hw : wt ≠ 0) : evF .ol ⟨mig, en, rap, ho, hr, k⟩ ⟨on, md, wt⟩ = (⟨mig, en, rap, true, hr, k⟩, ⟨on, md, wt⟩) := by simp [evF, h, hw]
theorem c_ol2 (h : on = true) (hw : wt = 0) (hm : (md.s != Str.ofString "old") = false) : evF .ol ⟨mig, en, rap, ho, hr, k⟩ ⟨on, md, wt⟩ = (⟨mig, en, rap, true, hr, k⟩, ⟨on, md, wt⟩) := by
  cases md with
  | ra => exact absurd hm (by decide)
  | ol => simp [evF, h, Md.isRa]
theorem c_ol3 (h : on = true) (hw : wt = 0) (hm : (md.s != Str.ofString "old") = true) : evF .ol ⟨mig, en, rap, ho, hr, k⟩ ⟨on, md, wt⟩ = (⟨mig, en, rap, true, hr, k⟩, ⟨on, .ol, 3⟩) := by
  cases md with
  | ol => exact absurd hm (by decide)
  | ra => simp [evF, h, hw, Md.isRa]
theorem c_ra0 (h : on = false) : evF .ra ⟨mig, en, rap, ho, hr, k⟩ ⟨on, md, wt⟩ = (⟨mig, en, rap, ho, hr, k⟩, ⟨on, md, wt⟩) := by simp [evF, h]
theorem c_ra1 (h : on = true) (hw : wt ≠ 0) : evF .ra ⟨mig, en, rap, ho, hr, k⟩ ⟨on, md, wt⟩ = (⟨mig, en, rap, ho, true, k⟩, ⟨on, md, wt⟩) := by simp [evF, h, hw]
theorem c_ra2 (h : on = true) (hw : wt = 0) (hm : (md.s != Str.ofString "rapid") = false) : evF .ra ⟨mig, en, rap, ho, hr, k⟩ ⟨on, md, wt⟩ = (⟨mig, en, rap, ho, true, k⟩, ⟨on, md, wt⟩) := by
  cases md with
  | ol => exact absurd hm (by decide)
  | ra => simp [evF, h, Md.isRa]
theorem c_ra3 (h : on = true) (hw : wt = 0) (hm : (md.s != Str.ofString "rapid") = true) : evF .ra ⟨mig, en, rap, ho, hr, k⟩ ⟨on, md, wt⟩ = (⟨mig, en, rap, ho, true, k⟩, ⟨on, .ra, 3⟩) := by
  cases md with
  | ra => exact absurd hm (by decide)
  | ol => simp [evF, h, hw, Md.isRa]
end
theorem ev_end {w : World} {b x d T dT : Addr} {κ : PK} {θ : TK} {rest all : List (Addr × Obj)} {wd : Wd} {σ σ' : St} {β : Bk} {on : Bool} {md : Md} {wt : Int} {Q : Value → Shared → Prop} {s : Shared} {h₀ h' : Heap} {L : Addr} {m : Str → Option Value} {tk' : Nat} {ob' : Obj} {kvs' : List (Str × Value)} {μ : Tok} {τ : TV}
    (hret : ∀ r n h' tk', Fr h₀ L h' m → News h₀ L h' n → EvPost w b x d T dT κ θ rest (evF wd σ β) r n → Q r { s with heap := h', toks := tk' }) (hc : evF wd σ β = (σ', ⟨on, md, wt⟩))
    (F : Fr h₀ L h' m) (N : News h₀ L h' all) (sub : ∀ p ∈ (b, ob') :: led w.params x d T dT κ θ σ' μ τ rest, p ∈ all)
    (hd : ob'.IsDictOf (PySem.strKind PySem.Challenge.rw_pb0551_01.row.prog w) kvs') (hf : PyProof.V.FlatPairs PyData.str kvs' (bkD on md wt)) : Q .none { s with heap := h', toks := tk' } :=
  hret _ _ h' tk' F (news_sub N sub) (by rw [EvPost, hc]; exact ⟨rfl, _, _, _, _, rfl, hd, hf⟩)
set_option maxRecDepth 100000 in
set_option maxHeartbeats 8000000 in
theorem ev_up {w : World} {mg mb : Str → Option Value} {mean : ExcName → Option Value} {b x d T dT : Addr} {κ : PK} {θ : TK} {μ tw : Tok} {τ : TV} {rest : List (Addr × Obj)}
    {mig : Mig} {en rap ho hr : Bool} {k : Int} {on : Bool} {md : Md} {wt : Int} {ob : Obj} {kvs : List (Str × Value)} (hd' : ob.IsDictOf (PySem.strKind PySem.Challenge.rw_pb0551_01.row.prog w) kvs) (hf' : PyProof.V.FlatPairs PyData.str kvs (bkD on md wt))
    (ne : Apart x d T dT) (nb : ApartB b x d T dT) (off : OwnOff rest [b, x, d, T, dT]) :
    Meets w mg mb mean 303 10 260 [.ref x, .ref b, .str (Str.ofString "up") tw] ((b, ob) :: led w.params x d T dT κ θ ⟨mig, en, rap, ho, hr, k⟩ μ τ rest) (EvPost w b x d T dT κ θ rest (evF .up ⟨mig, en, rap, ho, hr, k⟩ ⟨on, md, wt⟩)) := by
  unfold Meets
  k_fill
  intro gd cn cs a ccd cl outer A₀ base h₀ L m s Q E B F X N T' hk hret
  obtain ⟨n1, n2, n3, n4, n5, n6⟩ := id ne
  obtain ⟨lo, b1, b2, b3, b4⟩ := id nb
  unfold led at N
  dsimp only at N
  dsimp only [bkD] at hf'
  refine wpAny_call ?_
  k_dflt cell_enter
  (rename Fr _ _ _ _ => F9); replace F9 : Fr _ _ _ (fun y => List.lookup y [(Str.ofString "word", Value.str (Str.ofString "up") tw), (Str.ofString "book", Value.ref b), (Str.ofString "port", Value.ref x)]) := F9
  k_with_none
  k_with "execs nil" => (refine nil_tok s ?_; intro tk; refine wpAny_execs_nil ?_)
  k_with "execs cons" => (refine cons_tok s ?_; intro tk; refine wpAny_execs_cons ?_; (try k_fold))
  k_with "call ref" => (k_dflt (refine' check_call_b ?k1 ?k2 ?k3 ?k4 ?k5 ?k6 ?k7 ?k8 ?k9 ?_; (case k1 => k_asm); (case k2 => k_asm); (case k3 => k_asm); (case k4 => k_asm); (case k5 => k_asm); (case k6 => exact rfl); (case k7 => assumption); (case k8 => assumption); (case k9 => assumption); k_whole); intro μ' τ' h' tk' F' N'; (try k_sweep); (try k_fold))
  k_with "setAttr ref" => (first | ((with_reducible show wpAny _ _ (setAttr _ (Str.ofString "is_enabled") _) _ _ _); k_dflt (refine' set_is_enabled ?k1 ?k2 ?k3 ?k4 ?k5 ?k6 ?_; (case k1 => k_asm); (case k2 => k_asm); (case k3 => k_asm); (case k4 => k_mem); (case k5 => k_mem); (case k6 => k_upd); k_whole); intro h' F' N'; (try k_sweep)))
  k_steps
  all_goals (refine' ev_end hret ?hc ?F ?N ?sub ?hd ?hf; (case F => k_asm); (case N => k_asm); (case hc => first | exact c_up0 (by assumption) | exact c_up1 (by assumption)); (case sub => (unfold led; dsimp only [Mig.s]; first | exact fun _ h => h | exact fun _ h => List.Mem.tail _ h | exact fun _ h => List.Mem.tail _ (List.Mem.tail _ h))); (case hd => assumption); (case hf => (dsimp only [bkD, Md.s]; first | assumption | (with_unfolding_all assumption))))
set_option maxRecDepth 100000 in
set_option maxHeartbeats 8000000 in
theorem ev_dn {w : World} {mg mb : Str → Option Value} {mean : ExcName → Option Value} {b x d T dT : Addr} {κ : PK} {θ : TK} {μ tw : Tok} {τ : TV} {rest : List (Addr × Obj)}
    {mig : Mig} {en rap ho hr : Bool} {k : Int} {on : Bool} {md : Md} {wt : Int} {ob : Obj} {kvs : List (Str × Value)} (hd' : ob.IsDictOf (PySem.strKind PySem.Challenge.rw_pb0551_01.row.prog w) kvs) (hf' : PyProof.V.FlatPairs PyData.str kvs (bkD on md wt))
    (ne : Apart x d T dT) (nb : ApartB b x d T dT) (off : OwnOff rest [b, x, d, T, dT]) :
    Meets w mg mb mean 303 10 260 [.ref x, .ref b, .str (Str.ofString "down") tw] ((b, ob) :: led w.params x d T dT κ θ ⟨mig, en, rap, ho, hr, k⟩ μ τ rest) (EvPost w b x d T dT κ θ rest (evF .dn ⟨mig, en, rap, ho, hr, k⟩ ⟨on, md, wt⟩)) := by
  unfold Meets
  k_fill
  intro gd cn cs a ccd cl outer A₀ base h₀ L m s Q E B F X N T' hk hret
  obtain ⟨n1, n2, n3, n4, n5, n6⟩ := id ne
  obtain ⟨lo, b1, b2, b3, b4⟩ := id nb
  unfold led at N
  dsimp only at N
  dsimp only [bkD] at hf'
  refine wpAny_call ?_
  k_dflt cell_enter
  (rename Fr _ _ _ _ => F9); replace F9 : Fr _ _ _ (fun y => List.lookup y [(Str.ofString "word", Value.str (Str.ofString "down") tw), (Str.ofString "book", Value.ref b), (Str.ofString "port", Value.ref x)]) := F9
  k_with_none
  k_with "execs nil" => (refine nil_tok s ?_; intro tk; refine wpAny_execs_nil ?_)
  k_with "execs cons" => (refine cons_tok s ?_; intro tk; refine wpAny_execs_cons ?_; (try k_fold))
  skip
  k_with "setAttr ref" => (first | ((with_reducible show wpAny _ _ (setAttr _ (Str.ofString "is_enabled") _) _ _ _); k_dflt (refine' set_is_enabled ?k1 ?k2 ?k3 ?k4 ?k5 ?k6 ?_; (case k1 => k_asm); (case k2 => k_asm); (case k3 => k_asm); (case k4 => k_mem); (case k5 => k_mem); (case k6 => k_upd); k_whole); intro h' F' N'; (try k_sweep)))
  k_steps
  all_goals (refine' ev_end hret ?hc ?F ?N ?sub ?hd ?hf; (case F => k_asm); (case N => k_asm); (case hc => first | exact c_dn); (case sub => (unfold led; dsimp only [Mig.s]; first | exact fun _ h => h | exact fun _ h => List.Mem.tail _ h | exact fun _ h => List.Mem.tail _ (List.Mem.tail _ h))); (case hd => assumption); (case hf => (dsimp only [bkD, Md.s]; first | assumption | (with_unfolding_all assumption))))
set_option maxRecDepth 100000 in
set_option maxHeartbeats 8000000 in
theorem ev_sc {w : World} {mg mb : Str → Option Value} {mean : ExcName → Option Value} {b x d T dT : Addr} {κ : PK} {θ : TK} {μ tw : Tok} {τ : TV} {rest : List (Addr × Obj)}
    {mig : Mig} {en rap ho hr : Bool} {k : Int} {on : Bool} {md : Md} {wt : Int} {ob : Obj} {kvs : List (Str × Value)} (hd' : ob.IsDictOf (PySem.strKind PySem.Challenge.rw_pb0551_01.row.prog w) kvs) (hf' : PyProof.V.FlatPairs PyData.str kvs (bkD on md wt))
    (ne : Apart x d T dT) (nb : ApartB b x d T dT) (off : OwnOff rest [b, x, d, T, dT]) :
    Meets w mg mb mean 303 10 260 [.ref x, .ref b, .str (Str.ofString "second") tw] ((b, ob) :: led w.params x d T dT κ θ ⟨mig, en, rap, ho, hr, k⟩ μ τ rest) (EvPost w b x d T dT κ θ rest (evF .sc ⟨mig, en, rap, ho, hr, k⟩ ⟨on, md, wt⟩)) := by
  unfold Meets
  k_fill
  intro gd cn cs a ccd cl outer A₀ base h₀ L m s Q E B F X N T' hk hret
  obtain ⟨n1, n2, n3, n4, n5, n6⟩ := id ne
  obtain ⟨lo, b1, b2, b3, b4⟩ := id nb
  unfold led at N
  dsimp only at N
  dsimp only [bkD] at hf'
  refine wpAny_call ?_
  k_dflt cell_enter
  (rename Fr _ _ _ _ => F9); replace F9 : Fr _ _ _ (fun y => List.lookup y [(Str.ofString "word", Value.str (Str.ofString "second") tw), (Str.ofString "book", Value.ref b), (Str.ofString "port", Value.ref x)]) := F9
  k_with_none
  k_with "execs nil" => (refine nil_tok s ?_; intro tk; refine wpAny_execs_nil ?_)
  k_with "execs cons" => (refine cons_tok s ?_; intro tk; refine wpAny_execs_cons ?_; (try k_fold))
  k_with "call ref" => (k_dflt (refine' tick_call ?k1 ?k2 ?k3 ?k4 ?k5 ?k6 ?k7 ?k8 ?k9 ?_; (case k4 => k_asm); (case k5 => k_asm); (case k6 => k_asm); (case k7 => k_asm); (case k8 => k_asm); (case k9 => exact rfl); (case k1 => exact Apart.mk (by omega) (by omega) (by omega) (by omega) (by omega) (by omega)); (case k2 => exact ApartB.mk (by assumption) (by omega) (by omega) (by omega) (by omega)); (case k3 => assumption); (intro τ' h' tk' F' N'; (try k_fold))))
  k_with "setAttr ref" => (first | ((with_reducible show wpAny _ _ (setAttr _ (Str.ofString "migrate") _) _ _ _); k_dflt (refine' set_migrate ?k1 ?k2 ?k3 ?k4 ?k5 ?k6 ?_; (case k1 => k_asm); (case k2 => k_asm); (case k3 => k_asm); (case k4 => k_mem); (case k5 => k_mem); (case k6 => (intro τ'; k_upd)); k_whole); intro h' τ' F' N'; (try k_sweep)))
  k_steps
  all_goals (refine' ev_end hret ?hc ?F ?N ?sub ?hd ?hf; (case F => k_asm); (case N => k_asm); (case hc => first | exact c_sc0 (by assumption) | exact c_sc1 (by assumption)); (case sub => (unfold led; dsimp only [Mig.s]; first | exact fun _ h => h | exact fun _ h => List.Mem.tail _ h | exact fun _ h => List.Mem.tail _ (List.Mem.tail _ h))); (case hd => assumption); (case hf => (dsimp only [bkD, Md.s]; first | assumption | (with_unfolding_all assumption))))
set_option maxRecDepth 100000 in
set_option maxHeartbeats 8000000 in
theorem ev_ol {w : World} {mg mb : Str → Option Value} {mean : ExcName → Option Value} {b x d T dT : Addr} {κ : PK} {θ : TK} {μ tw : Tok} {τ : TV} {rest : List (Addr × Obj)}
    {mig : Mig} {en rap ho hr : Bool} {k : Int} {on : Bool} {md : Md} {wt : Int} {ob : Obj} {kvs : List (Str × Value)} (hd' : ob.IsDictOf (PySem.strKind PySem.Challenge.rw_pb0551_01.row.prog w) kvs) (hf' : PyProof.V.FlatPairs PyData.str kvs (bkD on md wt))
    (ne : Apart x d T dT) (nb : ApartB b x d T dT) (off : OwnOff rest [b, x, d, T, dT]) :
    Meets w mg mb mean 303 10 260 [.ref x, .ref b, .str (Str.ofString "old") tw] ((b, ob) :: led w.params x d T dT κ θ ⟨mig, en, rap, ho, hr, k⟩ μ τ rest) (EvPost w b x d T dT κ θ rest (evF .ol ⟨mig, en, rap, ho, hr, k⟩ ⟨on, md, wt⟩)) := by
  unfold Meets
  k_fill
  intro gd cn cs a ccd cl outer A₀ base h₀ L m s Q E B F X N T' hk hret
  obtain ⟨n1, n2, n3, n4, n5, n6⟩ := id ne
  obtain ⟨lo, b1, b2, b3, b4⟩ := id nb
  unfold led at N
  dsimp only at N
  dsimp only [bkD] at hf'
  refine wpAny_call ?_
  k_dflt cell_enter
  (rename Fr _ _ _ _ => F9); replace F9 : Fr _ _ _ (fun y => List.lookup y [(Str.ofString "word", Value.str (Str.ofString "old") tw), (Str.ofString "book", Value.ref b), (Str.ofString "port", Value.ref x)]) := F9
  k_with_none
  k_with "execs nil" => (refine nil_tok s ?_; intro tk; refine wpAny_execs_nil ?_)
  k_with "execs cons" => (refine cons_tok s ?_; intro tk; refine wpAny_execs_cons ?_; (try k_fold))
  skip
  k_with "setAttr ref" => (first | ((with_reducible show wpAny _ _ (setAttr _ (Str.ofString "heard_old") _) _ _ _); k_dflt (refine' set_heard_old ?k1 ?k2 ?k3 ?k4 ?k5 ?k6 ?_; (case k1 => k_asm); (case k2 => k_asm); (case k3 => k_asm); (case k4 => k_mem); (case k5 => k_mem); (case k6 => k_upd); k_whole); intro h' F' N'; (try k_sweep)))
  k_steps
  all_goals (refine' ev_end hret ?hc ?F ?N ?sub ?hd ?hf; (case F => k_asm); (case N => k_asm); (case hc => first | exact c_ol0 (by assumption) | exact c_ol1 (by assumption) (by assumption) | exact c_ol2 (by assumption) (by assumption) (by assumption) | exact c_ol3 (by assumption) (by assumption) (by assumption)); (case sub => (unfold led; dsimp only [Mig.s]; first | exact fun _ h => h | exact fun _ h => List.Mem.tail _ h | exact fun _ h => List.Mem.tail _ (List.Mem.tail _ h))); (case hd => assumption); (case hf => (dsimp only [bkD, Md.s]; first | assumption | (with_unfolding_all assumption))))
set_option maxRecDepth 100000 in
set_option maxHeartbeats 8000000 in
theorem ev_ra {w : World} {mg mb : Str → Option Value} {mean : ExcName → Option Value} {b x d T dT : Addr} {κ : PK} {θ : TK} {μ tw : Tok} {τ : TV} {rest : List (Addr × Obj)}
    {mig : Mig} {en rap ho hr : Bool} {k : Int} {on : Bool} {md : Md} {wt : Int} {ob : Obj} {kvs : List (Str × Value)} (hd' : ob.IsDictOf (PySem.strKind PySem.Challenge.rw_pb0551_01.row.prog w) kvs) (hf' : PyProof.V.FlatPairs PyData.str kvs (bkD on md wt))
    (ne : Apart x d T dT) (nb : ApartB b x d T dT) (off : OwnOff rest [b, x, d, T, dT]) :
    Meets w mg mb mean 303 10 260 [.ref x, .ref b, .str (Str.ofString "rapid") tw] ((b, ob) :: led w.params x d T dT κ θ ⟨mig, en, rap, ho, hr, k⟩ μ τ rest) (EvPost w b x d T dT κ θ rest (evF .ra ⟨mig, en, rap, ho, hr, k⟩ ⟨on, md, wt⟩)) := by
  unfold Meets
  k_fill
  intro gd cn cs a ccd cl outer A₀ base h₀ L m s Q E B F X N T' hk hret
  obtain ⟨n1, n2, n3, n4, n5, n6⟩ := id ne
  obtain ⟨lo, b1, b2, b3, b4⟩ := id nb
  unfold led at N
  dsimp only at N
  dsimp only [bkD] at hf'
  refine wpAny_call ?_
  k_dflt cell_enter
  (rename Fr _ _ _ _ => F9); replace F9 : Fr _ _ _ (fun y => List.lookup y [(Str.ofString "word", Value.str (Str.ofString "rapid") tw), (Str.ofString "book", Value.ref b), (Str.ofString "port", Value.ref x)]) := F9
  k_with_none
  k_with "execs nil" => (refine nil_tok s ?_; intro tk; refine wpAny_execs_nil ?_)
  k_with "execs cons" => (refine cons_tok s ?_; intro tk; refine wpAny_execs_cons ?_; (try k_fold))
  skip
  k_with "setAttr ref" => (first | ((with_reducible show wpAny _ _ (setAttr _ (Str.ofString "heard_rapid") _) _ _ _); k_dflt (refine' set_heard_rapid ?k1 ?k2 ?k3 ?k4 ?k5 ?k6 ?_; (case k1 => k_asm); (case k2 => k_asm); (case k3 => k_asm); (case k4 => k_mem); (case k5 => k_mem); (case k6 => k_upd); k_whole); intro h' F' N'; (try k_sweep)))
  k_steps
  all_goals (refine' ev_end hret ?hc ?F ?N ?sub ?hd ?hf; (case F => k_asm); (case N => k_asm); (case hc => first | exact c_ra0 (by assumption) | exact c_ra1 (by assumption) (by assumption) | exact c_ra2 (by assumption) (by assumption) (by assumption) | exact c_ra3 (by assumption) (by assumption) (by assumption)); (case sub => (unfold led; dsimp only [Mig.s]; first | exact fun _ h => h | exact fun _ h => List.Mem.tail _ h | exact fun _ h => List.Mem.tail _ (List.Mem.tail _ h))); (case hd => assumption); (case hf => (dsimp only [bkD, Md.s]; first | assumption | (with_unfolding_all assumption))))

end
end Mine

namespace Mine
noncomputable section
set_option genInjectivity false
set_option genSizeOf false
/-- port and book at a turn's start -/
inductive Inv : St → Bk → Prop where
  | off (ho hr : Bool) : Inv ⟨.ch, false, true, ho, hr, 3⟩ ⟨false, .ra, 3⟩
  | ch (ho hr : Bool) (k : Int) : 1 ≤ k → k ≤ 3 → Inv ⟨.ch, true, true, ho, hr, k⟩ ⟨true, .ra, k⟩
  | sr (hr : Bool) : Inv ⟨.se, true, true, false, hr, 0⟩ ⟨true, .ra, 0⟩
  | sl (ho hr : Bool) (k : Int) : 1 ≤ k → k ≤ 3 → Inv ⟨.sl, true, false, ho, hr, k⟩ ⟨true, .ol, k⟩
  | so (ho : Bool) : Inv ⟨.se, true, false, ho, false, 0⟩ ⟨true, .ol, 0⟩
theorem inv_turn (wd : Wd) {σ : St} {β : Bk} (h : Inv σ β) : ∃ σ', settle 6 (evF wd σ β).1 = some σ' ∧ Inv σ' (evF wd σ β).2 := by
  cases h with
  | off ho hr =>
    cases wd with
    | up => exact ⟨_, rfl, .ch ho hr 3 (by (try dsimp only); decide) (by (try dsimp only); decide)⟩
    | dn => exact ⟨_, rfl, .off ho hr⟩
    | sc => exact ⟨_, rfl, .off ho hr⟩
    | ol => exact ⟨_, rfl, .off ho hr⟩
    | ra => exact ⟨_, rfl, .off ho hr⟩
  | ch ho hr k h1 h3 =>
    have hk : k = 1 ∨ k = 2 ∨ k = 3 := by omega
    rcases hk with rfl | rfl | rfl <;> cases wd with
    | up => exact ⟨_, rfl, .ch ho hr _ (by (try dsimp only); decide) (by (try dsimp only); decide)⟩
    | dn => exact ⟨_, rfl, .off ho hr⟩
    | sc => first | exact ⟨_, rfl, .sr hr⟩ | exact ⟨_, rfl, .sr false⟩ | exact ⟨_, rfl, .ch ho hr _ (by (try dsimp only); decide) (by (try dsimp only); decide)⟩
    | ol => exact ⟨_, rfl, .ch true hr _ (by (try dsimp only); decide) (by (try dsimp only); decide)⟩
    | ra => exact ⟨_, rfl, .ch ho true _ (by (try dsimp only); decide) (by (try dsimp only); decide)⟩
  | sr hr =>
    cases wd with
    | up => exact ⟨_, rfl, .sr hr⟩
    | dn => exact ⟨_, rfl, .off false hr⟩
    | sc => exact ⟨_, rfl, .sr hr⟩
    | ol => exact ⟨_, rfl, .sl true hr 3 (by (try dsimp only); decide) (by (try dsimp only); decide)⟩
    | ra => exact ⟨_, rfl, .sr true⟩
  | sl ho hr k h1 h3 =>
    have hk : k = 1 ∨ k = 2 ∨ k = 3 := by omega
    rcases hk with rfl | rfl | rfl <;> cases wd with
    | up => exact ⟨_, rfl, .sl ho hr _ (by (try dsimp only); decide) (by (try dsimp only); decide)⟩
    | dn => exact ⟨_, rfl, .off false false⟩
    | sc => first | exact ⟨_, rfl, .so false⟩ | exact ⟨_, rfl, .sl ho hr _ (by (try dsimp only); decide) (by (try dsimp only); decide)⟩
    | ol => exact ⟨_, rfl, .sl true hr _ (by (try dsimp only); decide) (by (try dsimp only); decide)⟩
    | ra => exact ⟨_, rfl, .sl ho true _ (by (try dsimp only); decide) (by (try dsimp only); decide)⟩
  | so ho =>
    cases wd with
    | up => exact ⟨_, rfl, .so ho⟩
    | dn => exact ⟨_, rfl, .off ho false⟩
    | sc => exact ⟨_, rfl, .so ho⟩
    | ol => exact ⟨_, rfl, .so true⟩
    | ra => exact ⟨_, rfl, .ch ho true 3 (by (try dsimp only); decide) (by (try dsimp only); decide)⟩
section
variable {w : World} {mg mb : Str → Option Value} {mean : ExcName → Option Value} {b x d T dT : Addr} {κ : PK} {θ : TK} {μ : Tok} {τ : TV} {rest : List (Addr × Obj)} {ob : Obj} {kvs : List (Str × Value)}
  {σ : St} {gd : Option (List Code)} {cn : Str} {cs : Scope} {a : Addr} {ccd : Value} {cl : List (Str × Addr)} {outer : List Env} {A₀ : Around} {base h₀ : Heap} {L : Addr} {m : Str → Option Value} {s : Shared} {Q E : Value → Shared → Prop}
theorem event_ok (wd : Wd) (σ : St) (β : Bk) (tw : Tok) (hd' : ob.IsDictOf (PySem.strKind PySem.Challenge.rw_pb0551_01.row.prog w) kvs) (hf' : PyProof.V.FlatPairs PyData.str kvs (bkD β.on β.md β.wt))
    (ne : Apart x d T dT) (nb : ApartB b x d T dT) (off : OwnOff rest [b, x, d, T, dT]) :
    Meets w mg mb mean 303 10 260 [.ref x, .ref b, .str wd.s tw] ((b, ob) :: led w.params x d T dT κ θ σ μ τ rest) (EvPost w b x d T dT κ θ rest (evF wd σ β)) := by
  obtain ⟨mig, en, rap, ho, hr, k⟩ := σ
  obtain ⟨on, md, wt⟩ := β
  cases wd with
  | up => exact ev_up hd' hf' ne nb off
  | dn => exact ev_dn hd' hf' ne nb off
  | sc => exact ev_sc hd' hf' ne nb off
  | ol => exact ev_ol hd' hf' ne nb off
  | ra => exact ev_ra hd' hf' ne nb off
/-- a call of _law_event -/
theorem event_call {wd : Wd} {β : Bk} {tw : Tok} (hd' : ob.IsDictOf (PySem.strKind PySem.Challenge.rw_pb0551_01.row.prog w) kvs) (hf' : PyProof.V.FlatPairs PyData.str kvs (bkD β.on β.md β.wt))
    (ne : Apart x d T dT) (nb : ApartB b x d T dT) (off : OwnOff rest [b, x, d, T, dT]) (B : Below A₀ base outer h₀) (F : Fr h₀ L s.heap m) (X : (hd.heap_39 w.params).In h₀) (N : News h₀ L s.heap ((b, ob) :: led w.params x d T dT κ θ σ μ τ rest)) (T' : Top hd.view_39 (looseW hd.view_39 []) mean mg mb h₀) (hk : cs.kind = .function)
    (hret : ∀ σ' β' μ' τ' ob' kvs' h' tk', (σ', β') = evF wd σ β → ob'.IsDictOf (PySem.strKind PySem.Challenge.rw_pb0551_01.row.prog w) kvs' → PyProof.V.FlatPairs PyData.str kvs' (bkD β'.on β'.md β'.wt) → Fr h₀ L h' m → News h₀ L h' ((b, ob') :: led w.params x d T dT κ θ σ' μ' τ' rest) → Q .none { s with heap := h', toks := tk' }) :
    wpAny (model PySem.Challenge.rw_pb0551_01.row.prog w) (ktrTop 303 10 gd cn cs L a ccd cl outer) (call (.ref 260) [.ref x, .ref b, .str wd.s tw]) Q E s :=
  event_ok wd σ β tw hd' hf' ne nb off gd cn cs a ccd cl outer A₀ base h₀ L m s Q E B F X N T' hk
    fun r n h' tk' F' N' hP => by obtain ⟨hr, μ', τ', ob', kvs', hn, e1, e2⟩ := hP; subst hr; subst hn; exact hret _ _ μ' τ' ob' kvs' h' tk' rfl e1 e2 F' N'
theorem off_b (nb : ApartB b x d T dT) (off : OwnOff rest [b, x, d, T, dT]) : OwnOff ((b, ob) :: rest) [x, d, T, dT] := by
  intro p hp c hc
  rcases List.mem_cons.mp hp with rfl | hp
  · simp only [List.mem_cons, List.not_mem_nil, or_false] at hc
    rcases hc with rfl | rfl | rfl | rfl
    · exact nb.b1
    · exact nb.b2
    · exact nb.b3
    · exact nb.b4
  · exact off p hp c (List.Mem.tail _ hc)
/-- a call of _law_settled where the port comes to rest -/
theorem settled_call {σe : St} (hs : settle 6 σ = some σe) (ne : Apart x d T dT) (nb : ApartB b x d T dT) (off : OwnOff rest [b, x, d, T, dT]) (B : Below A₀ base outer h₀) (F : Fr h₀ L s.heap m) (X : (hd.heap_39 w.params).In h₀) (N : News h₀ L s.heap ((b, ob) :: led w.params x d T dT κ θ σ μ τ rest)) (T' : Top hd.view_39 (looseW hd.view_39 []) mean mg mb h₀) (hk : cs.kind = .function)
    (hret : ∀ μ' τ' h' tk', Fr h₀ L h' m → News h₀ L h' ((b, ob) :: led w.params x d T dT κ θ σe μ' τ' rest) → Q (.bool true) { s with heap := h', toks := tk' }) :
    wpAny (model PySem.Challenge.rw_pb0551_01.row.prog w) (ktrTop 303 10 gd cn cs L a ccd cl outer) (call (.ref 253) [.ref x]) Q E s :=
  settled_ok w mg mb mean x d T dT κ θ μ τ ((b, ob) :: rest) σ σe hs ne (off_b nb off) gd cn cs a ccd cl outer A₀ base h₀ L m s Q E B F X (news_sub N led_in) T' hk
    fun r n h' tk' F' N' hP => by obtain ⟨hr, μ', τ', hn⟩ := hP; subst hr; subst hn; exact hret μ' τ' h' tk' F' (news_sub N' led_out)
end
end
end Mine

namespace Mine
noncomputable section
abbrev dictFacts (w : World) (ob : Obj) (kvs : List (Str × Value)) (β : Bk) : Prop := ob.IsDictOf (PySem.strKind PySem.Challenge.rw_pb0551_01.row.prog w) kvs ∧ PyProof.V.FlatPairs PyData.str kvs (bkD β.on β.md β.wt)
/-- the values are words of the law -/
def AllWords (vs : List Value) : Prop := ∀ v ∈ vs, ∃ (wd : Wd) (t : Tok), v = .str wd.s t
/-- a turn's end: port and book stand in the invariant again -/
def TurnEnd (w : World) (h₀ : Heap) (L : Addr) (y : Str) (m₀ : Str → Option Value) (b x d T dT : Addr) (κ : PK) (θ : TK) (rest : List (Addr × Obj)) (s₁ s₂ : Shared) : Prop :=
  ∃ h' tk m' all ob kvs σ β μ τ, s₂ = { s₁ with heap := h', toks := tk } ∧ Fr h₀ L h' m' ∧ News h₀ L h' all ∧ (∀ p ∈ (b, ob) :: led w.params x d T dT κ θ σ μ τ rest, p ∈ all) ∧ dictFacts w ob kvs β ∧ Inv σ β ∧ ∀ z, z ≠ y → m' z = m₀ z
def TurnPost (w : World) (h₀ : Heap) (L : Addr) (y : Str) (m₀ : Str → Option Value) (b x d T dT : Addr) (κ : PK) (θ : TK) (rest : List (Addr × Obj)) (s₁ : Shared) (Q : Flow → Shared → Prop) (f : Flow) (s₂ : Shared) : Prop :=
  match f with
  | .ret v => Q (.ret v) s₂
  | .brk => Q .next s₂
  | _ => TurnEnd w h₀ L y m₀ b x d T dT κ θ rest s₁ s₂
/-- between the turns -/
def WordsJ (w : World) (y : Str) (m₀ : Str → Option Value) (b x d T dT : Addr) (κ : PK) (θ : TK) (rest : List (Addr × Obj)) (m : Str → Option Value) (nx : List (Addr × Obj)) : Prop :=
  ∃ ob kvs σ β μ τ, nx = (b, ob) :: led w.params x d T dT κ θ σ μ τ rest ∧ dictFacts w ob kvs β ∧ Inv σ β ∧ ∀ z, z ≠ y → m z = m₀ z
section
variable {w : World} {A : Around} {E : Value → Shared → Prop} {s : Shared} {env : Env} {h₀ : Heap} {y : Str} {body : List Stmt} {Q : Flow → Shared → Prop}
theorem iter_words {l : Addr} {vs : List Value} {nn : Nat} {m₀ : Str → Option Value} {b x d T dT : Addr} {κ : PK} {θ : TK} {μ₀ : Tok} {τ₀ : TV} {σ₀ : St} {β₀ : Bk} {ob₀ : Obj} {kvs₀ : List (Str × Value)} {rest : List (Addr × Obj)}
    (hh : A.handled = none) (hl : (l, listOf vs.toArray nn) ∈ rest) (hw : AllWords vs) (F : Fr h₀ env.locals s.heap m₀) (N : News h₀ env.locals s.heap ((b, ob₀) :: led w.params x d T dT κ θ σ₀ μ₀ τ₀ rest)) (hd : dictFacts w ob₀ kvs₀ β₀) (hi : Inv σ₀ β₀)
    (off : OwnOff rest [b, x, d, T, dT])
    (turn : ∀ (wd : Wd) (t : Tok) (σ : St) (β : Bk) ob kvs μ τ rest2 h tk, Inv σ β → ob.IsDictOf (PySem.strKind PySem.Challenge.rw_pb0551_01.row.prog w) kvs → PyProof.V.FlatPairs PyData.str kvs (bkD β.on β.md β.wt) → OwnOff rest2 [b, x, d, T, dT] →
      Fr h₀ env.locals h (fun z => if z = y then some (.str wd.s t) else m₀ z) → News h₀ env.locals h ((b, ob) :: led w.params x d T dT κ θ σ μ τ rest2) →
      wpAny (model PySem.Challenge.rw_pb0551_01.row.prog w) A (execs body env) (TurnPost w h₀ env.locals y m₀ b x d T dT κ θ rest2 { s with heap := h, toks := tk } Q) E { s with heap := h, toks := tk })
    (done : ∀ (u : Str → Option Value) h tk, Fr h₀ env.locals h (fun z => if z = y then u z else m₀ z) → News h₀ env.locals h rest → Q .next { s with heap := h, toks := tk }) :
    wpAny (model PySem.Challenge.rw_pb0551_01.row.prog w) A (pyIter (.ref l)) (fun it s₂ => LoopAtV PySem.Challenge.rw_pb0551_01.row.prog w A h₀ env y body Q E it s₂) E s := by
  have inr : ∀ {ob σ μ τ} {p : Addr × Obj}, p ∈ rest → p ∈ (b, ob) :: led w.params x d T dT κ θ σ μ τ rest := fun h => by
    unfold led; exact .tail _ (.tail _ (.tail _ (.tail _ (.tail _ h))))
  refine kdl_iter (news := (b, ob₀) :: led w.params x d T dT κ θ σ₀ μ₀ τ₀ rest) (fun _ => WordsJ w y m₀ b x d T dT κ θ rest) hh (inr hl) F N ⟨_, _, _, _, _, _, rfl, hd, hi, fun _ _ => rfl⟩ ?_ ?_
  · rintro i v m₁ nx h tk own hv hoff _ ⟨ob, kvs, σ, β, μ, τ, rfl, hd', hi', hm⟩ F₁ N₁
    obtain ⟨wd, t, rfl⟩ := hw v (List.mem_of_getElem? hv)
    have e : (fun z => if z = y then some (Value.str wd.s t) else m₁ z) = fun z => if z = y then some (Value.str wd.s t) else m₀ z := by
      funext z
      by_cases h1 : z = y
      · simp [h1]
      · simp only [if_neg h1]; exact hm z h1
    rw [e] at F₁
    have N₂ : News h₀ env.locals h ((b, ob) :: led w.params x d T dT κ θ σ μ τ (rest ++ own)) := N₁
    have hoff2 : OwnOff (rest ++ own) [b, x, d, T, dT] := by
      intro p hp c hc
      rcases List.mem_append.mp hp with hp | hp
      · exact off p hp c hc
      · refine hoff p hp c ?_
        show c ∈ b :: x :: d :: T :: dT :: rest.map (·.1)
        simp only [List.mem_cons, List.not_mem_nil, or_false] at hc ⊢
        rcases hc with h | h | h | h | h <;> simp [h]
    refine wpAny_mono (turn wd t σ β ob kvs μ τ (rest ++ own) h tk hi' hd'.1 hd'.2 hoff2 F₁ N₂) (fun f s₂ p => ?_) fun _ _ x => x
    have up : TurnEnd w h₀ env.locals y m₀ b x d T dT κ θ (rest ++ own) { s with heap := h, toks := tk } s₂ →
        InvEndG h₀ env.locals (fun m' nx => (l, listOf vs.toArray nn) ∈ nx ∧ WordsJ w y m₀ b x d T dT κ θ rest m' nx) own { s with heap := h, toks := tk } s₂ := by
      rintro ⟨h', tk', m', all, ob', kvs', σ', β', μ', τ', e', F', N', hsub, hd'', hi'', hm''⟩
      have key : ∀ p ∈ ((b, ob') :: led w.params x d T dT κ θ σ' μ' τ' rest) ++ own, p ∈ all := hsub
      exact ⟨h', tk', m', all, (b, ob') :: led w.params x d T dT κ θ σ' μ' τ' rest, e', F', N', fun p hp => key p (List.mem_append.mpr (.inl hp)), fun p hp => key p (List.mem_append.mpr (.inr hp)), hoff, inr hl, _, _, _, _, _, _, rfl, hd'', hi'', hm''⟩
    cases f with
    | ret v => exact p
    | brk => exact p
    | next => exact up p
    | cont => exact up p
  · rintro m₁ nx h tk ⟨ob, kvs, σ, β, μ, τ, rfl, _, _, hm⟩ F₁ N₁
    refine done m₁ h tk ?_ fun p hp => N₁ p (inr hp)
    have e : (fun z => if z = y then m₁ z else m₀ z) = m₁ := by
      funext z
      by_cases h1 : z = y
      · simp [h1]
      · simp only [if_neg h1]; exact (hm z h1).symm
    rw [e]; exact F₁
end
end
end Mine

namespace Mine
noncomputable section
theorem perm8 {α : Type} {b xc dc T dT x d p : α} {r : List α} (h : p ∈ b :: x :: d :: T :: dT :: xc :: dc :: r) : p ∈ b :: xc :: dc :: T :: dT :: x :: d :: r := by
  simp only [List.mem_cons] at h ⊢
  rcases h with h | h | h | h | h | h | h | h <;> simp [h]
theorem all5 {a b x d T dT : Nat} (h1 : a ≠ b) (h2 : a ≠ x) (h3 : a ≠ d) (h4 : a ≠ T) (h5 : a ≠ dT) : ∀ c ∈ [b, x, d, T, dT], a ≠ c := by
  intro c hc
  simp only [List.mem_cons, List.not_mem_nil, or_false] at hc
  rcases hc with rfl | rfl | rfl | rfl | rfl <;> assumption
section
variable {w : World} {A : Around} {E : Value → Shared → Prop} {s : Shared} {env : Env} {h₀ : Heap} {y : Str} {body : List Stmt} {Q : Flow → Shared → Prop}
theorem iter_right {l : Addr} {vs : List Value} {nn : Nat} {m₀ : Str → Option Value} {b xc dc x d T dT : Addr} {oc odc : Obj} {κ : PK} {θ : TK} {τ₀ : TV} {μ₀ : Tok} {ob₀ : Obj} {kvs₀ : List (Str × Value)} {rest : List (Addr × Obj)}
    (hh : A.handled = none) (F : Fr h₀ env.locals s.heap m₀)
    (N : News h₀ env.locals s.heap ((b, ob₀) :: (xc, oc) :: (dc, odc) :: (T, instObj 81 dT) :: (dT, dictOf (timL w.params θ 3 τ₀) 8) :: (x, instObj 165 d) :: (d, dictOf (portL w.params κ T (Str.ofString "checking") false true false false μ₀) 33) :: rest))
    (hl : (l, listOf vs.toArray nn) ∈ rest) (hw : AllWords vs) (lo : (b == sysModules) = false) (hd : ob₀.IsDictOf (PySem.strKind PySem.Challenge.rw_pb0551_01.row.prog w) kvs₀) (hf : PyProof.V.FlatPairs PyData.str kvs₀ (bkD false .ra 3))
    (c1 : @LT.lt Nat _ xc b) (c2 : @LT.lt Nat _ dc xc) (c3 : @LT.lt Nat _ T dc) (c4 : @LT.lt Nat _ dT T) (c5 : @LT.lt Nat _ x dT) (c6 : @LT.lt Nat _ d x) (c7 : ∀ p ∈ rest, p.1 < d)
    (turn : Apart x d T dT → ApartB b x d T dT → ∀ (wd : Wd) (t : Tok) (σ : St) (β : Bk) ob kvs μ τ rest2 h tk, Inv σ β → ob.IsDictOf (PySem.strKind PySem.Challenge.rw_pb0551_01.row.prog w) kvs → PyProof.V.FlatPairs PyData.str kvs (bkD β.on β.md β.wt) → OwnOff rest2 [b, x, d, T, dT] →
      Fr h₀ env.locals h (fun z => if z = y then some (.str wd.s t) else m₀ z) → News h₀ env.locals h ((b, ob) :: led w.params x d T dT κ θ σ μ τ rest2) →
      wpAny (model PySem.Challenge.rw_pb0551_01.row.prog w) A (execs body env) (TurnPost w h₀ env.locals y m₀ b x d T dT κ θ rest2 { s with heap := h, toks := tk } Q) E { s with heap := h, toks := tk })
    (done : ∀ (u : Str → Option Value) h tk, Fr h₀ env.locals h (fun z => if z = y then u z else m₀ z) → News h₀ env.locals h rest → Q .next { s with heap := h, toks := tk }) :
    wpAny (model PySem.Challenge.rw_pb0551_01.row.prog w) A (pyIter (.ref l)) (fun it s₂ => LoopAtV PySem.Challenge.rw_pb0551_01.row.prog w A h₀ env y body Q E it s₂) E s := by
  have e1 : @LT.lt Nat _ d dT := Nat.lt_trans c6 c5
  have e2 : @LT.lt Nat _ d T := Nat.lt_trans e1 c4
  have e3 : @LT.lt Nat _ x T := Nat.lt_trans c5 c4
  have f1 : @LT.lt Nat _ T xc := Nat.lt_trans c3 c2
  have f2 : @LT.lt Nat _ dT dc := Nat.lt_trans c4 c3
  have f3 : @LT.lt Nat _ x dc := Nat.lt_trans c5 f2
  have f4 : @LT.lt Nat _ d dc := Nat.lt_trans c6 f3
  have f5 : @LT.lt Nat _ dc b := Nat.lt_trans c2 c1
  have ne : Apart x d T dT := ⟨Nat.ne_of_gt c6, Nat.ne_of_gt e2, Nat.ne_of_gt e1, Nat.ne_of_lt c5, Nat.ne_of_lt e1, Nat.ne_of_gt c4⟩
  have nb : ApartB b x d T dT := ⟨lo, Nat.ne_of_gt (Nat.lt_trans f3 f5), Nat.ne_of_gt (Nat.lt_trans f4 f5), Nat.ne_of_gt (Nat.lt_trans c3 f5), Nat.ne_of_gt (Nat.lt_trans f2 f5)⟩
  have ooc : OwnOff [(xc, oc), (dc, odc)] [b, x, d, T, dT] := fun p hp => by
    rcases List.mem_cons.mp hp with rfl | hp
    · exact all5 (Nat.ne_of_lt c1) (Nat.ne_of_gt (Nat.lt_trans f3 c2)) (Nat.ne_of_gt (Nat.lt_trans f4 c2)) (Nat.ne_of_gt f1) (Nat.ne_of_gt (Nat.lt_trans f2 c2))
    · rw [List.mem_singleton.mp hp]
      exact all5 (Nat.ne_of_lt f5) (Nat.ne_of_gt f3) (Nat.ne_of_gt f4) (Nat.ne_of_gt c3) (Nat.ne_of_gt f2)
  have orr : OwnOff rest [b, x, d, T, dT] := fun p hp => by
    have g := ltN (c7 p hp)
    exact all5 (Nat.ne_of_lt (Nat.lt_trans g (Nat.lt_trans f4 f5))) (Nat.ne_of_lt (Nat.lt_trans g c6)) (Nat.ne_of_lt g) (Nat.ne_of_lt (Nat.lt_trans g e2)) (Nat.ne_of_lt (Nat.lt_trans g e1))
  refine iter_words (κ := κ) (θ := θ) (τ₀ := τ₀) (μ₀ := μ₀) (σ₀ := ⟨.ch, false, true, false, false, 3⟩) (β₀ := ⟨false, .ra, 3⟩) (rest := (xc, oc) :: (dc, odc) :: rest) (b := b) (x := x) (d := d) (T := T) (dT := dT) (ob₀ := ob₀) hh (.tail _ (.tail _ hl)) hw F (news_sub N ?_) ⟨hd, hf⟩ (.off false false) ?_ (turn ne nb) fun u h tk F' N' => done u h tk F' (news_sub N' fun p hp => .tail _ (.tail _ hp))
  · exact fun p hp => perm8 hp
  · exact fun p hp => (List.mem_append.mp (show p ∈ [(xc, oc), (dc, odc)] ++ rest from hp)).elim (ooc p) (orr p)
end
/-- what port and book say of one another between the turns -/
theorem inv_reads2 {σ : St} {β : Bk} (h : Inv σ β) : (β.md.s == Str.ofString "rapid") = σ.rap ∧ σ.k = β.wt := by
  cases h <;> exact ⟨(by dsimp only; decide), rfl⟩
theorem turn_end {w : World} {h₀ h' : Heap} {L : Addr} {y : Str} {m₀ m' : Str → Option Value} {b x d T dT : Addr} {κ : PK} {θ : TK} {rest all : List (Addr × Obj)} {s₁ : Shared} {Q : Flow → Shared → Prop} {tk : Nat} {ob : Obj} {kvs : List (Str × Value)} {σ : St} {β : Bk} {μ : Tok} {τ : TV}
    (hi : Inv σ β) (F : Fr h₀ L h' m') (N : News h₀ L h' all) (hd : ob.IsDictOf (PySem.strKind PySem.Challenge.rw_pb0551_01.row.prog w) kvs) (hf : PyProof.V.FlatPairs PyData.str kvs (bkD β.on β.md β.wt)) (sub : ∀ p ∈ (b, ob) :: led w.params x d T dT κ θ σ μ τ rest, p ∈ all) (hm : ∀ z, z ≠ y → m' z = m₀ z) :
    TurnPost w h₀ L y m₀ b x d T dT κ θ rest s₁ Q .next { s₁ with heap := h', toks := tk } :=
  ⟨h', tk, m', all, ob, kvs, σ, β, μ, τ, rfl, F, N, sub, ⟨hd, hf⟩, hi, hm⟩
end
end Mine

namespace Mine
noncomputable section
theorem Meets.use {w : World} {mg mb : Str → Option Value} {mean : ExcName → Option Value} {dp un : Nat} {f : Addr} {vs : List Value} {news : List (Addr × Obj)} {Post : Value → List (Addr × Obj) → Prop}
    {gd : Option (List Code)} {cn : Str} {cs : Scope} {a : Addr} {ccd : Value} {cl : List (Str × Addr)} {outer : List Env} {A₀ : Around} {base h₀ : Heap} {L : Addr} {m : Str → Option Value} {s : Shared} {Q E : Value → Shared → Prop}
    (M : Meets w mg mb mean dp un f vs news Post) (B : Below A₀ base outer h₀) (F : Fr h₀ L s.heap m) (X : (hd.heap_39 w.params).In h₀) (N : News h₀ L s.heap news) (T' : Top hd.view_39 (looseW hd.view_39 []) mean mg mb h₀) (hk : cs.kind = .function)
    (hret : ∀ r news' h' tk', Fr h₀ L h' m → News h₀ L h' news' → Post r news' → Q r { s with heap := h', toks := tk' }) :
    wpAny (model PySem.Challenge.rw_pb0551_01.row.prog w) (ktrTop dp un gd cn cs L a ccd cl outer) (call (.ref f) vs) Q E s :=
  M gd cn cs a ccd cl outer A₀ base h₀ L m s Q E B F X N T' hk hret
theorem off_of {news : List (Addr × Obj)} {d : Addr} (h : ∀ p ∈ news, p.1 < d) : OwnOff news [d] := by
  intro p hp b hb
  rw [List.mem_singleton.mp hb]
  exact neN (Nat.ne_of_lt (h p hp))
theorem drop4 {h₀ h : Heap} {L : Addr} {a b c1 c2 c3 c4 : Addr × Obj} {r : List (Addr × Obj)} (N : News h₀ L h (a :: b :: c1 :: c2 :: c3 :: c4 :: r)) : News h₀ L h (a :: b :: r) := by -- drop_mid
  refine news_sub N fun p hp => ?_
  rcases List.mem_cons.mp hp with h | hp
  · exact h ▸ .head _
  · rcases List.mem_cons.mp hp with h | hp
    · exact h ▸ .tail _ (.head _)
    · exact .tail _ (.tail _ (.tail _ (.tail _ (.tail _ (.tail _ hp)))))
theorem drop2 {h₀ h : Heap} {L : Addr} {a b : Addr × Obj} {r : List (Addr × Obj)} (N : News h₀ L h (a :: b :: r)) : News h₀ L h r := news_sub N fun _ hp => .tail _ (.tail _ hp)
theorem drop6 {h₀ h : Heap} {L : Addr} {a b c d e f x y : Addr × Obj} {r : List (Addr × Obj)} (N : News h₀ L h (a :: b :: c :: d :: e :: f :: x :: y :: r)) : News h₀ L h (a :: b :: c :: d :: e :: f :: r) := by
  have h2 : ∀ p ∈ r, p ∈ a :: b :: c :: d :: e :: f :: x :: y :: r := fun p hp => .tail _ (.tail _ (.tail _ (.tail _ (.tail _ (.tail _ (.tail _ (.tail _ hp)))))))
  refine news_sub N fun p hp => ?_
  simp only [List.mem_cons] at hp ⊢
  rcases hp with h | h | h | h | h | h | h
  · exact .inl h
  · exact .inr (.inl h)
  · exact .inr (.inr (.inl h))
  · exact .inr (.inr (.inr (.inl h)))
  · exact .inr (.inr (.inr (.inr (.inl h))))
  · exact .inr (.inr (.inr (.inr (.inr (.inl h)))))
  · exact .inr (.inr (.inr (.inr (.inr (.inr (.inr (.inr h)))))))
/-- the keys of an instance's dict, the newest first -/
inductive KeysAre : List DictEntry → List Str → Prop
  | nil : KeysAre [] []
  | snoc {es : List DictEntry} {ns : List Str} {h : Int} {n : Str} {t : Tok} {v : Value} : KeysAre es ns → KeysAre (es ++ [⟨h, .str n t, v⟩]) (n :: ns)
theorem KeysAre.len {es : List DictEntry} {ns : List Str} (h : KeysAre es ns) : es.length = ns.length := by
  induction h with
  | nil => rfl
  | snoc _ ih => simp [ih]
theorem KeysAre.off {es : List DictEntry} {ns : List Str} {x : Str} (h : KeysAre es ns) (hx : x ∉ ns) : ∀ e ∈ es, e.key.isStr x = false ∧ e.refKey = false := by
  induction h with
  | nil => exact fun _ h => nomatch h
  | snoc _ ih =>
    intro e he
    rcases List.mem_append.mp he with he | he
    · exact ih (fun h => hx (.tail _ h)) e he
    · rw [List.mem_singleton.mp he]
      exact ⟨beq_eq_false_iff_ne.mpr fun h => hx (h ▸ .head _), rfl⟩
theorem put_off {x : Str} {hs : Int} {key v : Value} : ∀ {es : List DictEntry}, (∀ e ∈ es, e.key.isStr x = false ∧ e.refKey = false) → putL x hs key v es = es ++ [⟨hs, key, v⟩]
  | [], _ => rfl
  | e :: r, h => by
    unfold putL
    rw [(h e (.head _)).1, put_off fun q hq => h q (.tail _ hq)]
    simp
theorem any_off {x : Str} {es : List DictEntry} (h : ∀ e ∈ es, e.key.isStr x = false ∧ e.refKey = false) : es.any (·.key.isStr x) = false := by
  rw [List.any_eq_false]
  intro e he
  rw [(h e he).1]
  exact Bool.false_ne_true
theorem get_off {x : Str} {es : List DictEntry} (h : ∀ e ∈ es, e.key.isStr x = false ∧ e.refKey = false) : getL x es = some none := by
  unfold getL
  have h1 : es.find? (·.key.isStr x) = none := List.find?_eq_none.mpr fun e he => by rw [(h e he).1]; exact Bool.false_ne_true
  have h2 : es.any (·.refKey) = false := by
    rw [List.any_eq_false]
    intro e he
    rw [(h e he).2]
    exact Bool.false_ne_true
  rw [h1, h2]
  rfl
theorem set_new {w : World} {A : Around} {E : Value → Shared → Prop} {s : Shared} {h₀ : Heap} {L : Addr} {m : Str → Option Value} {news : List (Addr × Obj)} {news' : List DictEntry → List (Addr × Obj)} {C x d : Addr} {es : List DictEntry} {ns : List Str} {name : Str} {v : Value} {Q : Unit → Shared → Prop}
    (F : Fr h₀ L s.heap m) (X : (hd.heap_39 w.params).In h₀) (N : News h₀ L s.heap news) (hx : (x, instObj C d) ∈ news) (hm : (d, dictOf es es.length) ∈ news) (K : KeysAre es ns) (hn : name ∉ ns)
    (h6 : findIn (hd.heap_39 w.params) (.ref C) "__setattr__" = some (some (.builtin "object.__setattr__"))) (h7 : plainOver (hd.heap_39 w.params) C = true) (h8 : takerIn (hd.heap_39 w.params) C name = some none) (h9 : hasDictIn (hd.heap_39 w.params) C = true) (hl : ns.length ≤ 900)
    (U : ∀ es', Upd d (dictOf es es.length) (dictOf es' es'.length) news (news' es'))
    (h : ∀ h' es' t, es' = es ++ [⟨PyData.keyHash w.params name, .str name t, v⟩] → KeysAre es' (name :: ns) → Fr h₀ L h' m → News h₀ L h' (news' es') → Q () { s with heap := h', toks := s.toks + 2 }) :
    wpAny (model PySem.Challenge.rw_pb0551_01.row.prog w) A (setAttr (.ref x) name v) Q E s := by
  have off := K.off hn
  refine set_dict F X N (InstAt.of_news N hx hm) rfl h6 h7 h8 h9 (by rw [get_off off]; rfl) (es' := es ++ [⟨PyData.keyHash w.params name, .str name (s.toks + 1), v⟩]) (n' := (es ++ [(⟨PyData.keyHash w.params name, .str name (s.toks + 1), v⟩ : DictEntry)]).length) ?_ (U _) ?_ (fun h' F' N' => h h' _ _ rfl K.snoc F' N')
  · rw [put_off off]
    unfold putN
    rw [any_off off]
    simp
  · have := K.len
    simp only [List.length_append, List.length_cons, List.length_nil]
    omega
theorem rev_eq {es es' rev : List DictEntry} {a : DictEntry} (h : es' = es ++ [a]) (ih : es = rev.reverse) : es' = (a :: rev).reverse := by
  rw [h, ih, List.reverse_cons]
theorem dict_eq {es l : List DictEntry} {n : Nat} (hE : es = l) (hl : l.length = n) : dictOf es es.length = dictOf l n := by
  subst hE; rw [hl]
theorem led6_eq {a b c e f : Addr × Obj} {d : Addr} {o o' : Obj} {r : List (Addr × Obj)} (h : o = o') : a :: b :: c :: e :: f :: (d, o) :: r = a :: b :: c :: e :: f :: (d, o') :: r := by rw [h]
/-- a plain constant's value -/
def cval (c : Const) (t : Tok) : Value := match c with
  | .bool b => .bool b
  | .str x => .str x t
  | .int i => .int i t
  | _ => .none
inductive Plain : Const → Prop
  | none : Plain .none
  | bool (b : Bool) : Plain (.bool b)
  | str (x : Str) : Plain (.str x)
  | int (i : Int) : Plain (.int i)
/-- self.a = constant, again and again -/
inductive ConstStmts (K : Frag) (C : Addr) : List Stmt → List (Str × Const) → Prop
  | nil : ConstStmts K C [] []
  | cons {a : Str} {c : Const} {k : Nat} {p1 p2 p3 p4 : Pos} {r : List Stmt} {l : List (Str × Const)} : Plain c → takerIn K C a = some none → ConstStmts K C r l → ConstStmts K C (.Assign [.Attribute (.Name (Str.ofString "self") p1) a p2] (.Constant c k p3) p4 :: r) ((a, c) :: l)
def fresh : List Str → List (Str × Const) → Bool
  | _, [] => true
  | ns, (a, _) :: l => !ns.contains a && fresh (a :: ns) l
def entries (P : Params) : List (Str × Const) → (Nat → Tok) → (Nat → Tok) → List DictEntry
  | [], _, _ => []
  | (a, c) :: l, τ, υ => ⟨PyData.keyHash P a, .str a (τ 0), cval c (υ 0)⟩ :: entries P l (fun j => τ (j + 1)) fun j => υ (j + 1)
theorem const_eval {M : Model} {A : Around} {env : Env} {E : Value → Shared → Prop} {s : Shared} {c : Const} {k : Nat} {pos : Pos} {Q : Value → Shared → Prop} (hc : Plain c) (h : ∀ t tk, Q (cval c t) { s with toks := tk }) : wpAny M A (eval (.Constant c k pos) env) Q E s := by
  cases hc with
  | none => exact wpAny_Constant_none (h 0 s.toks)
  | bool b => exact PyProof.Rows.Constant_bool (h 0 s.toks)
  | str x => exact wpAny_Constant_str (h _ _)
  | int i => exact wpAny_Constant_int (h _ _)
theorem batch {w : World} {A : Around} {env : Env} {E : Value → Shared → Prop} {h₀ : Heap} {L : Addr} {m : Str → Option Value} {rest : List (Addr × Obj)} {C x d : Addr} {Q : Flow → Shared → Prop}
    (X : (hd.heap_39 w.params).In h₀) (hx : (x, instObj C d) ∈ rest) (off : OwnOff rest [d])
    (h6 : findIn (hd.heap_39 w.params) (.ref C) "__setattr__" = some (some (.builtin "object.__setattr__"))) (h7 : plainOver (hd.heap_39 w.params) C = true) (h9 : hasDictIn (hd.heap_39 w.params) C = true)
    (hself : ∀ (s : Shared) (Q : Value → Shared → Prop) (pos : Pos), Fr h₀ L s.heap m → Q (.ref x) s → wpAny (model PySem.Challenge.rw_pb0551_01.row.prog w) A (eval (.Name (Str.ofString "self") pos) env) Q E s)
    {stmts : List Stmt} {items : List (Str × Const)} (H : ConstStmts (hd.heap_39 w.params) C stmts items) :
    ∀ {es : List DictEntry} {ns : List Str} {s : Shared}, KeysAre es ns → fresh ns items = true → ns.length + items.length ≤ 900 → Fr h₀ L s.heap m → News h₀ L s.heap ((d, dictOf es es.length) :: rest) →
      (∀ h' tk' τ υ, Fr h₀ L h' m → News h₀ L h' ((d, dictOf (es ++ entries w.params items τ υ) (es ++ entries w.params items τ υ).length) :: rest) → wpAny (model PySem.Challenge.rw_pb0551_01.row.prog w) A (execs [] env) Q E { s with heap := h', toks := tk' }) →
      wpAny (model PySem.Challenge.rw_pb0551_01.row.prog w) A (execs stmts env) Q E s := by
  induction H with
  | nil =>
    intro es ns s _ _ _ F N h
    have := h s.heap s.toks (fun _ => 0) (fun _ => 0) F (by simpa only [entries, List.append_nil] using N)
    exact this
  | @cons a c k p1 p2 p3 p4 r l hc ht _ ih =>
    intro es ns s K hf hl F N h
    obtain ⟨hf1, hf2⟩ := Bool.and_eq_true_iff.mp hf
    have hf1 : a ∉ ns := by simpa using hf1
    refine wpAny_execs_cons (plainObj_wpAny_Assign_Attribute (const_eval hc fun t tk => hself _ _ _ F ?_))
    refine set_new (x := x) (C := C) (d := d) (news := (d, dictOf es es.length) :: rest) (news' := fun es' => (d, dictOf es' es'.length) :: rest) F X N (.tail _ hx) (.head _) K hf1 h6 h7 ht h9 (by simp only [List.length_cons] at hl; omega) (fun es' => .head fun p hp => off p hp d (.head _)) ?_
    intro h' es' t' he K' F' N'
    refine ih K' hf2 (by simp only [List.length_cons] at hl ⊢; omega) F' N' ?_
    intro h'' tk' τ υ F'' N''
    have e : es' ++ entries w.params l τ υ = es ++ entries w.params ((a, c) :: l) (fun j => Nat.casesOn j t' τ) (fun j => Nat.casesOn j t υ) := by
      rw [he, List.append_assoc]
      rfl
    rw [e] at N''
    exact h h'' tk' _ _ F'' N''
theorem swap9 {α : Type} {a b p : α} {r : List α} : p ∈ a :: b :: r ↔ p ∈ b :: a :: r := by
  simp only [List.mem_cons]
  constructor <;> (rintro (h | h | h) <;> simp [h])
theorem perm6 {α : Type} {a b c d e f p : α} {r : List α} : p ∈ f :: a :: b :: c :: d :: e :: r ↔ p ∈ a :: b :: c :: d :: e :: f :: r := by
  simp only [List.mem_cons]
  constructor <;> (rintro (h | h | h | h | h | h | h) <;> simp [h])
theorem batch6 {w : World} {A : Around} {env : Env} {E : Value → Shared → Prop} {h₀ : Heap} {L : Addr} {m : Str → Option Value} {a1 a2 a3 a4 : Addr} {o1 o2 o3 o4 : Obj} {rest : List (Addr × Obj)} {C x d : Addr} {Q : Flow → Shared → Prop} {stmts : List Stmt} {items : List (Str × Const)} {es : List DictEntry} {ns : List Str} {s : Shared}
    (F : Fr h₀ L s.heap m) (X : (hd.heap_39 w.params).In h₀) (N : News h₀ L s.heap ((a1, o1) :: (a2, o2) :: (a3, o3) :: (a4, o4) :: (x, instObj C d) :: (d, dictOf es es.length) :: rest)) (H : ConstStmts (hd.heap_39 w.params) C stmts items) (K : KeysAre es ns) (hf : fresh ns items = true) (hl : ns.length + items.length ≤ 900)
    (h6 : findIn (hd.heap_39 w.params) (.ref C) "__setattr__" = some (some (.builtin "object.__setattr__"))) (h7 : plainOver (hd.heap_39 w.params) C = true) (h9 : hasDictIn (hd.heap_39 w.params) C = true)
    (hself : ∀ (s : Shared) (Q : Value → Shared → Prop) (pos : Pos), Fr h₀ L s.heap m → Q (.ref x) s → wpAny (model PySem.Challenge.rw_pb0551_01.row.prog w) A (eval (.Name (Str.ofString "self") pos) env) Q E s)
    (off : OwnOff rest [d]) (n1 : @Ne Nat a1 d) (n2 : @Ne Nat a2 d) (n3 : @Ne Nat a3 d) (n4 : @Ne Nat a4 d) (n5 : @Ne Nat x d)
    (h : ∀ h' tk' τ υ, Fr h₀ L h' m → News h₀ L h' ((a1, o1) :: (a2, o2) :: (a3, o3) :: (a4, o4) :: (x, instObj C d) :: (d, dictOf (es ++ entries w.params items τ υ) (es ++ entries w.params items τ υ).length) :: rest) → wpAny (model PySem.Challenge.rw_pb0551_01.row.prog w) A (execs [] env) Q E { s with heap := h', toks := tk' }) :
    wpAny (model PySem.Challenge.rw_pb0551_01.row.prog w) A (execs stmts env) Q E s := by
  refine batch (rest := (a1, o1) :: (a2, o2) :: (a3, o3) :: (a4, o4) :: (x, instObj C d) :: rest) X (.tail _ (.tail _ (.tail _ (.tail _ (.head _))))) ?_ h6 h7 h9 hself H K hf hl F (news_sub N fun p hp => perm6.mp hp) fun h' tk' τ υ F' N' => h h' tk' τ υ F' (news_sub N' fun p hp => perm6.mpr hp)
  intro p hp c hc
  rw [List.mem_singleton.mp hc]
  rcases List.mem_cons.mp hp with rfl | hp
  · exact n1
  rcases List.mem_cons.mp hp with rfl | hp
  · exact n2
  rcases List.mem_cons.mp hp with rfl | hp
  · exact n3
  rcases List.mem_cons.mp hp with rfl | hp
  · exact n4
  rcases List.mem_cons.mp hp with rfl | hp
  · exact n5
  exact off p hp d (.head _)
theorem app_fin {es rev ents l : List DictEntry} (h : es = rev.reverse) (h2 : rev.reverse ++ ents = l) : es ++ ents = l := by rw [h]; exact h2
/-- the same at the ledger of a fresh instance -/
theorem batch2 {w : World} {A : Around} {env : Env} {E : Value → Shared → Prop} {h₀ : Heap} {L : Addr} {m : Str → Option Value} {rest : List (Addr × Obj)} {C x d : Addr} {Q : Flow → Shared → Prop} {stmts : List Stmt} {items : List (Str × Const)} {es : List DictEntry} {n : Nat} {ns : List Str} {s : Shared}
    (F : Fr h₀ L s.heap m) (X : (hd.heap_39 w.params).In h₀) (N : News h₀ L s.heap ((x, instObj C d) :: (d, dictOf es n) :: rest)) (hn : es.length = n) (H : ConstStmts (hd.heap_39 w.params) C stmts items) (K : KeysAre es ns) (hf : fresh ns items = true) (hl : ns.length + items.length ≤ 900)
    (h6 : findIn (hd.heap_39 w.params) (.ref C) "__setattr__" = some (some (.builtin "object.__setattr__"))) (h7 : plainOver (hd.heap_39 w.params) C = true) (h9 : hasDictIn (hd.heap_39 w.params) C = true)
    (hself : ∀ (s : Shared) (Q : Value → Shared → Prop) (pos : Pos), Fr h₀ L s.heap m → Q (.ref x) s → wpAny (model PySem.Challenge.rw_pb0551_01.row.prog w) A (eval (.Name (Str.ofString "self") pos) env) Q E s)
    (off : OwnOff rest [d]) (n5 : @Ne Nat x d)
    (h : ∀ h' tk' τ υ, Fr h₀ L h' m → News h₀ L h' ((x, instObj C d) :: (d, dictOf (es ++ entries w.params items τ υ) (es ++ entries w.params items τ υ).length) :: rest) → wpAny (model PySem.Challenge.rw_pb0551_01.row.prog w) A (execs [] env) Q E { s with heap := h', toks := tk' }) :
    wpAny (model PySem.Challenge.rw_pb0551_01.row.prog w) A (execs stmts env) Q E s := by
  subst hn
  refine batch (rest := (x, instObj C d) :: rest) X (.head _) ?_ h6 h7 h9 hself H K hf hl F (news_sub N fun p hp => swap9.mp hp) fun h' tk' τ υ F' N' => h h' tk' τ υ F' (news_sub N' fun p hp => swap9.mp hp)
  intro p hp c hc
  rw [List.mem_singleton.mp hc]
  rcases List.mem_cons.mp hp with rfl | hp
  · exact n5
  exact off p hp d (.head _)
set_option maxRecDepth 100000 in
set_option maxHeartbeats 8000000 in
theorem mk_row {w : World} {mg mb : Str → Option Value} {mean : ExcName → Option Value} {news : List (Addr × Obj)} {t1 t2 t3 : Tok} :
    Meets w mg mb mean 303 10 46 [.int 1 t1, .int 128 t2, .int 10 t3] news (fun r n => ∃ x d k_number k_priority k_cost k_is_edge k_is_straight, r = .ref x ∧ n = (x, instObj 46 d) :: (d, dictOf [ent w.params "number" k_number (.int 1 t1), ent w.params "priority" k_priority (.int 128 t2), ent w.params "cost" k_cost (.int 10 t3), ent w.params "is_edge" k_is_edge (.bool false), ent w.params "is_straight" k_is_straight (.bool true)] 5) :: news ∧ (∀ p ∈ news, p.1 < d) ∧ d < x) := by
  unfold Meets
  k_fill
  intro gd cn cs a ccd cl outer A₀ base h₀ L m s Q E B F X N T' hk hret
  k_dflt (refine' call_cls ?k1 ?k2 ?k3 ?k4 ?k5 ?k6 ?_; (case k1 => k_asm); (case k2 => k_asm); (case k3 => k_asm); (case k4 => k_is); (case k5 => k_is); (case k6 => k_is); k_whole)
  intro x' d' h' F' N' l1 l2
  have o1 := off_of l1
  have l3 := ltN l2
  k_dflt (refine' code_def ?k1 ?k2 ?k3 ?k4 ?k5 ?kA ?kF ?kK ?k6 ?k7 ?k8 ?k9 ?kB ?_ ?c2 ?c3 ?c4 ?c5; (case kA => exact rfl); (case kF => exact rfl); (case kK => assumption); (case k1 => k_asm); (case k2 => k_asm); (case k3 => k_asm); (case k4 => k_asm); (case k5 => k_asm); (case k6 => k_is); (case k7 => k_is); (case k8 => ktr_room); (case k9 => first | exact BindsTo.of_eq rfl | exact binds_K (by k_in) rfl (by k_is) rfl rfl rfl); (case c5 => decide); (case kB => exact locs rfl); (case c2 => exact rfl); (case c3 => exact rfl); (case c4 => exact rfl); k_whole)
  intro g' L' h'' FG' F'' N'' B' X' T''
  try dsimp only
  try k_fold
  (rename Fr _ _ _ _ => F9); replace F9 : Fr _ _ _ (fun y => List.lookup y [(Str.ofString "is_straight", Value.bool true), (Str.ofString "is_edge", Value.bool false), (Str.ofString "cost", Value.int 10 t3), (Str.ofString "priority", Value.int 128 t2), (Str.ofString "number", Value.int 1 t1), (Str.ofString "self", Value.ref x')]) := F9
  k_with_none
  k_with "execs nil" => (refine nil_tok s ?_; intro tk; refine wpAny_execs_nil ?_)
  k_with "execs cons" => (refine cons_tok s ?_; intro tk; refine wpAny_execs_cons ?_; (try k_fold))
  k_with "setAttr ref" => (k_dflt (refine' set_dict ?k1 ?k2 ?k3 ?k4 ?k5 ?k6 ?k7 ?k8 ?k9 ?k10 ?k11 ?k12 ?k13 ?_; (case k1 => k_asm); (case k2 => k_asm); (case k3 => k_asm); (case k4 => k_inst); (case k5 => exact rfl); (case k6 => k_is); (case k7 => k_is); (case k8 => k_is); (case k9 => k_is); (case k10 => k_get); (case k11 => k_put); (case k12 => k_upd); (case k13 => exact Nat.le_of_ble_eq_true rfl); k_whole); intro h' F' N'; (try dsimp only at N'); (try k_sweep))
  k_steps
  all_goals exact hret _ _ _ _ (by k_asm) (by k_asm) ⟨_, _, _, _, _, _, _, rfl, rfl, l1, l2⟩

set_option maxRecDepth 100000 in
set_option maxHeartbeats 8000000 in
theorem mk_times {w : World} {mg mb : Str → Option Value} {mean : ExcName → Option Value} {news : List (Addr × Obj)} {t1 t2 t3 t4 : Tok} :
    Meets w mg mb mean 303 10 221 [.int 0 t1, .int 20 t2, .int 2 t3, .int 15 t4] news (fun r n => ∃ x d od, r = .ref x ∧ n = (x, instObj 221 d) :: (d, od) :: news ∧ (∀ p ∈ news, p.1 < d) ∧ d < x) := by
  unfold Meets
  k_fill
  intro gd cn cs a ccd cl outer A₀ base h₀ L m s Q E B F X N T' hk hret
  k_dflt (refine' call_cls ?k1 ?k2 ?k3 ?k4 ?k5 ?k6 ?_; (case k1 => k_asm); (case k2 => k_asm); (case k3 => k_asm); (case k4 => k_is); (case k5 => k_is); (case k6 => k_is); k_whole)
  intro x' d' h' F' N' l1 l2
  have o1 := off_of l1
  have l3 := ltN l2
  k_dflt (refine' code_def ?k1 ?k2 ?k3 ?k4 ?k5 ?kA ?kF ?kK ?k6 ?k7 ?k8 ?k9 ?kB ?_ ?c2 ?c3 ?c4 ?c5; (case kA => exact rfl); (case kF => exact rfl); (case kK => assumption); (case k1 => k_asm); (case k2 => k_asm); (case k3 => k_asm); (case k4 => k_asm); (case k5 => k_asm); (case k6 => k_is); (case k7 => k_is); (case k8 => ktr_room); (case k9 => first | exact BindsTo.of_eq rfl | exact binds_K (by k_in) rfl (by k_is) rfl rfl rfl); (case c5 => decide); (case kB => exact locs rfl); (case c2 => exact rfl); (case c3 => exact rfl); (case c4 => exact rfl); k_whole)
  intro g' L' h'' FG' F'' N'' B' X' T''
  try dsimp only
  try k_fold
  (rename Fr _ _ _ _ => F9); replace F9 : Fr _ _ _ (fun y => List.lookup y [(Str.ofString "delay", Value.int 15 t4), (Str.ofString "hello", Value.int 2 t3), (Str.ofString "max_age", Value.int 20 t2), (Str.ofString "age", Value.int 0 t1), (Str.ofString "self", Value.ref x')]) := F9
  k_with_none
  k_with "execs nil" => (refine nil_tok s ?_; intro tk; refine wpAny_execs_nil ?_)
  k_with "execs cons" => (refine cons_tok s ?_; intro tk; refine wpAny_execs_cons ?_; (try k_fold))
  k_with "setAttr ref" => (k_dflt (refine' set_dict ?k1 ?k2 ?k3 ?k4 ?k5 ?k6 ?k7 ?k8 ?k9 ?k10 ?k11 ?k12 ?k13 ?_; (case k1 => k_asm); (case k2 => k_asm); (case k3 => k_asm); (case k4 => k_inst); (case k5 => exact rfl); (case k6 => k_is); (case k7 => k_is); (case k8 => k_is); (case k9 => k_is); (case k10 => k_get); (case k11 => k_put); (case k12 => k_upd); (case k13 => exact Nat.le_of_ble_eq_true rfl); k_whole); intro h' F' N'; (try dsimp only at N'); (try k_sweep))
  k_steps
  all_goals exact hret _ _ _ _ (by k_asm) (by k_asm) ⟨_, _, _, rfl, rfl, l1, l2⟩

set_option maxRecDepth 100000 in
set_option maxHeartbeats 8000000 in
theorem mk_timers {w : World} {mg mb : Str → Option Value} {mean : ExcName → Option Value} {news : List (Addr × Obj)} :
    Meets w mg mb mean 305 14 81 [] news (fun r n => ∃ x d θ τ, r = .ref x ∧ n = (x, instObj 81 d) :: (d, dictOf (timL w.params θ 3 τ) 8) :: news ∧ (∀ p ∈ news, p.1 < d) ∧ d < x) := by
  unfold Meets
  k_fill
  intro gd cn cs a ccd cl outer A₀ base h₀ L m s Q E B F X N T' hk hret
  k_dflt (refine' call_cls ?k1 ?k2 ?k3 ?k4 ?k5 ?k6 ?_; (case k1 => k_asm); (case k2 => k_asm); (case k3 => k_asm); (case k4 => k_is); (case k5 => k_is); (case k6 => k_is); k_whole)
  intro x' d' h' F' N' l1 l2
  have o1 := off_of l1
  have l3 := ltN l2
  k_dflt (refine' code_def ?k1 ?k2 ?k3 ?k4 ?k5 ?kA ?kF ?kK ?k6 ?k7 ?k8 ?k9 ?kB ?_ ?c2 ?c3 ?c4 ?c5; (case kA => exact rfl); (case kF => exact rfl); (case kK => assumption); (case k1 => k_asm); (case k2 => k_asm); (case k3 => k_asm); (case k4 => k_asm); (case k5 => k_asm); (case k6 => k_is); (case k7 => k_is); (case k8 => ktr_room); (case k9 => first | exact BindsTo.of_eq rfl | exact binds_K (by k_in) rfl (by k_is) rfl rfl rfl); (case c5 => decide); (case kB => exact locs rfl); (case c2 => exact rfl); (case c3 => exact rfl); (case c4 => exact rfl); k_whole)
  intro g' L' h'' FG' F'' N'' B' X' T''
  try dsimp only
  try k_fold
  (rename Fr _ _ _ _ => F9); replace F9 : Fr _ _ _ (fun y => List.lookup y [(Str.ofString "self", Value.ref x')]) := F9
  k_with_none
  k_with "execs nil" => (refine nil_tok s ?_; intro tk; refine wpAny_execs_nil ?_)
  k_with "execs cons" => (refine cons_tok s ?_; intro tk; refine wpAny_execs_cons ?_; (try k_fold))
  k_with "setAttr ref" => (k_dflt (refine' set_dict ?k1 ?k2 ?k3 ?k4 ?k5 ?k6 ?k7 ?k8 ?k9 ?k10 ?k11 ?k12 ?k13 ?_; (case k1 => k_asm); (case k2 => k_asm); (case k3 => k_asm); (case k4 => k_inst); (case k5 => exact rfl); (case k6 => k_is); (case k7 => k_is); (case k8 => k_is); (case k9 => k_is); (case k10 => k_get); (case k11 => k_put); (case k12 => k_upd); (case k13 => exact Nat.le_of_ble_eq_true rfl); k_whole); intro h' F' N'; (try dsimp only at N'); (try k_sweep))
  k_with "execs cons" => (first | (k_dflt (refine' batch2 ?bF ?bX ?bN ?bn ?bH ?bK ?bf ?bl ?b6 ?b7 ?b9 ?bs ?bo ?n5 ?_; (case bF => k_asm); (case bX => k_asm); (case bN => k_asm); (case bn => exact rfl); (case bH => exact (ConstStmts.cons (by first | exact Plain.none | exact Plain.bool _ | exact Plain.str _ | exact Plain.int _) (by k_is) (ConstStmts.cons (by first | exact Plain.none | exact Plain.bool _ | exact Plain.str _ | exact Plain.int _) (by k_is) (ConstStmts.cons (by first | exact Plain.none | exact Plain.bool _ | exact Plain.str _ | exact Plain.int _) (by k_is) (ConstStmts.cons (by first | exact Plain.none | exact Plain.bool _ | exact Plain.str _ | exact Plain.int _) (by k_is) (ConstStmts.cons (by first | exact Plain.none | exact Plain.bool _ | exact Plain.str _ | exact Plain.int _) (by k_is) ConstStmts.nil)))))); (case bK => exact (show KeysAre ((([] ++ [_]) ++ [_]) ++ [_]) _ from KeysAre.snoc (KeysAre.snoc (KeysAre.snoc KeysAre.nil)))); (case bf => decide +kernel); (case bl => decide); (case b6 => k_is); (case b7 => k_is); (case b9 => k_is); (case bs => (intro s9 Q9 p9 F9 h9; exact nameX_L F9 (by rfl) h9)); (case bo => assumption); (case n5 => k_ne); k_whole); intro h' tk' τ9 υ9 F' N'; (try k_sweep)) | (refine cons_tok s ?_; intro tk; refine wpAny_execs_cons ?_; (try k_fold)))

  k_steps
  all_goals
    (refine' hret _ _ _ _ (by k_asm) (by k_asm) ⟨_, _, mkTK [_, _, _, _, _, _, _, _], mkTK [_, _, _, _, _, _, _, _], rfl, ?hh, l1, l2⟩; (case hh => (unfold timL; dsimp only [ent]; exact rfl)))

set_option maxRecDepth 100000 in
set_option maxHeartbeats 8000000 in
theorem mk_change {w : World} {mg mb : Str → Option Value} {mean : ExcName → Option Value} {news : List (Addr × Obj)} :
    Meets w mg mb mean 305 14 116 [] news (fun r n => ∃ x d od, r = .ref x ∧ n = (x, instObj 116 d) :: (d, od) :: news ∧ (∀ p ∈ news, p.1 < d) ∧ d < x) := by
  unfold Meets
  k_fill
  intro gd cn cs a ccd cl outer A₀ base h₀ L m s Q E B F X N T' hk hret
  k_dflt (refine' call_cls ?k1 ?k2 ?k3 ?k4 ?k5 ?k6 ?_; (case k1 => k_asm); (case k2 => k_asm); (case k3 => k_asm); (case k4 => k_is); (case k5 => k_is); (case k6 => k_is); k_whole)
  intro x' d' h' F' N' l1 l2
  have o1 := off_of l1
  have l3 := ltN l2
  k_dflt (refine' code_def ?k1 ?k2 ?k3 ?k4 ?k5 ?kA ?kF ?kK ?k6 ?k7 ?k8 ?k9 ?kB ?_ ?c2 ?c3 ?c4 ?c5; (case kA => exact rfl); (case kF => exact rfl); (case kK => assumption); (case k1 => k_asm); (case k2 => k_asm); (case k3 => k_asm); (case k4 => k_asm); (case k5 => k_asm); (case k6 => k_is); (case k7 => k_is); (case k8 => ktr_room); (case k9 => first | exact BindsTo.of_eq rfl | exact binds_K (by k_in) rfl (by k_is) rfl rfl rfl); (case c5 => decide); (case kB => exact locs rfl); (case c2 => exact rfl); (case c3 => exact rfl); (case c4 => exact rfl); k_whole)
  intro g' L' h'' FG' F'' N'' B' X' T''
  try dsimp only
  try k_fold
  (rename Fr _ _ _ _ => F9); replace F9 : Fr _ _ _ (fun y => List.lookup y [(Str.ofString "self", Value.ref x')]) := F9
  k_with_none
  k_with "execs nil" => (refine nil_tok s ?_; intro tk; refine wpAny_execs_nil ?_)
  k_with "execs cons" => (refine cons_tok s ?_; intro tk; refine wpAny_execs_cons ?_; (try k_fold))
  k_with "setAttr ref" => (k_dflt (refine' set_dict ?k1 ?k2 ?k3 ?k4 ?k5 ?k6 ?k7 ?k8 ?k9 ?k10 ?k11 ?k12 ?k13 ?_; (case k1 => k_asm); (case k2 => k_asm); (case k3 => k_asm); (case k4 => k_inst); (case k5 => exact rfl); (case k6 => k_is); (case k7 => k_is); (case k8 => k_is); (case k9 => k_is); (case k10 => k_get); (case k11 => k_put); (case k12 => k_upd); (case k13 => exact Nat.le_of_ble_eq_true rfl); k_whole); intro h' F' N'; (try dsimp only at N'); (try k_sweep))
  k_with "execs cons" => (first | (k_dflt (refine' batch2 ?bF ?bX ?bN ?bn ?bH ?bK ?bf ?bl ?b6 ?b7 ?b9 ?bs ?bo ?n5 ?_; (case bF => k_asm); (case bX => k_asm); (case bN => k_asm); (case bn => exact rfl); (case bH => exact (ConstStmts.cons (by first | exact Plain.none | exact Plain.bool _ | exact Plain.str _ | exact Plain.int _) (by k_is) (ConstStmts.cons (by first | exact Plain.none | exact Plain.bool _ | exact Plain.str _ | exact Plain.int _) (by k_is) (ConstStmts.cons (by first | exact Plain.none | exact Plain.bool _ | exact Plain.str _ | exact Plain.int _) (by k_is) (ConstStmts.cons (by first | exact Plain.none | exact Plain.bool _ | exact Plain.str _ | exact Plain.int _) (by k_is) (ConstStmts.cons (by first | exact Plain.none | exact Plain.bool _ | exact Plain.str _ | exact Plain.int _) (by k_is) (ConstStmts.cons (by first | exact Plain.none | exact Plain.bool _ | exact Plain.str _ | exact Plain.int _) (by k_is) ConstStmts.nil))))))); (case bK => exact KeysAre.nil); (case bf => decide +kernel); (case bl => decide); (case b6 => k_is); (case b7 => k_is); (case b9 => k_is); (case bs => (intro s9 Q9 p9 F9 h9; exact nameX_L F9 (by rfl) h9)); (case bo => assumption); (case n5 => k_ne); k_whole); intro h' tk' τ9 υ9 F' N'; (try k_sweep)) | (refine cons_tok s ?_; intro tk; refine wpAny_execs_cons ?_; (try k_fold)))

  k_steps
  all_goals exact hret _ _ _ _ (by k_asm) (by k_asm) ⟨_, _, _, rfl, rfl, l1, l2⟩

set_option maxRecDepth 100000 in
set_option maxHeartbeats 8000000 in
theorem mk_port {w : World} {mg mb : Str → Option Value} {mean : ExcName → Option Value} {news : List (Addr × Obj)} {xr dr : Addr} {vv vt : Value} {k_number k_priority k_cost k_is_edge k_is_straight : Tok} {vr1 vr2 vr3 vr5 : Value} (hr1 : (xr, instObj 46 dr) ∈ news) (hr2 : (dr, dictOf [ent w.params "number" k_number (vr1), ent w.params "priority" k_priority (vr2), ent w.params "cost" k_cost (vr3), ent w.params "is_edge" k_is_edge (.bool false), ent w.params "is_straight" k_is_straight (vr5)] 5) ∈ news) (hv1 : handedIn vv = true) (hv2 : handedIn vt = true) :
    Meets w mg mb mean 303 10 165 [.ref xr, vv, vt] news (fun r n => ∃ xc dc oc T dT θ τ x d κ μ, r = .ref x ∧ n = (xc, instObj 116 dc) :: (dc, oc) :: (T, instObj 81 dT) :: (dT, dictOf (timL w.params θ 3 τ) 8) :: (x, instObj 165 d) :: (d, dictOf (portL w.params κ T (Str.ofString "checking") false true false false μ) 33) :: news ∧ (∀ p ∈ news, p.1 < d) ∧ @LT.lt Nat _ d x ∧ @LT.lt Nat _ x dT ∧ @LT.lt Nat _ dT T ∧ @LT.lt Nat _ T dc ∧ @LT.lt Nat _ dc xc) := by
  unfold Meets
  k_fill
  intro gd cn cs a ccd cl outer A₀ base h₀ L m s Q E B F X N T' hk hret
  k_dflt (refine' call_cls ?k1 ?k2 ?k3 ?k4 ?k5 ?k6 ?_; (case k1 => k_asm); (case k2 => k_asm); (case k3 => k_asm); (case k4 => k_is); (case k5 => k_is); (case k6 => k_is); k_whole)
  intro x' d' h' F' N' l1 l2
  have o1 := off_of l1
  have l3 := ltN l2
  k_dflt (refine' code_def ?k1 ?k2 ?k3 ?k4 ?k5 ?kA ?kF ?kK ?k6 ?k7 ?k8 ?k9 ?kB ?_ ?c2 ?c3 ?c4 ?c5; (case kA => exact rfl); (case kF => exact rfl); (case kK => assumption); (case k1 => k_asm); (case k2 => k_asm); (case k3 => k_asm); (case k4 => k_asm); (case k5 => k_asm); (case k6 => k_is); (case k7 => k_is); (case k8 => ktr_room); (case k9 => first | exact BindsTo.of_eq rfl | exact binds_K (by k_in) rfl (by k_is) rfl rfl rfl); (case c5 => decide); (case kB => exact locs rfl); (case c2 => exact rfl); (case c3 => exact rfl); (case c4 => exact rfl); k_whole)
  intro g' L' h'' FG' F'' N'' B' X' T''
  try dsimp only
  try k_fold
  (rename Fr _ _ _ _ => F9); replace F9 : Fr _ _ _ (fun y => List.lookup y [(Str.ofString "times", vt), (Str.ofString "vector", vv), (Str.ofString "row", Value.ref xr), (Str.ofString "self", Value.ref x')]) := F9
  k_with_none
  k_with "execs nil" => (refine nil_tok s ?_; intro tk; refine wpAny_execs_nil ?_)
  k_with "execs cons" => (refine cons_tok s ?_; intro tk; refine wpAny_execs_cons ?_; (try k_fold))
  have K0 : KeysAre [] [] := .nil
  k_with "setAttr ref" => (k_dflt (refine' set_new ?k1 ?k2 ?k3 ?k4 ?k5 ?kK ?kn ?k6 ?k7 ?k8 ?k9 ?kl ?kU ?_; (case k1 => k_asm); (case k2 => k_asm); (case k3 => k_asm); (case k4 => k_mem); (case k5 => k_mem); (case kK => assumption); (case kn => decide +kernel); (case k6 => k_is); (case k7 => k_is); (case k8 => k_is); (case k9 => k_is); (case kl => decide); (case kU => (intro es'; k_upd)); k_whole); intro h' es' t' he' K' F' N'; (try k_sweep))
  k_with "execs cons" => (first | (k_dflt (refine' batch6 ?bF ?bX ?bN ?bH ?bK ?bf ?bl ?b6 ?b7 ?b9 ?bs ?bo ?n1 ?n2 ?n3 ?n4 ?n5 ?_; (case bF => k_asm); (case bX => k_asm); (case bN => k_asm); (case bH => exact (ConstStmts.cons (by first | exact Plain.none | exact Plain.bool _ | exact Plain.str _ | exact Plain.int _) (by k_is) (ConstStmts.cons (by first | exact Plain.none | exact Plain.bool _ | exact Plain.str _ | exact Plain.int _) (by k_is) (ConstStmts.cons (by first | exact Plain.none | exact Plain.bool _ | exact Plain.str _ | exact Plain.int _) (by k_is) (ConstStmts.cons (by first | exact Plain.none | exact Plain.bool _ | exact Plain.str _ | exact Plain.int _) (by k_is) (ConstStmts.cons (by first | exact Plain.none | exact Plain.bool _ | exact Plain.str _ | exact Plain.int _) (by k_is) (ConstStmts.cons (by first | exact Plain.none | exact Plain.bool _ | exact Plain.str _ | exact Plain.int _) (by k_is) (ConstStmts.cons (by first | exact Plain.none | exact Plain.bool _ | exact Plain.str _ | exact Plain.int _) (by k_is) (ConstStmts.cons (by first | exact Plain.none | exact Plain.bool _ | exact Plain.str _ | exact Plain.int _) (by k_is) (ConstStmts.cons (by first | exact Plain.none | exact Plain.bool _ | exact Plain.str _ | exact Plain.int _) (by k_is) (ConstStmts.cons (by first | exact Plain.none | exact Plain.bool _ | exact Plain.str _ | exact Plain.int _) (by k_is) (ConstStmts.cons (by first | exact Plain.none | exact Plain.bool _ | exact Plain.str _ | exact Plain.int _) (by k_is) (ConstStmts.cons (by first | exact Plain.none | exact Plain.bool _ | exact Plain.str _ | exact Plain.int _) (by k_is) (ConstStmts.cons (by first | exact Plain.none | exact Plain.bool _ | exact Plain.str _ | exact Plain.int _) (by k_is) (ConstStmts.cons (by first | exact Plain.none | exact Plain.bool _ | exact Plain.str _ | exact Plain.int _) (by k_is) (ConstStmts.cons (by first | exact Plain.none | exact Plain.bool _ | exact Plain.str _ | exact Plain.int _) (by k_is) (ConstStmts.cons (by first | exact Plain.none | exact Plain.bool _ | exact Plain.str _ | exact Plain.int _) (by k_is) (ConstStmts.cons (by first | exact Plain.none | exact Plain.bool _ | exact Plain.str _ | exact Plain.int _) (by k_is) (ConstStmts.cons (by first | exact Plain.none | exact Plain.bool _ | exact Plain.str _ | exact Plain.int _) (by k_is) (ConstStmts.cons (by first | exact Plain.none | exact Plain.bool _ | exact Plain.str _ | exact Plain.int _) (by k_is) (ConstStmts.cons (by first | exact Plain.none | exact Plain.bool _ | exact Plain.str _ | exact Plain.int _) (by k_is) (ConstStmts.cons (by first | exact Plain.none | exact Plain.bool _ | exact Plain.str _ | exact Plain.int _) (by k_is) (ConstStmts.cons (by first | exact Plain.none | exact Plain.bool _ | exact Plain.str _ | exact Plain.int _) (by k_is) ConstStmts.nil))))))))))))))))))))))); (case bK => assumption); (case bf => decide +kernel); (case bl => decide); (case b6 => k_is); (case b7 => k_is); (case b9 => k_is); (case bs => (intro s9 Q9 p9 F9 h9; exact nameX_L F9 (by rfl) h9)); (case bo => assumption); (case n1 => k_ne); (case n2 => k_ne); (case n3 => k_ne); (case n4 => k_ne); (case n5 => k_ne); k_whole); intro h' tk' τ9 υ9 F' N'; (try k_sweep)) | (refine cons_tok s ?_; intro tk; refine wpAny_execs_cons ?_; (try k_fold)))
  k_with "getAttr ref" => (k_dflt (refine' get_own ?k1 ?k2 ?k3 ?k4 ?k5 ?k6 ?k7 ?k8 ?k9 ?_; (case k1 => k_asm); (case k2 => k_asm); (case k3 => (refine' InstAt.of_news ?N ?h1 ?h2; (case N => k_asm); (case h1 => exact (.tail _ (.tail _ (.tail _ (.tail _ (.tail _ (.tail _ hr1))))))); (case h2 => exact (.tail _ (.tail _ (.tail _ (.tail _ (.tail _ (.tail _ hr2))))))))); (case k4 => k_is); (case k5 => k_is); (case k6 => k_is); (case k7 => k_is); (case k8 => k_get); (case k9 => k_handed); k_whole))
  k_with "call ref" => (first | (k_dflt (refine' Meets.use mk_timers ?k3 ?k4 ?k5 ?k6 ?k7 ?k8 ?_; (case k3 => k_asm); (case k4 => k_asm); (case k5 => k_asm); (case k6 => k_asm); (case k7 => k_asm); (case k8 => exact rfl); k_whole); intro r' n' h' tk' F' N' hP'; obtain ⟨xT, dT', θ', τ', rfl, rfl, m1, m2⟩ := hP'; (k_lt m1); (k_lt2 m2); (try k_sweep); (try k_fold)) | (k_dflt (refine' Meets.use mk_change ?k3 ?k4 ?k5 ?k6 ?k7 ?k8 ?_; (case k3 => k_asm); (case k4 => k_asm); (case k5 => k_asm); (case k6 => k_asm); (case k7 => k_asm); (case k8 => exact rfl); k_whole); intro r' n' h' tk' F' N' hP'; obtain ⟨xC, dC', oc', rfl, rfl, m3, m4⟩ := hP'; (k_lt m3); (k_lt2 m4); (try k_sweep); (try k_fold)))
  k_steps
  all_goals
    (refine' hret _ _ _ _ (by k_asm) (by k_asm) ⟨_, _, _, _, _, _, _, _, _, mkPK [_, _, _, _, _, _, _, _, _, _, _, _, _, _, _, _, _, _, _, _, _, _, _, _, _, _, _, _, _, _, _, _, _] [_, _, _, _, _, _, _, _, _, _, _, _, _, _, _, _, _, _, _, _, _, _, _, _, _, _, _], _, rfl, ?hh, l1, ltN l2, ?h2, ltN m2, ?h4, ltN m4⟩; (case hh => (refine' led6_eq ?ho; refine' dict_eq (app_fin (rev_eq (by assumption) (rev_eq (by assumption) (rev_eq (by assumption) (rev_eq (by assumption) (rev_eq (by assumption) (rev_eq (by assumption) (rev_eq (by assumption) (rev_eq (by assumption) (rev_eq (by assumption) (rev_eq (by assumption) (rev_eq (by assumption) List.reverse_nil.symm))))))))))) ?hb) ?hl; (case hb => (unfold portL; dsimp only [ent]; exact rfl)); (case hl => exact rfl))); (case h2 => omega); (case h4 => omega))


end
end Mine

namespace Mine
noncomputable section
set_option maxRecDepth 100000 in
set_option maxHeartbeats 8000000 in
theorem right_ok {w : World} {mg mb : Str → Option Value} {mean : ExcName → Option Value} {l : Addr} {vs : List Value} {nn : Nat} (hw : AllWords vs) :
    Meets w mg mb mean 302 7 267 [.ref l] [(l, listOf vs.toArray nn)] (fun r n => r = .bool true ∧ n = [(l, listOf vs.toArray nn)]) := by
  unfold Meets
  k_fill
  intro gd cn cs a ccd cl outer A₀ base h₀ L m s Q E B F X N T' hk hret
  refine wpAny_call ?_
  k_dflt cell_enter
  (rename Fr _ _ _ _ => F9); replace F9 : Fr _ _ _ (fun y => List.lookup y [(Str.ofString "words", Value.ref l)]) := F9
  k_with_none
  k_with "execs nil" => (refine nil_tok s ?_; intro tk; refine wpAny_execs_nil ?_)
  k_with "execs cons" => (refine cons_tok s ?_; intro tk; refine wpAny_execs_cons ?_; (try k_fold))
  k_with "call ref" => (first | (k_dflt (refine' event_call ?e1 ?e2 ?e3 ?e4 ?e5 ?k3 ?k4 ?k5 ?k6 ?k7 ?k8 ?_; (case k3 => k_asm); (case k4 => k_asm); (case k5 => k_asm); (case k6 => k_asm); (case k7 => k_asm); (case k8 => exact rfl); (case e1 => assumption); (case e2 => assumption); (case e3 => assumption); (case e4 => assumption); (case e5 => assumption); k_whole); intro σ' β' μ' τ' ob' kvs' h' tk' he hd2 hf2 F' N'; obtain ⟨σe, hs, hi2⟩ := inv_turn wd hi; rw [← he] at hs hi2; dsimp only at hs hi2; (try k_sweep); (try k_fold)) | (k_dflt (refine' settled_call ?s0 ?e3 ?e4 ?e5 ?k3 ?k4 ?k5 ?k6 ?k7 ?k8 ?_; (case k3 => k_asm); (case k4 => k_asm); (case k5 => k_asm); (case k6 => k_asm); (case k7 => k_asm); (case k8 => exact rfl); (case s0 => assumption); (case e3 => assumption); (case e4 => assumption); (case e5 => assumption); k_whole); intro μ' τ' h' tk' F' N'; obtain ⟨hm, hk2⟩ := inv_reads2 hi2; unfold led at N'; (try k_sweep); (try k_fold); rw [← hm, hk2] at N'; dsimp only [bkD] at hf2) | (k_dflt (refine' Meets.use mk_row ?k3 ?k4 ?k5 ?k6 ?k7 ?k8 ?_; (case k3 => k_asm); (case k4 => k_asm); (case k5 => k_asm); (case k6 => k_asm); (case k7 => k_asm); (case k8 => exact rfl); k_whole); intro r' n' h' tk' F' N' hP'; obtain ⟨xr, dr, q1, q2, q3, q4, q5, rfl, rfl, l1, l2⟩ := hP'; (replace N' := drop4 N'); clear l1 l2; (try k_sweep); (try k_fold)) | (k_dflt (refine' Meets.use mk_times ?k3 ?k4 ?k5 ?k6 ?k7 ?k8 ?_; (case k3 => k_asm); (case k4 => k_asm); (case k5 => k_asm); (case k6 => k_asm); (case k7 => k_asm); (case k8 => exact rfl); k_whole); intro r' n' h' tk' F' N' hP'; obtain ⟨xt, dt, ot, rfl, rfl, l3, l4⟩ := hP'; (replace N' := drop2 N'); clear l3 l4; (try k_sweep); (try k_fold)) | (k_dflt (refine' Meets.use (mk_port ?ka ?kb ?kc ?kd) ?k3 ?k4 ?k5 ?k6 ?k7 ?k8 ?_; (case k3 => k_asm); (case k4 => k_asm); (case k5 => k_asm); (case k6 => k_asm); (case k7 => k_asm); (case k8 => exact rfl); (case ka => k_mem); (case kb => k_mem); (case kc => exact rfl); (case kd => exact rfl); k_whole); intro r' n' h' tk' F' N' hP'; obtain ⟨xc, dc, oc, xT, dT, θ, τ, xp, dp, κ, μ, rfl, rfl, l5, l6, l7, l8, l9, l10⟩ := hP'; (replace N' := drop6 N'); (replace l5 := fun p hp => l5 p (List.Mem.tail _ (List.Mem.tail _ hp))); have l5' := l5; (k_lt l5); (try k_sweep); (try k_fold)))
  k_with "pyIter ref" => (k_dflt (refine' iter_right ?kh ?kF ?kN ?kl ?kw ?klo ?kd ?kf ?k1 ?k2 ?k3 ?k4 ?k5 ?k6 ?k7 ?kt ?kz; (case kh => exact rfl); (case kF => k_asm); (case kN => k_asm); (case kl => k_mem); (case kw => exact hw); (case klo => assumption); (case kd => assumption); (case kf => (dsimp only [bkD, Md.s]; first | assumption | (with_unfolding_all assumption))); (case k1 => omega); (case k2 => omega); (case k3 => omega); (case k4 => omega); (case k5 => omega); (case k6 => omega); (case k7 => exact l5'); (case' kt => (intro ne nb wd t σ β ob kvs μ τ rest2 h' tk' hi hd' hf' off2 F' N'; (try k_sweep); (try k_fold))); (case' kz => (intro u h' tk' F' N'; (try k_sweep)))))
  k_steps
  all_goals first
    | (refine' turn_end hi2 ?F ?N ?hd ?hf ?sub ?hm; (case F => k_asm); (case N => k_asm); (case hd => assumption); (case hf => assumption); (case sub => (unfold led; rw [← hm, hk2]; exact fun _ h => h)); (case hm => exact fun z hz => if_neg hz))
    | exact hret _ _ _ _ (by k_asm) (news_sub (by k_asm) (by intro p hp; rw [List.mem_singleton.mp hp]; k_mem)) ⟨rfl, rfl⟩
    | (exfalso; rename ((_ != _) = true) => h9; simp at h9; done)
    | (exfalso; simp_all; done)
end
end Mine

namespace Mine
noncomputable section
/-- the draws' source: two ints, the second small -/
structure Src (A B : Int) : Prop where
  a0 : 0 ≤ A
  b0 : 0 ≤ B
  b1 : B < 2147483647
theorem mul_small {prog : Program} {w : World} {A : Around} {E : Value → Shared → Prop} {s : Shared} {a b : Int} {t u : Tok} {Q : Value → Shared → Prop} (h0 : 0 ≤ a) (h1 : a < 2147483647) (h : Q (.int (a * b) s.toks) { s with toks := s.toks + 1 }) : wpAny (model prog w) A (binaryOp .Mult (.int a t) (.int b u)) Q E s :=
  mul_int h (.of_left (PySem.intBits_le_64 (by omega) (by omega)))
set_option maxRecDepth 100000 in
set_option maxHeartbeats 8000000 in
theorem take_ok {w : World} {mg mb : Str → Option Value} {mean : ExcName → Option Value} {dp un : Nat} {src : Addr} {A B : Int} {tA tB tt : Tok} {n0 : Nat} {top : Int} {rest : List (Addr × Obj)} (hdp : dp + 1 < recursionLimit) (hs : Src A B) (h0 : 0 < top) (h1 : top ≤ 100) (off : OwnOff rest [src]) :
    Meets w mg mb mean dp un 239 [.ref src, .int top tt] ((src, listOf [.int A tA, .int B tB].toArray n0) :: rest)
      (fun r n => ∃ v t A' B' tA' tB' n', r = .int v t ∧ 0 ≤ v ∧ v < top ∧ Src A' B' ∧ n = (src, listOf [.int A' tA', .int B' tB'].toArray n') :: rest) := by
  unfold Meets
  k_fill
  intro gd cn cs a ccd cl outer A₀ base h₀ L m s Q E B' F X N T' hk hret
  obtain ⟨a0, b0, b1⟩ := hs
  have ht : top ≠ 0 := by omega
  refine wpAny_call ?_
  k_dflt cell_enter
  (rename Fr _ _ _ _ => F9); replace F9 : Fr _ _ _ (fun y => List.lookup y [(Str.ofString "top", Value.int top tt), (Str.ofString "source", Value.ref src)]) := F9
  k_with_none
  k_with "execs nil" => (refine nil_tok s ?_; intro tk; refine wpAny_execs_nil ?_)
  k_with "execs cons" => (refine cons_tok s ?_; intro tk; refine wpAny_execs_cons ?_; (try k_fold))
  k_with "binaryOp Mult int int" => (k_dflt (refine' mul_small ?h0 ?h1 ?_; (case h0 => exact fmod_lo _ (by decide)); (case h1 => exact fmod_hi _ (by decide)); k_whole))
  k_steps
  all_goals first
    | exact hret _ _ _ _ (by k_asm) (by k_asm) ⟨_, _, _, _, _, _, _, rfl, fmod_lo _ h0, fmod_hi _ h0, ⟨Int.fdiv_nonneg a0 (by omega), b0, b1⟩, rfl⟩
    | exact hret _ _ _ _ (by k_asm) (by k_asm) ⟨_, _, _, _, _, _, _, rfl, fmod_lo _ h0, fmod_hi _ h0, ⟨a0, fmod_lo _ (by decide), fmod_hi _ (by decide)⟩, rfl⟩
end
end Mine

namespace Mine
noncomputable section
/-- what the menu holds: 'three', or a word of the law -/
def MenuV (v : Value) : Prop := (∃ t, v = .str (Str.ofString "three") t) ∨ ∃ (wd : Wd) (t : Tok), v = .str wd.s t
def menu (t1 t2 t3 t4 t5 t6 t7 t8 : Tok) : List Value := [.str (Str.ofString "second") t1, .str (Str.ofString "second") t2, .str (Str.ofString "old") t3, .str (Str.ofString "rapid") t4, .str (Str.ofString "up") t5, .str (Str.ofString "down") t6, .str (Str.ofString "three") t7, .str (Str.ofString "three") t8]
theorem menu_all {t1 t2 t3 t4 t5 t6 t7 t8 : Tok} : ∀ v ∈ menu t1 t2 t3 t4 t5 t6 t7 t8, MenuV v := by
  intro v hv
  unfold menu at hv
  simp only [List.mem_cons, List.not_mem_nil, or_false] at hv
  rcases hv with h | h | h | h | h | h | h | h
  · exact .inr ⟨.sc, t1, h⟩
  · exact .inr ⟨.sc, t2, h⟩
  · exact .inr ⟨.ol, t3, h⟩
  · exact .inr ⟨.ra, t4, h⟩
  · exact .inr ⟨.up, t5, h⟩
  · exact .inr ⟨.dn, t6, h⟩
  · exact .inl ⟨t7, h⟩
  · exact .inl ⟨t8, h⟩
theorem item_at {prog : Program} {w : World} {A : Around} {E : Value → Shared → Prop} {s : Shared} {value slice : PySem.Expr} {l : Addr} {vs : List Value} {k : Int} {u : Tok} {Q : Value → Shared → Prop}
    (hl : s.heap.IsList l vs.toArray) (h0 : 0 ≤ k) (h1 : k < vs.length) (hhi : vs.length ≤ 1000) (h : ∀ v ∈ vs, Q v s)
    (hs : subscripted slice false (.ref l) (.int k u) = operate [.ref l, .int k u] (getItem (.ref l) (.int k u)) := by with_unfolding_all rfl) :
    wpAny (model prog w) A (subscriptTail value slice (.ref l) (.int k u)) Q E s := by
  have hk : k.toNat < vs.length := by omega
  exact tail_any hl.typeIs slot_list_getitem.lookup (wpAny_getItem_list hl h0 (by omega) (by simpa using List.getElem?_eq_getElem hk) (h _ (List.getElem_mem hk))) hs
theorem swap2 {α : Type} {a b p : α} {r : List α} : p ∈ a :: b :: r ↔ p ∈ b :: a :: r := by
  simp only [List.mem_cons]
  constructor <;> (rintro (h | h | h) <;> simp [h])
theorem take_call {w : World} {mg mb : Str → Option Value} {mean : ExcName → Option Value} {src th : Addr} {A B : Int} {tA tB tt : Tok} {n0 : Nat} {oth : Obj} {top : Int} {rest : List (Addr × Obj)}
    {gd : Option (List Code)} {cn : Str} {cs : Scope} {a : Addr} {ccd : Value} {cl : List (Str × Addr)} {outer : List Env} {A₀ : Around} {base h₀ : Heap} {L : Addr} {m : Str → Option Value} {s : Shared} {Q E : Value → Shared → Prop}
    (hs : Src A B) (h0 : 0 < top) (h1 : top ≤ 100) (hne : @Ne Nat th src) (off : OwnOff rest [src])
    (B' : Below A₀ base outer h₀) (F : Fr h₀ L s.heap m) (X : (hd.heap_39 w.params).In h₀) (N : News h₀ L s.heap ((th, oth) :: (src, listOf [.int A tA, .int B tB].toArray n0) :: rest)) (T' : Top hd.view_39 (looseW hd.view_39 []) mean mg mb h₀) (hk : cs.kind = .function)
    (hret : ∀ v t A' B' tA' tB' n' h' tk', 0 ≤ v → v < top → Src A' B' → Fr h₀ L h' m → News h₀ L h' ((th, oth) :: (src, listOf [.int A' tA', .int B' tB'].toArray n') :: rest) → Q (.int v t) { s with heap := h', toks := tk' }) :
    wpAny (model PySem.Challenge.rw_pb0551_01.row.prog w) (ktrTop 303 10 gd cn cs L a ccd cl outer) (call (.ref 239) [.ref src, .int top tt]) Q E s :=
  take_ok (rest := (th, oth) :: rest) (by decide) hs h0 h1
    (by
      intro p hp b hb
      rcases List.mem_cons.mp hp with rfl | hp
      · rw [List.mem_singleton.mp hb]; exact hne
      · exact off p hp b hb)
    gd cn cs a ccd cl outer A₀ base h₀ L m s Q E B' F X (news_sub N fun p hp => swap2.mp hp) T' hk
    fun r n h' tk' F' N' hP => by obtain ⟨v, t, A', B', tA', tB', n', hr, e0, e1, e2, hn⟩ := hP; subst hr; subst hn; exact hret v t A' B' tA' tB' n' h' tk' e0 e1 e2 F' (news_sub N' fun p hp => swap2.mp hp)
set_option maxRecDepth 100000 in
set_option maxHeartbeats 8000000 in
theorem one_ok {w : World} {mg mb : Str → Option Value} {mean : ExcName → Option Value} {src th : Addr} {A B : Int} {tA tB : Tok} {n0 k0 : Nat} {t1 t2 t3 t4 t5 t6 t7 t8 : Tok} {rest : List (Addr × Obj)} (hs : Src A B) (hne : @Ne Nat th src) (off : OwnOff rest [src]) :
    Meets w mg mb mean 302 7 246 [.ref src, .ref th] ((th, listOf (menu t1 t2 t3 t4 t5 t6 t7 t8).toArray k0) :: (src, listOf [.int A tA, .int B tB].toArray n0) :: rest)
      (fun r n => MenuV r ∧ ∃ A' B' tA' tB' n', Src A' B' ∧ n = (th, listOf (menu t1 t2 t3 t4 t5 t6 t7 t8).toArray k0) :: (src, listOf [.int A' tA', .int B' tB'].toArray n') :: rest) := by
  unfold Meets
  k_fill
  intro gd cn cs a ccd cl outer A₀ base h₀ L m s Q E B' F X N T' hk hret
  refine wpAny_call ?_
  k_dflt cell_enter
  (rename Fr _ _ _ _ => F9); replace F9 : Fr _ _ _ (fun y => List.lookup y [(Str.ofString "things", Value.ref th), (Str.ofString "source", Value.ref src)]) := F9
  k_with_none
  k_with "execs nil" => (refine nil_tok s ?_; intro tk; refine wpAny_execs_nil ?_)
  k_with "execs cons" => (refine cons_tok s ?_; intro tk; refine wpAny_execs_cons ?_; (try k_fold))
  k_with "call ref" => (k_dflt (refine' take_call ?k1 ?ka ?kb ?k2 ?k3 ?k4 ?k5 ?k6 ?k7 ?k8 ?k9 ?_; (case k4 => k_asm); (case k5 => k_asm); (case k6 => k_asm); (case k7 => k_asm); (case k8 => k_asm); (case k9 => exact rfl); (case k1 => assumption); (case ka => decide); (case kb => decide); (case k2 => assumption); (case k3 => assumption); k_whole); intro v t A' B' tA' tB' n' h' tk' e0 e1 e2 F' N'; (try k_sweep); (try k_fold))
  k_with "subscriptTail" => (k_dflt (refine' item_at (vs := menu t1 t2 t3 t4 t5 t6 t7 t8) ?k1 ?k2 ?k3 ?k4 ?_ ?k6; (case k1 => is_list); (case k2 => assumption); (case k3 => exact e1); (case k4 => exact (by decide : (8 : Nat) ≤ 1000)); (case k6 => with_unfolding_all rfl); k_whole); intro v' hv')
  k_steps
  all_goals first
    | exact hret _ _ _ _ (by k_asm) (by k_asm) ⟨menu_all _ (by assumption), _, _, _, _, _, e2, rfl⟩
end
end Mine

namespace Mine
noncomputable section
theorem top_nonneg (x y : Int) (h : 0 ≤ x ∨ 0 ≤ y) : 0 ≤ if x > y then x else y := by
  split <;> omega
theorem flag_nonneg {x : Int} (h : 0 ≤ x) (c : Prop) [Decidable c] : 0 ≤ x * (if c then 1 else 0) := by
  split <;> omega
abbrev nCell : Str := Str.ofString "cell"
theorem fr_over {g h : Heap} {L : Addr} {n : Str} {a b : Option Value} {m : Str → Option Value} (F : Fr g L h (fun y => if y = n then a else if y = n then b else m y)) : Fr g L h (fun y => if y = n then a else m y) := by
  have e : (fun y => if y = n then a else if y = n then b else m y) = fun y => if y = n then a else m y := by
    funext y
    by_cases h1 : y = n
    · rw [if_pos h1, if_pos h1]
    · rw [if_neg h1, if_neg h1, if_neg h1]
  rw [← e]; exact F
def CellBack (g : Heap) (L : Addr) (m : Str → Option Value) (news : List (Addr × Obj)) (s : Shared) (f : Flow) (s' : Shared) : Prop :=
  f = .next ∧ ∃ c t h tk, s' = { s with heap := h, toks := tk } ∧ Fr g L h (fun y => if y = nCell then some (.int c t) else m y) ∧ News g L h news
/-- the reader's two ways are one from here -/
theorem if_join {M : Model} {A : Around} {env : Env} {E : Value → Shared → Prop} {st : Stmt} {s : Shared} {g : Heap} {L : Addr} {m : Str → Option Value} {news : List (Addr × Obj)} {v : Value} {Q : Flow → Shared → Prop}
    (_F : Fr g L s.heap (fun y => if y = nCell then some v else m y)) (_N : News g L s.heap news) (h1 : wpAny M A (exec st env) (CellBack g L m news s) E s)
    (h2 : ∀ c t h tk, Fr g L h (fun y => if y = nCell then some (.int c t) else m y) → News g L h news → Q .next { s with heap := h, toks := tk }) : wpAny M A (exec st env) Q E s :=
  wpAny_mono h1 (fun f s' ⟨e, c, t, h, tk, e2, F, N⟩ => by subst e; subst e2; exact h2 c t h tk F N) fun _ _ x => x
set_option maxRecDepth 100000 in
set_option maxHeartbeats 8000000 in
theorem pool_call {w : World} {mg mb : Str → Option Value} {mean : ExcName → Option Value} {news : List (Addr × Obj)} {l : Addr} {vs : List Value} {ns : List Int} {tt : Tok}
    {gd : Option (List Code)} {cn : Str} {cs : Scope} {a : Addr} {ccd : Value} {cl : List (Str × Addr)} {outer : List Env} {A₀ : Around} {base h₀ : Heap} {L : Addr} {m : Str → Option Value} {s : Shared} {Q E : Value → Shared → Prop}
    (hl : base.IsList l vs.toArray) (hi : IntsAre vs ns) (hy : (PyData.list (List.map PyData.int ns)).layable0 = true)
    (B : Below A₀ base outer h₀) (F : Fr h₀ L s.heap m) (X : (hd.heap_39 w.params).In h₀) (N : News h₀ L s.heap news) (T' : Top hd.view_39 (looseW hd.view_39 []) mean mg mb h₀) (hk : cs.kind = .function)
    (hret : ∀ l' A B tA tB n' h' tk', Src A B → Fr h₀ L h' m → News h₀ L h' ((l', listOf [.int A tA, .int B tB].toArray n') :: news) → (∀ p ∈ news, p.1 < l') → Q (.ref l') { s with heap := h', toks := tk' }) :
    wpAny (model PySem.Challenge.rw_pb0551_01.row.prog w) (ktrTop 302 7 gd cn cs L a ccd cl outer) (call (.ref 232) [.ref l, .int 0 tt]) Q E s := by
  revert X
  k_fill
  intro X
  refine wpAny_call ?_
  k_dflt cell_enter
  (rename Fr _ _ _ _ => F9); replace F9 : Fr _ _ _ (fun y => List.lookup y [(Str.ofString "k", Value.int 0 tt), (Str.ofString "script", Value.ref l)]) := F9
  k_with_none
  k_with "execs nil" => (refine nil_tok s ?_; intro tk; refine wpAny_execs_nil ?_)
  k_with "execs cons" => (refine cons_tok s ?_; intro tk; refine wpAny_execs_cons ?_; (try k_fold))
  k_with "exec If" => (k_dflt (refine' if_join ?kF ?kN ?h1 ?h2; (case kF => k_asm); (case kN => k_asm); (case' h2 => (intro c t h' tk' F' N'; (try k_sweep))); (case' h1 => (refine wpAny_If ?_))))
  k_steps
  all_goals first
    | exact ⟨rfl, _, _, _, _, rfl, fr_over (by k_asm), by k_asm⟩
    | exact ⟨rfl, _, _, _, _, rfl, by k_asm, by k_asm⟩
    | (refine' hret _ _ _ _ _ _ _ _ ?hs ?hF ?hN ?hx; (case hF => k_asm); (case hN => k_asm); (case hx => assumption); (case hs => exact ⟨flag_nonneg (top_nonneg _ _ (by omega)) _, fmod_lo _ (by decide), fmod_hi _ (by decide)⟩))
end
end Mine

namespace Mine
noncomputable section
abbrev nWord : Str := Str.ofString "word"
abbrev nWords : Str := Str.ofString "words"
/-- a turn of the draws ends: the words are words still -/
def DrawEnd (h₀ : Heap) (L : Addr) (x : Str) (m₀ : Str → Option Value) (src : Addr) (len : Nat) (rest : List (Addr × Obj)) (s₁ s₂ : Shared) : Prop :=
  ∃ h' tk m' all W vs nn A B tA tB n', s₂ = { s₁ with heap := h', toks := tk } ∧ Fr h₀ L h' m' ∧ News h₀ L h' all ∧ (∀ p ∈ (W, listOf vs.toArray nn) :: (src, listOf [.int A tA, .int B tB].toArray n') :: rest, p ∈ all) ∧ AllWords vs ∧ vs.length ≤ len + 3 ∧ Src A B ∧
    m' nWords = some (.ref W) ∧ (∀ z, z ≠ x → z ≠ nWord → z ≠ nWords → m' z = m₀ z) ∧ (∀ p ∈ rest, p.1 ≠ W) ∧ @Ne Nat W src
def DrawPost (h₀ : Heap) (L : Addr) (x : Str) (m₀ : Str → Option Value) (src : Addr) (len : Nat) (rest : List (Addr × Obj)) (s₁ : Shared) (Q : Flow → Shared → Prop) (f : Flow) (s₂ : Shared) : Prop :=
  match f with
  | .ret v => Q (.ret v) s₂
  | .brk => Q .next s₂
  | _ => DrawEnd h₀ L x m₀ src len rest s₁ s₂
/-- between the draws -/
def DrawJ (x : Str) (m₀ : Str → Option Value) (src : Addr) (i : Nat) (m : Str → Option Value) (nx : List (Addr × Obj)) : Prop :=
  ∃ W vs nn A' B' tA tB n', nx = [(W, listOf vs.toArray nn), (src, listOf [.int A' tA, .int B' tB].toArray n')] ∧ AllWords vs ∧ vs.length ≤ 1 + 3 * i ∧ Src A' B' ∧ @Ne Nat W src ∧ m nWords = some (.ref W) ∧ ∀ z, z ≠ x → z ≠ nWord → z ≠ nWords → m z = m₀ z
theorem AllWords.nil : AllWords [] := fun _ h => nomatch h
theorem AllWords.cons (wd : Wd) {t : Tok} {vs : List Value} (h : AllWords vs) : AllWords (.str wd.s t :: vs) := by
  intro v hv
  rcases List.mem_cons.mp hv with rfl | hv
  · exact ⟨wd, t, rfl⟩
  · exact h v hv
theorem AllWords.append {vs ws : List Value} (h : AllWords vs) (k : AllWords ws) : AllWords (vs ++ ws) := fun v hv => (List.mem_append.mp hv).elim (h v) (k v)
section
variable {prog : Program} {w : World} {A : Around} {E : Value → Shared → Prop} {s : Shared} {env : Env} {h₀ : Heap} {x : Str} {body : List Stmt} {Q : Flow → Shared → Prop}
theorem draw_fr {L : Addr} {h : Heap} {W : Addr} {m₀ m₁ : Str → Option Value} {g : Option Value} (hx : x ≠ nWords) (hw : m₁ nWords = some (.ref W)) (hm : ∀ z, z ≠ x → z ≠ nWord → z ≠ nWords → m₁ z = m₀ z)
    (F : Fr h₀ L h (fun y => if y = x then g else m₁ y)) : Fr h₀ L h (fun y => if y = x then g else if y = nWords then some (.ref W) else if y = nWord then m₁ y else m₀ y) := by
  have e : (fun y => if y = x then g else if y = nWords then some (Value.ref W) else if y = nWord then m₁ y else m₀ y) = fun y => if y = x then g else m₁ y := by
    funext y
    by_cases h1 : y = x
    · simp only [if_pos h1]
    · simp only [if_neg h1]
      by_cases h2 : y = nWords
      · rw [if_pos h2, h2, hw]
      · rw [if_neg h2]
        by_cases h3 : y = nWord
        · rw [if_pos h3]
        · rw [if_neg h3]; exact (hm y h1 h3 h2).symm
  rw [e]; exact F
theorem iter_draws {r src W₀ : Addr} {b₀ A₁ B₁ : Int} {t₀ u₀ v₀ tA tB : Tok} {m₀ : Str → Option Value} {vs₀ : List Value} {nn₀ n0 : Nat} {news : List (Addr × Obj)}
    (hh : A.handled = none) (hr : IsRange s.heap r 0 b₀ 1 t₀ u₀ v₀) (hb : 0 ≤ b₀) (hb' : b₀ ≤ 20) (F : Fr h₀ env.locals s.heap m₀) (N : News h₀ env.locals s.heap news)
    (hW : (W₀, listOf vs₀.toArray nn₀) ∈ news) (hS : (src, listOf [.int A₁ tA, .int B₁ tB].toArray n0) ∈ news) (hx : x ≠ nWords) (hw₀ : AllWords vs₀) (hlen : vs₀.length ≤ 1) (hsrc : Src A₁ B₁) (hm : m₀ nWords = some (.ref W₀)) (hne : @Ne Nat W₀ src)
    (turn : ∀ W vs nn A' B' tA tB n' rest (u : Str → Option Value) k t h tk, AllWords vs → vs.length ≤ 100 → Src A' B' → @Ne Nat W src → OwnOff rest [src] →
      Fr h₀ env.locals h (fun y => if y = x then some (.int k t) else if y = nWords then some (.ref W) else if y = nWord then u y else m₀ y) → News h₀ env.locals h ((W, listOf vs.toArray nn) :: (src, listOf [.int A' tA, .int B' tB].toArray n') :: rest) →
      wpAny (model prog w) A (execs body env) (DrawPost h₀ env.locals x m₀ src vs.length rest { s with heap := h, toks := tk } Q) E { s with heap := h, toks := tk })
    (done : ∀ W vs nn (u : Str → Option Value) h tk, AllWords vs → Fr h₀ env.locals h (fun y => if y = x then u y else if y = nWords then some (.ref W) else if y = nWord then u y else m₀ y) → News h₀ env.locals h [(W, listOf vs.toArray nn)] → Q .next { s with heap := h, toks := tk }) :
    wpAny (model prog w) A (pyIter (.ref r)) (fun it s₂ => LoopAtV prog w A h₀ env x body Q E it s₂) E s := by
  have hsmall : Builtin.Range.small 0 b₀ 1 = true := small_one (by decide) (by decide) (Int.le_trans (by decide) hb) (Int.lt_of_le_of_lt hb' (by decide))
  obtain ⟨n, rfl⟩ : ∃ n : Nat, b₀ = n := Int.eq_ofNat_of_zero_le hb
  have hn20 : n ≤ 20 := Int.ofNat_le.mp hb'
  have hsz : Builtin.Range.rangeSize 0 (n : Int) 1 = (n : Int) := by rw [rangeSize_nat]; omega
  refine wpAny_pyIter_range hr hsmall ?_
  have Wk : Walks prog w A s.heap.objs.size [s.heap.objs.size] [s.heap.objs.size] n (fun i v => i < n ∧ ∃ t, v = .int (0 + i * 1) t)
      (fun i h => IsRangeIter h s.heap.objs.size (0 + (i : Nat) * 1) ((n : Int) - (i : Nat)) 1) := (Walks.range hh _ 0 1 n).bound
  refine kdr_loop (news := [(W₀, listOf vs₀.toArray nn₀), (src, listOf [.int A₁ tA, .int B₁ tB].toArray n0)]) (DrawJ x m₀ src) Wk (fun _ h => h) (fun _ h => h) ?_ ?_ ?_ ?_ (by show IsRangeIter _ _ _ _ _; rw [hsz]; simpa using Heap.get?_push_size _ rfl) (F.push _) (fun p hp => ?_) ⟨_, _, _, _, _, _, _, _, rfl, hw₀, hlen, hsrc, hne, hm, fun _ _ _ _ => rfl⟩ ?_ ?_
  · intro i h hi b hb
    rw [List.mem_singleton.mp hb]
    exact ⟨_, hi⟩
  · intro hm
    exact absurd F.ns.lt ((List.mem_singleton.mp hm) ▸ Nat.lt_irrefl _)
  · intro b hb
    rw [List.mem_singleton.mp hb]
    exact next_is_new F
  · intro p hp hI
    have hp' : p ∈ news := by
      simp only [List.mem_cons, List.not_mem_nil, or_false] at hp
      rcases hp with rfl | rfl
      · exact hW
      · exact hS
    exact absurd (Heap.lt_size (N p hp').1) ((List.mem_singleton.mp hI) ▸ Nat.lt_irrefl _)
  · have hp' : p ∈ news := by
      simp only [List.mem_cons, List.not_mem_nil, or_false] at hp
      rcases hp with rfl | rfl
      · exact hW
      · exact hS
    exact ⟨Heap.get?_push_of_some _ (N p hp').1, (N p hp').2⟩
  · rintro i v m₁ nx h tk own hi' ⟨_, t, rfl⟩ hoff ⟨W, vs, nn, A', B', tA, tB, n', rfl, q1, q2, q3, q4, q5, q6⟩ F₁ N₁
    have N₂ : News h₀ env.locals h ((W, listOf vs.toArray nn) :: (src, listOf [.int A' tA, .int B' tB].toArray n') :: own) := N₁
    have o2 : OwnOff own [src] := fun p hp b hb => hoff p hp b (by simp only [List.mem_singleton] at hb; simp [hb])
    refine wpAny_mono (turn W vs nn A' B' tA tB n' own m₁ _ t h tk q1 (Nat.le_trans q2 (Nat.le_trans (Nat.add_le_add_left (Nat.mul_le_mul_left 3 (Nat.le_trans (Nat.le_of_lt hi') hn20)) 1) (by decide))) q3 q4 o2 (draw_fr hx q5 q6 F₁) N₂) (fun f s₂ p => ?_) fun _ _ x => x
    have up : DrawEnd h₀ env.locals x m₀ src vs.length own { s with heap := h, toks := tk } s₂ →
        InvEndG h₀ env.locals (DrawJ x m₀ src (i + 1)) own { s with heap := h, toks := tk } s₂ := by
      rintro ⟨h', tk', m', all, W', vs', nn', A2, B2, tA', tB', n2, e, F', N', hsub, g1, g2, g3, g4, g5, g6, g7⟩
      refine ⟨h', tk', m', all, [(W', listOf vs'.toArray nn'), (src, listOf [.int A2 tA', .int B2 tB'].toArray n2)], e, F', N', fun p hp => hsub p ?_, fun p hp => hsub p (.tail _ (.tail _ hp)), ?_, _, _, _, _, _, _, _, _, rfl, g1, Nat.le_trans g2 (Nat.le_trans (Nat.add_le_add_right q2 3) (Nat.le_of_eq (by rw [Nat.mul_add, Nat.add_assoc]))), g3, g7, g4, g5⟩
      · simp only [List.mem_cons, List.not_mem_nil, or_false] at hp ⊢
        rcases hp with h | h <;> simp [h]
      · intro q hq c hc
        simp only [List.map_cons, List.map_nil, List.mem_cons, List.not_mem_nil, or_false] at hc
        rcases hc with hc | hc
        · rw [hc]; exact g6 q hq
        · rw [hc]; exact o2 q hq _ (.head _)
    cases f with
    | ret v => exact p
    | brk => exact p
    | next => exact up p
    | cont => exact up p
  · rintro m₁ nx h tk ⟨W, vs, nn, A', B', tA, tB, n', rfl, q1, q2, q3, q4, q5, q6⟩ F₁ N₁
    refine done W vs nn m₁ h tk q1 ?_ (fun p hp => N₁ p (by rw [List.mem_singleton.mp hp]; exact .head _))
    have e : (fun y => if y = x then m₁ y else m₁ y) = m₁ := by funext y; split <;> rfl
    have := draw_fr (g := m₁ x) (F := (show Fr h₀ env.locals h (fun y => if y = x then m₁ x else m₁ y) from by
      have e2 : (fun y => if y = x then m₁ x else m₁ y) = m₁ := by
        funext y
        by_cases h1 : y = x
        · rw [if_pos h1, h1]
        · rw [if_neg h1]
      rw [e2]; exact F₁)) hx q5 q6
    have e3 : (fun y => if y = x then m₁ x else if y = nWords then some (Value.ref W) else if y = nWord then m₁ y else m₀ y) = fun y => if y = x then m₁ y else if y = nWords then some (Value.ref W) else if y = nWord then m₁ y else m₀ y := by
      funext y
      by_cases h1 : y = x
      · simp only [h1]
      · simp only [if_neg h1]
    rw [← e3]; exact this
end
end
end Mine

namespace Mine
noncomputable section
section
variable {w : World} {mg mb : Str → Option Value} {mean : ExcName → Option Value} {news : List (Addr × Obj)} {gd : Option (List Code)} {cn : Str} {cs : Scope} {a : Addr} {ccd : Value} {cl : List (Str × Addr)} {outer : List Env} {A₀ : Around} {base h₀ : Heap} {L : Addr} {m : Str → Option Value} {s : Shared} {Q E : Value → Shared → Prop}
theorem right_call {l : Addr} {vs : List Value} {nn : Nat} (B : Below A₀ base outer h₀) (F : Fr h₀ L s.heap m) (X : (hd.heap_39 w.params).In h₀) (N : News h₀ L s.heap news) (T' : Top hd.view_39 (looseW hd.view_39 []) mean mg mb h₀) (hk : cs.kind = .function)
    (hl : (l, listOf vs.toArray nn) ∈ news) (hw : AllWords vs)
    (hret : ∀ h' tk', Fr h₀ L h' m → News h₀ L h' [] → Q (.bool true) { s with heap := h', toks := tk' }) :
    wpAny (model PySem.Challenge.rw_pb0551_01.row.prog w) (ktrTop 302 7 gd cn cs L a ccd cl outer) (call (.ref 267) [.ref l]) Q E s :=
  right_ok (nn := nn) hw gd cn cs a ccd cl outer A₀ base h₀ L m s Q E B F X (news_sub N fun p hp => by rw [List.mem_singleton.mp hp]; exact hl) T' hk
    fun r n h' tk' F' _ hP => by obtain ⟨hr, _⟩ := hP; subst hr; exact hret h' tk' F' fun _ h => nomatch h
theorem perm3 {α : Type} {a b c p : α} {r : List α} : p ∈ a :: c :: b :: r ↔ p ∈ a :: b :: c :: r := by
  simp only [List.mem_cons]
  constructor <;> (rintro (h | h | h | h) <;> simp [h])
theorem rot3 {α : Type} {a b c p : α} {r : List α} : p ∈ c :: a :: b :: r ↔ p ∈ a :: b :: c :: r := by
  simp only [List.mem_cons]
  constructor <;> (rintro (h | h | h | h) <;> simp [h])
theorem one_call {src th W : Addr} {oW : Obj} {A B : Int} {tA tB : Tok} {n0 k0 : Nat} {t1 t2 t3 t4 t5 t6 t7 t8 : Tok} {rest : List (Addr × Obj)} (hs : Src A B) (hne : @Ne Nat th src) (hW : @Ne Nat W src) (off : OwnOff rest [src])
    (B' : Below A₀ base outer h₀) (F : Fr h₀ L s.heap m) (X : (hd.heap_39 w.params).In h₀) (N : News h₀ L s.heap ((th, listOf (menu t1 t2 t3 t4 t5 t6 t7 t8).toArray k0) :: (W, oW) :: (src, listOf [.int A tA, .int B tB].toArray n0) :: rest)) (T' : Top hd.view_39 (looseW hd.view_39 []) mean mg mb h₀) (hk : cs.kind = .function)
    (hret : ∀ r A' B' tA' tB' n' h' tk', MenuV r → Src A' B' → Fr h₀ L h' m → News h₀ L h' ((th, listOf (menu t1 t2 t3 t4 t5 t6 t7 t8).toArray k0) :: (W, oW) :: (src, listOf [.int A' tA', .int B' tB'].toArray n') :: rest) → Q r { s with heap := h', toks := tk' }) :
    wpAny (model PySem.Challenge.rw_pb0551_01.row.prog w) (ktrTop 302 7 gd cn cs L a ccd cl outer) (call (.ref 246) [.ref src, .ref th]) Q E s :=
  one_ok (rest := (W, oW) :: rest) hs hne
    (by
      intro p hp b hb
      rcases List.mem_cons.mp hp with rfl | hp
      · rw [List.mem_singleton.mp hb]; exact hW
      · exact off p hp b hb)
    gd cn cs a ccd cl outer A₀ base h₀ L m s Q E B' F X (news_sub N fun p hp => perm3.mp hp) T' hk
    fun r n h' tk' F' N' hP => by obtain ⟨hm, A', B2, tA', tB', n', e2, hn⟩ := hP; subst hn; exact hret r A' B2 tA' tB' n' h' tk' hm e2 F' (news_sub N' fun p hp => perm3.mpr hp)
theorem take_law {src : Addr} {A B : Int} {tA tB tt : Tok} {n0 : Nat} {o1 o2 : Obj} {x1 x2 : Addr} {top : Int} {rest : List (Addr × Obj)} (hs : Src A B) (h0 : 0 < top) (h1 : top ≤ 100) (hne : @Ne Nat x1 src) (hne2 : @Ne Nat x2 src) (off : OwnOff rest [src])
    (B' : Below A₀ base outer h₀) (F : Fr h₀ L s.heap m) (X : (hd.heap_39 w.params).In h₀) (N : News h₀ L s.heap ((x1, o1) :: (x2, o2) :: (src, listOf [.int A tA, .int B tB].toArray n0) :: rest)) (T' : Top hd.view_39 (looseW hd.view_39 []) mean mg mb h₀) (hk : cs.kind = .function)
    (hret : ∀ v t A' B' tA' tB' n' h' tk', 0 ≤ v → v < top → Src A' B' → Fr h₀ L h' m → News h₀ L h' ((x1, o1) :: (x2, o2) :: (src, listOf [.int A' tA', .int B' tB'].toArray n') :: rest) → Q (.int v t) { s with heap := h', toks := tk' }) :
    wpAny (model PySem.Challenge.rw_pb0551_01.row.prog w) (ktrTop 302 7 gd cn cs L a ccd cl outer) (call (.ref 239) [.ref src, .int top tt]) Q E s :=
  take_ok (rest := (x1, o1) :: (x2, o2) :: rest) (by decide) hs h0 h1
    (by
      intro p hp b hb
      rw [List.mem_singleton.mp hb]
      rcases List.mem_cons.mp hp with rfl | hp
      · exact hne
      · rcases List.mem_cons.mp hp with rfl | hp
        · exact hne2
        · exact off p hp _ (.head _))
    gd cn cs a ccd cl outer A₀ base h₀ L m s Q E B' F X (news_sub N fun p hp => rot3.mp hp) T' hk
    fun r n h' tk' F' N' hP => by obtain ⟨v, t, A', B', tA', tB', n', hr, e0, e1, e2, hn⟩ := hP; subst hr; subst hn; exact hret v t A' B' tA' tB' n' h' tk' e0 e1 e2 F' (news_sub N' fun p hp => rot3.mpr hp)
theorem mul_three {prog : Program} {A : Around} {l : Addr} {v : Value} {n1 : Nat} {u : Tok} (F : Fr h₀ L s.heap m) (N : News h₀ L s.heap news) (hl : (l, listOf [v].toArray n1) ∈ news)
    (h : ∀ q h', Fr h₀ L h' m → News h₀ L h' ((q, listOf [v, v, v].toArray 0) :: news) → (∀ p ∈ news, p.1 < q) → Q (.ref q) { s with heap := h' }) :
    wpAny (model prog w) A (binaryOp .Mult (.ref l) (.int 3 u)) Q E s :=
  mul_list F N (N _ hl).1 (by decide) (by decide) (show 1 * 3 ≤ 2 ^ 24 by decide) fun h' F' N' => h _ h' F' (by simpa [PySem.W.listOf] using N') fun p hp => Heap.lt_size (N p hp).1
theorem add_words {prog : Program} {A : Around} {l b : Addr} {vs ws : List Value} {n1 n2 : Nat} (F : Fr h₀ L s.heap m) (N : News h₀ L s.heap news) (hl : (l, listOf vs.toArray n1) ∈ news) (hb : (b, listOf ws.toArray n2) ∈ news) (hz : vs.length + ws.length ≤ 1000)
    (h : ∀ q h', Fr h₀ L h' m → News h₀ L h' ((q, listOf (vs ++ ws).toArray 0) :: news) → (∀ p ∈ news, p.1 < q) → Q (.ref q) { s with heap := h' }) :
    wpAny (model prog w) A (binaryOp .Add (.ref l) (.ref b)) Q E s :=
  add_lists F N (N.isList hl) (N.isList hb) (fun h' F' N' => h _ h' F' N' fun p hp => Heap.lt_size (N p hp).1) (by rw [sizeLine_eq]; omega)
theorem draw_end {x : Str} {m₀ m' : Str → Option Value} {src : Addr} {len : Nat} {rest all : List (Addr × Obj)} {s₁ : Shared} {Q : Flow → Shared → Prop} {h' : Heap} {tk nn n' : Nat} {W : Addr} {vs : List Value} {A B : Int} {tA tB : Tok}
    (F : Fr h₀ L h' m') (N : News h₀ L h' all) (hm : m' nWords = some (.ref W)) (i1 : (W, listOf vs.toArray nn) ∈ all) (i2 : (src, listOf [.int A tA, .int B tB].toArray n') ∈ all) (i3 : ∀ p ∈ rest, p ∈ all)
    (hw : AllWords vs) (hlen : vs.length ≤ len + 3) (hs : Src A B) (hz : ∀ z, z ≠ x → z ≠ nWord → z ≠ nWords → m' z = m₀ z) (hr : ∀ p ∈ rest, p.1 ≠ W) (hne : @Ne Nat W src) :
    DrawPost h₀ L x m₀ src len rest s₁ Q .next { s₁ with heap := h', toks := tk } :=
  ⟨h', tk, m', all, W, vs, nn, A, B, tA, tB, n', rfl, F, N, List.forall_mem_cons.mpr ⟨i1, List.forall_mem_cons.mpr ⟨i2, i3⟩⟩, hw, hlen, hs, hm, hz, hr, hne⟩
end
end
end Mine

namespace Mine
noncomputable section
set_option maxRecDepth 100000 in
set_option maxHeartbeats 8000000 in
theorem law_ok : PySem.Challenge.rw_pb0551_01.Holds := hd (by
  k_go0
  all_goals try k_fold
  rename Shared => s
  k_with_none
  k_with "execs nil" => (refine nil_tok s ?_; intro tk; refine wpAny_execs_nil ?_)
  k_with "execs cons" => (refine cons_tok s ?_; intro tk; refine wpAny_execs_cons ?_; (try k_fold))
  k_with "call ref" => (first | (k_dflt (refine' one_call ?ka ?kb ?kc ?kd ?k3 ?k4 ?k5 ?k6 ?k7 ?k8 ?_; (case k3 => k_asm); (case k4 => k_asm); (case k5 => k_asm); (case k6 => k_asm); (case k7 => k_asm); (case k8 => exact rfl); (case ka => assumption); (case kb => k_ne); (case kc => assumption); (case kd => assumption); k_whole); intro r A' B' tA' tB' n' h' tk' hm hsrc' F' N'; (try k_sweep); (try k_fold); unfold MenuV at hm; rcases hm with ⟨t9, rfl⟩ | ⟨wd, t9, rfl⟩; rotate_left; (have hn3 : (wd.s == Str.ofString "three") = false := by cases wd <;> decide); rotate_left) | ((k_dflt (refine' right_call ?k3 ?k4 ?k5 ?k6 ?k7 ?k8 ?kl ?kw ?_; (case k3 => k_asm); (case k4 => k_asm); (case k5 => k_asm); (case k6 => k_asm); (case k7 => k_asm); (case k8 => exact rfl); (case kl => k_mem); (case kw => first | assumption | (repeat' (first | exact AllWords.nil | refine AllWords.cons .up ?_ | refine AllWords.cons .sc ?_ | refine AllWords.cons .ol ?_ | refine AllWords.cons .ra ?_))); k_whole)); intro h' tk' F' N'; (try k_sweep); (try k_fold)) | ((k_dflt (refine' pool_call ?ka ?kb ?kc ?k3 ?k4 ?k5 ?k6 ?k7 ?k8 ?_; (case ka => assumption); (case kb => assumption); (case kc => assumption); (case k3 => k_asm); (case k4 => k_asm); (case k5 => k_asm); (case k6 => k_asm); (case k7 => k_asm); (case k8 => exact rfl); k_whole)); intro src A B tA tB n0 h' tk' hsrc F' N' lp; (k_lt lp); (try k_sweep); (try k_fold)) | ((k_dflt (refine' take_law ?ka ?kb ?kc ?kd ?ke ?kg ?k3 ?k4 ?k5 ?k6 ?k7 ?k8 ?_; (case k3 => k_asm); (case k4 => k_asm); (case k5 => k_asm); (case k6 => k_asm); (case k7 => k_asm); (case k8 => exact rfl); (case ka => assumption); (case kb => decide); (case kc => decide); (case kd => k_ne); (case ke => k_ne); (case kg => exact fun _ h => nomatch h); k_whole)); intro v t A' B' tA' tB' n' h' tk' e0 e1 hsrc' F' N'; (try k_sweep); (try k_fold)))
  k_with "pyIter ref" => (k_dflt (refine' iter_draws ?kh ?kr ?kb ?kc ?kF ?kN ?kW ?kS ?kx ?kw ?kl ?ks ?km ?ke ?kt ?kz; (case kh => exact rfl); (case kr => assumption); (case kF => k_asm); (case kN => k_asm); (case km => exact rfl); (case kW => k_mem); (case kS => k_mem); (case kb => omega); (case kc => omega); (case kx => decide); (case kw => exact AllWords.cons .up AllWords.nil); (case kl => exact Nat.le_refl 1); (case ks => assumption); (case ke => k_ne); (case' kt => (intro W vs nn A2 B2 tA2 tB2 n2 rest u k t2 h' tk' hvs hlen hs2 hne2 off2 F' N'; (try k_sweep); (try k_fold))); (case' kz => (intro W vs nn u h' tk' hvs F' N'; (try k_sweep)))))
  k_with "binaryOp Mult" => (k_dflt (refine' mul_three ?F ?N ?k1 ?_; (case F => k_asm); (case N => k_asm); (case k1 => k_mem); k_whole); intro q h' F' N' lq; (k_lt lq); (try k_sweep))
  k_with "binaryOp Add ref ref" => (k_dflt (refine' add_words ?F ?N ?k1 ?k2 ?hz ?_; (case F => k_asm); (case N => k_asm); (case k1 => k_mem); (case k2 => k_mem); (case hz => (simp only [List.length_cons, List.length_nil]; omega)); k_whole); intro q h' F' N' lq; (have lq0 := lq); (k_lt lq); (try k_sweep))
  k_steps
  all_goals first
    | (refine' draw_end ?F ?N ?hm ?i1 ?i2 ?i3 ?hw ?hl ?hs ?hz ?hr ?hne; (case F => k_asm); (case N => k_asm); (case hm => exact rfl); (case i1 => k_mem); (case i2 => k_mem); (case i3 => (intro p hp; repeat' (first | assumption | refine List.Mem.tail _ ?_))); (case hw => first | exact AllWords.append (by assumption) (.cons _ .nil) | exact AllWords.append (by assumption) (.cons .sc (.cons .sc (.cons .sc .nil)))); (case hl => (simp only [List.length_append, List.length_cons, List.length_nil]; omega)); (case hs => assumption); (case hz => (intro z h1 h2 h3; simp only [if_neg h1, if_neg h2, if_neg h3])); (case hr => exact fun p hp => neN (Nat.ne_of_lt (lq0 p (by repeat' (first | assumption | refine List.Mem.tail _ ?_))))); (case hne => k_ne))
  all_goals skip)
end
end Mine

theorem PySem.Challenge.cw_pb0551_01_holds : PySem.Challenge.rw_pb0551_01.Holds :=
  Mine.law_ok
