import PyProof.Rows.All
import Wide.All
import OpenK.AllK
import Wide.FinOn
import PySem.Challenge.RW_rr0061_01
set_option Elab.async false

section -- LTop
open PySem PySem.W PyProof.Rows
set_option maxRecDepth 100000
set_option maxHeartbeats 8000000
namespace Mine
open_top hd for PySem.Challenge.rw_rr0061_01
end Mine
end

section -- LBase
open PySem PySem.W PyProof.Rows
set_option maxRecDepth 100000
namespace Mine


/-- all objects but those named stay as they were -/
def Kept (h h' : Heap) (ad : List Addr) : Prop := ∀ b o, h.get? b = some o → b ∉ ad → h'.get? b = some o
/-- each entry is at a named address or at one where nothing stood -/
def Born (h : Heap) (ad : List Addr) (fp : List (Addr × Obj)) : Prop := ∀ p ∈ fp, p.1 ∈ ad ∨ h.get? p.1 = none

/-- the frames and the top that a walk stands on -/
structure Cx (w : World) (A₀ : Around) (base : Heap) (outer : List Env) (h₀ : Heap) (mean : ExcName → Option Value) (mg mb : Str → Option Value) : Prop where
  B : Below A₀ base outer h₀
  X : (hd.heap_39 w.params).In h₀
  T : Top hd.view_39 (looseW hd.view_39 []) mean mg mb h₀

def CSpec (w : World) (f : Addr) (vs : List Value) (room : Nat) (fp : List (Addr × Obj)) (Post : Value → List (Addr × Obj) → Prop) : Prop :=
  ∀ (mean : ExcName → Option Value) (mg mb : Str → Option Value) (dp un : Nat) (gd : Option (List Code)) (cn : Str) (cs : Scope) (a : Addr) (ccd : Value) (cl : List (Str × Addr)) (outer : List Env) (A₀ : Around)
    (base h₀ : Heap) (L : Addr) (m : Str → Option Value) (s : Shared) (Q E : Value → Shared → Prop),
    Cx w A₀ base outer h₀ mean mg mb → Fr h₀ L s.heap m → News h₀ L s.heap fp → cs.kind = .function → dp + room ≤ recursionLimit → un + 100 * room ≤ cLine →
    (∀ r fp' h' tk', Fr h₀ L h' m → News h₀ L h' fp' → Post r fp' → Kept s.heap h' (fp.map (·.1)) → Born s.heap (fp.map (·.1)) fp' → Q r { s with heap := h', toks := tk' }) →
    wpAny (model PySem.Challenge.rw_rr0061_01.row.prog w) (ktrTop dp un gd cn cs L a ccd cl outer) (call (.ref f) vs) Q E s

/-- what a body hands back -/
def Ends (g : Heap) (s : Shared) (Post : Value → List (Addr × Obj) → Prop) (v : Value) (s' : Shared) : Prop :=
  ∃ L m fp h tk, Fr g L h m ∧ News g L h fp ∧ Post v fp ∧ s' = { s with heap := h, toks := tk }

theorem Ends.mk {g h : Heap} {s : Shared} {Post : Value → List (Addr × Obj) → Prop} {v : Value} {L : Addr} {m : Str → Option Value} {fp : List (Addr × Obj)} {tk : Nat}
    (F : Fr g L h m) (N : News g L h fp) (hp : Post v fp) : Ends g s Post v { s with heap := h, toks := tk } := ⟨L, m, fp, h, tk, F, N, hp, rfl⟩

theorem cspec_of {w : World} {f : Addr} {vs : List Value} {room : Nat} {fp : List (Addr × Obj)} {Post : Value → List (Addr × Obj) → Prop}
    {name qual : Str} {params : Arguments} {body : List Stmt} {scope : Scope} {dV kV doc pm cdv ct oc : Value} {an od : Option Addr} {osl : Array (Option Value)} {binds : List (Str × Value)}
    (ho : (hd.heap_39 w.params).lookup f = some ⟨oc, od, .func (fnOf name qual params body scope dV kV doc pm an cdv ct), osl⟩) (hcd : codeIn (hd.heap_39 w.params) cdv qual = true)
    (hbind : bindArgs (fnOf name qual params body scope dV kV doc pm an cdv ct) ⟨vs, []⟩ = pure binds) (hloc : ∀ y ∈ binds, scope.names.lookup y.1 = some .local)
    (hco : scope.isCoroutine = false) (hgen : scope.isGenerator = false) (hk : scope.kind = .function) (hcell : ∀ x ∈ scope.names, x.2 ≠ .cell)
    (h : ∀ (mean : ExcName → Option Value) (mg mb : Str → Option Value) (dp un : Nat) (gd : Option (List Code)) (outer : List Env) (A₀ : Around) (base g : Heap) (L : Addr) (s : Shared),
      Cx w A₀ base outer g mean mg mb → Fr g L s.heap (fun y => binds.reverse.lookup y) → News g L s.heap fp → dp + room ≤ recursionLimit → un + 100 * room ≤ cLine →
      wpAny (model PySem.Challenge.rw_rr0061_01.row.prog w) (ktrTop dp un gd qual scope L f cdv [] outer) (execs body (envX qual scope L f cdv [])) (fun fl s' => Ends g s Post (match fl with | .ret v => v | _ => .none) s') (fun _ _ => False) s) :
    CSpec w f vs (room + 1) fp Post := by
  intro mean mg mb dp un gd cn cs a ccd cl outer A₀ base h₀ L m s Q E C F N hcs hd hu hret
  refine wpAny_call ?_
  obtain ⟨FG, BG, st, lv⟩ := groundX (env := envX cn cs L a ccd cl) (R := fun r s' => match r with | .ok (.ret v) => Q v s' | .ok _ => False | .error e => E e s') (A := ktrTop dp un gd cn cs L a ccd cl outer) C.B F N rfl rfl hcs
  have hroom : dp < recursionLimit := by omega
  refine codeAny_call_def (fd := fnOf name qual params body scope dV kV doc pm an cdv ct) (body := body) (binds := binds) hroom ((C.X.keeps F.keep) _ _ ho) rfl (C.T.nolimit.keeps F.keep) (codeRec_of (C.X.keeps F.keep) hcd) rfl (BindsTo.of_eq hbind) hcell hloc (fun h₁ hns hk₁ => ?_) hco hgen hk
  have FX : Fr (hideAll s.heap (fp.map (·.1))) s.heap.objs.size h₁ (fun y => binds.reverse.lookup y) := ⟨hns, fun b o e => hk₁ b o (of_hideAll _ e), Nat.le_of_eq (hideAll_size _ _)⟩
  have NX : News (hideAll s.heap (fp.map (·.1))) s.heap.objs.size h₁ fp := fun p hp => ⟨hk₁ _ _ (N p hp).1, Nat.ne_of_lt (Heap.lt_size (N p hp).1), hideAll_none _ (List.mem_map_of_mem hp)⟩
  refine wpAny_mono (h mean mg mb (dp + 1) (un + 3) gd (envX cn cs L a ccd cl :: outer) _ base _ s.heap.objs.size { s with heap := h₁, toks := s.toks + binds.length } ⟨BG, C.X.keeps st, C.T.keeps st⟩ FX NX (by omega) (by omega)) (fun fl s' hl => ?_) (fun _ _ x => x.elim)
  obtain ⟨L', m', fp', h', tk', F', N', hp', rfl⟩ := hl
  refine lv _ _ (leaveK_ F' N' fun kF kN => ?_)
  refine hret _ fp' h' tk' kF kN hp' (fun b o e n => F'.keep b o (hideAll_get _ e n)) fun p hp => ?_
  by_cases hb : p.1 ∈ fp.map (·.1)
  · exact .inl hb
  · refine .inr ?_
    cases q : s.heap.get? p.1 with
    | none => rfl
    | some o => have := (N' p hp).2.2; rw [hideAll_get _ q hb] at this; cases this

/-- addresses apart -/
def Apart (xs ys : List (Addr × Obj)) : Prop := ∀ p ∈ xs, ∀ q ∈ ys, p.1 ≠ q.1

theorem frame_news {h₀ h h' : Heap} {L : Addr} {fp fp' rest : List (Addr × Obj)} (N : News h₀ L h rest) (N' : News h₀ L h' fp') (k : Kept h h' (fp.map (·.1))) (ap : Apart fp rest) : News h₀ L h' (fp' ++ rest) := by
  intro p hp
  rcases List.mem_append.mp hp with hp | hp
  · exact N' p hp
  · refine ⟨k _ _ (N p hp).1 fun q => ?_, (N p hp).2⟩
    obtain ⟨r, hr, e⟩ := List.mem_map.mp q
    exact ap r hr p hp e
theorem frame_apart {h₀ h : Heap} {L : Addr} {fp fp' rest : List (Addr × Obj)} (N : News h₀ L h rest) (b : Born h (fp.map (·.1)) fp') (ap : Apart fp rest) : Apart fp' rest := by
  intro p hp q hq e
  rcases b p hp with hb | hb
  · obtain ⟨r, hr, e'⟩ := List.mem_map.mp hb
    exact ap r hr q hq (e'.trans e)
  · have := (N q hq).1
    rw [← e, hb] at this; cases this

/-- a contract used where more stands in the ledger -/
theorem CSpec.use {w : World} {f : Addr} {vs : List Value} {room : Nat} {fp : List (Addr × Obj)} {Post : Value → List (Addr × Obj) → Prop} (S : CSpec w f vs room fp Post) (rest : List (Addr × Obj))
    {mean : ExcName → Option Value} {mg mb : Str → Option Value} {dp un : Nat} {gd : Option (List Code)} {cn : Str} {cs : Scope} {a : Addr} {ccd : Value} {cl : List (Str × Addr)} {outer : List Env} {A₀ : Around}
    {base h₀ : Heap} {L : Addr} {m : Str → Option Value} {news : List (Addr × Obj)} {s : Shared} {Q E : Value → Shared → Prop}
    (B : Below A₀ base outer h₀) (X : (hd.heap_39 w.params).In h₀) (T : Top hd.view_39 (looseW hd.view_39 []) mean mg mb h₀) (F : Fr h₀ L s.heap m) (N : News h₀ L s.heap news) (h1 : ∀ p ∈ fp, p ∈ news) (h2 : ∀ p ∈ rest, p ∈ news) (ap : Apart fp rest)
    (hcs : cs.kind = .function) (hd : dp + room ≤ recursionLimit) (hu : un + 100 * room ≤ cLine)
    (hret : ∀ r fp' h' tk', Fr h₀ L h' m → News h₀ L h' (fp' ++ rest) → Post r fp' → Apart fp' rest → Kept s.heap h' (fp.map (·.1)) → Born s.heap (fp.map (·.1)) fp' → Q r { s with heap := h', toks := tk' }) :
    wpAny (model PySem.Challenge.rw_rr0061_01.row.prog w) (ktrTop dp un gd cn cs L a ccd cl outer) (call (.ref f) vs) Q E s := by
  refine S mean mg mb dp un gd cn cs a ccd cl outer A₀ base h₀ L m s Q E ⟨B, X, T⟩ F (fun p hp => N p (h1 p hp)) hcs hd hu fun r fp' h' tk' F' N' hp k b => ?_
  have NR : News h₀ L s.heap rest := fun p hp => N p (h2 p hp)
  exact hret r fp' h' tk' F' (frame_news NR N' k ap) hp (frame_apart NR b ap) k b

/-- a goal at which the walk is to stand still -/
def Stop (p : Prop) : Prop := p
theorem Stop.mk {p : Prop} (h : Stop p) : p := h
theorem Stop.go {p : Prop} (h : p) : Stop p := h
end Mine
namespace Mine
section
variable {w : World} {f : Addr} {vs : List Value} {room : Nat} {fp : List (Addr × Obj)}
    {mean : ExcName → Option Value} {mg mb : Str → Option Value} {dp un : Nat} {gd : Option (List Code)} {cn : Str} {cs : Scope} {a : Addr} {ccd : Value} {cl : List (Str × Addr)} {outer : List Env} {A₀ : Around}
    {base h₀ : Heap} {L : Addr} {m : Str → Option Value} {news : List (Addr × Obj)} {s : Shared} {Q E : Value → Shared → Prop} {P : Value → Prop}
/-- a contract of a reader -/
theorem CSpec.read (S : CSpec w f vs room fp (fun r fp' => fp' = fp ∧ P r))
    (B : Below A₀ base outer h₀) (X : (hd.heap_39 w.params).In h₀) (T : Top hd.view_39 (looseW hd.view_39 []) mean mg mb h₀) (F : Fr h₀ L s.heap m) (N : News h₀ L s.heap news) (h1 : ∀ p ∈ fp, p ∈ news)
    (hcs : cs.kind = .function) (hd : dp + room ≤ recursionLimit) (hu : un + 100 * room ≤ cLine)
    (hret : ∀ r h' tk', Fr h₀ L h' m → News h₀ L h' news → P r → Q r { s with heap := h', toks := tk' }) :
    wpAny (model PySem.Challenge.rw_rr0061_01.row.prog w) (ktrTop dp un gd cn cs L a ccd cl outer) (call (.ref f) vs) Q E s := by
  refine S mean mg mb dp un gd cn cs a ccd cl outer A₀ base h₀ L m s Q E ⟨B, X, T⟩ F (fun p hp => N p (h1 p hp)) hcs hd hu fun r fp' h' tk' F' N' hp k b => ?_
  obtain ⟨rfl, hp⟩ := hp
  refine hret r h' tk' F' (fun p hp => ⟨?_, (N p hp).2⟩) hp
  by_cases q : p.1 ∈ fp'.map (·.1)
  · obtain ⟨r, hr, e⟩ := List.mem_map.mp q
    have e1 := (N p hp).1
    rw [← e, (N r (h1 r hr)).1] at e1
    rw [← e, (N' r hr).1, e1]
  · exact k _ _ (N p hp).1 q
/-- a contract of a def that makes one object and changes none -/
theorem CSpec.make {R : Value → Addr → Obj → Prop} (S : CSpec w f vs room fp (fun r fp' => ∃ x o, fp' = (x, o) :: fp ∧ (∀ p ∈ fp, (@Ne Nat x p.1)) ∧ R r x o))
    (B : Below A₀ base outer h₀) (X : (hd.heap_39 w.params).In h₀) (T : Top hd.view_39 (looseW hd.view_39 []) mean mg mb h₀) (F : Fr h₀ L s.heap m) (N : News h₀ L s.heap news) (h1 : ∀ p ∈ fp, p ∈ news)
    (hcs : cs.kind = .function) (hd : dp + room ≤ recursionLimit) (hu : un + 100 * room ≤ cLine)
    (hret : ∀ r x o h' tk', Fr h₀ L h' m → News h₀ L h' ((x, o) :: news) → (∀ p ∈ news, (@Ne Nat x p.1)) → R r x o → Q r { s with heap := h', toks := tk' }) :
    wpAny (model PySem.Challenge.rw_rr0061_01.row.prog w) (ktrTop dp un gd cn cs L a ccd cl outer) (call (.ref f) vs) Q E s := by
  refine S mean mg mb dp un gd cn cs a ccd cl outer A₀ base h₀ L m s Q E ⟨B, X, T⟩ F (fun p hp => N p (h1 p hp)) hcs hd hu fun r fp' h' tk' F' N' hp k b => ?_
  obtain ⟨x, o, rfl, hx, hp⟩ := hp
  refine hret r x o h' tk' F' (fun p hp => ?_) (fun p hp e => ?_) hp
  · rcases List.mem_cons.mp hp with rfl | hp
    · exact N' _ (.head _)
    refine ⟨?_, (N p hp).2⟩
    by_cases q : p.1 ∈ fp.map (·.1)
    · obtain ⟨r, hr, e⟩ := List.mem_map.mp q
      have e1 := (N p hp).1
      rw [← e, (N r (h1 r hr)).1] at e1
      rw [← e, (N' r (.tail _ hr)).1, e1]
    · exact k _ _ (N p hp).1 q
  · rcases b (x, o) (.head _) with q | q
    · obtain ⟨r, hr, e'⟩ := List.mem_map.mp q
      exact hx r hr e'.symm
    · have := (N p hp).1
      rw [← (show x = p.1 from e), q] at this; cases this
end
end Mine
end

section -- LDraw
open PySem PySem.W PyProof.Rows
set_option maxRecDepth 100000
namespace Mine
theorem fill : PySem.Challenge.rw_rr0061_01 = PySem.Challenge.rw_rr0061_01 ∧ hd.heap_39 = hd.heap_39 := by
  k_fill
  exact ⟨rfl, rfl⟩

/-- the stock: a dict of a list of ints and a count -/
def StockIs (w : World) (D O : Addr) (ns : List Int) (k : Int) (oD oO : Obj) : Prop :=
  ∃ vs n t, oO = listOf vs.toArray n ∧ IntsAre vs ns ∧ oD.IsDictOf (strKind PySem.Challenge.rw_rr0061_01.row.prog w) [("own", .ref O), ("at", .int k t)]

local macro_rules | `(tactic| walk_at "call ref") => `(tactic| (k_here; (with_reducible show wpAny _ _ (call (Value.ref _) _) _ _ _); refine Stop.mk ?_))

set_option maxHeartbeats 4000000 in
theorem draw_spec {w : World} {D O : Addr} {ns : List Int} {k many : Int} {tm : Tok} {oD oO : Obj} (hS : StockIs w D O ns k oD oO) (hD : (D == sysModules) = false) (hDO : @Ne Nat D O) (hk0 : 0 ≤ k) (hk1 : k < 1000) (hn : ns.length ≤ 40) (hp : ∀ x ∈ ns, 0 ≤ x) (hm : 0 < many) (hm' : many ≤ 100) :
    CSpec w 54 [.ref D, .int many tm] 1 [(D, oD), (O, oO)] (fun r fp' => ∃ i t oD', 0 ≤ i ∧ i < many ∧ r = .int i t ∧ fp' = [(D, oD'), (O, oO)] ∧ StockIs w D O ns (k + 1) oD' oO) := by
  obtain ⟨vs, n, t, rfl, hI, hd⟩ := hS
  k_dflt (refine' cspec_of (binds := [("stock", .ref D), ("many", .int many tm)]) ?ho ?hcd ?hb ?hl ?c1 ?c2 ?c3 ?c4 ?_; (case ho => k_is); (case hcd => k_is); (case hb => exact rfl); (case hl => exact locs rfl); (case c1 => exact rfl); (case c2 => exact rfl); (case c3 => exact rfl); (case c4 => decide))
  intro mean mg mb dp un gd outer A₀ base g L s C F N hdp hun
  have B := C.B
  have X := C.X
  have T := C.T
  clear C
  obtain ⟨hh, gn, dr, tk, os⟩ := s
  dsimp only at F N ⊢
  try k_fold
  k_steps
  · refine Ends.mk (by assumption) (by assumption) ?_
    refine ⟨_, _, _, ?_, ?_, rfl, rfl, vs, n, _, rfl, hI, by assumption⟩
    · exact Int.fmod_nonneg_of_pos _ hm
    · exact Int.fmod_lt_of_pos _ hm
  · refine Ends.mk (by assumption) (by assumption) ?_
    refine ⟨_, _, _, ?_, ?_, rfl, rfl, vs, n, _, rfl, hI, by assumption⟩
    · exact Int.fmod_nonneg_of_pos _ hm
    · exact Int.fmod_lt_of_pos _ hm
end Mine
end

section -- LText
open PySem PySem.W PyProof.Rows
set_option maxRecDepth 100000
namespace Mine
theorem fill2 : PySem.Challenge.rw_rr0061_01 = PySem.Challenge.rw_rr0061_01 ∧ hd.heap_39 = hd.heap_39 := by
  k_fill
  exact ⟨rfl, rfl⟩

def TxtIs (x : Option (Array UInt8)) (r : Value) : Prop := match x with
  | some b => ∃ t, r = .bytes b t
  | none => r = .none

local macro_rules | `(tactic| walk_at "call ref") => `(tactic| (k_here; (with_reducible show wpAny _ _ (call (Value.ref _) _) _ _ _); refine Stop.mk ?_))

set_option maxHeartbeats 4000000 in
theorem num_72 {w : World} {t : Tok} : CSpec w 28 [.int (-72) t] 1 [] (fun r fp' => fp' = [] ∧ TxtIs (some #[45, 55, 50]) r) := by
  k_dflt (refine' cspec_of (binds := [("n", .int (-72) t)]) ?ho ?hcd ?hb ?hl ?c1 ?c2 ?c3 ?c4 ?_; (case ho => k_is); (case hcd => k_is); (case hb => exact rfl); (case hl => exact locs rfl); (case c1 => exact rfl); (case c2 => exact rfl); (case c3 => exact rfl); (case c4 => decide))
  intro mean mg mb dp un gd outer A₀ base g L s C F N hdp hun
  have B := C.B
  have X := C.X
  have T := C.T
  clear C
  obtain ⟨hh, gn, dr, tk, os⟩ := s
  dsimp only at F N ⊢
  try k_fold
  k_steps
  rename Fr _ _ _ _ => F'
  rename News _ _ _ _ => N'
  refine' bytes_K F' N' ?hl ?hi ?hr ?hz rfl ?_
  case hl => exact ⟨_, (N' _ (.tail _ (.head _))).1, rfl, _, rfl⟩
  case hi => exact (IntsAre.cons _ _ (IntsAre.cons _ _ (IntsAre.cons _ _ IntsAre.nil)))
  case hr => decide
  case hz => rw [sizeLine_eq]; exact Nat.le_of_ble_eq_true rfl
  intro h' t' k' F2 N2 _
  exact Ends.mk F2 News.nil ⟨rfl, t', rfl⟩

set_option maxHeartbeats 4000000 in
theorem num_5 {w : World} {t : Tok} : CSpec w 28 [.int (5) t] 1 [] (fun r fp' => fp' = [] ∧ TxtIs (some #[53]) r) := by
  k_dflt (refine' cspec_of (binds := [("n", .int (5) t)]) ?ho ?hcd ?hb ?hl ?c1 ?c2 ?c3 ?c4 ?_; (case ho => k_is); (case hcd => k_is); (case hb => exact rfl); (case hl => exact locs rfl); (case c1 => exact rfl); (case c2 => exact rfl); (case c3 => exact rfl); (case c4 => decide))
  intro mean mg mb dp un gd outer A₀ base g L s C F N hdp hun
  have B := C.B
  have X := C.X
  have T := C.T
  clear C
  obtain ⟨hh, gn, dr, tk, os⟩ := s
  dsimp only at F N ⊢
  try k_fold
  k_steps
  rename Fr _ _ _ _ => F'
  exact Ends.mk F' News.nil ⟨rfl, _, rfl⟩

set_option maxHeartbeats 4000000 in
theorem num_0 {w : World} {t : Tok} : CSpec w 28 [.int (0) t] 1 [] (fun r fp' => fp' = [] ∧ TxtIs (some #[48]) r) := by
  k_dflt (refine' cspec_of (binds := [("n", .int (0) t)]) ?ho ?hcd ?hb ?hl ?c1 ?c2 ?c3 ?c4 ?_; (case ho => k_is); (case hcd => k_is); (case hb => exact rfl); (case hl => exact locs rfl); (case c1 => exact rfl); (case c2 => exact rfl); (case c3 => exact rfl); (case c4 => decide))
  intro mean mg mb dp un gd outer A₀ base g L s C F N hdp hun
  have B := C.B
  have X := C.X
  have T := C.T
  clear C
  obtain ⟨hh, gn, dr, tk, os⟩ := s
  dsimp only at F N ⊢
  try k_fold
  k_steps
  rename Fr _ _ _ _ => F'
  exact Ends.mk F' News.nil ⟨rfl, _, rfl⟩


/-- the values that the law hands over -/
def Cell (v : Value) : Prop := (∃ b t, v = .bytes b t) ∨ (∃ t, v = .int 5 t) ∨ (∃ t, v = .int (-72) t) ∨ (∃ t, v = .int 0 t) ∨ v = .none ∨ v = .bool true
/-- the text of a value -/
def txt : Value → Option (Array UInt8)
  | .bytes b _ => some b
  | .int i _ => if i = 5 then some #[53] else if i = -72 then some #[45, 55, 50] else some #[48]
  | _ => none

theorem num_spec {w : World} {i : Int} {t : Tok} (h : i = 5 ∨ i = -72 ∨ i = 0) : CSpec w 28 [.int i t] 1 [] (fun r fp' => fp' = [] ∧ TxtIs (txt (.int i t)) r) := by
  rcases h with rfl | rfl | rfl
  · exact num_5
  · exact num_72
  · exact num_0

set_option maxHeartbeats 4000000 in
theorem isn_int {w : World} {i : Int} {t : Tok} : CSpec w 21 [.int i t] 1 [] (fun r fp' => fp' = [] ∧ r = .bool true) := by
  k_dflt (refine' cspec_of (binds := [("value", .int i t)]) ?ho ?hcd ?hb ?hl ?c1 ?c2 ?c3 ?c4 ?_; (case ho => k_is); (case hcd => k_is); (case hb => exact rfl); (case hl => exact locs rfl); (case c1 => exact rfl); (case c2 => exact rfl); (case c3 => exact rfl); (case c4 => decide))
  intro mean mg mb dp un gd outer A₀ base g L s C F N hdp hun
  have B := C.B
  have X := C.X
  have T := C.T
  clear C
  obtain ⟨hh, gn, dr, tk, os⟩ := s
  dsimp only at F N ⊢
  try k_fold
  k_steps
  all_goals exact Ends.mk (by assumption) News.nil ⟨rfl, rfl⟩

set_option maxHeartbeats 4000000 in
theorem isn_none {w : World} : CSpec w 21 [.none] 1 [] (fun r fp' => fp' = [] ∧ r = .bool false) := by
  k_dflt (refine' cspec_of (binds := [("value", .none)]) ?ho ?hcd ?hb ?hl ?c1 ?c2 ?c3 ?c4 ?_; (case ho => k_is); (case hcd => k_is); (case hb => exact rfl); (case hl => exact locs rfl); (case c1 => exact rfl); (case c2 => exact rfl); (case c3 => exact rfl); (case c4 => decide))
  intro mean mg mb dp un gd outer A₀ base g L s C F N hdp hun
  have B := C.B
  have X := C.X
  have T := C.T
  clear C
  obtain ⟨hh, gn, dr, tk, os⟩ := s
  dsimp only at F N ⊢
  try k_fold
  k_steps
  all_goals exact Ends.mk (by assumption) News.nil ⟨rfl, rfl⟩

set_option maxHeartbeats 4000000 in
theorem isn_true {w : World} : CSpec w 21 [.bool true] 1 [] (fun r fp' => fp' = [] ∧ r = .bool false) := by
  k_dflt (refine' cspec_of (binds := [("value", .bool true)]) ?ho ?hcd ?hb ?hl ?c1 ?c2 ?c3 ?c4 ?_; (case ho => k_is); (case hcd => k_is); (case hb => exact rfl); (case hl => exact locs rfl); (case c1 => exact rfl); (case c2 => exact rfl); (case c3 => exact rfl); (case c4 => decide))
  intro mean mg mb dp un gd outer A₀ base g L s C F N hdp hun
  have B := C.B
  have X := C.X
  have T := C.T
  clear C
  obtain ⟨hh, gn, dr, tk, os⟩ := s
  dsimp only at F N ⊢
  try k_fold
  k_steps
  all_goals exact Ends.mk (by assumption) News.nil ⟨rfl, rfl⟩

set_option maxHeartbeats 4000000 in
theorem text_bytes {w : World} {b : Array UInt8} {t : Tok} : CSpec w 35 [.bytes b t] 3 [] (fun r fp' => fp' = [] ∧ TxtIs (txt (.bytes b t)) r) := by
  k_dflt (refine' cspec_of (binds := [("value", .bytes b t)]) ?ho ?hcd ?hb ?hl ?c1 ?c2 ?c3 ?c4 ?_; (case ho => k_is); (case hcd => k_is); (case hb => exact rfl); (case hl => exact locs rfl); (case c1 => exact rfl); (case c2 => exact rfl); (case c3 => exact rfl); (case c4 => decide))
  intro mean mg mb dp un gd outer A₀ base g L s C F N hdp hun
  have B := C.B
  have X := C.X
  have T := C.T
  clear C
  obtain ⟨hh, gn, dr, tk, os⟩ := s
  dsimp only at F N ⊢
  try k_fold
  k_steps
  all_goals exact Ends.mk (by assumption) News.nil ⟨rfl, _, rfl⟩

set_option maxHeartbeats 4000000 in
theorem text_int {w : World} {i : Int} {t : Tok} (h : i = 5 ∨ i = -72 ∨ i = 0) : CSpec w 35 [.int i t] 3 [] (fun r fp' => fp' = [] ∧ TxtIs (txt (.int i t)) r) := by
  k_dflt (refine' cspec_of (binds := [("value", .int i t)]) ?ho ?hcd ?hb ?hl ?c1 ?c2 ?c3 ?c4 ?_; (case ho => k_is); (case hcd => k_is); (case hb => exact rfl); (case hl => exact locs rfl); (case c1 => exact rfl); (case c2 => exact rfl); (case c3 => exact rfl); (case c4 => decide))
  intro mean mg mb dp un gd outer A₀ base g L s C F N hdp hun
  have B := C.B
  have X := C.X
  have T := C.T
  clear C
  obtain ⟨hh, gn, dr, tk, os⟩ := s
  dsimp only at F N ⊢
  try k_fold
  k_steps
  refine Stop.go (CSpec.read isn_int B X T (by assumption) (by assumption) (fun _ h => nomatch h) rfl (by omega) (by omega) ?_)
  intro r h' tk' F' N' hr
  subst hr
  k_steps
  refine Stop.go (CSpec.read (num_spec h) B X T (by assumption) (by assumption) (fun _ h => nomatch h) rfl (by omega) (by omega) ?_)
  intro r h' tk' F' N' hr
  k_steps
  all_goals exact Ends.mk (by assumption) News.nil ⟨rfl, hr⟩

set_option maxHeartbeats 4000000 in
theorem text_none {w : World} : CSpec w 35 [.none] 3 [] (fun r fp' => fp' = [] ∧ TxtIs (txt (.none)) r) := by
  k_dflt (refine' cspec_of (binds := [("value", .none)]) ?ho ?hcd ?hb ?hl ?c1 ?c2 ?c3 ?c4 ?_; (case ho => k_is); (case hcd => k_is); (case hb => exact rfl); (case hl => exact locs rfl); (case c1 => exact rfl); (case c2 => exact rfl); (case c3 => exact rfl); (case c4 => decide))
  intro mean mg mb dp un gd outer A₀ base g L s C F N hdp hun
  have B := C.B
  have X := C.X
  have T := C.T
  clear C
  obtain ⟨hh, gn, dr, tk, os⟩ := s
  dsimp only at F N ⊢
  try k_fold
  k_steps
  refine Stop.go (CSpec.read isn_none B X T (by assumption) (by assumption) (fun _ h => nomatch h) rfl (by omega) (by omega) ?_)
  intro r h' tk' F' N' hr
  subst hr
  k_steps
  all_goals exact Ends.mk (by assumption) News.nil ⟨rfl, rfl⟩

set_option maxHeartbeats 4000000 in
theorem text_true {w : World} : CSpec w 35 [.bool true] 3 [] (fun r fp' => fp' = [] ∧ TxtIs (txt (.bool true)) r) := by
  k_dflt (refine' cspec_of (binds := [("value", .bool true)]) ?ho ?hcd ?hb ?hl ?c1 ?c2 ?c3 ?c4 ?_; (case ho => k_is); (case hcd => k_is); (case hb => exact rfl); (case hl => exact locs rfl); (case c1 => exact rfl); (case c2 => exact rfl); (case c3 => exact rfl); (case c4 => decide))
  intro mean mg mb dp un gd outer A₀ base g L s C F N hdp hun
  have B := C.B
  have X := C.X
  have T := C.T
  clear C
  obtain ⟨hh, gn, dr, tk, os⟩ := s
  dsimp only at F N ⊢
  try k_fold
  k_steps
  refine Stop.go (CSpec.read isn_true B X T (by assumption) (by assumption) (fun _ h => nomatch h) rfl (by omega) (by omega) ?_)
  intro r h' tk' F' N' hr
  subst hr
  k_steps
  all_goals exact Ends.mk (by assumption) News.nil ⟨rfl, rfl⟩

theorem text_spec {w : World} {v : Value} (h : Cell v) : CSpec w 35 [v] 3 [] (fun r fp' => fp' = [] ∧ TxtIs (txt v) r) := by
  rcases h with ⟨b, t, rfl⟩ | ⟨t, rfl⟩ | ⟨t, rfl⟩ | ⟨t, rfl⟩ | rfl | rfl
  · exact text_bytes
  · exact text_int (.inl rfl)
  · exact text_int (.inr (.inl rfl))
  · exact text_int (.inr (.inr rfl))
  · exact text_none
  · exact text_true
end Mine
end

section -- LLText
open PySem PySem.W PyProof.Rows
set_option maxRecDepth 100000
namespace Mine
theorem fill3 : PySem.Challenge.rw_rr0061_01 = PySem.Challenge.rw_rr0061_01 ∧ hd.heap_39 = hd.heap_39 := by
  k_fill
  exact ⟨rfl, rfl⟩
local macro_rules | `(tactic| walk_at "call ref") => `(tactic| (k_here; (with_reducible show wpAny _ _ (call (Value.ref _) _) _ _ _); refine Stop.mk ?_))
local macro_rules | `(tactic| walk_at "call type:bytes") => `(tactic| (k_here; (with_reducible show wpAny _ _ (call (Value.type _) [Value.ref _]) _ _ _); k_dflt (refine' bytes_K ?F ?N ?l ?i ?r ?z ?h ?_; (case F => k_asm); (case N => k_asm); (case l => is_list); (case i => exact .cons _ _ .nil); (case r => decide); (case z => exact Nat.le_of_ble_eq_true (by with_unfolding_all rfl)); (case h => with_unfolding_all rfl); k_whole); intro h' t' k' F' N' hB'; (try dsimp only [List.map])))

set_option maxHeartbeats 4000000 in
theorem ltext_bytes {w : World} {b : Array UInt8} {t : Tok} : CSpec w 61 [.bytes b t] 2 [] (fun r fp' => fp' = [] ∧ TxtIs (txt (.bytes b t)) r) := by
  k_dflt (refine' cspec_of (binds := [("value", .bytes b t)]) ?ho ?hcd ?hb ?hl ?c1 ?c2 ?c3 ?c4 ?_; (case ho => k_is); (case hcd => k_is); (case hb => exact rfl); (case hl => exact locs rfl); (case c1 => exact rfl); (case c2 => exact rfl); (case c3 => exact rfl); (case c4 => decide))
  intro mean mg mb dp un gd outer A₀ base g L s C F N hdp hun
  have B := C.B
  have X := C.X
  have T := C.T
  clear C
  obtain ⟨hh, gn, dr, tk, os⟩ := s
  dsimp only at F N ⊢
  try k_fold
  k_steps
  all_goals first | exact Ends.mk (by assumption) News.nil ⟨rfl, rfl⟩ | exact Ends.mk (by assumption) News.nil ⟨rfl, _, rfl⟩ | skip

set_option maxHeartbeats 4000000 in
theorem ltext_none {w : World}  : CSpec w 61 [.none] 2 [] (fun r fp' => fp' = [] ∧ TxtIs (txt (.none)) r) := by
  k_dflt (refine' cspec_of (binds := [("value", .none)]) ?ho ?hcd ?hb ?hl ?c1 ?c2 ?c3 ?c4 ?_; (case ho => k_is); (case hcd => k_is); (case hb => exact rfl); (case hl => exact locs rfl); (case c1 => exact rfl); (case c2 => exact rfl); (case c3 => exact rfl); (case c4 => decide))
  intro mean mg mb dp un gd outer A₀ base g L s C F N hdp hun
  have B := C.B
  have X := C.X
  have T := C.T
  clear C
  obtain ⟨hh, gn, dr, tk, os⟩ := s
  dsimp only at F N ⊢
  try k_fold
  k_steps
  all_goals first | exact Ends.mk (by assumption) News.nil ⟨rfl, rfl⟩ | exact Ends.mk (by assumption) News.nil ⟨rfl, _, rfl⟩ | skip

set_option maxHeartbeats 4000000 in
theorem ltext_true {w : World}  : CSpec w 61 [.bool true] 2 [] (fun r fp' => fp' = [] ∧ TxtIs (txt (.bool true)) r) := by
  k_dflt (refine' cspec_of (binds := [("value", .bool true)]) ?ho ?hcd ?hb ?hl ?c1 ?c2 ?c3 ?c4 ?_; (case ho => k_is); (case hcd => k_is); (case hb => exact rfl); (case hl => exact locs rfl); (case c1 => exact rfl); (case c2 => exact rfl); (case c3 => exact rfl); (case c4 => decide))
  intro mean mg mb dp un gd outer A₀ base g L s C F N hdp hun
  have B := C.B
  have X := C.X
  have T := C.T
  clear C
  obtain ⟨hh, gn, dr, tk, os⟩ := s
  dsimp only at F N ⊢
  try k_fold
  k_steps
  all_goals first | exact Ends.mk (by assumption) News.nil ⟨rfl, rfl⟩ | exact Ends.mk (by assumption) News.nil ⟨rfl, _, rfl⟩ | skip

set_option maxHeartbeats 4000000 in
theorem ltext_5 {w : World} {t : Tok} : CSpec w 61 [.int 5 t] 2 [] (fun r fp' => fp' = [] ∧ TxtIs (txt (.int 5 t)) r) := by
  k_dflt (refine' cspec_of (binds := [("value", .int 5 t)]) ?ho ?hcd ?hb ?hl ?c1 ?c2 ?c3 ?c4 ?_; (case ho => k_is); (case hcd => k_is); (case hb => exact rfl); (case hl => exact locs rfl); (case c1 => exact rfl); (case c2 => exact rfl); (case c3 => exact rfl); (case c4 => decide))
  intro mean mg mb dp un gd outer A₀ base g L s C F N hdp hun
  have B := C.B
  have X := C.X
  have T := C.T
  clear C
  obtain ⟨hh, gn, dr, tk, os⟩ := s
  dsimp only at F N ⊢
  try k_fold
  k_steps
  all_goals first | exact Ends.mk (by assumption) News.nil ⟨rfl, rfl⟩ | exact Ends.mk (by assumption) News.nil ⟨rfl, _, rfl⟩ | skip

set_option maxHeartbeats 4000000 in
theorem ltext_0 {w : World} {t : Tok} : CSpec w 61 [.int 0 t] 2 [] (fun r fp' => fp' = [] ∧ TxtIs (txt (.int 0 t)) r) := by
  k_dflt (refine' cspec_of (binds := [("value", .int 0 t)]) ?ho ?hcd ?hb ?hl ?c1 ?c2 ?c3 ?c4 ?_; (case ho => k_is); (case hcd => k_is); (case hb => exact rfl); (case hl => exact locs rfl); (case c1 => exact rfl); (case c2 => exact rfl); (case c3 => exact rfl); (case c4 => decide))
  intro mean mg mb dp un gd outer A₀ base g L s C F N hdp hun
  have B := C.B
  have X := C.X
  have T := C.T
  clear C
  obtain ⟨hh, gn, dr, tk, os⟩ := s
  dsimp only at F N ⊢
  try k_fold
  k_steps
  all_goals first | exact Ends.mk (by assumption) News.nil ⟨rfl, rfl⟩ | exact Ends.mk (by assumption) News.nil ⟨rfl, _, rfl⟩ | skip

set_option maxHeartbeats 4000000 in
theorem ltext_72 {w : World} {t : Tok} : CSpec w 61 [.int (-72) t] 2 [] (fun r fp' => fp' = [] ∧ TxtIs (txt (.int (-72) t)) r) := by
  k_dflt (refine' cspec_of (binds := [("value", .int (-72) t)]) ?ho ?hcd ?hb ?hl ?c1 ?c2 ?c3 ?c4 ?_; (case ho => k_is); (case hcd => k_is); (case hb => exact rfl); (case hl => exact locs rfl); (case c1 => exact rfl); (case c2 => exact rfl); (case c3 => exact rfl); (case c4 => decide))
  intro mean mg mb dp un gd outer A₀ base g L s C F N hdp hun
  have B := C.B
  have X := C.X
  have T := C.T
  clear C
  obtain ⟨hh, gn, dr, tk, os⟩ := s
  dsimp only at F N ⊢
  try k_fold
  k_steps
  all_goals first | exact Ends.mk (by assumption) News.nil ⟨rfl, rfl⟩ | exact Ends.mk (by assumption) News.nil ⟨rfl, _, rfl⟩ | skip

theorem ltext_spec {w : World} {v : Value} (h : Cell v) : CSpec w 61 [v] 2 [] (fun r fp' => fp' = [] ∧ TxtIs (txt v) r) := by
  rcases h with ⟨b, t, rfl⟩ | ⟨t, rfl⟩ | ⟨t, rfl⟩ | ⟨t, rfl⟩ | rfl | rfl
  · exact ltext_bytes
  · exact ltext_5
  · exact ltext_72
  · exact ltext_0
  · exact ltext_none
  · exact ltext_true
end Mine
end

section -- LLoop
open PySem PySem.W PyProof.Rows PySem.Calls PyProof.V PySem.Spec
set_option maxRecDepth 100000
namespace Mine
section
variable {prog : Program} {w : World} {A : Around} {E : Value → Shared → Prop} {s : Shared} {env : Env} {h₀ : Heap} {x : Str} {body : List Stmt} {Q : Flow → Shared → Prop}
/-- a for over a range by ones: an invariant over the turn's number, the frame's map and the ledger -/
theorem iter_rangeJ {r : Addr} {a₀ b₀ : Int} {t₀ u₀ v₀ : Tok} {n : Nat} {m₀ : Str → Option Value} {news : List (Addr × Obj)} (J : Nat → (Str → Option Value) → List (Addr × Obj) → Prop)
    (hh : A.handled = none) (hr : IsRange s.heap r a₀ b₀ 1 t₀ u₀ v₀) (hsmall : Builtin.Range.small a₀ b₀ 1 = true) (hsz : Builtin.Range.rangeSize a₀ b₀ 1 = (n : Int)) (F : Fr h₀ env.locals s.heap m₀) (N : News h₀ env.locals s.heap news) (hj : J 0 m₀ news)
    (turn : ∀ i t m₁ nx h tk own, i < n → OwnOff own (nx.map (·.1)) → J i m₁ nx → Fr h₀ env.locals h (fun y => if y = x then some (.int (a₀ + (i : Int)) t) else m₁ y) → News h₀ env.locals h (nx ++ own) →
      wpAny (model prog w) A (execs body env) (InvPostG h₀ env.locals (J (i + 1)) own { s with heap := h, toks := tk } Q) E { s with heap := h, toks := tk })
    (done : ∀ m₁ nx h tk, J n m₁ nx → Fr h₀ env.locals h m₁ → News h₀ env.locals h nx → Q .next { s with heap := h, toks := tk }) :
    wpAny (model prog w) A (pyIter (.ref r)) (fun it s₂ => LoopAtV prog w A h₀ env x body Q E it s₂) E s := by
  refine wpAny_pyIter_range hr hsmall ?_
  have W : Walks prog w A s.heap.objs.size [s.heap.objs.size] [s.heap.objs.size] n (fun i v => i < n ∧ ∃ t, v = .int (a₀ + i * 1) t)
      (fun i h => IsRangeIter h s.heap.objs.size (a₀ + (i : Nat) * 1) ((n : Int) - (i : Nat)) 1) := (Walks.range hh _ a₀ 1 n).bound
  refine kdr_loop J W (fun _ h => h) (fun _ h => h) ?_ ?_ ?_ ?_ (by show IsRangeIter _ _ _ _ _; rw [hsz]; simpa using Heap.get?_push_size _ rfl) (F.push _) (fun p hp => ⟨Heap.get?_push_of_some _ (N p hp).1, (N p hp).2⟩) hj ?_ ?_
  · intro i h hi b hb
    rw [List.mem_singleton.mp hb]
    exact ⟨_, hi⟩
  · intro hm
    exact absurd F.ns.lt ((List.mem_singleton.mp hm) ▸ Nat.lt_irrefl _)
  · intro b hb
    rw [List.mem_singleton.mp hb]
    exact next_is_new F
  · intro p hp hI
    exact absurd (Heap.lt_size (N p hp).1) ((List.mem_singleton.mp hI) ▸ Nat.lt_irrefl _)
  · rintro i v m₁ nx h tk own hi ⟨_, t, rfl⟩ hoff hJ F₁ N₁
    have e1 : a₀ + (i : Int) * 1 = a₀ + (i : Int) := by omega
    rw [e1] at F₁
    exact turn i t m₁ nx h tk own hi hoff hJ F₁ N₁
  · exact done
/-- an item of a list of the ledger -/
theorem item_led {L l : Addr} {news : List (Addr × Obj)} {value slice : PySem.Expr} {vs : List Value} {n : Nat} {k : Int} {u : Tok} {v : Value} {Q : Value → Shared → Prop} (N : News h₀ L s.heap news) (hm : (l, listOf vs.toArray n) ∈ news)
    (h0 : 0 ≤ k) (hhi : k < 2 ^ 63) (hx : vs[k.toNat]? = some v) (h : Q v s)
    (hs : subscripted slice false (.ref l) (.int k u) = operate [.ref l, .int k u] (getItem (.ref l) (.int k u)) := by with_unfolding_all rfl) :
    wpAny (model prog w) A (subscriptTail value slice (.ref l) (.int k u)) Q E s := by
  have hl : s.heap.IsList l vs.toArray := ⟨_, (N _ hm).1, rfl, n, rfl⟩
  exact tail_any hl.typeIs slot_list_getitem.lookup (wpAny_getItem_list hl h0 hhi (by simpa using hx) h) hs
end

/-- a frame's map: what some names hold is not said -/
def NF (st : List Str) (u m₀ : Str → Option Value) : Str → Option Value := fun y => if st.contains y then u y else m₀ y
theorem NF.intro {st : List Str} {m₀ m : Str → Option Value} (h : ∀ y, st.contains y = false → m y = m₀ y) : m = NF st m m₀ := by
  funext y
  unfold NF
  split
  · rfl
  · rename_i hc
    exact h y (by simpa using hc)
theorem NF.self {st : List Str} {m₀ : Str → Option Value} : m₀ = NF st m₀ m₀ := NF.intro fun _ _ => rfl

inductive BytesAre : List Value → List (Array UInt8) → Prop
  | nil : BytesAre [] []
  | cons (b : Array UInt8) (t : Tok) {vs : List Value} {bs : List (Array UInt8)} : BytesAre vs bs → BytesAre (.bytes b t :: vs) (b :: bs)
theorem BytesAre.append {vs ws : List Value} {bs cs : List (Array UInt8)} (h : BytesAre vs bs) (k : BytesAre ws cs) : BytesAre (vs ++ ws) (bs ++ cs) := by
  induction h with
  | nil => exact k
  | cons b t _ ih => exact .cons b t ih
theorem BytesAre.snoc {vs : List Value} {bs : List (Array UInt8)} (h : BytesAre vs bs) (b : Array UInt8) (t : Tok) : BytesAre (vs ++ [.bytes b t]) (bs ++ [b]) := h.append (.cons b t .nil)
theorem BytesAre.length {vs : List Value} {bs : List (Array UInt8)} (h : BytesAre vs bs) : vs.length = bs.length := by
  induction h with
  | nil => rfl
  | cons b t _ ih => simp [ih]
theorem BytesAre.reverse {vs : List Value} {bs : List (Array UInt8)} (h : BytesAre vs bs) : BytesAre vs.reverse bs.reverse := by
  induction h with
  | nil => exact .nil
  | cons b t _ ih => rw [List.reverse_cons, List.reverse_cons]; exact ih.snoc b t

/-- the texts from the head on, as far as they are texts -/
def grab : List Value → List (Array UInt8)
  | [] => []
  | v :: r => match txt v with
    | some b => b :: grab r
    | none => []
theorem grab_mem {b : Array UInt8} {vs : List Value} (h : b ∈ grab vs) : ∃ v ∈ vs, txt v = some b := by
  induction vs with
  | nil => cases h
  | cons v r ih =>
    unfold grab at h
    cases ht : txt v with
    | none => rw [ht] at h; cases h
    | some c =>
      rw [ht] at h
      rcases List.mem_cons.mp h with rfl | h
      · exact ⟨v, .head _, ht⟩
      · obtain ⟨v', h1, h2⟩ := ih h
        exact ⟨v', .tail _ h1, h2⟩
theorem grab_length (vs : List Value) : (grab vs).length ≤ vs.length := by
  induction vs with
  | nil => exact Nat.le_refl _
  | cons v r ih => unfold grab; split <;> simp <;> omega
section
variable {h₀ h : Heap} {L x y z : Addr} {o1 o2 o3 : Obj} {J : (Str → Option Value) → List (Addr × Obj) → Prop} {m : Str → Option Value} {own : List (Addr × Obj)} {s : Shared} {tk : Nat}
theorem invEnd1 (F : Fr h₀ L h m) (N : News h₀ L h ((x, o1) :: own)) (ho : OwnOff own [x]) (hj : J m [(x, o1)]) : InvEndG h₀ L J own s { s with heap := h, toks := tk } :=
  InvEndG.intro F N hj ho (fun p hp => by rw [List.mem_singleton.mp hp]; exact .head _) (fun p hp => .tail _ hp)
theorem invEnd2 (F : Fr h₀ L h m) (N : News h₀ L h ((x, o1) :: (y, o2) :: own)) (ho : OwnOff own [x, y]) (hj : J m [(x, o1), (y, o2)]) : InvEndG h₀ L J own s { s with heap := h, toks := tk } :=
  InvEndG.intro F N hj ho (fun p hp => by
    rcases List.mem_cons.mp hp with rfl | hp
    · exact .head _
    · rw [List.mem_singleton.mp hp]; exact .tail _ (.head _)) (fun p hp => .tail _ (.tail _ hp))
theorem invEnd3 (F : Fr h₀ L h m) (N : News h₀ L h ((x, o1) :: (y, o2) :: (z, o3) :: own)) (ho : OwnOff own [x, y, z]) (hj : J m [(x, o1), (y, o2), (z, o3)]) : InvEndG h₀ L J own s { s with heap := h, toks := tk } :=
  InvEndG.intro F N hj ho (fun p hp => by
    rcases List.mem_cons.mp hp with rfl | hp
    · exact .head _
    rcases List.mem_cons.mp hp with rfl | hp
    · exact .tail _ (.head _)
    · rw [List.mem_singleton.mp hp]; exact .tail _ (.tail _ (.head _))) (fun p hp => .tail _ (.tail _ (.tail _ hp)))
theorem invEndA {nx : List (Addr × Obj)} (F : Fr h₀ L h m) (N : News h₀ L h (nx ++ own)) (ho : OwnOff own (nx.map (·.1))) (hj : J m nx) : InvEndG h₀ L J own s { s with heap := h, toks := tk } :=
  InvEndG.intro F N hj ho (fun _ hp => List.mem_append.mpr (.inl hp)) (fun _ hp => List.mem_append.mpr (.inr hp))
theorem News.first1 (N : News h₀ L h ((x, o1) :: own)) : News h₀ L h [(x, o1)] := fun p hp => N p (by rw [List.mem_singleton.mp hp]; exact .head _)
theorem News.first2 (N : News h₀ L h ((x, o1) :: (y, o2) :: own)) : News h₀ L h [(x, o1), (y, o2)] := fun p hp => N p (by
    rcases List.mem_cons.mp hp with rfl | hp
    · exact .head _
    · rw [List.mem_singleton.mp hp]; exact .tail _ (.head _))
end
section
variable {prog : Program} {w : World} {A : Around} {h₀ : Heap} {L : Addr} {m : Str → Option Value} {env : Env} {elt : PySem.Expr} {x : Str} {scope : Scope} {cl : List (Str × Addr)} {s : Shared} {S : List (Addr × Obj) → Prop} {P : Nat → Value → Prop} {Fin : List Value → List (Addr × Obj) → Prop} {news : List (Addr × Obj)}
theorem compEnd_mono {s₁ : Shared} {I C D : Addr} {oI oC oD : Obj} {R R' : Value → List (Addr × Obj) → Prop} {y : Value} {s₂ : Shared} (h : LCg.CompEnd h₀ L m s₁ I oI C oC D oD S R y s₂) (k : ∀ y nx, R y nx → R' y nx) : LCg.CompEnd h₀ L m s₁ I oI C oC D oD S R' y s₂ := by
  obtain ⟨h', tk, nw, e, F, N, o, hS, r⟩ := h
  exact ⟨h', tk, nw, e, F, N, o, hS, k _ _ r⟩
/-- a comprehension's turns by an invariant over what was built and the ledger -/
theorem comp_rest {n : Nat} (J : Nat → List Value → List (Addr × Obj) → Prop) (hj : J 0 [] news)
    (turn : ∀ i ys nx, i < n → J i ys nx → ∀ v I oI C oC D m₂ h tk (E' : Value → Shared → Prop), P i v → LCg.NsObj oC m₂ → m₂ x = some v → Fr h₀ L h m → News h₀ L h ((I, oI) :: (C, oC) :: (D, LCg.lst ys) :: nx) → LCg.Off3 I C D nx → ((@Ne Nat I C) ∧ (@Ne Nat I D) ∧ (@Ne Nat C D)) →
      wpAny (model prog w) A (eval elt (compEnvC scope cl C env)) (LCg.CompEnd h₀ L m { s with heap := h, toks := tk } I oI C oC D (LCg.lst ys) S (fun y nx' => J (i + 1) (ys ++ [y]) nx')) E' { s with heap := h, toks := tk })
    (fin : ∀ ys nx, J n ys nx → Fin ys nx) : LCg.CompRest prog w A h₀ L m env elt x scope cl s S P Fin n 0 [] news := by
  have key : ∀ (k i : Nat) (ys : List Value) (nx : List (Addr × Obj)), i + k = n → J i ys nx → LCg.CompRest prog w A h₀ L m env elt x scope cl s S P Fin k i ys nx := by
    intro k
    induction k with
    | zero =>
      intro i ys nx hi hJ
      have e : i = n := by omega
      subst e
      exact LCg.CompRest.zero (fin ys nx hJ)
    | succ k ih =>
      intro i ys nx hi hJ
      refine LCg.CompRest.succ ?_
      intro v I oI C oC D m₂ h tk E' hv hC hx F N off ne
      refine wpAny_mono (turn i ys nx (by omega) hJ v I oI C oC D m₂ h tk E' hv hC hx F N off ne) (fun y s₂ hq => ?_) fun _ _ e => e
      exact compEnd_mono hq fun y nx' hJ' => ih (i + 1) _ _ (by omega) hJ'
  exact key n 0 [] news (by omega) hj
end
end Mine
end

section -- LBelow
open PySem PySem.W PyProof.Rows
set_option maxRecDepth 100000
namespace Mine
theorem fill4 : PySem.Challenge.rw_rr0061_01 = PySem.Challenge.rw_rr0061_01 ∧ hd.heap_39 = hd.heap_39 := by
  k_fill
  exact ⟨rfl, rfl⟩
local macro_rules | `(tactic| walk_at "call ref") => `(tactic| (k_here; (with_reducible show wpAny _ _ (call (Value.ref _) _) _ _ _); refine Stop.mk ?_))
local macro_rules | `(tactic| walk_at "subscriptTail") => `(tactic| (k_here; (with_reducible show wpAny _ _ (subscriptTail _ _ (Value.ref _) (Value.int _ _)) _ _ _); refine Stop.mk ?_))
local macro_rules | `(tactic| walk_at "exec For Name Call cons nil") => `(tactic| (k_here; (rename Fr _ _ _ _ => lF'); (with_unfolding_all refine' For_invVF lF' ?k1 ?k2 ?_; (case k1 => exact rfl); (case k2 => exact rfl); k_whole)))
local macro_rules | `(tactic| walk_at "pyIter ref") => `(tactic| ((with_reducible show wpAny _ _ (pyIter (Value.ref _)) (fun it s₂ => LoopAtV _ _ _ _ _ _ _ _ _ it s₂) _ _); k_here; refine Stop.mk ?_))

theorem below_at {α : Type} (vs : List α) (T i : Nat) (h : i < T) (hT : T ≤ vs.length) : (vs.take T).reverse[i]? = vs[T - 1 - i]? := by
  rw [List.getElem?_reverse (by rw [List.length_take]; omega), List.length_take, Nat.min_eq_left hT, List.getElem?_take, if_pos (by omega)]
local macro_rules | `(tactic| walk_at "InvEndG") => `(tactic| (refine Stop.mk ?_))

set_option maxHeartbeats 4000000 in
theorem below_spec {w : World} {V : Addr} {vs : List Value} {n : Nat} {top most : Int} {tt tm : Tok} (hc : ∀ v ∈ vs, Cell v) (h0 : 0 ≤ most) (h1 : most ≤ top) (h2 : top ≤ (vs.length : Int)) (h3 : vs.length ≤ 1000) :
    CSpec w 42 [.ref V, .int top tt, .int most tm] 4 [(V, W.listOf vs.toArray n)] (fun r fp' => ∃ x o, fp' = (x, o) :: [(V, W.listOf vs.toArray n)] ∧ (∀ p ∈ [(V, W.listOf vs.toArray n)], (@Ne Nat x p.1)) ∧
      (r = .ref x ∧ ∃ us n', o = W.listOf us.toArray n' ∧ BytesAre us (grab ((vs.take top.toNat).reverse.take most.toNat)))) := by
  k_dflt (refine' cspec_of (binds := [("values", .ref V), ("top", .int top tt), ("most", .int most tm)]) ?ho ?hcd ?hb ?hl ?c1 ?c2 ?c3 ?c4 ?_; (case ho => k_is); (case hcd => k_is); (case hb => exact rfl); (case hl => exact locs rfl); (case c1 => exact rfl); (case c2 => exact rfl); (case c3 => exact rfl); (case c4 => decide))
  intro mean mg mb dp un gd outer A₀ base g L s C F N hdp hun
  have B := C.B
  have X := C.X
  have T := C.T
  clear C
  obtain ⟨hh, gn, dr, tk, os⟩ := s
  dsimp only at F N ⊢
  try k_fold
  k_steps
  rename IsRange _ _ _ _ _ _ _ _ => hR
  rename News _ _ _ _ => N'
  rename Fr _ _ _ _ => F'
  rename @LT.lt Nat _ V _ => l1
  refine Stop.go (iter_rangeJ (n := most.toNat) (fun i m nx => ∃ u bs us n', m = NF ["turn", "text"] u _ ∧ nx = [(_, W.listOf us.toArray n'), (V, W.listOf vs.toArray n)] ∧ BytesAre us bs ∧ us.length = i ∧ ∀ rest, grab ((vs.take top.toNat).reverse.take i ++ rest) = bs ++ grab rest)
    rfl hR (small_one (by omega) (by omega) (by omega) (by omega)) (by rw [rangeSize_nat]; simp) F' N' ⟨_, [], [], 0, NF.self, rfl, .nil, rfl, fun _ => rfl⟩ ?_ ?_)
  · intro i t m₁ nx h tk own hi hoff hJ F1 N1
    obtain ⟨u, bs, us, n', rfl, rfl, hb, hi', hg⟩ := hJ
    dsimp only at F1 N1 ⊢
    simp only [List.cons_append, List.nil_append] at N1
    have hidx : ∃ v, vs[(top - 1 - (0 + (i : Int))).toNat]? = some v := ⟨_, List.getElem?_eq_getElem (by omega)⟩
    obtain ⟨v, hv⟩ := hidx
    have hcv := hc v (List.mem_of_getElem? hv)
    have hw : (vs.take top.toNat).reverse[i]? = some v := by
      rw [below_at _ _ _ (by omega) (by omega), ← hv]
      congr 1
      omega
    have hs : (vs.take top.toNat).reverse.take (i + 1) = (vs.take top.toNat).reverse.take i ++ [v] := by rw [List.take_add_one, hw]; rfl
    try k_fold
    k_steps
    refine Stop.go (item_led N1 (.tail _ (.head _)) (by omega) (by omega) hv ?_)
    k_steps
    refine Stop.go (CSpec.read (text_spec hcv) B X T F1 N1 (fun _ h => nomatch h) rfl (by omega) (by omega) ?_)
    intro r h' tk' F2 N2 hr
    cases ht : txt v with
    | none =>
      rw [ht] at hr
      have hr' : r = .none := hr
      subst hr'
      k_steps
      rename News _ _ _ _ => N3
      refine Ends.mk (by assumption) (Mine.News.first2 N3) ?_
      refine ⟨_, _, rfl, ?_, rfl, us, n', rfl, ?_⟩
      · intro p hp; rw [List.mem_singleton.mp hp]; exact Nat.ne_of_gt l1
      · have e : (vs.take top.toNat).reverse.take most.toNat = (vs.take top.toNat).reverse.take i ++ v :: ((vs.take top.toNat).reverse.take most.toNat).drop (i + 1) := by
          have h9 := List.take_append_drop (i + 1) ((vs.take top.toNat).reverse.take most.toNat)
          rw [List.take_take, Nat.min_eq_left (by omega), hs, List.append_assoc] at h9
          exact h9.symm
        rw [e, hg]
        have e2 : grab (v :: ((vs.take top.toNat).reverse.take most.toNat).drop (i + 1)) = [] := by unfold grab; rw [ht]
        rw [e2, List.append_nil]
        exact hb
    | some b =>
      rw [ht] at hr
      obtain ⟨t', rfl⟩ := hr
      k_steps
      rename News _ _ _ _ => N3
      rename Fr _ _ _ _ => F3
      rw [List.push_toArray] at N3
      refine Stop.go (invEnd2 F3 N3 hoff ⟨_, bs ++ [b], us ++ [.bytes b t'], _, NF.intro ?_, rfl, hb.snoc b t', ?_, ?_⟩)
      · intro y hy
        simp only [List.contains_cons, List.contains_nil, Bool.or_false, Bool.or_eq_false_iff, beq_eq_false_iff_ne] at hy
        simp [NF, hy.1, hy.2]
      · simp [hi']
      · intro rest
        rw [hs, List.append_assoc, hg, List.append_assoc]
        congr 1
        simp [grab, ht]
  · rintro m₁ nx h tk ⟨u, bs, us, n', rfl, rfl, hb, hi', hg⟩ F1 N1
    have hg' := hg []
    k_steps
    refine Ends.mk F1 N1 ⟨_, _, rfl, ?_, rfl, us, n', rfl, ?_⟩
    · intro p hp; rw [List.mem_singleton.mp hp]; exact Nat.ne_of_gt l1
    · rw [List.append_nil, show grab [] = [] from rfl, List.append_nil] at hg'
      rw [hg']; exact hb
end Mine
end

section -- LJoin
open PySem PySem.W PyProof.Rows PySem.Calls
set_option maxRecDepth 100000
namespace Mine
open Builtin
theorem slot_bytes_join : Slot "bytes" "join" "bytes.join" :=
  .of (owner := "bytes") (n := "join") (by rw [typeLookup_type, builtinLookup_eq_fast]; kernel_rfl) (by decide +kernel) (by decide +kernel) (by decide +kernel)
    (by first | exact .inl (by decide +kernel) | exact .inr (by decide +kernel)) (by rw [isSubtype_type]; kernel_rfl)
theorem type_bytes_join : typeOf (.builtin "bytes.join") = pure (.type "method_descriptor") := by show builtinType _ = _; rw [builtinType_eq_fast]; kernel_rfl
theorem entry_bytes_join : entryFor table "bytes.join" = some Builtin.«bytes.join» := entryFor_of_tree (by kernel_rfl)
theorem args_bytes_join_2 (a b : Value) : argsOk "bytes.join" ⟨[a, b], []⟩ := by
  unfold argsOk; rw [signature?_of (id := "bytes.join") (n := ['n', 'i', 'o', 'j']) (o := ['s', 'e', 't', 'y', 'b']) (by kernel_rfl) FB.owner_bytes]; kernel_rfl

theorem buffer_eqF {b : Array UInt8} {t : Tok} {id : String} {f : Bool} : Bytes.buffer? id (.bytes b t) f = pure (some b) := by
  unfold Bytes.buffer?
  rw [KBy.special_eq KBy.look_buffer, KBy.own_buffer, KBy.own_release]
  kernel_rfl
theorem take_eq {b : Array UInt8} {t : Tok} {id : String} : Bytes.takeBufferQuiet? id (.bytes b t) 0 = pure (some (b, none)) := by
  unfold Bytes.takeBufferQuiet? Bytes.takeBuffer?
  rw [KBy.special_eq KBy.look_buffer, KBy.own_buffer, buffer_eqF]
  kernel_rfl

theorem letGo_wp {M : Model} {A : Around} {E : Value → Shared → Prop} {Q : Unit → Shared → Prop} {s : Shared} {keep : List Value} : ∀ (us : List Value), Q () s → wpAny M A (Bytes.joinLetGo (us.map fun v => (v, none)) keep) Q E s
  | [], h => wpAny_pure h
  | v :: r, h => by
    show wpAny M A (Bytes.joinLetGo ((v, none) :: r.map fun v => (v, none)) keep) Q E s
    unfold Bytes.joinLetGo
    refine wpAny_bind ?_
    show wpAny M A (letGo [v] _) _ E s
    unfold letGo
    refine wpAny_bind (wpAny_holding (wpAny_point ?_))
    unfold letGo
    exact wpAny_pure (letGo_wp r h)

theorem joined_nil (bs : List (Array UInt8)) : Bytes.joined #[] bs = bs.foldl (· ++ ·) #[] := by
  unfold Bytes.joined
  have key : ∀ (l : List (Array UInt8)) (k : Nat) (acc : Array UInt8), (l.zipIdx k).foldl (fun out (x : Array UInt8 × Nat) => (if x.2 > 0 then out ++ #[] else out) ++ x.1) acc = l.foldl (· ++ ·) acc := by
    intro l
    induction l with
    | nil => intro k acc; rfl
    | cons b l ih =>
      intro k acc
      rw [List.zipIdx_cons, List.foldl_cons, List.foldl_cons, ih]
      congr 1
      split <;> simp
  exact key bs 0 #[]
theorem sizes_eq (bs : List (Array UInt8)) (k : Nat) : bs.foldl (fun n b => n + b.size) k = k + (bs.map (·.size)).sum := by
  induction bs generalizing k with
  | nil => simp
  | cons b l ih => rw [List.foldl_cons, ih, List.map_cons, List.sum_cons]; omega
theorem flat_size (bs : List (Array UInt8)) (acc : Array UInt8) : (bs.foldl (· ++ ·) acc).size = acc.size + (bs.map (·.size)).sum := by
  induction bs generalizing acc with
  | nil => simp
  | cons b l ih => rw [List.foldl_cons, ih, List.map_cons, List.sum_cons, Array.size_append]; omega

theorem match1 {α : Type} (xs : Array Value) (f : Value → α) (g : α) : xs.size ≠ 1 → (match xs with | #[x] => f x | _ => g) = g := by
  rcases xs with ⟨_ | ⟨x, _ | ⟨y, r⟩⟩⟩
  · exact fun _ => rfl
  · exact fun h => absurd rfl h
  · exact fun _ => rfl
theorem BytesAre.at {us : List Value} {bs : List (Array UInt8)} (h : BytesAre us bs) {i : Nat} (hi : i < us.length) : ∃ b t, us[i]? = some (.bytes b t) ∧ bs[i]? = some b := by
  induction h generalizing i with
  | nil => exact absurd hi (Nat.not_lt_zero _)
  | cons b t _ ih =>
    cases i with
    | zero => exact ⟨b, t, rfl, rfl⟩
    | succ i => exact ih (Nat.lt_of_succ_lt_succ hi)
theorem BytesAre.light {us : List Value} {bs : List (Array UInt8)} (h : BytesAre us bs) : (us.map fun v => (v, (none : Option Value))).any (fun x => x.1.onHeap) = false := by
  induction h with
  | nil => rfl
  | cons b t _ ih => rw [List.map_cons, List.any_cons, ih]; rfl
theorem BytesAre.take {us : List Value} {bs : List (Array UInt8)} (h : BytesAre us bs) (i : Nat) : BytesAre (us.take i) (bs.take i) := by
  induction h generalizing i with
  | nil => rw [List.take_nil, List.take_nil]; exact .nil
  | cons b t _ ih =>
    cases i with
    | zero => exact .nil
    | succ i => exact .cons b t (ih i)
theorem wpAny_eq {α : Type} {M : Model} {A : Around} {E : Value → Shared → Prop} {Q : α → Shared → Prop} {s : Shared} {t t' : Sem α} (e : t = t') (h : wpAny M A t' Q E s) : wpAny M A t Q E s := e ▸ h
theorem join_meets {l : Addr} {us : List Value} {bs : List (Array UInt8)} {n : Nat} {t : Tok} (hb : BytesAre us bs) (hz : (bs.map (·.size)).sum ≤ 16777216) :
    Meets (Builtin.«bytes.join» ⟨[.bytes #[] t, .ref l], []⟩)
      (fun _ R s => s.heap.get? l = some (W.listOf us.toArray n) ∧ ∀ t' k, R (.ok (.ret (.bytes (bs.foldl (· ++ ·) #[]) t'))) { s with toks := k }) :=
  .of_wp fun prog w A R s h => by
    obtain ⟨hp, g, d, tk, os⟩ := s; obtain ⟨hl, h⟩ := h
    unfold Builtin.«bytes.join» Bytes.joinM
    wp_walk using AutoSeq1.wpAny_loadPart' hl
    have hseq : ∀ {M : Model} {A : Around} {Q : Option (Array Value) → Shared → Prop} {E : Value → Shared → Prop}, Q (some us.toArray) ⟨hp, g, d, tk, os⟩ → wpAny M A (seqItems? (.ref l)) Q E ⟨hp, g, d, tk, os⟩ := fun h => wpAny_seqItems (n := n) hl rfl h
    by_cases h1 : us.toArray.size = 1
    · rcases hb with _ | ⟨b, t0, _ | ⟨c, t1, hb⟩⟩
      · cases h1
      · refine wpAny_bind (wpAny_typeOf (T := "bytes") rfl ?_)
        rw [if_pos (by rfl)]
        refine wpAny_bind (wpAny_rule (wpAny_pure ⟨_, rfl, ?_⟩))
        have := h t0 tk
        simp only [List.foldl_cons, List.foldl_nil, Array.empty_append] at this
        exact this
      · simp at h1
    refine wpAny_eq (match1 us.toArray _ _ h1) ?_
    refine wpAny_bind (wpAny_mono (Q := fun st s' => st = (bs.toArray, us.map fun v => (v, none)) ∧ s' = ⟨hp, g, d, tk, os⟩) ?_ (fun st s' hst => ?_) (fun _ _ e => e))
    · rw [Std.Legacy.Range.forIn_eq_forIn_range']
      refine wpAny_forIn_list _ (fun rest st s' => ∃ i, i ≤ us.length ∧ rest = List.range' i (us.length - i) ∧ s' = ⟨hp, g, d, tk, os⟩ ∧ st = ((bs.take i).toArray, (us.take i).map fun v => (v, none))) _ ?_ ?_ _ _ ⟨0, Nat.zero_le _, ?_, rfl, rfl⟩
      · rintro x rest st s' ⟨i, hi, hr, rfl, rfl⟩
        have hlt : i < us.length := by
          rcases Nat.lt_or_ge i us.length with h | h
          · exact h
          · rw [Nat.sub_eq_zero_of_le h] at hr; cases hr
        obtain ⟨b, tb, hu, hbi⟩ := hb.at hlt
        rw [show us.length - i = (us.length - (i + 1)) + 1 by omega, List.range'_succ] at hr
        obtain ⟨rfl, rfl⟩ := List.cons.inj hr
        dsimp only
        refine wpAny_bind (hseq ?_)
        dsimp only
        have hg : us.toArray.getD x .none = .bytes b tb := by simp [Array.getD_eq_getD_getElem?, hu]
        rw [hg, (hb.take x).light]
        simp only [Bool.or_false]
        rw [if_neg (by decide)]
        refine wpAny_bind (wpAny_holding (wpAny_of_eq take_eq ?_))
        dsimp only
        refine wpAny_bind (hseq ?_)
        dsimp only
        rw [if_neg (by simp)]
        refine wpAny_pure ⟨x + 1, hlt, rfl, rfl, ?_⟩
        rw [List.take_add_one, List.take_add_one, hu, hbi]
        simp
      · rintro st s' ⟨i, hi, hr, rfl, rfl⟩
        have : i = us.length := by
          rcases Nat.lt_or_ge i us.length with h | h
          · rw [show us.length - i = (us.length - (i + 1)) + 1 by omega, List.range'_succ] at hr; cases hr
          · omega
        subst this
        refine ⟨?_, rfl⟩
        rw [List.take_length, List.take_of_length_le (by rw [hb.length]; exact Nat.le_refl _)]
      · simp [Std.Legacy.Range.size]
    · obtain ⟨rfl, rfl⟩ := hst
      dsimp only
      wp_walk
      have hlong : Bytes.tooLong (Array.foldl (fun x1 x2 => x1 + x2.size) ((#[] : Array UInt8).size * (bs.toArray.size - 1)) bs.toArray) = false := by
        refine KBy.tooLong_not ?_
        rw [List.foldl_toArray']
        · rw [sizes_eq]; simpa using hz
        · rfl
      rw [if_neg (by rw [hlong]; exact Bool.false_ne_true)]
      unfold Bytes.Kind.new
      refine wpAny_bind (wpAny_mkBytes ?_ ?_)
      · refine wpAny_bind (wpAny_holding (wpAny_point ?_))
        refine wpAny_bind (letGo_wp _ (wpAny_pure ⟨_, rfl, ?_⟩))
        have := h tk (tk + 1)
        rw [joined_nil]
        exact this
      · rw [joined_nil, flat_size, sizeLine_eq]; simpa using hz

theorem join_K {prog : Program} {w : World} {A : Around} {E : Value → Shared → Prop} {s : Shared} {l : Addr} {us : List Value} {bs : List (Array UInt8)} {n : Nat} {t : Tok} {Q : Value → Shared → Prop} (hl : s.heap.get? l = some (W.listOf us.toArray n)) (hb : BytesAre us bs) (hz : (bs.map (·.size)).sum ≤ 16777216)
    (h : ∀ t' k, Q (.bytes (bs.foldl (· ++ ·) #[]) t') { s with toks := k }) : wpAny (model prog w) A (call (.builtin "bytes.join") [.bytes #[] t, .ref l]) Q E s :=
  call_meets slot_bytes_join (typeIs_bytes _ _ _) entry_bytes_join (args_bytes_join_2 _ _) (join_meets hb hz) ⟨hl, h⟩
theorem method_join {M : Model} {A : Around} {E : Value → Shared → Prop} {s : Shared} {b : Array UInt8} {t : Tok} {pl : Sem Bool} {Q : Value × List Value → Shared → Prop} (h : Q (.builtin "bytes.join", [.bytes b t]) s) : wpAny M A (getMethod (.bytes b t) "join" pl) Q E s := by
  with_reducible exact KBd.method_of (.bytes b t) (typeIs_bytes _ _ _) slot_bytes_join type_bytes_join KBd.noRef h
theorem join_led {prog : Program} {w : World} {A : Around} {E : Value → Shared → Prop} {s : Shared} {h₀ : Heap} {L l : Addr} {news : List (Addr × Obj)} {us : List Value} {bs : List (Array UInt8)} {n : Nat} {t : Tok} {Q : Value → Shared → Prop} (N : News h₀ L s.heap news) (hm : (l, W.listOf us.toArray n) ∈ news) (hb : BytesAre us bs) (hz : (bs.map (·.size)).sum ≤ 16777216)
    (h : ∀ t' k, Q (.bytes (bs.foldl (· ++ ·) #[]) t') { s with toks := k }) : wpAny (model prog w) A (call (.builtin "bytes.join") [.bytes #[] t, .ref l]) Q E s := join_K (N _ hm).1 hb hz h
theorem len_led {prog : Program} {w : World} {A : Around} {E : Value → Shared → Prop} {s : Shared} {h₀ : Heap} {L l : Addr} {news : List (Addr × Obj)} {us : List Value} {n : Nat} {Q : Value → Shared → Prop} (N : News h₀ L s.heap news) (hm : (l, W.listOf us.toArray n) ∈ news) (hz : us.length ≤ 1000000)
    (h : Q (.int (us.length : Int) (s.toks + 1)) { s with toks := s.toks + 1 + 1 }) : wpAny (model prog w) A (call (.builtin "len") [.ref l]) Q E s :=
  len_list ⟨_, (N _ hm).1, rfl, n, rfl⟩ (by rw [List.size_toArray]; omega) (by rw [List.size_toArray]; exact h)
theorem News.pick2 {h₀ h : Heap} {L a b : Addr} {o1 o2 : Obj} {news : List (Addr × Obj)} (N : News h₀ L h news) (h1 : (a, o1) ∈ news) (h2 : (b, o2) ∈ news) : News h₀ L h [(a, o1), (b, o2)] := fun p hp => by
  rcases List.mem_cons.mp hp with rfl | hp
  · exact N _ h1
  · rw [List.mem_singleton.mp hp]; exact N _ h2
end Mine
end

section -- LJb
open PySem PySem.W PyProof.Rows
set_option maxRecDepth 100000
namespace Mine
theorem fill5 : PySem.Challenge.rw_rr0061_01 = PySem.Challenge.rw_rr0061_01 ∧ hd.heap_39 = hd.heap_39 := by
  k_fill
  exact ⟨rfl, rfl⟩
theorem text_no {w : World} {v : Value} (h : Cell v) (e : txt v = none) : CSpec w 35 [v] 3 [] (fun r fp' => fp' = [] ∧ r = .none) := by
  have := text_spec (w := w) h
  rw [e] at this
  exact this
theorem text_yes {w : World} {v : Value} {b : Array UInt8} (h : Cell v) (e : txt v = some b) : CSpec w 35 [v] 3 [] (fun r fp' => fp' = [] ∧ ∃ t, r = .bytes b t) := by
  have := text_spec (w := w) h
  rw [e] at this
  exact this
local macro_rules | `(tactic| walk_at "call ref") => `(tactic| (k_here; first
  | ((with_reducible show wpAny _ _ (call (Value.ref 35) _) _ _ _); refine CSpec.read (text_no (by assumption) (by assumption)) (by assumption) (by assumption) (by assumption) (by k_asm) (by k_asm) (fun _ h => nomatch h) rfl (by omega) (by omega) ?_; intro r h' tk' F' N' hr; subst hr)
  | ((with_reducible show wpAny _ _ (call (Value.ref 35) _) _ _ _); refine CSpec.read (text_yes (by assumption) (by assumption)) (by assumption) (by assumption) (by assumption) (by k_asm) (by k_asm) (fun _ h => nomatch h) rfl (by omega) (by omega) ?_; intro r h' tk' F' N' hr; obtain ⟨tb', hr'⟩ := hr; subst hr')
  | ((with_reducible show wpAny _ _ (call (Value.ref _) _) _ _ _); refine Stop.mk ?_)))
local macro_rules | `(tactic| walk_at "subscriptTail") => `(tactic| (k_here; (with_reducible show wpAny _ _ (subscriptTail _ _ (Value.ref _) (Value.int _ _)) _ _ _); refine item_led (by k_asm) (by k_mem) (by omega) (by omega) (by assumption) ?_))
local macro_rules | `(tactic| walk_at "getMethod bytes") => `(tactic| (k_here; (with_reducible show wpAny _ _ (getMethod (Value.bytes _ _) (Str.ofString "join") _) _ _ _); refine method_join ?_))
local macro_rules | `(tactic| walk_at "call builtin:bytes.join") => `(tactic| (k_here; refine join_led (by k_asm) (by k_mem) (by assumption) (by assumption) ?_; intro t' k'))
local macro_rules | `(tactic| walk_at "call builtin:len") => `(tactic| (k_here; (with_reducible show wpAny _ _ (call (Value.builtin "len") [Value.ref _]) _ _ _); refine len_led (by k_asm) (by k_mem) (by first | omega | (rw [List.length_reverse]; omega)) ?_))
local macro_rules | `(tactic| walk_at "CompSrc") => `(tactic| (k_here; refine Stop.mk ?_))
local macro_rules | `(tactic| walk_at "CompEnd") => `(tactic| (refine Stop.mk ?_))
local macro_rules | `(tactic| walk_at "eval ListComp") => `(tactic| (k_here; (with_reducible show wpAny _ _ (eval (Expr.ListComp _ _ _ _) _) _ _ _); refine Stop.mk ?_))

def total (g : List (Array UInt8)) : Int := ((g.map (·.size)).sum : Nat)
def flat (g : List (Array UInt8)) : Array UInt8 := g.foldl (· ++ ·) #[]
/-- what join_below tells of the values from the last one down -/
def joinR (ws : List Value) (most : Nat) (longest : Int) : Int × Int × Option (Array UInt8) :=
  match ws with
  | v1 :: v0 :: _ => match txt v1, txt v0 with
    | some b1, some b0 => if b1.size = 0 then (0, 2, some b0) else
        if total (grab (ws.take most)) > longest then (2, (grab (ws.take most)).length, none) else (0, (grab (ws.take most)).length, some (flat (grab (ws.take most)).reverse))
    | _, _ => (1, 2, none)
  | _ => (1, 2, none)
theorem joinR_eq (vs : List Value) (T most : Nat) (longest : Int) (v1 v0 : Value) (h : 2 ≤ T) (hT : T ≤ vs.length) (h1 : vs[T - 1]? = some v1) (h0 : vs[T - 2]? = some v0) :
    joinR (vs.take T).reverse most longest = match txt v1, txt v0 with
    | some b1, some b0 => if b1.size = 0 then (0, 2, some b0) else
        if total (grab ((vs.take T).reverse.take most)) > longest then (2, (grab ((vs.take T).reverse.take most)).length, none) else (0, (grab ((vs.take T).reverse.take most)).length, some (flat (grab ((vs.take T).reverse.take most)).reverse))
    | _, _ => (1, 2, none) := by
  have e1 := below_at vs T 0 (by omega) hT
  have e0 := below_at vs T 1 (by omega) hT
  rw [Nat.sub_zero, h1] at e1
  rw [show T - 1 - 1 = T - 2 by omega, h0] at e0
  match hw : (vs.take T).reverse with
  | [] => rw [hw] at e1; cases e1
  | [x] => rw [hw] at e0; cases e0
  | x :: y :: r =>
    rw [hw] at e1 e0
    cases e1
    cases e0
    rfl
theorem sum_le (g : List (Array UInt8)) (h : ∀ b ∈ g, b.size ≤ 1000) : (g.map (·.size)).sum ≤ g.length * 1000 := by
  induction g with
  | nil => simp
  | cons b r ih =>
    have h1 := h b (.head _)
    have h2 := ih fun x hx => h x (.tail _ hx)
    rw [List.map_cons, List.sum_cons, List.length_cons]; omega
def TupIs (r : Int × Int × Option (Array UInt8)) (o : Obj) : Prop := ∃ t1 t2 z, o = { cls := .type "tuple", data := .seq #[.int r.1 t1, .int r.2.1 t2, z] } ∧ TxtIs r.2.2 z

set_option maxHeartbeats 4000000 in
theorem jb_spec {w : World} {V : Addr} {vs : List Value} {n : Nat} {top most longest : Int} {tt tm tl : Tok} (hc : ∀ v ∈ vs, Cell v) (hz : ∀ v ∈ vs, ∀ b, txt v = some b → b.size ≤ 1000) (h0 : 2 ≤ most) (h1 : most ≤ top) (h2 : top ≤ (vs.length : Int)) (h3 : vs.length ≤ 1000) (h4 : -1000 ≤ longest) (h5 : longest ≤ 1000) :
    CSpec w 47 [.ref V, .int top tt, .int most tm, .int longest tl] 5 [(V, W.listOf vs.toArray n)] (fun r fp' => ∃ x o, fp' = (x, o) :: [(V, W.listOf vs.toArray n)] ∧ (∀ p ∈ [(V, W.listOf vs.toArray n)], (@Ne Nat x p.1)) ∧
      (r = .ref x ∧ TupIs (joinR (vs.take top.toNat).reverse most.toNat longest) o)) := by
  k_dflt (refine' cspec_of (binds := [("values", .ref V), ("top", .int top tt), ("most", .int most tm), ("longest", .int longest tl)]) ?ho ?hcd ?hb ?hl ?c1 ?c2 ?c3 ?c4 ?_; (case ho => k_is); (case hcd => k_is); (case hb => exact rfl); (case hl => exact locs rfl); (case c1 => exact rfl); (case c2 => exact rfl); (case c3 => exact rfl); (case c4 => decide))
  intro mean mg mb dp un gd outer A₀ base g L s C F N hdp hun
  have B := C.B
  have X := C.X
  have T := C.T
  clear C
  obtain ⟨hh, gn, dr, tk, os⟩ := s
  dsimp only at F N ⊢
  try k_fold
  obtain ⟨v1, hv1⟩ : ∃ v, vs[(top - 1).toNat]? = some v := ⟨_, List.getElem?_eq_getElem (by omega)⟩
  obtain ⟨v0, hv0⟩ : ∃ v, vs[(top - 2).toNat]? = some v := ⟨_, List.getElem?_eq_getElem (by omega)⟩
  have hc1 := hc v1 (List.mem_of_getElem? hv1)
  have hc0 := hc v0 (List.mem_of_getElem? hv0)
  have hJ := joinR_eq vs top.toNat most.toNat longest v1 v0 (by omega) (by omega) (by rw [← hv1]; congr 1; omega) (by rw [← hv0]; congr 1; omega)
  cases ht1 : txt v1 with
  | none =>
    rw [ht1] at hJ
    k_steps
    rename @LT.lt Nat _ V _ => l1
    exact Ends.mk (by assumption) (by assumption) ⟨_, _, rfl, (fun p hp => by rw [List.mem_singleton.mp hp]; exact Nat.ne_of_gt l1), rfl, by rw [hJ]; exact ⟨_, _, _, rfl, rfl⟩⟩
  | some b1 =>
    cases ht0 : txt v0 with
    | none =>
      rw [ht1, ht0] at hJ
      k_steps
      rename @LT.lt Nat _ V _ => l1
      exact Ends.mk (by assumption) (by assumption) ⟨_, _, rfl, (fun p hp => by rw [List.mem_singleton.mp hp]; exact Nat.ne_of_gt l1), rfl, by rw [hJ]; exact ⟨_, _, _, rfl, rfl⟩⟩
    | some b0 =>
      rw [ht1, ht0] at hJ
      have hz1 := hz v1 (List.mem_of_getElem? hv1) b1 ht1
      k_steps
      · rename_i hb0 _ _ _ _ _ _ _ _
        have hb0 : b1.size = 0 := by omega
        rename @LT.lt Nat _ V _ => l1
        exact Ends.mk (by assumption) (by assumption) ⟨_, _, rfl, (fun p hp => by rw [List.mem_singleton.mp hp]; exact Nat.ne_of_gt l1), rfl, by rw [hJ]; simp only [if_pos hb0]; exact ⟨_, _, _, rfl, _, rfl⟩⟩
      refine Stop.go (CSpec.make (below_spec hc (by omega) h1 h2 h3) (by assumption) (by assumption) (by assumption) (by assumption) (by assumption) (fun _ h => h) rfl (by omega) (by omega) ?_)
      intro r x o h' tk' F' N' hx hr
      obtain ⟨rfl, us, n', rfl, hus⟩ := hr
      have hul : us.length ≤ 1000 := by
        rw [hus.length]
        refine Nat.le_trans (grab_length _) ?_
        rw [List.length_take]; omega
      k_steps
      unfold Stop
      k_dflt (refine LCg.ListComp_U (F₀ := by k_asm) (by rfl) (by decide) (by rfl) (by decide) (by rfl) ?_)
      k_steps
      refine Stop.go (LCg.CompSrc.ledger (by rfl) (by k_asm) (by k_asm) (by k_mem) (by rw [sizeLine_eq, List.size_toArray]; omega) ?_)
      intro g'
      refine comp_rest (fun i ys nx => nx = _ ∧ IntsAre ys (((grab ((vs.take top.toNat).reverse.take most.toNat)).take i).map fun b => (b.size : Int))) ⟨rfl, .nil⟩ ?_ ?_
      · rintro i ys nx hi ⟨rfl, hI⟩ v I oI C oC D m₂ h tk E' hv hC hx2 F2 N2 off ne
        rw [List.size_toArray] at hi
        obtain ⟨b, tb, hu, hb⟩ := hus.at hi
        have hv' : v = .bytes b tb := by
          have : us[i]? = some v := by simpa using hv
          rw [hu] at this; exact (Option.some.inj this).symm
        subst hv'
        have hbz : b.size ≤ 1000 := by
          obtain ⟨v', hm', ht'⟩ := grab_mem (List.mem_of_getElem? hb)
          exact hz v' (List.mem_of_mem_take (List.mem_reverse.mp (List.mem_of_mem_take hm'))) b ht'
        k_steps
        refine Stop.go (LCg.CompEnd.intro (by k_asm) (by k_asm) _ (fun p hp => hp) off (.inr ⟨_, .head _, rfl, _, rfl⟩) ⟨rfl, ?_⟩)
        rw [List.take_add_one, hb, List.map_append]
        exact IntsAre.append hI (.cons _ _ .nil)
      · rintro ys nx ⟨rfl, hI⟩
        rw [List.size_toArray, hus.length, List.take_length] at hI
        unfold LCg.FinE
        intro D h tk F2 N2 o1
        have hsum : (((grab ((vs.take top.toNat).reverse.take most.toNat)).map fun b => (b.size : Int)).sum) = total (grab ((vs.take top.toNat).reverse.take most.toNat)) := by
          unfold total
          induction grab ((vs.take top.toNat).reverse.take most.toNat) with
          | nil => rfl
          | cons b r ih => rw [List.map_cons, List.sum_cons, ih, List.map_cons, List.sum_cons]; omega
        have hgl := hus.length
        have hgz : ((grab ((vs.take top.toNat).reverse.take most.toNat)).reverse.map (·.size)).sum ≤ 16777216 := by
          rw [List.map_reverse, List.sum_reverse]
          have : ((grab ((vs.take top.toNat).reverse.take most.toNat)).map (·.size)).sum ≤ (grab ((vs.take top.toNat).reverse.take most.toNat)).length * 1000 := by
            refine sum_le _ fun b hb => ?_
            obtain ⟨v', hm', ht'⟩ := grab_mem hb
            exact hz v' (List.mem_of_mem_take (List.mem_reverse.mp (List.mem_of_mem_take hm'))) b ht'
          omega
        k_steps
        · rename longest < _ => hlong
          rename News _ _ _ _ => N3
          have hb0 : ¬ b1.size = 0 := by omega
          refine Ends.mk (by assumption) (News.pick2 N3 (.head _) (by k_mem)) ⟨_, _, rfl, ?_, rfl, ?_⟩
          · intro p hp; rw [List.mem_singleton.mp hp]; show @Ne Nat _ V; omega
          · rw [hJ]
            simp only [if_neg hb0]
            rw [if_pos (by rw [← hsum]; exact hlong), ← hgl]
            exact ⟨_, _, _, rfl, rfl⟩
        · rename ¬ longest < _ => hlong
          rename News _ _ _ _ => N3
          rename Fr _ _ _ _ => F3
          have hb0 : ¬ b1.size = 0 := by omega
          have hus' := hus.reverse
          have N4 : News g L _ [(x, W.listOf us.toArray n'), (V, W.listOf vs.toArray n)] := fun p hp => N3 p (.tail _ hp)
          refine kl_reverse (l := us.reverse) F3 N4 (by simp) (.head ?_) (by rw [sizeLine_eq]; simp; omega) ?_
          · intro p hp e; exact hx p hp e.symm
          intro h5 F5 N5
          k_steps
          rename News _ _ _ _ => N6
          refine Ends.mk (by assumption) (News.pick2 N6 (.head _) (by k_mem)) ⟨_, _, rfl, ?_, rfl, ?_⟩
          · intro p hp; rw [List.mem_singleton.mp hp]; show @Ne Nat _ V; omega
          · rw [hJ]
            simp only [if_neg hb0]
            rw [if_neg (by rw [← hsum]; exact hlong), ← hgl, List.length_reverse]
            exact ⟨_, _, _, rfl, _, rfl⟩
end Mine
end

section -- LDue
open PySem PySem.W PyProof.Rows
set_option maxRecDepth 100000
namespace Mine
theorem fill6 : PySem.Challenge.rw_rr0061_01 = PySem.Challenge.rw_rr0061_01 ∧ hd.heap_39 = hd.heap_39 := by
  k_fill
  exact ⟨rfl, rfl⟩
theorem ltext_no {w : World} {v : Value} (h : Cell v) (e : txt v = none) : CSpec w 61 [v] 2 [] (fun r fp' => fp' = [] ∧ r = .none) := by
  have := ltext_spec (w := w) h
  rw [e] at this
  exact this
theorem ltext_yes {w : World} {v : Value} {b : Array UInt8} (h : Cell v) (e : txt v = some b) : CSpec w 61 [v] 2 [] (fun r fp' => fp' = [] ∧ ∃ t, r = .bytes b t) := by
  have := ltext_spec (w := w) h
  rw [e] at this
  exact this
theorem item_neg {prog : Program} {w : World} {A : Around} {E : Value → Shared → Prop} {s : Shared} {h₀ : Heap} {L l : Addr} {news : List (Addr × Obj)} {value slice : PySem.Expr} {vs : List Value} {n : Nat} {k : Int} {u : Tok} {v : Value} {Q : Value → Shared → Prop} (N : News h₀ L s.heap news) (hm : (l, listOf vs.toArray n) ∈ news)
    (h0 : k < 0) (h1 : -(vs.length : Int) ≤ k) (hfit : -(2 ^ 63) ≤ k) (hx : vs[(k + vs.length).toNat]? = some v) (h : Q v s)
    (hs : subscripted slice false (.ref l) (.int k u) = operate [.ref l, .int k u] (getItem (.ref l) (.int k u)) := by with_unfolding_all rfl) :
    wpAny (model prog w) A (subscriptTail value slice (.ref l) (.int k u)) Q E s := by
  have hl : s.heap.IsList l vs.toArray := ⟨_, (N _ hm).1, rfl, n, rfl⟩
  exact tail_any hl.typeIs slot_list_getitem.lookup (wpAny_getItem_list_neg hl h0 (by rw [List.size_toArray]; exact h1) hfit (by rw [List.size_toArray]; simpa using hx) h) hs
local macro_rules | `(tactic| walk_at "call ref") => `(tactic| (k_here; first
  | ((with_reducible show wpAny _ _ (call (Value.ref 61) _) _ _ _); refine CSpec.read (ltext_no (by assumption) (by assumption)) (by assumption) (by assumption) (by assumption) (by k_asm) (by k_asm) (fun _ h => nomatch h) rfl (by omega) (by omega) ?_; intro r h' tk' F' N' hr; subst hr)
  | ((with_reducible show wpAny _ _ (call (Value.ref 61) _) _ _ _); refine CSpec.read (ltext_yes (by assumption) (by assumption)) (by assumption) (by assumption) (by assumption) (by k_asm) (by k_asm) (fun _ h => nomatch h) rfl (by omega) (by omega) ?_; intro r h' tk' F' N' hr; obtain ⟨tb', hr'⟩ := hr; subst hr')
  | ((with_reducible show wpAny _ _ (call (Value.ref _) _) _ _ _); refine Stop.mk ?_)))
local macro_rules | `(tactic| walk_at "subscriptTail Name Slice ref ref") => `(tactic| (k_here; refine Stop.mk ?_))
local macro_rules | `(tactic| walk_at "subscriptTail") => `(tactic| (k_here; (with_reducible show wpAny _ _ (subscriptTail _ _ (Value.ref _) (Value.int _ _)) _ _ _); refine item_neg (by k_asm) (by k_mem) (by omega) (by omega) (by omega) (by assumption) ?_))
local macro_rules | `(tactic| walk_at "binaryOp Add bytes bytes") => `(tactic| (k_here; refine Stop.mk ?_))
local macro_rules | `(tactic| walk_at "InvEndG") => `(tactic| (refine Stop.mk ?_))
local macro_rules | `(tactic| walk_at "pyIter ref") => `(tactic| ((with_reducible show wpAny _ _ (pyIter (Value.ref _)) (fun it s₂ => LoopAtV _ _ _ _ _ _ _ _ _ it s₂) _ _); k_here; refine Stop.mk ?_))
local macro_rules | `(tactic| walk_at "exec For Name Subscript cons nil") => `(tactic| (k_here; (rename Fr _ _ _ _ => lF'); (with_unfolding_all refine' For_invVF lF' ?k1 ?k2 ?_; (case k1 => exact rfl); (case k2 => exact rfl); k_whole)))

def NFx (u c w : Option Value) (m₀ : Str → Option Value) : Str → Option Value := fun y => if y = "value" then u else if y = "count" then c else if y = "whole" then w else m₀ y
theorem NFx.start {m₀ : Str → Option Value} {c w : Option Value} (hc : m₀ "count" = c) (hw : m₀ "whole" = w) : m₀ = NFx (m₀ "value") c w m₀ := by
  subst hc; subst hw
  funext y
  unfold NFx
  split
  · rename_i h; rw [h]
  split
  · rename_i h; rw [h]
  split
  · rename_i h; rw [h]
  · rfl
theorem NFx.turn {m₀ : Str → Option Value} {u c w u' c' w' : Option Value} : (fun y : Str => if y = "whole" then w' else if y = "count" then c' else if y = "value" then u' else NFx u c w m₀ y) = NFx u' c' w' m₀ := by
  funext y
  unfold NFx
  by_cases h1 : y = "value"
  · subst h1; rfl
  by_cases h2 : y = "count"
  · subst h2; rfl
  by_cases h3 : y = "whole"
  · subst h3; rfl
  simp only [if_neg h1, if_neg h2, if_neg h3]
theorem flat_shift (g : List (Array UInt8)) (a : Array UInt8) : g.foldl (· ++ ·) a = a ++ flat g := by
  unfold flat
  induction g generalizing a with
  | nil => simp
  | cons b r ih => rw [List.foldl_cons, List.foldl_cons, ih, ih (#[] ++ b)]; simp
theorem flat_cons (b : Array UInt8) (r : List (Array UInt8)) : flat (b :: r) = b ++ flat r := by
  show List.foldl _ (#[] ++ b) r = _
  rw [flat_shift]; simp
theorem flat_rev (g : List (Array UInt8)) : (flat g.reverse).size = (g.map (·.size)).sum := by
  unfold flat
  rw [flat_size, List.map_reverse, List.sum_reverse]; simp
theorem grab_cut {ws : List Value} {i k : Nat} (h : i ≤ k) : grab (ws.take k) = grab (ws.take i ++ (ws.drop i).take (k - i)) := by
  congr 1
  rw [← List.take_add, Nat.add_sub_cancel' h]
theorem grab_stop {ws : List Value} {i k : Nat} {v : Value} (hv : ws[i]? = some v) (ht : txt v = none) : grab ((ws.drop i).take k) = [] := by
  have hi : i < ws.length := (List.getElem?_eq_some_iff.mp hv).1
  have e : ws.drop i = v :: ws.drop (i + 1) := by
    rw [List.drop_eq_getElem_cons hi]
    congr 1
    rw [List.getElem?_eq_getElem hi] at hv
    exact Option.some.inj hv
  rw [e]
  cases k with
  | zero => rfl
  | succ k => rw [List.take_succ_cons]; unfold grab; rw [ht]
theorem tup_made {ws : List Value} {most : Nat} {longest i : Int} {g : List (Array UInt8)} {t1 t2 t3 : Tok} (hJ : joinR ws most longest = if total g > longest then (2, (g.length : Int), none) else (0, (g.length : Int), some (flat g.reverse)))
    (h : (g.length : Int) = i ∧ ((flat g.reverse).size : Int) ≤ longest) : TupIs (joinR ws most longest) { cls := .type "tuple", data := .seq #[.int 0 t1, .int i t2, .bytes (flat g.reverse) t3] } := by
  obtain ⟨rfl, hl⟩ := h
  rw [flat_rev] at hl
  rw [hJ, if_neg (by unfold total; omega)]
  exact ⟨_, _, _, rfl, _, rfl⟩
theorem tup_long {ws : List Value} {most : Nat} {longest i : Int} {g : List (Array UInt8)} {t1 t2 : Tok} (hJ : joinR ws most longest = if total g > longest then (2, (g.length : Int), none) else (0, (g.length : Int), some (flat g.reverse)))
    (h : (g.length : Int) = i ∧ ¬ ((flat g.reverse).size : Int) ≤ longest) : TupIs (joinR ws most longest) { cls := .type "tuple", data := .seq #[.int 2 t1, .int i t2, .none] } := by
  obtain ⟨rfl, hl⟩ := h
  rw [flat_rev] at hl
  rw [hJ, if_pos (by unfold total; omega)]
  exact ⟨_, _, _, rfl, rfl⟩

set_option maxHeartbeats 4000000 in
theorem due_spec {w : World} {V : Addr} {vs : List Value} {n : Nat} {most longest : Int} {tm tl : Tok} (hc : ∀ v ∈ vs, Cell v) (hz : ∀ v ∈ vs, ∀ b, txt v = some b → b.size ≤ 1000) (h0 : 2 ≤ most) (h1 : most ≤ (vs.length : Int)) (h3 : vs.length ≤ 1000) (h4 : -1000 ≤ longest) (h5 : longest ≤ 1000) :
    CSpec w 68 [.ref V, .int most tm, .int longest tl] 4 [(V, W.listOf vs.toArray n)] (fun r fp' => ∃ x o, fp' = (x, o) :: [(V, W.listOf vs.toArray n)] ∧ (∀ p ∈ [(V, W.listOf vs.toArray n)], (@Ne Nat x p.1)) ∧
      (r = .ref x ∧ TupIs (joinR vs.reverse most.toNat longest) o)) := by
  k_dflt (refine' cspec_of (binds := [("values", .ref V), ("most", .int most tm), ("longest", .int longest tl)]) ?ho ?hcd ?hb ?hl ?c1 ?c2 ?c3 ?c4 ?_; (case ho => k_is); (case hcd => k_is); (case hb => exact rfl); (case hl => exact locs rfl); (case c1 => exact rfl); (case c2 => exact rfl); (case c3 => exact rfl); (case c4 => decide))
  intro mean mg mb dp un gd outer A₀ base g L s C F N hdp hun
  have B := C.B
  have X := C.X
  have T := C.T
  clear C
  obtain ⟨hh, gn, dr, tk, os⟩ := s
  dsimp only at F N ⊢
  try k_fold
  obtain ⟨v1, hv1⟩ : ∃ v, vs[(-1 + (vs.length : Int)).toNat]? = some v := ⟨_, List.getElem?_eq_getElem (by omega)⟩
  obtain ⟨v0, hv0⟩ : ∃ v, vs[(-2 + (vs.length : Int)).toNat]? = some v := ⟨_, List.getElem?_eq_getElem (by omega)⟩
  have hc1 := hc v1 (List.mem_of_getElem? hv1)
  have hc0 := hc v0 (List.mem_of_getElem? hv0)
  have hJ := joinR_eq vs vs.length most.toNat longest v1 v0 (by omega) (by omega) (by rw [← hv1]; congr 1; omega) (by rw [← hv0]; congr 1; omega)
  rw [List.take_length] at hJ
  cases ht1 : txt v1 with
  | none =>
    rw [ht1] at hJ
    cases ht0 : txt v0 with
    | none =>
      k_steps
      rename News _ _ _ _ => N3
      exact Ends.mk (by assumption) (News.pick2 N3 (.head _) (by k_mem)) ⟨_, _, rfl, (fun p hp => by rw [List.mem_singleton.mp hp]; show @Ne Nat _ V; omega), rfl, by rw [hJ]; exact ⟨_, _, _, rfl, rfl⟩⟩
    | some b0 =>
      k_steps
      rename News _ _ _ _ => N3
      exact Ends.mk (by assumption) (News.pick2 N3 (.head _) (by k_mem)) ⟨_, _, rfl, (fun p hp => by rw [List.mem_singleton.mp hp]; show @Ne Nat _ V; omega), rfl, by rw [hJ]; exact ⟨_, _, _, rfl, rfl⟩⟩
  | some b1 =>
    cases ht0 : txt v0 with
    | none =>
      rw [ht1, ht0] at hJ
      k_steps
      rename News _ _ _ _ => N3
      exact Ends.mk (by assumption) (News.pick2 N3 (.head _) (by k_mem)) ⟨_, _, rfl, (fun p hp => by rw [List.mem_singleton.mp hp]; show @Ne Nat _ V; omega), rfl, by rw [hJ]; exact ⟨_, _, _, rfl, rfl⟩⟩
    | some b0 =>
      rw [ht1, ht0] at hJ
      have hz1 := hz v1 (List.mem_of_getElem? hv1) b1 ht1
      k_steps
      · rename (Array.toList b1 == _) = true => hb
        have hb0 : b1.size = 0 := by
          have := eq_of_beq hb
          simpa using this
        rename News _ _ _ _ => N3
        exact Ends.mk (by assumption) (News.pick2 N3 (.head _) (by k_mem)) ⟨_, _, rfl, (fun p hp => by rw [List.mem_singleton.mp hp]; show @Ne Nat _ V; omega), rfl, by rw [hJ]; simp only [if_pos hb0]; exact ⟨_, _, _, rfl, _, rfl⟩⟩
      rename (Array.toList b1 == _) = false => hb
      have hb0 : ¬ b1.size = 0 := fun e => by rw [Array.eq_empty_of_size_eq_zero e] at hb; exact absurd hb (by decide)
      simp only [if_neg hb0] at hJ
      rename News _ _ _ _ => N3
      rename Fr _ _ _ _ => F3
      have NV : News g L _ [(V, W.listOf vs.toArray n)] := fun p hp => N3 p (by rw [List.mem_singleton.mp hp]; k_mem)
      refine Stop.go (krv_lit (zs := vs.reverse) F3 NV ⟨_, (NV _ (.head _)).1, rfl, n, rfl⟩ (IsPart.int _ _) (by simp) ?_ (by with_unfolding_all rfl) (by intro _; with_unfolding_all rfl) (by rw [sizeLine_eq, List.size_toArray]; omega))
      intro D h2 F4 N4 l1
      clear N3 F3
      k_steps
      refine Stop.go (kdl_iter (vs := vs.reverse) (nn := 0) (fun i m nx => ∃ u bs tw tc, m = NFx u (some (.int (i : Int) tc)) (some (.bytes (flat bs.reverse) tw)) _ ∧ nx = [(D, W.listOf vs.reverse.toArray 0), (V, W.listOf vs.toArray n)] ∧ bs.length = i ∧ i ≤ most.toNat ∧ (∀ b ∈ bs, b.size ≤ 1000) ∧ ∀ rest, grab (vs.reverse.take i ++ rest) = bs ++ grab rest)
        rfl (.head _) F4 N4 ⟨_, [], _, _, NFx.start rfl rfl, rfl, rfl, Nat.zero_le _, (fun _ h => nomatch h), fun _ => rfl⟩ ?_ ?_)
      · rintro i v m₁ nx h tk own hv hoff hm ⟨u, bs, tw, tc, rfl, rfl, hi, him, hbz, hg⟩ F5 N5
        dsimp only at F5 N5 ⊢
        simp only [List.cons_append, List.nil_append] at N5
        have hil : i < vs.reverse.length := (List.getElem?_eq_some_iff.mp hv).1
        rw [List.length_reverse] at hil
        have hcv := hc v (List.mem_reverse.mp (List.mem_of_getElem? hv))
        have hs : vs.reverse.take (i + 1) = vs.reverse.take i ++ [v] := by rw [List.take_add_one, hv]; rfl
        have hfz : (flat bs.reverse).size ≤ 1000000 := by
          rw [flat_rev]
          have := sum_le bs hbz
          have : bs.length * 1000 ≤ 1000000 := by omega
          omega
        cases ht : txt v with
        | none =>
          have hgm : grab (vs.reverse.take most.toNat) = bs := by
            rw [grab_cut him, hg, grab_stop hv ht, List.append_nil]
          rw [hgm] at hJ
          k_steps
          all_goals rename News _ _ _ _ => N3
          all_goals (exact Ends.mk (by assumption) (News.pick2 N3 (.head _) (by k_mem)) ⟨_, _, rfl, (fun p hp => by rw [List.mem_singleton.mp hp]; show @Ne Nat _ V; omega), rfl, by first | exact tup_made hJ (by omega) | exact tup_long hJ (by omega)⟩)
        | some b =>
          have hbz' := hz v (List.mem_reverse.mp (List.mem_of_getElem? hv)) b ht
          have hgi : i = most.toNat → grab (vs.reverse.take most.toNat) = bs := by
            intro e
            have := hg []
            rw [List.append_nil, show grab [] = [] from rfl, List.append_nil] at this
            rw [← e]; exact this
          k_steps
          · rw [hgi (by omega)] at hJ
            rename News _ _ _ _ => N3
            exact Ends.mk (by assumption) (News.pick2 N3 (.head _) (by k_mem)) ⟨_, _, rfl, (fun p hp => by rw [List.mem_singleton.mp hp]; show @Ne Nat _ V; omega), rfl, tup_made hJ (by omega)⟩
          · rw [hgi (by omega)] at hJ
            rename News _ _ _ _ => N3
            exact Ends.mk (by assumption) (News.pick2 N3 (.head _) (by k_mem)) ⟨_, _, rfl, (fun p hp => by rw [List.mem_singleton.mp hp]; show @Ne Nat _ V; omega), rfl, tup_long hJ (by omega)⟩
          refine Stop.go (KBy.add_bytes (by omega) ?_)
          intro t6 k6
          k_steps
          rename News _ _ _ _ => N6
          rename Fr _ _ _ _ => F6
          have N7 : News g L _ ((D, W.listOf vs.reverse.toArray 0) :: (V, W.listOf vs.toArray n) :: own) := fun p hp => N6 p (.tail _ hp)
          refine Stop.go (invEnd2 F6 N7 hoff ⟨.head _, some v, bs ++ [b], t6, k6 + 1, ?_, rfl, ?_, ?_, ?_, ?_⟩)
          · rw [List.reverse_append, List.reverse_singleton, List.singleton_append, flat_cons]
            exact NFx.turn
          · rw [List.length_append, hi]; rfl
          · omega
          · intro c hc'
            rcases List.mem_append.mp hc' with hc' | hc'
            · exact hbz c hc'
            · rw [List.mem_singleton.mp hc']; exact hbz'
          · intro rest
            rw [hs, List.append_assoc, hg, List.append_assoc]
            congr 1
            simp [grab, ht]
      · rintro m₁ nx h tk ⟨u, bs, tw, tc, rfl, rfl, hi, him, hbz, hg⟩ F5 N5
        have hfz : (flat bs.reverse).size ≤ 1000000 := by
          rw [flat_rev]
          have := sum_le bs hbz
          have : bs.length * 1000 ≤ 1000000 := by rw [hi, List.length_reverse]; omega
          omega
        have hgm : grab (vs.reverse.take most.toNat) = bs := by
          have := hg []
          rw [List.append_nil, show grab [] = [] from rfl, List.append_nil] at this
          rw [List.length_reverse] at this him
          rw [show most.toNat = vs.length by omega]; exact this
        rw [hgm] at hJ
        k_steps
        all_goals rename News _ _ _ _ => N3
        all_goals (exact Ends.mk (by assumption) (News.pick2 N3 (.head _) (by k_mem)) ⟨_, _, rfl, (fun p hp => by rw [List.mem_singleton.mp hp]; show @Ne Nat _ V; omega), rfl, by first | exact tup_made hJ (by omega) | exact tup_long hJ (by omega)⟩)
end Mine
end

section -- LPlain
open PySem PySem.W PyProof.Rows
namespace Mine
theorem flat_append (a b : List (Array UInt8)) : flat (a ++ b) = flat a ++ flat b := by
  show List.foldl _ #[] (a ++ b) = _
  rw [List.foldl_append, flat_shift]; rfl
def AllT (l : List Value) : Prop := ∀ v ∈ l, ∃ b, txt v = some b
theorem grab_all {l : List Value} (h : AllT l) : grab l = l.filterMap txt := by
  induction l with
  | nil => rfl
  | cons v r ih =>
    obtain ⟨b, hb⟩ := h v (.head _)
    unfold grab
    rw [List.filterMap_cons, hb, ih fun x hx => h x (.tail _ hx)]
theorem fm_length {l : List Value} (h : AllT l) : (l.filterMap txt).length = l.length := by
  induction l with
  | nil => rfl
  | cons v r ih =>
    obtain ⟨b, hb⟩ := h v (.head _)
    rw [List.filterMap_cons, hb, List.length_cons, List.length_cons, ih fun x hx => h x (.tail _ hx)]
theorem flat_size_le {l : List Value} (k : Nat) : (flat ((l.drop k).filterMap txt)).size ≤ (flat (l.filterMap txt)).size := by
  have e : l.filterMap txt = (l.take k).filterMap txt ++ (l.drop k).filterMap txt := by rw [← List.filterMap_append, List.take_append_drop]
  rw [e, flat_append, Array.size_append]; omega
theorem join_turn {rest : List Value} (h : AllT rest) (hl : 2 ≤ rest.length) (hz : (flat (grab rest)).size ≤ 500) {most : Nat} (h2 : 2 ≤ most) (hm : most ≤ rest.length) :
    ∃ (gone : Nat) (found : Array UInt8), joinR rest.reverse most 500 = (0, (gone : Int), some found) ∧ 2 ≤ gone ∧ gone ≤ rest.length ∧ ∀ t, flat (grab (rest.take (rest.length - gone) ++ [.bytes found t])) = flat (grab rest) := by
  have hat : ∀ k, AllT (rest.take k) := fun k v hv => h v (List.mem_of_mem_take hv)
  have hout : ∀ (k : Nat) (found : Array UInt8) (t : Tok), flat ((rest.drop k).filterMap txt) = found → flat (grab (rest.take k ++ [.bytes found t])) = flat (grab rest) := by
    intro k found t e
    have h1 : AllT (rest.take k ++ [.bytes found t]) := fun v hv => by
      rcases List.mem_append.mp hv with hv | hv
      · exact hat k v hv
      · rw [List.mem_singleton.mp hv]; exact ⟨_, rfl⟩
    rw [grab_all h1, grab_all h, List.filterMap_append, flat_append]
    have e2 : flat (List.filterMap txt [Value.bytes found t]) = found := by simp [flat, txt]
    rw [e2, ← e, ← flat_append, ← List.filterMap_append, List.take_append_drop]
  obtain ⟨v1, hv1⟩ : ∃ v, rest[rest.length - 1]? = some v := ⟨_, List.getElem?_eq_getElem (by omega)⟩
  obtain ⟨v0, hv0⟩ : ∃ v, rest[rest.length - 2]? = some v := ⟨_, List.getElem?_eq_getElem (by omega)⟩
  have hJ := joinR_eq rest rest.length most 500 v1 v0 hl (Nat.le_refl _) hv1 hv0
  rw [List.take_length] at hJ
  obtain ⟨b1, hb1⟩ := h v1 (List.mem_of_getElem? hv1)
  obtain ⟨b0, hb0⟩ := h v0 (List.mem_of_getElem? hv0)
  rw [hb1, hb0] at hJ
  by_cases hz1 : b1.size = 0
  · simp only [if_pos hz1] at hJ
    refine ⟨2, b0, hJ, Nat.le_refl _, hl, fun t => hout _ b0 t ?_⟩
    have e : rest.drop (rest.length - 2) = [v0, v1] := by
      rw [List.drop_eq_getElem_cons (by omega), List.drop_eq_getElem_cons (by omega), List.drop_of_length_le (by omega)]
      rw [List.getElem?_eq_getElem (by omega)] at hv0 hv1
      have e1 := Option.some.inj hv0
      have e2 := Option.some.inj hv1
      rw [e1]
      congr 2
      rw [← e2]
      congr 1
      omega
    rw [e]
    have e3 : b1 = #[] := Array.eq_empty_of_size_eq_zero hz1
    simp [hb0, hb1, flat, e3]
  · simp only [if_neg hz1] at hJ
    have hD : AllT (rest.drop (rest.length - most)) := fun v hv => h v (List.mem_of_mem_drop hv)
    have hg : grab (rest.reverse.take most) = ((rest.drop (rest.length - most)).filterMap txt).reverse := by
      have e : rest.reverse.take most = (rest.drop (rest.length - most)).reverse := by rw [List.take_reverse]
      rw [e, grab_all (fun v hv => hD v (List.mem_reverse.mp hv)), List.filterMap_reverse]
    have hsz := flat_size_le (l := rest) (rest.length - most)
    rw [← grab_all h] at hsz
    have htot : ¬ total (grab (rest.reverse.take most)) > 500 := by
      rw [hg]
      unfold total
      rw [List.map_reverse, List.sum_reverse, ← flat_rev, ]
      have := flat_rev ((rest.drop (rest.length - most)).filterMap txt)
      have e2 : (flat ((rest.drop (rest.length - most)).filterMap txt)).size = (((rest.drop (rest.length - most)).filterMap txt).map (·.size)).sum := by
        unfold flat; rw [flat_size]; simp
      omega
    rw [if_neg htot] at hJ
    refine ⟨most, flat ((rest.drop (rest.length - most)).filterMap txt), ?_, h2, hm, fun t => hout _ _ t rfl⟩
    rw [hJ, hg, List.length_reverse, fm_length hD, List.length_drop, List.reverse_reverse]
    congr 3
    omega
theorem mem_size {l : List Value} (h : AllT l) {v : Value} (hv : v ∈ l) {b : Array UInt8} (hb : txt v = some b) : b.size ≤ (flat (grab l)).size := by
  rw [grab_all h]
  induction l with
  | nil => cases hv
  | cons x r ih =>
    obtain ⟨c, hc⟩ := h x (.head _)
    rw [List.filterMap_cons, hc]
    show _ ≤ (flat (c :: _)).size
    rw [flat_cons, Array.size_append]
    rcases List.mem_cons.mp hv with rfl | hv
    · rw [hb] at hc; cases hc; omega
    · have := ih (fun y hy => h y (.tail _ hy)) hv; omega
end Mine
end

section -- LAll
open PySem PySem.W PyProof.Rows
set_option maxRecDepth 100000
namespace Mine
theorem fill7 : PySem.Challenge.rw_rr0061_01 = PySem.Challenge.rw_rr0061_01 ∧ hd.heap_39 = hd.heap_39 := by
  k_fill
  exact ⟨rfl, rfl⟩
section
variable {prog : Program} {w : World} {A : Around} {E : Value → Shared → Prop} {env : Env} {test : PySem.Expr} {body orelse : List Stmt} {Q : Flow → Shared → Prop}
def WPost (Inv : Nat → Shared → Prop) (f : Nat) (Q : Flow → Shared → Prop) (fl : Flow) (s : Shared) : Prop :=
  match fl with
  | .next => ∃ f', f' < f ∧ Inv f' s
  | .cont => ∃ f', f' < f ∧ Inv f' s
  | .brk => Q .next s
  | .ret v => Q (.ret v) s
/-- a while by an invariant and a measure -/
theorem whl_inv (Inv : Nat → Shared → Prop) (hE : PassesOwn (model prog w) A env E)
    (turn : ∀ f s, Inv f s → wpAny (model prog w) A (isTrue test env (eval test env)) (fun b s₂ => WhlIf b (wpAny (model prog w) A (execs body env) (WPost Inv f Q) E s₂) (wpAny (model prog w) A (execs orelse env) Q E s₂)) E s)
    {f : Nat} {s : Shared} (h : Inv f s) : WhlRest prog w A E env test body orelse Q 0 s := by
  have key : ∀ n f s, f < n → Inv f s → WhlRest prog w A E env test body orelse Q 0 s := by
    intro n
    induction n with
    | zero => intro f s hf; exact absurd hf (Nat.not_lt_zero _)
    | succ n ih =>
      intro f s hf hI
      refine whl_turn (k := 0) hE (wpAny_mono (turn f s hI) (fun b s₂ h₂ => ?_) fun _ _ e => e)
      cases b with
      | false => exact WhlIf.no rfl (by unfold WhlIf at h₂; rwa [if_neg Bool.false_ne_true] at h₂)
      | true =>
        unfold WhlIf at h₂
        rw [if_pos rfl] at h₂
        refine WhlIf.yes rfl (wpAny_mono h₂ (fun fl s₃ h₃ => ?_) fun _ _ e => e)
        cases fl with
        | next => obtain ⟨f', hf', hI'⟩ := h₃; exact ih f' s₃ (by omega) hI'
        | cont => obtain ⟨f', hf', hI'⟩ := h₃; exact ih f' s₃ (by omega) hI'
        | brk => exact h₃
        | ret v => exact h₃
  exact key (f + 1) f s (Nat.lt_succ_self _) h
end
local macro_rules | `(tactic| walk_at "call ref") => `(tactic| (k_here; (with_reducible show wpAny _ _ (call (Value.ref _) _) _ _ _); refine Stop.mk ?_))
local macro_rules | `(tactic| walk_at "subscriptTail") => `(tactic| (k_here; (with_reducible show wpAny _ _ (subscriptTail _ _ (Value.ref _) (Value.int _ _)) _ _ _); refine item_led (by k_asm) (by k_mem) (by omega) (by omega) (by assumption) ?_))
local macro_rules | `(tactic| walk_at "call type:list") => `(tactic| (k_here; refine Stop.mk ?_))
local macro_rules | `(tactic| walk_at "call builtin:list.pop") => `(tactic| (k_here; refine Stop.mk ?_))
local macro_rules | `(tactic| walk_at "call builtin:list.append") => `(tactic| (k_here; refine Stop.mk ?_))
local macro_rules | `(tactic| walk_at "InvEndG") => `(tactic| (refine Stop.mk ?_))
local macro_rules | `(tactic| walk_at "WhlRest") => `(tactic| (refine Stop.mk ?_))
local macro_rules | `(tactic| walk_at "call builtin:len") => `(tactic| (k_here; (with_reducible show wpAny _ _ (call (Value.builtin "len") [Value.ref _]) _ _ _); refine len_led (by k_asm) (by k_mem) (by omega) ?_))
local macro_rules | `(tactic| walk_at "pyIter ref") => `(tactic| ((with_reducible show wpAny _ _ (pyIter (Value.ref _)) (fun it s₂ => LoopAtV _ _ _ _ _ _ _ _ _ it s₂) _ _); k_here; refine Stop.mk ?_))
local macro_rules | `(tactic| walk_at "exec For Name Call cons nil") => `(tactic| (k_here; (rename Fr _ _ _ _ => lF'); (with_unfolding_all refine' For_invVF lF' ?k1 ?k2 ?_; (case k1 => exact rfl); (case k2 => exact rfl); k_whole)))
local macro_rules | `(tactic| walk_at "exec While Compare cons nil") => `(tactic| (k_here; refine whl_start 0 ?_; refine Stop.mk ?_))

set_option maxHeartbeats 4000000 in
theorem all_spec {w : World} {V D O : Addr} {vs : List Value} {n : Nat} {ns : List Int} {k : Int} {oD oO : Obj} (hS : StockIs w D O ns k oD oO) (hD : (D == sysModules) = false) (hDO : @Ne Nat D O) (hVD : @Ne Nat V D) (hVO : @Ne Nat V O)
    (hk0 : 0 ≤ k) (hk1 : k + vs.length < 1000) (hn : ns.length ≤ 40) (hp : ∀ x ∈ ns, 0 ≤ x) (hc : ∀ v ∈ vs, Cell v) (ht : ∀ v ∈ vs, ∃ b, txt v = some b) (hl : 2 ≤ vs.length) (hl' : vs.length ≤ 100) (hz : (flat (grab vs)).size ≤ 500) :
    CSpec w 75 [.ref V, .ref D] 6 [(V, W.listOf vs.toArray n), (D, oD), (O, oO)] (fun r fp' => ∃ t oD' k', r = .bytes (flat (grab vs)) t ∧ fp' = [(V, W.listOf vs.toArray n), (D, oD'), (O, oO)] ∧ k ≤ k' ∧ k' ≤ k + vs.length ∧ StockIs w D O ns k' oD' oO) := by
  k_dflt (refine' cspec_of (binds := [("values", .ref V), ("stock", .ref D)]) ?ho ?hcd ?hb ?hl ?c1 ?c2 ?c3 ?c4 ?_; (case ho => k_is); (case hcd => k_is); (case hb => exact rfl); (case hl => exact locs rfl); (case c1 => exact rfl); (case c2 => exact rfl); (case c3 => exact rfl); (case c4 => decide))
  intro mean mg mb dp un gd outer A₀ base g L s C F N hdp hun
  have B := C.B
  have X := C.X
  have T := C.T
  clear C
  obtain ⟨hh, gn, dr, tk, os⟩ := s
  dsimp only at F N ⊢
  try k_fold
  k_steps
  refine Stop.go (list_copyK (by k_asm) (by k_asm) ⟨_, (N _ (.head _)).1, rfl, n, rfl⟩ ?_ (by rw [sizeLine_eq, List.size_toArray]; omega))
  intro R c h1 F1 N1 l1
  replace l1 := allLt_of l1
  simp only [AllLt, and_true] at l1
  obtain ⟨lV, lD, lO⟩ := l1
  k_steps
  rename Fr _ _ _ _ => F2
  rename News _ _ _ _ => N2
  refine Stop.go (whl_inv (fun f s => ∃ rest n' h tk u m oD' k', s = { heap := h, gens := gn, drawn := dr, toks := tk, os := os } ∧ f = rest.length ∧ m = NF ["outcome", "gone", "found", "turn"] u _ ∧ Fr g L h m ∧ News g L h [(R, W.listOf rest.toArray n'), (V, W.listOf vs.toArray n), (D, oD'), (O, oO)] ∧
      StockIs w D O ns k' oD' oO ∧ k ≤ k' ∧ k' + rest.length ≤ k + vs.length ∧ (∀ v ∈ rest, Cell v) ∧ (∀ v ∈ rest, ∃ b, txt v = some b) ∧ flat (grab rest) = flat (grab vs) ∧ 1 ≤ rest.length ∧ (rest.length = 1 → ∃ b t, rest = [.bytes b t]))
    (by passes_own) ?_ (f := vs.length) ⟨vs, c, _, _, _, _, oD, k, rfl, rfl, NF.self, F2, N2, hS, Int.le_refl _, Int.le_refl _, hc, ht, rfl, by omega, fun h => by omega⟩)
  rintro f s ⟨rest, n', h, tk', u, m, oD', k', rfl, rfl, rfl, F3, N3, hS', hk', hkk, hc', ht', hcat, hr1, hone⟩
  by_cases h1r : rest.length = 1
  · obtain ⟨b, t, rfl⟩ := hone h1r
    k_steps
    exact Ends.mk (by assumption) (fun p hp => N3 p (.tail _ hp)) ⟨t, oD', k', by rw [← hcat]; simp [flat, grab, txt], rfl, hk', by omega, hS'⟩
  · have hr2 : 2 ≤ rest.length := by omega
    have hrl : rest.length ≤ 100 := by omega
    have hzr : (flat (grab rest)).size ≤ 500 := by rw [hcat]; exact hz
    k_steps
    refine WhlIf.yes (by simp; omega) ?_
    k_steps
    refine Stop.go (CSpec.use (draw_spec hS' hD hDO (by omega) (by omega) hn hp (many := (rest.length : Int) - 1) (by omega) (by omega)) [(R, W.listOf rest.toArray n'), (V, W.listOf vs.toArray n)] B X T (by assumption) N3 ?_ ?_ ?_ rfl (by omega) (by omega) ?_)
    · intro p hp; exact .tail _ (.tail _ hp)
    · intro p hp
      rcases List.mem_cons.mp hp with rfl | hp
      · exact .head _
      · rw [List.mem_singleton.mp hp]; exact .tail _ (.head _)
    · intro p hp q hq
      simp only [List.mem_cons, List.not_mem_nil, or_false] at hp hq
      rcases hp with rfl | rfl <;> rcases hq with rfl | rfl <;> (show @Ne Nat _ _) <;> omega
    intro r fp' h2 tk2 F4 N4 hr ap kp bn
    clear ap kp bn
    obtain ⟨i, t, oD2, hi0, hi1, rfl, rfl, hS2⟩ := hr
    simp only [List.cons_append, List.nil_append] at N4
    obtain ⟨gone, found, hj, hg2, hgl, hflat⟩ := join_turn ht' hr2 hzr (most := (2 + i).toNat) (by omega) (by omega)
    k_steps
    refine Stop.go (CSpec.make (jb_spec hc' (fun v hv b hb => Nat.le_trans (mem_size ht' hv hb) (by omega)) (by omega) (by omega) (by omega) (by omega) (by omega) (by omega)) B X T (by assumption) N4 (fun p hp => by rw [List.mem_singleton.mp hp]; k_mem) rfl (by omega) (by omega) ?_)
    intro r x o h3 tk3 F5 N5 hx hr
    rw [Int.toNat_natCast, List.take_length, hj] at hr
    obtain ⟨rfl, t1, t2, z, rfl, t3, rfl⟩ := hr
    dsimp only at N5
    k_steps
    rename IsRange _ _ _ _ _ _ _ _ => hR
    rename News _ _ _ _ => N6
    rename Fr _ _ _ _ => F6
    have N7 : News g L _ [(R, W.listOf rest.toArray n'), (V, W.listOf vs.toArray n), (D, oD2), (O, oO)] := fun p hp => N6 p (by
      simp only [List.mem_cons, List.not_mem_nil, or_false] at hp ⊢
      rcases hp with h | h | h | h <;> simp [h])
    refine Stop.go (iter_rangeJ (n := gone) (fun i m nx => ∃ u n'', m = NF ["turn"] u _ ∧ nx = [(R, W.listOf (rest.take (rest.length - i)).toArray n''), (V, W.listOf vs.toArray n), (D, oD2), (O, oO)])
      rfl hR (small_one (by omega) (by omega) (by omega) (by omega)) (by rw [rangeSize_nat]; simp) F6 N7 ⟨_, n', NF.self, by rw [Nat.sub_zero, List.take_length]⟩ ?_ ?_)
    · intro j tj m₁ nx h6 tk6 own hj6 hoff hJ F8 N8
      obtain ⟨u, n'', rfl, rfl⟩ := hJ
      dsimp only at F8 N8 ⊢
      simp only [List.cons_append, List.nil_append] at N8
      obtain ⟨y, hy⟩ : ∃ y, rest[rest.length - (j + 1)]? = some y := ⟨_, List.getElem?_eq_getElem (by omega)⟩
      have hcut : rest.take (rest.length - j) = rest.take (rest.length - (j + 1)) ++ [y] := by
        rw [show rest.length - j = (rest.length - (j + 1)) + 1 by omega, List.take_add_one, hy]; rfl
      k_steps
      rw [hcut] at N8
      refine Stop.go (kl_pop (p := rest.take (rest.length - (j + 1))) (y := y) F8 N8 (kpa_last _ _) (.head ?_) ?_ ?_)
      · intro p hp
        rcases List.mem_cons.mp hp with rfl | hp
        · show @Ne Nat _ _; omega
        rcases List.mem_cons.mp hp with rfl | hp
        · show @Ne Nat _ _; omega
        rcases List.mem_cons.mp hp with rfl | hp
        · show @Ne Nat _ _; omega
        · exact hoff p hp _ (.head _)
      · rw [sizeLine_eq]; simp; omega
      intro h7 F9 N9
      k_steps
      refine Stop.go (invEndA (nx := [(R, W.listOf (rest.take (rest.length - (j + 1))).toArray (n'' + 1)), (V, W.listOf vs.toArray n), (D, oD2), (O, oO)]) F9 N9 hoff ⟨_, n'' + 1, NF.intro ?_, rfl⟩)
      intro y hy
      simp only [List.contains_cons, List.contains_nil, Bool.or_false, beq_eq_false_iff_ne] at hy
      simp [NF, hy]
    · rintro m₁ nx h6 tk6 ⟨u, n'', rfl, rfl⟩ F8 N8
      have htl : (rest.take (rest.length - gone)).length = rest.length - gone := by rw [List.length_take]; omega
      k_steps
      refine Stop.go (append_K F8 N8 (.head ?_) ?_ (by rw [sizeLine_eq, List.size_toArray]; omega))
      · intro p hp
        rcases List.mem_cons.mp hp with rfl | hp
        · show @Ne Nat _ _; omega
        rcases List.mem_cons.mp hp with rfl | hp
        · show @Ne Nat _ _; omega
        · rw [List.mem_singleton.mp hp]; show @Ne Nat _ _; omega
      intro h8 F10 N10
      rw [List.push_toArray] at N10
      k_steps
      unfold WPost
      refine ⟨_, ?_, rest.take (rest.length - gone) ++ [.bytes found t3], n'' + 1, h8, _, _, _, oD2, k' + 1, rfl, rfl, NF.intro ?_, F10, N10, hS2, by omega, ?_, ?_, ?_, ?_, ?_, fun he => ?_⟩
      · rw [List.length_append, htl]; simp; omega
      · intro y hy
        simp only [List.contains_cons, List.contains_nil, Bool.or_false, Bool.or_eq_false_iff, beq_eq_false_iff_ne] at hy
        simp [NF, hy.1, hy.2.1, hy.2.2.1, hy.2.2.2]
      · rw [List.length_append, htl]; simp; omega
      · intro v hv
        rcases List.mem_append.mp hv with hv | hv
        · exact hc' v (List.mem_of_mem_take hv)
        · rw [List.mem_singleton.mp hv]; exact .inl ⟨_, _, rfl⟩
      · intro v hv
        rcases List.mem_append.mp hv with hv | hv
        · exact ht' v (List.mem_of_mem_take hv)
        · rw [List.mem_singleton.mp hv]; exact ⟨_, rfl⟩
      · rw [hflat, hcat]
      · rw [List.length_append]; simp
      · rw [List.length_append, htl] at he
        have : rest.length - gone = 0 := by simp at he; omega
        rw [this]
        exact ⟨_, _, rfl⟩
end Mine
end

section -- LRepr
open PySem PySem.W PyProof.Rows PySem.Calls
set_option maxRecDepth 100000
namespace Mine
open Builtin
theorem slot_bytes_repr : Slot "bytes" "__repr__" "bytes.__repr__" :=
  .of (owner := "bytes") (n := "__repr__") (by rw [typeLookup_type, builtinLookup_eq_fast]; kernel_rfl) (by decide +kernel) (by decide +kernel) (by decide +kernel)
    (by first | exact .inl (by decide +kernel) | exact .inr (by decide +kernel)) (by rw [isSubtype_type]; kernel_rfl)
theorem entry_bytes_repr : entryFor table "bytes.__repr__" = some Builtin.«bytes.__repr__» := entryFor_of_tree (by kernel_rfl)
theorem args_bytes_repr_1 (a : Value) : argsOk "bytes.__repr__" ⟨[a], []⟩ := by
  unfold argsOk; rw [signature?_of (id := "bytes.__repr__") (n := ['_', '_', 'r', 'p', 'e', 'r', '_', '_']) (o := ['s', 'e', 't', 'y', 'b']) (by kernel_rfl) FB.owner_bytes]; kernel_rfl

theorem lit_fold (sh : UInt8 → Array Nat) (h : ∀ c, (sh c).size ≤ 4) (l : List UInt8) (acc : Array Nat) : (l.foldl (fun acc c => acc ++ sh c) acc).size ≤ acc.size + 4 * l.length := by
  induction l generalizing acc with
  | nil => simp
  | cons c r ih =>
    rw [List.foldl_cons]
    have h1 := ih (acc ++ sh c)
    have h2 := h c
    rw [Array.size_append] at h1
    rw [List.length_cons]; omega
theorem literal_le (b : Array UInt8) : (Bytes.literal b false).length ≤ 4 * b.size + 3 := by
  unfold Bytes.literal
  show (Array.push _ _).size ≤ _
  rw [Array.size_push]
  rcases b with ⟨l⟩
  rw [List.foldl_toArray']
  · refine Nat.le_trans (Nat.succ_le_succ (lit_fold _ (fun c => ?_) l _)) ?_
    · dsimp only
      (repeat' split) <;> simp
    · simp; omega
  · simp

theorem gives_bytes_repr (b : Array UInt8) (t : Tok) (h : b.size ≤ 1000000) : Gives (Builtin.«bytes.__repr__» ⟨[.bytes b t], []⟩) (.str (Bytes.literal b false)) := by
  have hl : Bytes.tooLong (4 * b.size + 3 + 0) = false := KBy.tooLong_not (by omega)
  have e : Builtin.«bytes.__repr__» ⟨[.bytes b t], []⟩ = retStr (Bytes.literal b false) := by
    show (Bytes.literalAsked b >>= fun x => retStr x) = _
    unfold Bytes.literalAsked
    rw [hl]
    rfl
  rw [e]
  exact .of_eq rfl
theorem reprIs_bytes {prog : Program} {w : World} (b : Array UInt8) (t : Tok) (h : b.size ≤ 1000000) : ReprIs prog w (.bytes b t) (Bytes.literal b false) := fun n hn _ _ s _ hq => by
  have hn' : n ≤ sizeLine := by omega
  rw [pyReprUnder_leaf (v := .bytes b t) hn' (fun _ e => nomatch e)]
  unfold pyRepr
  exact wpAny_bind (wpAny_pyReprObj_gives (typeIs_bytes s b t) slot_bytes_repr entry_bytes_repr (args_bytes_repr_1 _) (gives_bytes_repr b t h) (wpAny_pure (hq _)) (hx := by have := literal_le b; rw [sizeLine_eq]; omega))

/-- the text of what join_below tells -/
def reprT (r : Int × Int × Option (Array UInt8)) : Str := tupleText [toString r.1, toString r.2.1, match r.2.2 with | some b => Bytes.literal b false | none => "None"]

theorem reprT_all {prog : Program} {w : World} {r : Int × Int × Option (Array UInt8)} {t1 t2 : Tok} {z : Value} (hz : TxtIs r.2.2 z) (h1 : 0 ≤ r.1 ∧ r.1 ≤ 10) (h2 : 0 ≤ r.2.1 ∧ r.2.1 ≤ 1000) (hb : ∀ b, r.2.2 = some b → b.size ≤ 1000000) :
    ReprAll prog w [.int r.1 t1, .int r.2.1 t2, z] [toString r.1, toString r.2.1, match r.2.2 with | some b => Bytes.literal b false | none => "None"] := by
  refine .cons (ReprIs.int _ ?_) (.cons (ReprIs.int _ ?_) (.cons ?_ .nil))
  · refine Nat.lt_of_le_of_lt (Nat.log2_le_self _) ?_
    omega
  · refine Nat.lt_of_le_of_lt (Nat.log2_le_self _) ?_
    omega
  · cases hr : r.2.2 with
    | none => rw [hr] at hz; have hz' : z = .none := hz; subst hz'; exact ReprIs.none
    | some b => rw [hr] at hz; obtain ⟨t, rfl⟩ := hz; exact reprIs_bytes b t (hb b hr)

theorem repr_tup {prog : Program} {w : World} {A : Around} {E : Value → Shared → Prop} {s : Shared} {h₀ : Heap} {L a : Addr} {o : Obj} {news : List (Addr × Obj)} {r : Int × Int × Option (Array UInt8)} {Q : Value → Shared → Prop} (N : News h₀ L s.heap news) (hm : (a, o) ∈ news) (ht : TupIs r o)
    (hg : A.guards = some []) (hu : A.units + 1 < cLine) (h1 : 0 ≤ r.1 ∧ r.1 ≤ 10) (h2 : 0 ≤ r.2.1 ∧ r.2.1 ≤ 1000) (hb : ∀ b, r.2.2 = some b → b.size ≤ 100000)
    (h : ∀ u tk, Q (.str (reprT r) u) { s with toks := tk }) : wpAny (model prog w) A (call (.builtin "repr") [.ref a]) Q E s := by
  obtain ⟨t1, t2, z, rfl, hz⟩ := ht
  have ha := (N _ hm).1
  have hT : s.TypeIs (.ref a) "tuple" := ⟨_, ha, rfl⟩
  refine call_repr_slot hu hT F.slot_tuple_repr (call_tuple_repr (g := []) hT hg (fun _ h => nomatch h) ha rfl (reprT_all hz h1 h2 (fun b hb' => Nat.le_trans (hb b hb') (by decide))) (fun u tk => ⟨_, _, rfl, h u tk⟩) ?_)
  have e1 : ∀ i : Int, 0 ≤ i ∧ i ≤ 1000 → (Str.ofString (toString i)).length ≤ 5 := fun i hi => by rw [PySem.ofString_length]; exact int_text_length_le10 (a := i) (k := 4) (by omega) (by omega)
  have e2 := join_length_add [Str.ofString (toString r.1), Str.ofString (toString r.2.1), match r.2.2 with | some b => Bytes.literal b false | none => "None"] (by simp)
  have e3 : (match r.2.2 with | some b => Bytes.literal b false | none => ("None" : Str)).length ≤ 400003 := by
    cases hr : r.2.2 with
    | none => decide
    | some b => have := literal_le b; have := hb b hr; show (Bytes.literal b false).length ≤ _; omega
  have e4 := e1 r.1 (by omega)
  have e5 := e1 r.2.1 (by omega)
  unfold tupleText
  rw [strLen_append, strLen_append, sizeLine_eq]
  simp only [piled_cons, piled_nil] at e2
  have e6 : (Str.ofString "(").length = 1 := by decide
  have e7 : ∀ (a b c : Str), (Str.ofString (if ([a, b, c].length == 1) = true then ",)" else ")")).length ≤ 2 := fun a b c => (by decide : (Str.ofString ")").length ≤ 2)
  have e8 := e7 (Str.ofString (toString r.1)) (Str.ofString (toString r.2.1)) (match r.2.2 with | some b => Bytes.literal b false | none => "None")
  omega
theorem eqAt_bytes {A : Around} {s : Shared} (b : Array UInt8) (t u : Tok) : SeqAt.EqAt A s (.bytes b t) (.bytes b u) true := fun prog w E Q hq => by
  unfold eqBool
  refine wpAny_holding ?_
  refine wpAny_ite_split (fun _ => wpAny_bind (wpAny_rule (wpAny_pure hq))) (fun _ => ?_)
  refine wpAny_bind (W.eq_bytes (b := b) (c := b) (t := t) (u := u) ?_)
  rw [beq_self_eq_true]
  exact wpAny_truthy_bool hq
theorem eqAt_int {A : Around} {s : Shared} (i : Int) (t u : Tok) : SeqAt.EqAt A s (.int i t) (.int i u) true := by
  have := SeqAt.EqAt.int_int (A := A) (s := s) i t i u
  rwa [beq_self_eq_true] at this
theorem eqAt_txt {A : Around} {s : Shared} {x : Option (Array UInt8)} {z z' : Value} (h : TxtIs x z) (h' : TxtIs x z') : SeqAt.EqAt A s z z' true := by
  cases x with
  | none =>
    have e : z = .none := h
    have e' : z' = .none := h'
    subst e; subst e'
    exact SeqAt.EqAt.same _
  | some b =>
    obtain ⟨t, rfl⟩ := h
    obtain ⟨u, rfl⟩ := h'
    exact eqAt_bytes b t u
theorem tup_ne {prog : Program} {w : World} {A : Around} {E : Value → Shared → Prop} {s : Shared} {h₀ : Heap} {L a b : Addr} {o o' : Obj} {news : List (Addr × Obj)} {r : Int × Int × Option (Array UInt8)} {Q : Value → Shared → Prop} (N : News h₀ L s.heap news) (ha : (a, o) ∈ news) (hb : (b, o') ∈ news) (h1 : TupIs r o) (h2 : TupIs r o')
    (hu : A.units < cLine) (h : Q (.bool false) s) : wpAny (model prog w) A (compareOp .NotEq (.ref a) (.ref b)) Q E s := by
  obtain ⟨t1, t2, z, rfl, hz⟩ := h1
  obtain ⟨u1, u2, z', rfl, hz'⟩ := h2
  refine cmp_ofNotEq ?_
  refine SeqAt.RcNeAt.tuples (items := #[.int r.1 t1, .int r.2.1 t2, z]) (items2 := #[.int r.1 u1, .int r.2.1 u2, z']) (e := fun _ => true) ⟨_, (N _ ha).1, rfl, _, rfl⟩ ⟨_, (N _ hb).1, rfl, _, rfl⟩ hu (fun j hj1 hj2 => ?_) prog w E Q h
  match j, hj1, hj2 with
  | 0, _, _ => exact eqAt_int _ _ _
  | 1, _, _ => exact eqAt_int _ _ _
  | 2, _, _ => exact eqAt_txt hz hz'
end Mine
end

section -- LLoop2
open PySem PySem.W PyProof.Rows PySem.Calls PyProof.V PySem.Spec
set_option maxRecDepth 100000
namespace Mine
section
variable {prog : Program} {w : World} {A : Around} {h₀ : Heap} {L : Addr} {m : Str → Option Value} {env : Env} {ct elt : PySem.Expr} {x : Str} {scope : Scope} {cl : List (Str × Addr)} {s : Shared} {S : List (Addr × Obj) → Prop} {P : Nat → Value → Prop} {Fin : List Value → List (Addr × Obj) → Prop} {news : List (Addr × Obj)}
/-- a comprehension with a test: its turns by an invariant -/
theorem comp_restT {n : Nat} (J : Nat → List Value → List (Addr × Obj) → Prop) (hj : J 0 [] news)
    (turn : ∀ i ys nx, i < n → J i ys nx → ∀ v I oI C oC D m₂ h tk (E' : Value → Shared → Prop), P i v → LCg.NsObj oC m₂ → m₂ x = some v → Fr h₀ L h m → News h₀ L h ((I, oI) :: (C, oC) :: (D, LCg.lst ys) :: nx) → LCg.Off3 I C D nx → ((@Ne Nat I C) ∧ (@Ne Nat I D) ∧ (@Ne Nat C D)) →
      wpAny (model prog w) A (isTrue ct (compEnvC scope cl C env) (eval ct (compEnvC scope cl C env))) (fun ok s' => if ok = true then
        wpAny (model prog w) A (eval elt (compEnvC scope cl C env)) (LCg.CompEnd h₀ L m { s with heap := h, toks := tk } I oI C oC D (LCg.lst ys) S (fun y nx' => J (i + 1) (ys ++ [y]) nx')) E' s'
        else LCg.CompEnd h₀ L m { s with heap := h, toks := tk } I oI C oC D (LCg.lst ys) S (fun _ nx' => J (i + 1) ys nx') Value.none s') E' { s with heap := h, toks := tk })
    (fin : ∀ ys nx, J n ys nx → Fin ys nx) : LCt.CompRestT prog w A h₀ L m env ct elt x scope cl s S P Fin n 0 [] news := by
  have key : ∀ (k i : Nat) (ys : List Value) (nx : List (Addr × Obj)), i + k = n → J i ys nx → LCt.CompRestT prog w A h₀ L m env ct elt x scope cl s S P Fin k i ys nx := by
    intro k
    induction k with
    | zero =>
      intro i ys nx hi hJ
      have e : i = n := by omega
      subst e
      exact LCt.CompRestT.zero (fin ys nx hJ)
    | succ k ih =>
      intro i ys nx hi hJ
      refine LCt.CompRestT.succ ?_
      intro v I oI C oC D m₂ h tk E' hv hC hx F N off ne
      refine wpAny_mono (turn i ys nx (by omega) hJ v I oI C oC D m₂ h tk E' hv hC hx F N off ne) (fun ok s' hq => ?_) fun _ _ e => e
      cases ok with
      | true =>
        rw [if_pos rfl] at hq ⊢
        refine wpAny_mono hq (fun y s₂ hq => ?_) fun _ _ e => e
        exact compEnd_mono hq fun y nx' hJ' => ih (i + 1) _ _ (by omega) hJ'
      | false =>
        rw [if_neg Bool.false_ne_true] at hq ⊢
        exact compEnd_mono hq fun _ nx' hJ' => ih (i + 1) _ _ (by omega) hJ'
  exact key n 0 [] news (by omega) hj
end
/-- what the law draws from -/
def PoolIs (PV : List Value) : Prop := PV.length = 10 ∧ ∀ v ∈ PV, Cell v ∧ ∀ b, txt v = some b → b.size ≤ 3
theorem poolIs {t0 t1 t2 t3 t4 t5 t6 t9 : Tok} : PoolIs [.bytes #[] t0, .bytes #[97] t1, .bytes #[98, 99, 100] t2, .int 5 t3, .int (-72) t4, .int 0 t5, .bytes #[0, 101] t6, .none, .bool true, .bytes #[] t9] := by
  refine ⟨rfl, fun v hv => ?_⟩
  simp only [List.mem_cons, List.not_mem_nil, or_false] at hv
  rcases hv with rfl | rfl | rfl | rfl | rfl | rfl | rfl | rfl | rfl | rfl
  · exact ⟨.inl ⟨_, _, rfl⟩, fun b hb => by cases hb; decide⟩
  · exact ⟨.inl ⟨_, _, rfl⟩, fun b hb => by cases hb; decide⟩
  · exact ⟨.inl ⟨_, _, rfl⟩, fun b hb => by cases hb; decide⟩
  · exact ⟨.inr (.inl ⟨_, rfl⟩), fun b hb => by cases hb; decide⟩
  · exact ⟨.inr (.inr (.inl ⟨_, rfl⟩)), fun b hb => by cases hb; decide⟩
  · exact ⟨.inr (.inr (.inr (.inl ⟨_, rfl⟩))), fun b hb => by cases hb; decide⟩
  · exact ⟨.inl ⟨_, _, rfl⟩, fun b hb => by cases hb; decide⟩
  · exact ⟨.inr (.inr (.inr (.inr (.inl rfl)))), fun b hb => by cases hb⟩
  · exact ⟨.inr (.inr (.inr (.inr (.inr rfl)))), fun b hb => by cases hb⟩
  · exact ⟨.inl ⟨_, _, rfl⟩, fun b hb => by cases hb; decide⟩
theorem abs_nonneg {l : List Int} : ∀ x ∈ l.map (fun k => if k < 0 then -k else k), (0 : Int) ≤ x := by
  intro x hx
  obtain ⟨k, _, rfl⟩ := List.mem_map.mp hx
  split <;> omega
end Mine
namespace Mine
/-- two addresses apart (kept out of omega's sight) -/
structure NeA (a b : Addr) : Prop where
  ne : @Ne Nat a b
theorem NeA.symm {a b : Addr} (h : NeA a b) : NeA b a := ⟨Ne.symm h.ne⟩
theorem off_ne {I C D D' : Addr} {o : Obj} {nx : List (Addr × Obj)} (h : LCg.Off3 I C D' nx) (hm : (D, o) ∈ nx) : NeA I D ∧ NeA C D ∧ NeA D' D := by
  obtain ⟨h1, h2, h3⟩ := h.mem _ hm
  exact ⟨⟨Ne.symm h1⟩, ⟨Ne.symm h2⟩, ⟨Ne.symm h3⟩⟩
theorem off1_ne {D D' : Addr} {o : Obj} {nx : List (Addr × Obj)} (h : LCg.Off1 D' nx) (hm : (D, o) ∈ nx) : NeA D' D := by
  induction nx with
  | nil => cases hm
  | cons p r ih =>
    rcases List.mem_cons.mp hm with rfl | hm
    · exact ⟨Ne.symm h.1⟩
    · exact ih h.2 hm
theorem all_ne {D x : Addr} {o : Obj} {nx : List (Addr × Obj)} (h : ∀ p ∈ nx, (@Ne Nat x p.1)) (hm : (D, o) ∈ nx) : NeA x D := ⟨h _ hm⟩
theorem lt_ne {D x : Addr} {o : Obj} {nx : List (Addr × Obj)} (h : ∀ p ∈ nx, p.1 < x) (hm : (D, o) ∈ nx) : NeA x D := ⟨Nat.ne_of_gt (h _ hm)⟩
end Mine
namespace Mine
theorem law_sel {w : World} {h₀ h : Heap} {L a1 a2 a3 a4 a5 a6 P O Sl D C2 C1 : Addr} {o1 o2 o3 o4 o5 o6 oO oS oD oc2 oc1 : Obj} {PV : List Value} {n : Nat} {ns : List Int}
    (N : News h₀ L h [(a1, o1), (a2, o2), (a3, o3), (a4, o4), (a5, o5), (a6, o6), (P, W.listOf PV.toArray n), (O, oO), (Sl, oS), (D, oD), (C2, oc2), (C1, oc1)])
    (hp : PoolIs PV) (hc2 : oc2.data = .cell (some (.ref P))) (hc1 : oc1.data = .cell (some (.ref D))) (hS : StockIs w D O ns 0 oD oO) (hln : ns.length ≤ 40) (hps : ∀ x ∈ ns, 0 ≤ x) (hlo : (D == sysModules) = false)
    (n1 : @Ne Nat D O) (n2 : @Ne Nat D P) (n3 : @Ne Nat D C1) (n4 : @Ne Nat D C2) (n5 : @Ne Nat O P) (n6 : @Ne Nat O C1) (n7 : @Ne Nat O C2) :
    ∃ (P D O : Addr) (oD oO oc1 oc2 : Obj) (PV : List Value) (n : Nat) (ns : List Int), News h₀ L h [(C2, oc2), (C1, oc1), (P, W.listOf PV.toArray n), (D, oD), (O, oO)] ∧ PoolIs PV ∧ oc2.data = .cell (some (.ref P)) ∧ oc1.data = .cell (some (.ref D)) ∧ StockIs w D O ns 0 oD oO ∧ ns.length ≤ 40 ∧ (∀ x ∈ ns, 0 ≤ x) ∧ (D == sysModules) = false ∧
      NeA D O ∧ NeA D P ∧ NeA D C1 ∧ NeA D C2 ∧ NeA O P ∧ NeA O C1 ∧ NeA O C2 :=
  ⟨P, D, O, oD, oO, oc1, oc2, PV, n, ns, fun p hp => N p (by
    simp only [List.mem_cons, List.not_mem_nil, or_false] at hp ⊢
    rcases hp with h | h | h | h | h <;> simp [h]), hp, hc2, hc1, hS, hln, hps, hlo, ⟨n1⟩, ⟨n2⟩, ⟨n3⟩, ⟨n4⟩, ⟨n5⟩, ⟨n6⟩, ⟨n7⟩⟩
theorem stop_pool {PV : List Value} {p : Prop} (_ : PoolIs PV) (h : Stop p) : p := h
end Mine
namespace Mine
def Off2 (D O : Addr) (l : List (Addr × Obj)) : Prop := ∀ p ∈ l, (@Ne Nat p.1 D) ∧ (@Ne Nat p.1 O)
theorem Off2.nil {D O : Addr} : Off2 D O [] := fun _ h => nomatch h
theorem Off2.cons {D O x : Addr} {o : Obj} {l : List (Addr × Obj)} (h1 : NeA x D) (h2 : NeA x O) (h : Off2 D O l) : Off2 D O ((x, o) :: l) := fun p hp => by
  rcases List.mem_cons.mp hp with rfl | hp
  · exact ⟨h1.ne, h2.ne⟩
  · exact h p hp
section
variable {w : World} {D O : Addr} {ns : List Int} {k many : Int} {tm : Tok} {oD oO : Obj} {pre post : List (Addr × Obj)}
    {mean : ExcName → Option Value} {mg mb : Str → Option Value} {dp un : Nat} {gd : Option (List Code)} {cn : Str} {cs : Scope} {a : Addr} {ccd : Value} {cl : List (Str × Addr)} {outer : List Env} {A₀ : Around}
    {base h₀ : Heap} {L : Addr} {m : Str → Option Value} {s : Shared} {Q E : Value → Shared → Prop}
theorem draw_use (N : News h₀ L s.heap (pre ++ (D, oD) :: (O, oO) :: post)) (hS : StockIs w D O ns k oD oO) (hD : (D == sysModules) = false) (hDO : NeA D O) (hn : ns.length ≤ 40) (hp : ∀ x ∈ ns, 0 ≤ x) (hk0 : 0 ≤ k) (hk1 : k < 1000) (hm : 0 < many) (hm' : many ≤ 100)
    (hpre : Off2 D O pre) (hpost : Off2 D O post) (F : Fr h₀ L s.heap m) (B : Below A₀ base outer h₀) (X : (hd.heap_39 w.params).In h₀) (T : Top hd.view_39 (looseW hd.view_39 []) mean mg mb h₀) (hcs : cs.kind = .function) (hd : dp + 1 ≤ recursionLimit) (hu : un + 100 * 1 ≤ cLine)
    (hret : ∀ i t oD' h' tk', Fr h₀ L h' m → News h₀ L h' (pre ++ (D, oD') :: (O, oO) :: post) → StockIs w D O ns (k + 1) oD' oO → 0 ≤ i → i < many → Q (.int i t) { s with heap := h', toks := tk' }) :
    wpAny (model PySem.Challenge.rw_rr0061_01.row.prog w) (ktrTop dp un gd cn cs L a ccd cl outer) (call (.ref 54) [.ref D, .int many tm]) Q E s := by
  refine CSpec.use (draw_spec hS hD hDO.ne hk0 hk1 hn hp hm hm') (pre ++ post) B X T F N ?_ ?_ ?_ hcs hd hu ?_
  · intro p hp
    refine List.mem_append.mpr (.inr ?_)
    rcases List.mem_cons.mp hp with rfl | hp
    · exact .head _
    · rw [List.mem_singleton.mp hp]; exact .tail _ (.head _)
  · intro p hp
    rcases List.mem_append.mp hp with hp | hp
    · exact List.mem_append.mpr (.inl hp)
    · exact List.mem_append.mpr (.inr (.tail _ (.tail _ hp)))
  · intro p hp q hq
    have h2 : (@Ne Nat q.1 D) ∧ (@Ne Nat q.1 O) := (List.mem_append.mp hq).elim (hpre q) (hpost q)
    rcases List.mem_cons.mp hp with rfl | hp
    · exact fun e => h2.1 e.symm
    · rw [List.mem_singleton.mp hp]; exact fun e => h2.2 e.symm
  · rintro r fp' h' tk' F' N' ⟨i, t, oD', hi0, hi1, rfl, rfl, hS'⟩ _ _ _
    refine hret i t oD' h' tk' F' (fun p hp => N' p ?_) hS' hi0 hi1
    rcases List.mem_append.mp hp with hp | hp
    · exact List.mem_append.mpr (.inr (List.mem_append.mpr (.inl hp)))
    · rcases List.mem_cons.mp hp with rfl | hp
      · exact .head _
      rcases List.mem_cons.mp hp with rfl | hp
      · exact .tail _ (.head _)
      · exact List.mem_append.mpr (.inr (List.mem_append.mpr (.inr hp)))
end
end Mine
end

section -- LLoop3
open PySem PySem.W PyProof.Rows PySem.Calls PyProof.V PySem.Spec
set_option maxRecDepth 100000
namespace Mine
theorem rep_one {v : Value} : ∀ k : Nat, List.foldl (fun x1 x2 => x1 ++ x2) #[] (List.replicate k #[v]) = (List.replicate k v).toArray := by
  intro k
  have key : ∀ (k : Nat) (acc : Array Value), List.foldl (fun x1 x2 => x1 ++ x2) acc (List.replicate k #[v]) = acc ++ (List.replicate k v).toArray := by
    intro k
    induction k with
    | zero => intro acc; simp
    | succ k ih =>
      intro acc
      rw [List.replicate_succ, List.foldl_cons, ih, List.replicate_succ, Array.append_assoc]
      congr 1
      simp
  rw [key]
  simp
section
variable {prog : Program} {w : World} {A : Around} {E : Value → Shared → Prop} {s : Shared} {h₀ : Heap} {L l a b : Addr} {m : Str → Option Value} {news : List (Addr × Obj)} {v : Value} {n n' : Nat} {x : Int} {u : Tok} {us ws : List Value} {Q : Value → Shared → Prop}
theorem mul_one (F : Fr h₀ L s.heap m) (N : News h₀ L s.heap news) (hm : (l, W.listOf #[v] n) ∈ news) (h0 : 0 ≤ x) (h1 : x ≤ 1000)
    (h : ∀ D h' xs, List.length xs = x.toNat → (∀ y ∈ xs, y = v) → Fr h₀ L h' m → News h₀ L h' ((D, W.listOf xs.toArray 0) :: news) → (∀ p ∈ news, p.1 < D) → Q (.ref D) { s with heap := h' }) :
    wpAny (model prog w) A (binaryOp .Mult (.ref l) (.int x u)) Q E s := by
  refine mul_list F N (N _ hm).1 (by omega) (by omega) (by have : (#[v] : Array Value).size = 1 := rfl
                                                           rw [this]; omega) (fun h' F' N' => ?_)
  have e : (if (#[v] : Array Value).isEmpty = true then 0 else x.toNat) = x.toNat := rfl
  rw [e, rep_one] at N'
  exact h _ h' _ (List.length_replicate ..) (fun y hy => (List.mem_replicate.mp hy).2) F' N' fun p hp => Heap.lt_size (N p hp).1
theorem add_led (F : Fr h₀ L s.heap m) (N : News h₀ L s.heap news) (ha : (a, W.listOf us.toArray n) ∈ news) (hb : (b, W.listOf ws.toArray n') ∈ news) (hz : us.length + ws.length ≤ 1000)
    (h : ∀ D h', Fr h₀ L h' m → News h₀ L h' ((D, W.listOf (us ++ ws).toArray 0) :: news) → (∀ p ∈ news, p.1 < D) → Q (.ref D) { s with heap := h' }) :
    wpAny (model prog w) A (binaryOp .Add (.ref a) (.ref b)) Q E s :=
  kmk_add_lit (its := us.toArray) (its2 := ws.toArray) F N ⟨_, (N _ ha).1, rfl, n, rfl⟩ ⟨_, (N _ hb).1, rfl, n', rfl⟩ rfl h (by rw [sizeLine_eq]; show us.length + ws.length ≤ _; omega)
end
theorem joinR_fits {ws : List Value} {most : Nat} {longest : Int} (hm : most ≤ 100) (hw : ws.length ≤ 100) (hz : ∀ v ∈ ws, ∀ b, txt v = some b → b.size ≤ 1000) :
    (0 ≤ (joinR ws most longest).1 ∧ (joinR ws most longest).1 ≤ 10) ∧ (0 ≤ (joinR ws most longest).2.1 ∧ (joinR ws most longest).2.1 ≤ 1000) ∧ ∀ b, (joinR ws most longest).2.2 = some b → b.size ≤ 100000 := by
  unfold joinR
  have hg := grab_length (ws.take most)
  have hl : (grab (ws.take most)).length ≤ 100 := by rw [List.length_take] at hg; omega
  have hs : (flat (grab (ws.take most)).reverse).size ≤ 100000 := by
    have h1 := flat_size (grab (ws.take most)).reverse #[]
    have h2 := sum_le (grab (ws.take most)).reverse (fun b hb => by
      obtain ⟨v, hv, e⟩ := grab_mem (List.mem_reverse.mp hb)
      exact hz v (List.mem_of_mem_take hv) b e)
    rw [List.length_reverse] at h2
    have h3 : (#[] : Array UInt8).size = 0 := rfl
    show (List.foldl (· ++ ·) #[] (grab (ws.take most)).reverse).size ≤ 100000
    omega
  split
  · rename_i v1 v0 r
    split
    · rename_i b1 b0 e1 e0
      split
      · exact ⟨⟨by dsimp only; omega, by dsimp only; omega⟩, ⟨by dsimp only; omega, by dsimp only; omega⟩, fun b hb => by cases hb; exact Nat.le_trans (hz v0 (by simp) _ e0) (by decide)⟩
      · split
        · exact ⟨⟨by dsimp only; omega, by dsimp only; omega⟩, ⟨by dsimp only; omega, by dsimp only; omega⟩, fun b hb => by cases hb⟩
        · exact ⟨⟨by dsimp only; omega, by dsimp only; omega⟩, ⟨by dsimp only; omega, by dsimp only; omega⟩, fun b hb => by cases hb; exact hs⟩
    · exact ⟨⟨by dsimp only; omega, by dsimp only; omega⟩, ⟨by dsimp only; omega, by dsimp only; omega⟩, fun b hb => by cases hb⟩
  · exact ⟨⟨by dsimp only; omega, by dsimp only; omega⟩, ⟨by dsimp only; omega, by dsimp only; omega⟩, fun b hb => by cases hb⟩
theorem joinR_fits' {ws : List Value} {most : Nat} {longest : Int} {r : Int × Int × Option (Array UInt8)} (e : joinR ws most longest = r) (hm : most ≤ 100) (hw : ws.length ≤ 100) (hz : ∀ v ∈ ws, ∀ b, txt v = some b → b.size ≤ 1000) :
    (0 ≤ r.1 ∧ r.1 ≤ 10) ∧ (0 ≤ r.2.1 ∧ r.2.1 ≤ 1000) ∧ ∀ b, r.2.2 = some b → b.size ≤ 100000 := e ▸ joinR_fits hm hw hz
section
variable {prog : Program} {w : World} {A : Around} {E : Value → Shared → Prop} {s : Shared} {t u : Tok} {Q : Value → Shared → Prop}
theorem ne_same_str {x : Str} (h : Q (.bool false) s) : wpAny (model prog w) A (compareOp .NotEq (.str x t) (.str x u)) Q E s := by
  refine PySem.P.ne_str ?_
  have e : (x.cps.toList != x.cps.toList) = false := by simp
  rw [e]
  exact h
theorem ne_same_bytes {b : Array UInt8} (h : Q (.bool false) s) : wpAny (model prog w) A (compareOp .NotEq (.bytes b t) (.bytes b u)) Q E s := by
  refine W.ne_bytes ?_
  have e : (b.toList != b.toList) = false := by simp
  rw [e]
  exact h
end
theorem News.sub {h₀ h : Heap} {L : Addr} {l l' : List (Addr × Obj)} (N : News h₀ L h l) (e : ∀ p ∈ l', p ∈ l) : News h₀ L h l' := fun p hp => N p (e p hp)
theorem off1_mem {D' : Addr} {nx : List (Addr × Obj)} (h : LCg.Off1 D' nx) : ∀ p ∈ nx, (@Ne Nat p.1 D') := by
  induction nx with
  | nil => intro p hp; cases hp
  | cons q r ih =>
    intro p hp
    rcases List.mem_cons.mp hp with rfl | hp
    · exact h.1
    · exact ih h.2 p hp
theorem take_snoc {ts : List Value} {j : Nat} {v : Value} {b : Array UInt8} (hv : ts[j]? = some v) (e : txt v = some b) : (ts.take (j + 1)).filterMap txt = (ts.take j).filterMap txt ++ [b] := by
  rw [List.take_add_one, hv, List.filterMap_append]
  simp [e]
theorem flat_small {ts : List Value} (h : ∀ v ∈ ts, ∀ b, txt v = some b → b.size ≤ 3) : (flat (grab ts)).size ≤ 3 * ts.length ∧ ((grab ts).map (·.size)).sum ≤ 3 * ts.length := by
  have key : ((grab ts).map (·.size)).sum ≤ 3 * (grab ts).length := by
    have : ∀ g : List (Array UInt8), (∀ b ∈ g, b.size ≤ 3) → (g.map (·.size)).sum ≤ 3 * g.length := by
      intro g
      induction g with
      | nil => intro _; simp
      | cons b r ih =>
        intro hb
        have h1 := hb b (.head _)
        have h2 := ih fun c hc => hb c (.tail _ hc)
        rw [List.map_cons, List.sum_cons, List.length_cons]
        omega
    refine this _ fun b hb => ?_
    obtain ⟨v, hv, e⟩ := grab_mem hb
    exact h v hv b e
  have h1 := flat_size (grab ts) #[]
  have h3 : (#[] : Array UInt8).size = 0 := rfl
  have h4 := grab_length ts
  refine ⟨?_, by omega⟩
  show (List.foldl (· ++ ·) #[] (grab ts)).size ≤ _
  omega
section
variable {w : World} {X D O : Addr} {ns : List Int} {ts : List Value} {n : Nat} {k : Int} {oD oO : Obj} {pre post : List (Addr × Obj)}
    {mean : ExcName → Option Value} {mg mb : Str → Option Value} {dp un : Nat} {gd : Option (List Code)} {cn : Str} {cs : Scope} {a : Addr} {ccd : Value} {cl : List (Str × Addr)} {outer : List Env} {A₀ : Around}
    {base h₀ : Heap} {L : Addr} {m : Str → Option Value} {s : Shared} {Q E : Value → Shared → Prop}
theorem all_use (N : News h₀ L s.heap ((X, W.listOf ts.toArray n) :: (pre ++ (D, oD) :: (O, oO) :: post))) (oX : LCg.Off1 X (pre ++ (D, oD) :: (O, oO) :: post)) (hS : StockIs w D O ns k oD oO) (hD : (D == sysModules) = false) (hDO : NeA D O) (hn : ns.length ≤ 40) (hp : ∀ x ∈ ns, 0 ≤ x) (hk0 : 0 ≤ k) (hk1 : k + ts.length < 1000)
    (hpre : Off2 D O pre) (hpost : Off2 D O post) (hc : ∀ v ∈ ts, Cell v) (ht : ∀ v ∈ ts, ∃ b, txt v = some b) (hl : 2 ≤ ts.length) (hl' : ts.length ≤ 100) (hz : (flat (grab ts)).size ≤ 500)
    (F : Fr h₀ L s.heap m) (B : Below A₀ base outer h₀) (X' : (hd.heap_39 w.params).In h₀) (T : Top hd.view_39 (looseW hd.view_39 []) mean mg mb h₀) (hcs : cs.kind = .function) (hd : dp + 6 ≤ recursionLimit) (hu : un + 100 * 6 ≤ cLine)
    (hret : ∀ t oD' k' h' tk', Fr h₀ L h' m → News h₀ L h' ((X, W.listOf ts.toArray n) :: (pre ++ (D, oD') :: (O, oO) :: post)) → k ≤ k' → k' ≤ k + ts.length → StockIs w D O ns k' oD' oO → Q (.bytes (flat (grab ts)) t) { s with heap := h', toks := tk' }) :
    wpAny (model PySem.Challenge.rw_rr0061_01.row.prog w) (ktrTop dp un gd cn cs L a ccd cl outer) (call (.ref 75) [.ref X, .ref D]) Q E s := by
  have oX' := off1_mem oX
  have hXD : @Ne Nat X D := fun e => oX' (D, oD) (List.mem_append.mpr (.inr (.head _))) e.symm
  have hXO : @Ne Nat X O := fun e => oX' (O, oO) (List.mem_append.mpr (.inr (.tail _ (.head _)))) e.symm
  refine CSpec.use (all_spec (n := n) hS hD hDO.ne hXD hXO hk0 hk1 hn hp hc ht hl hl' hz) (pre ++ post) B X' T F N ?_ ?_ ?_ hcs hd hu ?_
  · intro p hp
    rcases List.mem_cons.mp hp with rfl | hp
    · exact .head _
    refine .tail _ (List.mem_append.mpr (.inr ?_))
    rcases List.mem_cons.mp hp with rfl | hp
    · exact .head _
    · rw [List.mem_singleton.mp hp]; exact .tail _ (.head _)
  · intro p hp
    refine .tail _ ?_
    rcases List.mem_append.mp hp with hp | hp
    · exact List.mem_append.mpr (.inl hp)
    · exact List.mem_append.mpr (.inr (.tail _ (.tail _ hp)))
  · intro p hp q hq
    have h2 : (@Ne Nat q.1 D) ∧ (@Ne Nat q.1 O) := (List.mem_append.mp hq).elim (hpre q) (hpost q)
    rcases List.mem_cons.mp hp with rfl | hp
    · refine fun e => oX' q ?_ e.symm
      rcases List.mem_append.mp hq with hq | hq
      · exact List.mem_append.mpr (.inl hq)
      · exact List.mem_append.mpr (.inr (.tail _ (.tail _ hq)))
    rcases List.mem_cons.mp hp with rfl | hp
    · exact fun e => h2.1 e.symm
    · rw [List.mem_singleton.mp hp]; exact fun e => h2.2 e.symm
  · rintro r fp' h' tk' F' N' ⟨t, oD', k', rfl, rfl, hk, hk', hS'⟩ _ _ _
    refine hret t oD' k' h' tk' F' (fun p hp => N' p ?_) hk hk' hS'
    rcases List.mem_cons.mp hp with rfl | hp
    · exact .head _
    rcases List.mem_append.mp hp with hp | hp
    · exact List.mem_append.mpr (.inr (List.mem_append.mpr (.inl hp)))
    · rcases List.mem_cons.mp hp with rfl | hp
      · exact .tail _ (.head _)
      rcases List.mem_cons.mp hp with rfl | hp
      · exact .tail _ (.tail _ (.head _))
      · exact List.mem_append.mpr (.inr (List.mem_append.mpr (.inr hp)))
end
end Mine
end

section -- LLaw
open PySem PySem.W PyProof.Rows
set_option maxRecDepth 100000
namespace Mine
local macro_rules | `(tactic| walk_at "off2") => `(tactic| first | assumption | exact Off2.nil | (refine Off2.cons (by first | assumption | exact NeA.symm (by assumption)) (by first | assumption | exact NeA.symm (by assumption)) ?_; walk_at "off2"))
local macro_rules | `(tactic| walk_at "draw") => `(tactic| first
  | (refine draw_use (pre := [_, _, _]) (by k_asm) (by assumption) (by assumption) (by assumption) (by assumption) (by assumption) (by omega) (by omega) (by omega) (by omega) (by walk_at "off2") (by walk_at "off2") (by k_asm) (by assumption) (by assumption) (by assumption) rfl (by decide) (Nat.le_of_ble_eq_true rfl) ?_)
  | (refine draw_use (pre := [_, _, _, _]) (by k_asm) (by assumption) (by assumption) (by assumption) (by assumption) (by assumption) (by omega) (by omega) (by omega) (by omega) (by walk_at "off2") (by walk_at "off2") (by k_asm) (by assumption) (by assumption) (by assumption) rfl (by decide) (Nat.le_of_ble_eq_true rfl) ?_)
  | (refine draw_use (pre := [_, _, _, _, _, _]) (by k_asm) (by assumption) (by assumption) (by assumption) (by assumption) (by assumption) (by omega) (by omega) (by omega) (by omega) (by walk_at "off2") (by walk_at "off2") (by k_asm) (by assumption) (by assumption) (by assumption) rfl (by decide) (Nat.le_of_ble_eq_true rfl) ?_))
local macro_rules | `(tactic| walk_at "call ref") => `(tactic| (k_here; first
  | ((with_reducible show wpAny _ _ (call (Value.ref 54) _) _ _ _); k_dflt (walk_at "draw"); intro i' t' oD' h' tk' F' N' hS' hi0' hi1'; (try simp only [List.cons_append, List.nil_append] at N'))
  | ((with_reducible show wpAny _ _ (call (Value.ref _) _) _ _ _); refine Stop.mk ?_)))
local macro_rules | `(tactic| walk_at "compareOp NotEq ref ref") => `(tactic| (refine Stop.mk ?_))
local macro_rules | `(tactic| walk_at "pyIter ref") => `(tactic| ((with_reducible show wpAny _ _ (pyIter (Value.ref _)) (fun it s₂ => LoopAtV _ _ _ _ _ _ _ _ _ it s₂) _ _); k_here; refine Stop.mk ?_))
local macro_rules | `(tactic| walk_at "exec For Name Call cons nil") => `(tactic| (k_here; (rename Fr _ _ _ _ => lF'); (with_unfolding_all refine' For_invVF lF' ?k1 ?k2 ?_; (case k1 => exact rfl); (case k2 => exact rfl); k_whole)))
local macro_rules | `(tactic| walk_at "exec Assign cons ListComp") => `(tactic| (k_here; refine stop_pool (by assumption) ?_))
local macro_rules | `(tactic| walk_at "subscriptTail") => `(tactic| (k_here; (with_reducible show wpAny _ _ (subscriptTail _ _ (Value.ref _) (Value.int _ _)) _ _ _); refine stop_pool (by assumption) ?_))
local macro_rules | `(tactic| walk_at "call builtin:len") => `(tactic| (k_here; refine stop_pool (by assumption) ?_))
local macro_rules | `(tactic| walk_at "binaryOp Mult ref int") => `(tactic| (k_here; refine stop_pool (by assumption) ?_))
local macro_rules | `(tactic| walk_at "binaryOp Add ref ref") => `(tactic| (k_here; refine stop_pool (by assumption) ?_))
local macro_rules | `(tactic| walk_at "call builtin:repr") => `(tactic| (k_here; refine stop_pool (by assumption) ?_))
local macro_rules | `(tactic| walk_at "compareOp NotEq str str") => `(tactic| (refine stop_pool (by assumption) ?_))
local macro_rules | `(tactic| walk_at "eval ListComp") => `(tactic| (k_here; refine stop_pool (by assumption) ?_))
local macro_rules | `(tactic| walk_at "getMethod bytes") => `(tactic| (k_here; (with_reducible show wpAny _ _ (getMethod (Value.bytes _ _) (Str.ofString "join") _) _ _ _); refine method_join ?_))
local macro_rules | `(tactic| walk_at "call builtin:bytes.join") => `(tactic| (k_here; refine stop_pool (by assumption) ?_))
local macro_rules | `(tactic| walk_at "compareOp NotEq bytes bytes") => `(tactic| (refine stop_pool (by assumption) ?_))
local macro_rules | `(tactic| walk_at "CompSrcT") => `(tactic| (k_here; refine stop_pool (by assumption) ?_))
local macro_rules | `(tactic| walk_at "CompSrc") => `(tactic| (k_here; refine stop_pool (by assumption) ?_))
local macro_rules | `(tactic| walk_at "CompEnd") => `(tactic| (refine stop_pool (by assumption) ?_))
set_option maxHeartbeats 8000000 in
theorem law_holds : PySem.Challenge.rw_rr0061_01.Holds := hd (by
  k_go0
  dsimp only
  all_goals try k_fold
  k_steps
  rename Below callerA _ _ _ => K0
  rename Frag.In _ _ => KX
  rename Top _ _ _ _ _ _ => TT
  rename Fr _ _ _ _ => F0
  rename News _ _ _ _ => N0
  generalize (bindL _ _ _) = m0 at F0
  refine Stop.go (CSpec.make (jb_spec (vs := [.int 5 _, .bytes #[] _]) (by
      intro v hv
      rcases List.mem_cons.mp hv with rfl | hv
      · exact .inr (.inl ⟨_, rfl⟩)
      · rw [List.mem_singleton.mp hv]; exact .inl ⟨_, _, rfl⟩) (by
      intro v hv b hb
      rcases List.mem_cons.mp hv with rfl | hv
      · cases hb; decide
      · rw [List.mem_singleton.mp hv] at hb; cases hb; decide) (by decide) (by decide) (by simp) (by simp) (by decide) (by decide)) K0 KX TT F0 N0 (fun p hp => by rw [List.mem_singleton.mp hp]; exact .head _) rfl (by decide) (by decide) ?_)
  intro r x o h1 tk1 F1 N1 hx hr
  obtain ⟨rfl, hr⟩ := hr
  have hr' : TupIs (0, 2, some #[53]) o := hr
  clear hr
  k_steps
  rename News _ _ _ _ => N2
  refine Stop.go (tup_ne N2 (by k_mem) (.head _) hr' ⟨_, _, _, rfl, _, rfl⟩ (Nat.le_of_ble_eq_true rfl) ?_)
  k_steps
  rename News _ _ _ _ => N3
  rename Fr _ _ _ _ => F3
  refine Stop.go (CSpec.make (jb_spec (vs := [.none, .bytes #[] _]) (by
      intro v hv
      rcases List.mem_cons.mp hv with rfl | hv
      · exact .inr (.inr (.inr (.inr (.inl rfl))))
      · rw [List.mem_singleton.mp hv]; exact .inl ⟨_, _, rfl⟩) (by
      intro v hv b hb
      rcases List.mem_cons.mp hv with rfl | hv
      · cases hb
      · rw [List.mem_singleton.mp hv] at hb; cases hb; decide) (by decide) (by decide) (by simp) (by simp) (by decide) (by decide)) K0 KX TT F3 N3 (fun p hp => by rw [List.mem_singleton.mp hp]; exact .head _) rfl (by decide) (by decide) ?_)
  intro r x2 o2 h2 tk2 F4 N4 hx2 hr2
  obtain ⟨rfl, hr2⟩ := hr2
  have hr2' : TupIs (1, 2, none) o2 := hr2
  clear hr2
  k_steps
  rename News _ _ _ _ => N5
  refine Stop.go (tup_ne N5 (by k_mem) (.head _) hr2' ⟨_, _, _, rfl, rfl⟩ (Nat.le_of_ble_eq_true rfl) ?_)
  k_steps
  rename IsRange _ _ _ _ _ _ _ _ => hR
  rename News _ _ _ _ => N6
  rename Fr _ _ _ _ => F6
  rename IntsAre ys _ => hIA
  rename Obj.IsDictOf _ _ (strPairs _) => hDict
  obtain ⟨P, D, O, oD, oO, oc1, oc2, PV, nP, ns, N7, hPV, hcp, hcs, hS, hns, hnn, hlo, n1, n2, n3, n4, n5, n6, n7⟩ := law_sel N6 poolIs (by assumption) (by assumption) ⟨ys, ys.length, _, rfl, hIA, hDict⟩ (by rw [List.length_map, List.length_take]; omega) abs_nonneg (by assumption) (by omega) (by omega) (by omega) (by omega) (by omega) (by omega) (by omega)
  clear N6 hDict hIA N0 hr' hr2' hx hx2
  repeat (with_reducible rename (_ ∧ _) => hz9; clear hz9)
  refine Stop.go (iter_rangeJ (n := 5) (fun i m nx => ∃ u k oD, m = NF ["turn", "values", "above", "most", "longest", "told", "texts"] u _ ∧ nx = [(_, oc2), (_, oc1), (P, W.listOf PV.toArray nP), (D, oD), (O, oO)] ∧ StockIs _ D O _ k oD oO ∧ 0 ≤ k ∧ k ≤ 20 * (i : Int)) rfl hR (by decide) (by decide) F6 N7 ⟨_, 0, oD, NF.self, rfl, hS, by omega, by omega⟩ ?_ ?_)
  · intro i t m₁ nx h3 tk3 own hi hoff hJ F8 N8
    obtain ⟨u, k, oD, rfl, rfl, hS, hk0, hk1⟩ := hJ
    dsimp only at F8 N8 ⊢
    have hown2 : Off2 D O own := fun p hp => ⟨hoff p hp D (by simp), hoff p hp O (by simp)⟩
    simp only [List.cons_append, List.nil_append] at N8
    try k_fold
    k_steps
    unfold Stop
    k_dflt (refine LCg.Assign_ListComp_U (F₀ := by k_asm) (by rfl) (by with_unfolding_all rfl) (by with_unfolding_all rfl) (by decide) (by rfl) (by decide) (by rfl) (by rfl) (by rfl) ?_)
    k_steps
    rename IsRange _ _ _ _ _ _ _ _ => hR2
    rename News _ _ _ _ => N9
    rename Fr _ _ _ _ => F9
    rename StockIs _ _ _ _ _ _ _ => hS9
    rename (0 : Int) ≤ _ => hlo6
    rename @LT.lt Int _ _ 6 => hhi6
    generalize hcnt : (2 : Int) + _ = cnt at hR2
    refine Stop.go (LCg.CompSrc.range (n := cnt.toNat) (by rfl) F9 N9 hR2 (small_one (by omega) (by omega) (by omega) (by omega)) (by rw [rangeSize_nat]; simp) (by rw [sizeLine_eq]; omega) ?_)
    intro g'
    refine comp_rest (fun j ys nx => ys.length = j ∧ (∀ v ∈ ys, v ∈ PV) ∧ ∃ k' oD', nx = (_, oc2) :: (_, oc1) :: (P, W.listOf PV.toArray nP) :: (D, oD') :: (O, oO) :: own ∧ StockIs _ D O ns k' oD' oO ∧ k < k' ∧ k' ≤ k + 1 + (j : Int)) ⟨rfl, (fun _ h => nomatch h), k + 1, _, rfl, hS9, by omega, by omega⟩ ?_ ?_
    · rintro j ys nx hj ⟨hyl, hyP, k', oD', rfl, hS', hk2, hk3⟩ v I oI C oC D' m₂ h5 tk5 E' hv hC hx5 F10 N10 off ne
      obtain ⟨f1, f2, f3⟩ := off_ne (D := D) off (by k_mem)
      obtain ⟨f4, f5, f6⟩ := off_ne (D := O) off (by k_mem)
      have hj7 : j < 7 := by omega
      clear N8 ne hj
      k_steps
      rename News _ _ _ _ => N11
      rename StockIs _ _ _ _ _ _ _ => hS11
      rename (0 : Int) ≤ _ => hlo10
      rename @LT.lt Int _ _ 10 => hhi10
      obtain ⟨pv, hpv⟩ : ∃ v, PV[Int.toNat _]? = some v := ⟨_, List.getElem?_eq_getElem (by rw [hPV.1]; exact (Int.toNat_lt hlo10).mpr hhi10)⟩
      refine Stop.go (item_led N11 (by k_mem) hlo10 (by omega) hpv ?_)
      k_steps
      refine Stop.go (LCg.CompEnd.intro (by k_asm) N11 ((_, oc2) :: (_, oc1) :: (P, W.listOf PV.toArray nP) :: (D, _) :: (O, oO) :: own) (fun p hp => hp) off trivial ⟨by rw [List.length_append, hyl]; rfl, ?_, k' + 1, _, rfl, hS11, by omega, by omega⟩)
      intro v hv
      rcases List.mem_append.mp hv with hv | hv
      · exact hyP v hv
      · rw [List.mem_singleton.mp hv]; exact List.mem_of_getElem? hpv
    · rintro vs nx ⟨hyl, hyP, k', oD', rfl, hS', hk2, hk3⟩
      have hvl : 2 ≤ vs.length ∧ vs.length ≤ 7 := by omega
      have hk4 : k' ≤ k + 8 := by omega
      unfold LCg.FinA
      intro V h6 tk6 F11 N11 o1
      have f1 := off1_ne (D := D) o1 (by k_mem)
      have f2 := off1_ne (D := O) o1 (by k_mem)
      clear N9 N8 F9 F8 o1 hS hS9 hk3 hyl hcnt hhi6 hlo6 hR2
      replace N11 : News _ _ _ ((V, W.listOf vs.toArray vs.length) :: _) := N11
      k_steps
      rename News _ _ _ _ => N12
      rename StockIs _ _ _ _ _ _ _ => hS12
      refine Stop.go (len_led N12 (by k_mem) (by omega) ?_)
      k_steps
      rename News _ _ _ _ => N13
      rename Fr _ _ _ _ => F13
      refine Stop.go (mul_one F13 N13 (by k_mem) (by assumption) (by omega) ?_)
      clear F13 N13
      intro V1 h8 xs hxl hxv F14 N14 l14
      k_steps
      have hx2 : xs.length ≤ 2 := by omega
      refine Stop.go (add_led F14 N14 (by k_mem) (by k_mem) (by omega) ?_)
      clear F14 N14
      intro V2 h9 F15 N15 l15
      k_steps
      refine Stop.go (len_led N15 (by k_mem) (by omega) ?_)
      k_steps
      have hcv : ∀ v ∈ vs, Cell v := fun v hv => (hPV.2 v (hyP v hv)).1
      have hzv : ∀ v ∈ vs, ∀ b, txt v = some b → b.size ≤ 3 := fun v hv => (hPV.2 v (hyP v hv)).2
      refine Stop.go (CSpec.make (jb_spec (vs := vs ++ xs) (fun v hv => ?_) (fun v hv b hb => ?_) (by omega) (by omega) (by rw [List.length_append]; omega) (by rw [List.length_append]; omega) (by omega) (by omega)) K0 KX TT F15 N15 (fun p hp => by rw [List.mem_singleton.mp hp]; exact .head _) rfl (by decide) (Nat.le_of_ble_eq_true rfl) ?_)
      · rcases List.mem_append.mp hv with hv | hv
        · exact hcv v hv
        · rw [hxv v hv]; exact .inl ⟨_, _, rfl⟩
      · rcases List.mem_append.mp hv with hv | hv
        · exact Nat.le_trans (hzv v hv b hb) (by decide)
        · rw [hxv v hv] at hb; cases hb; decide
      intro r x o h10 tk10 F16 N16 hx16 hr16
      obtain ⟨rfl, hr16⟩ := hr16
      rw [Int.toNat_natCast, List.take_left] at hr16
      clear F15 N15
      k_steps
      rename News _ _ _ _ => N17
      generalize hJr : joinR _ _ _ = jr at hr16
      obtain ⟨q1, q2, q3⟩ := joinR_fits' hJr (by omega) (by rw [List.length_reverse]; omega) (fun v hv b hb => Nat.le_trans (hzv v (List.mem_reverse.mp hv) b hb) (by decide))
      refine Stop.go (repr_tup N17 (.head _) hr16 rfl (Nat.le_of_ble_eq_true rfl) q1 q2 q3 ?_)
      intro u11 tk11
      k_steps
      rename News _ _ _ _ => N18
      rename Fr _ _ _ _ => F18
      refine Stop.go (CSpec.make (due_spec (vs := vs) hcv (fun v hv b hb => Nat.le_trans (hzv v hv b hb) (by decide)) (by omega) (by omega) (by omega) (by omega) (by omega)) K0 KX TT F18 N18 (fun p hp => by rw [List.mem_singleton.mp hp]; k_mem) rfl (by decide) (Nat.le_of_ble_eq_true rfl) ?_)
      intro r x2 o2 h12 tk12 F19 N19 hx19 hr19
      obtain ⟨rfl, hr19⟩ := hr19
      rw [hJr] at hr19
      k_steps
      rename News _ _ _ _ => N20
      refine Stop.go (repr_tup N20 (by k_mem) hr19 rfl (Nat.le_of_ble_eq_true rfl) q1 q2 q3 ?_)
      intro u13 tk13
      k_steps
      refine Stop.go (ne_same_str ?_)
      k_steps
      rename News _ _ _ _ => N21
      rename Fr _ _ _ _ => F21
      replace N21 := News.sub N21 fun p hp => .tail _ (.tail _ (.tail _ (.tail _ (.tail _ (.tail _ hp)))))
      unfold Stop
      k_dflt (refine LCt.Assign_ListComp_T (F₀ := by k_asm) (by rfl) (by with_unfolding_all rfl) (by with_unfolding_all rfl) (by decide) (by rfl) (by decide) (by rfl) (by rfl) (by rfl) ?_)
      k_steps
      refine Stop.go (LCt.CompSrcT.ledger (by rfl) F21 N21 (.head _) (by rw [List.size_toArray, sizeLine_eq]; omega) ?_)
      intro g2'
      refine comp_restT (fun j ys nx => ys.length ≤ j ∧ (∀ v ∈ ys, v ∈ vs ∧ ∃ b, txt v = some b) ∧ nx = _) ⟨Nat.le_refl _, (fun _ h => nomatch h), rfl⟩ ?_ ?_
      · rintro j ys nx hj ⟨hyl, hyt, rfl⟩ v I oI C oC D' m₂ h5 tk5 E' hv hC hx5 F22 N22 off ne
        have hvv : v ∈ vs := List.mem_of_getElem? (by simpa using hv)
        have hcell := hcv v hvv
        k_steps
        cases htx : txt v with
        | none =>
          refine Stop.go (CSpec.read (ltext_no hcell htx) K0 KX TT F22 N22 (fun _ h => nomatch h) rfl (by decide) (Nat.le_of_ble_eq_true rfl) ?_)
          intro r h15 tk15 F23 N23 hr23
          subst hr23
          k_steps
          exact Stop.go (LCg.CompEnd.intro F23 N23 _ (fun p hp => hp) off (.inr ⟨_, .head _, rfl, _, rfl⟩) ⟨by omega, hyt, rfl⟩)
        | some b =>
          refine Stop.go (CSpec.read (ltext_yes hcell htx) K0 KX TT F22 N22 (fun _ h => nomatch h) rfl (by decide) (Nat.le_of_ble_eq_true rfl) ?_)
          rintro r h15 tk15 F23 N23 ⟨tb, rfl⟩
          k_steps
          refine Stop.go (LCg.CompEnd.intro F23 N23 _ (fun p hp => hp) off (.inr ⟨_, .head _, rfl, _, rfl⟩) ⟨by rw [List.length_append]; show _ + 1 ≤ _; omega, ?_, rfl⟩)
          intro y hy
          rcases List.mem_append.mp hy with hy | hy
          · exact hyt y hy
          · rw [List.mem_singleton.mp hy]; exact ⟨hvv, b, htx⟩
      · rintro ts nx ⟨hyl, hyt, rfl⟩
        unfold LCg.FinA
        intro X h14 tk14 F25 N25 o25
        have g1 := off1_ne (D := D) o25 (by k_mem)
        have g2 := off1_ne (D := O) o25 (by k_mem)
        replace hyl : ts.length ≤ 7 := by rw [List.size_toArray] at hyl; omega
        replace N25 : News _ _ _ ((X, W.listOf ts.toArray ts.length) :: _) := N25
        k_steps
        rename News _ _ _ _ => N26
        refine Stop.go (len_led N26 (by k_mem) (by omega) ?_)
        k_steps
        · rename (1 : Int) < _ => hgt
          rename News _ _ _ _ => N27
          rename Fr _ _ _ _ => F27
          rename StockIs _ _ _ _ _ _ _ => hS27
          have hct : ∀ v ∈ ts, Cell v := fun v hv => hcv v (hyt v hv).1
          have htt : AllT ts := fun v hv => (hyt v hv).2
          obtain ⟨hz1, hz2⟩ := flat_small (ts := ts) fun v hv => hzv v (hyt v hv).1
          refine Stop.go (all_use (pre := [_, _, _, _]) N27 o25 hS27 (by assumption) (by assumption) (by assumption) (by assumption) (by omega) (by omega) (by walk_at "off2") (by walk_at "off2") hct htt (by omega) (by omega) (by omega) F27 K0 KX TT rfl (by decide) (Nat.le_of_ble_eq_true rfl) ?_)
          intro t16 oD16 k16 h16 tk16 F28 N28 hk16 hk17 hS28
          simp only [List.cons_append, List.nil_append] at N28
          k_steps
          unfold Stop
          k_dflt (refine LCg.ListComp_U (F₀ := F28) (by rfl) (by decide) (by rfl) (by decide) (by rfl) ?_)
          k_steps
          refine Stop.go (LCg.CompSrc.ledger (by rfl) F28 N28 (.head _) (by rw [List.size_toArray, sizeLine_eq]; omega) ?_)
          intro g3'
          refine comp_rest (fun j ys nx => BytesAre ys ((ts.take j).filterMap txt) ∧ nx = _) ⟨.nil, rfl⟩ ?_ ?_
          · rintro j ys nx hj ⟨hyb, rfl⟩ v I oI C oC D' m₂ h5 tk5 E' hv hC hx5 F22 N22 off ne
            replace hv : ts[j]? = some v := by simpa using hv
            have hvt := List.mem_of_getElem? hv
            obtain ⟨b, htx⟩ := htt v hvt
            k_steps
            refine Stop.go (CSpec.read (ltext_yes (hct v hvt) htx) K0 KX TT F22 N22 (fun _ h => nomatch h) rfl (by decide) (Nat.le_of_ble_eq_true rfl) ?_)
            rintro r h15 tk15 F23 N23 ⟨tb, rfl⟩
            k_steps
            exact Stop.go (LCg.CompEnd.intro F23 N23 _ (fun p hp => hp) off (.inr ⟨_, .head _, rfl, _, rfl⟩) ⟨by rw [take_snoc hv htx]; exact hyb.snoc b tb, rfl⟩)
          · rintro us nx ⟨hyb, rfl⟩
            have hb : BytesAre us (grab ts) := by
              rw [grab_all htt]
              rw [List.size_toArray, List.take_length] at hyb
              exact hyb
            unfold LCg.FinE
            intro Y h17 tk17 F30 N30 o30
            replace N30 : News _ _ _ ((Y, W.listOf us.toArray us.length) :: _) := N30
            k_steps
            refine Stop.go (join_led N30 (.head _) hb (by omega) ?_)
            intro t18 tk18
            k_steps
            refine Stop.go (ne_same_bytes ?_)
            k_steps
            refine invEndA (nx := [(_, oc2), (_, oc1), (P, W.listOf PV.toArray nP), (D, _), (O, oO)]) F30 (News.sub N30 fun p hp => .tail _ (.tail _ (.tail _ hp))) hoff ⟨_, _, _, NF.intro ?_, rfl, hS28, by omega, by omega⟩
            intro y hy
            simp only [List.contains_cons, List.contains_nil, Bool.or_false, Bool.or_eq_false_iff, beq_eq_false_iff_ne] at hy
            simp [NF, hy]
        · rename News _ _ _ _ => N27
          rename Fr _ _ _ _ => F27
          rename StockIs _ _ _ _ _ _ _ => hS27
          refine invEndA (nx := [(_, oc2), (_, oc1), (P, W.listOf PV.toArray nP), (D, _), (O, oO)]) F27 (News.sub N27 fun p hp => .tail _ (.tail _ hp)) hoff ⟨_, _, _, NF.intro ?_, rfl, hS27, by omega, by omega⟩
          intro y hy
          simp only [List.contains_cons, List.contains_nil, Bool.or_false, Bool.or_eq_false_iff, beq_eq_false_iff_ne] at hy
          simp [NF, hy]
  · rintro m₁ nx h3 tk3 ⟨u, k, oD, rfl, rfl, hS, hk0, hk1⟩ F8 N8
    k_steps)
end Mine
end

theorem PySem.Challenge.cw_rr0061_01_holds : PySem.Challenge.rw_rr0061_01.Holds := by
  exact Mine.law_holds
