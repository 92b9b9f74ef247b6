import PyProof.Rows.All
import Wide.All
import OpenK.AllK
import Wide.FinOn
import PySem.Challenge.RW_np0182_01
open PySem PySem.W PySem.Calls PyProof.Rows
set_option Elab.async false
set_option linter.all false
namespace Mine
set_option maxRecDepth 100000
noncomputable abbrev cutAt {α : Type} (l : List α) (a b : Nat) : List α := (l.drop a).take (b - a)
noncomputable def viewOf (p : Program) : Program := let b := p.main.body
  { p with main := { p.main with body := cutAt b 1 8 ++ (cutAt b 9 12 ++ (cutAt b 13 15 ++ (cutAt b 16 18 ++ (cutAt b 19 22 ++ b.drop 23)))) } }
noncomputable def viewQ : Program := viewOf PySem.Challenge.rw_np0182_01.row.prog
noncomputable abbrev RR : RowW := OpenRow.toRowW PySem.Challenge.rw_np0182_01.row
noncomputable def qFrom (p : Program) (w : World) (N : Nat) (s₀ : Shared) : Option Shared :=
  match s₀.heap.isNs mainGlobals && s₀.gens.size == 0 with
  | true => (PySem.W.Fast.tw14082659384304107361 PySem.W.Fast.tw14364793385576792824 p w s₀.heap.objs.size (s₀.heap.nsMap mainGlobals "__annotations__") N s₀ (topStub p)).bind fun s₁ => match staticsOk (importedModules p.main.body) s₀.heap s₁.heap && namesBound p s₁.heap && gensDone s₁ && laidKept s₀.heap s₁.heap with
      | true => some s₁
      | false => none
  | false => none
noncomputable def qEnds (p : Program) (w : World) (N : Nat) : Option Shared :=
  ((PySem.W.Fast.tw10274390034422433532 PySem.W.Fast.tw14364793385576792824 (opening p) w N (PySem.W.Fast.tw1435165496053646825 (opening p)).1 (PySem.W.Fast.tw1435165496053646825 (opening p)).2).bind (PySem.W.Fast.tw14289696077712309145 p)).bind (qFrom p w N)
theorem qFrom_eq {p : Program} {w : World} {N : Nat} : topFrom treeTable p w N = qFrom p w N := by
  funext s
  unfold topFrom qFrom
  rw [PySem.W.Fast.te14082659384304107361, PySem.W.Fast.te14364793385576792824]
  rfl
theorem qEnds_eq {p : Program} {w : World} {N : Nat} : openEnds treeTable p w N = qEnds p w N := by
  unfold openEnds qEnds fencedOpening
  rw [qFrom_eq, PySem.W.Fast.te10274390034422433532, PySem.W.Fast.te14364793385576792824, PySem.W.Fast.te1435165496053646825, PySem.W.Fast.te14289696077712309145]
theorem quickLeft {p p' : Program} (hp : p = p') {loose : List Str} {Xt : Shared → Bool} {α : Type} {Yf : Shared → α} {Ya : World → α} {N : Nat}
    (h : ∀ w, (qEnds p' w N).map (fun s => (PySem.W.Fast.tw4187177175401517315 (viewOf p') loose (PySem.W.Fast.tw5923862056798008813 p'.main.body) Xt true s, Yf s)) = some (openGood (viewOf p') loose, Ya w)) : LeftO p (viewOf p) loose Xt Yf Ya N := by
  subst hp
  intro w
  rw [qEnds_eq, PySem.W.Fast.te4187177175401517315, PySem.W.Fast.te5923862056798008813]
  exact h w
set_option maxHeartbeats 8000000 in
theorem law_said : PySem.Challenge.rw_np0182_01.wellSaid = true := by
  delta OpenLaw.wellSaid
  iterate 18 (refine look_both ?_ (by decide +kernel))
  delta OpenRow.wellSaid
  iterate 2 (refine look_both ?_ (by decide +kernel))
  delta OpenRow.partSaid
  iterate 13 (refine look_both ?_ (by decide +kernel))
  delta looksOpen
  iterate 5 (refine look_both ?_ (by decide +kernel))
  decide +kernel
theorem pw_eq : PySem.Challenge.rw_np0182_01.row.prog = PySem.Challenge.rw_np0182_01.row.prog := rfl
local macro_rules | `(tactic| o_law) => `(tactic| k_extra "olw")
noncomputable def head9 (H : Hook) := fun said hl hw hc => (holds_open (r := PySem.Challenge.rw_np0182_01.row) (q := viewQ) (loose := []) (Xt := fun s => xlAt viewQ [] s && recOk (RowW.records RR) s) (XP := XL viewQ []) (Yf := Hook.obs H) (Ya := Hook.val H) (YP := Hook.says H) (N := 5210) hl (Hook.of H) (Hook.keeps H) (fun s e => xl_of s (Bool.and_eq_true_iff.mp e).1) XL.keeps (by rfl) (by rfl) (by rfl) (fun s e => recFacts_of (Bool.and_eq_true_iff.mp e).2) (by rfl) said (by decide +kernel) ⟨rfl, rfl, rfl, rfl, rfl, by decide +kernel⟩ hw hc)
example : True := by
  k_with "ohl" => (refine quickLeft pw_eq ?_; (intro _; kernel_rfl))
  k_with "olw" => (refine holds_law law_said fun said => ?_)
  trivial
local macro_rules | `(tactic| o_head $H) => `(tactic| (refine head9 $H (by assumption) ?hl ?hw ?hc; (case hl => k_extra "ohl")))
set_option maxHeartbeats 8000000 in
open_top hd0 for PySem.Challenge.rw_np0182_01
theorem topOff : True := by
  w_top off
  trivial
local macro_rules | `(tactic| k_qdec) => `(tactic| decide +kernel)
section


noncomputable abbrev PR : Program := PySem.Challenge.rw_np0182_01.row.prog
noncomputable abbrev mkA (d : Nat) (fr : List Env) (u : Nat) : Around := { handled := none, depth := d, frames := some fr, guards := some [], units := u }

theorem room_ok {A : Around} (h : A.depth < 1000) : A.depth < recursionLimit := h
theorem units_ok {A : Around} (h : A.units < 9900) : A.units < cLine := h

structure Pre (z : Heap) (h : Heap) (news : List (Addr × Obj)) : Prop where
  stays : ∀ b o, z.get? b = some o → h.get? b = some o
  size : z.objs.size ≤ h.objs.size
  led : ∀ q ∈ news, h.get? q.1 = some q.2 ∧ z.get? q.1 = none

section
variable {prog : Program} {w : World} {A : Around} {R : Result → Shared → Prop} {s : Shared} {K : Frag} {z : Heap} {p : Program} {loose : List Str} {mean : ExcName → Option Value} {mg mb : Str → Option Value} {news : List (Addr × Obj)}
variable {name qual : Str} {params : Arguments} {body : List Stmt} {scope : Scope} {dV kV doc pm cdv ct oc : Value} {an od : Option Addr} {osl : Array (Option Value)} {f : Addr} {args : Args} {binds : List (Str × Value)}

theorem enterZ (X : K.In z) (T : Top p loose mean mg mb z) (P : Pre z s.heap news)
    (ho : K.lookup f = some ⟨oc, od, .func (fnOf name qual params body scope dV kV doc pm an cdv ct), osl⟩) (hcd : codeIn K cdv qual = true) (hroom : A.depth < recursionLimit)
    (hbind : BindsTo s (fnOf name qual params body scope dV kV doc pm an cdv ct) args binds) (hloc : ∀ y ∈ binds, scope.names.lookup y.1 = some .local)
    (hco : scope.isCoroutine = false) (hgen : scope.isGenerator = false) (hk : scope.kind = .function)
    (hcell : ∀ x ∈ scope.names, x.2 ≠ .cell)
    (h : ∀ L' h₁ tk, Fr z L' h₁ (fun y => binds.reverse.lookup y) → News z L' h₁ news → s.heap.objs.size = L' → (∀ b o, s.heap.get? b = some o → h₁.get? b = some o) →
      wpAny (model prog w) (A.deeper (envOf qual scope L' f cdv)) (execs body (envOf qual scope L' f cdv))
        (fun fl s' => R (.ok (.ret (match fl with | .ret v => v | _ => .none))) s')
        (fun e s' => wpAny (model prog w) (A.deeper (envOf qual scope L' f cdv)) (leaving (envOf qual scope L' f cdv) e) (fun _ s'' => R (.error e) s'') (fun e' s'' => R (.error e') s'') s')
        { s with heap := h₁, toks := tk }) : codeAny (model prog w) A (.call (.ref f) args) R s := by
  have X' : K.In s.heap := X.keeps P.stays
  have T' := T.keeps P.stays
  refine codeAny_call_def (fd := fnOf name qual params body scope dV kV doc pm an cdv ct) (body := body) (binds := binds) hroom (X' _ _ ho) rfl T'.nolimit (codeRec_of X' hcd) rfl hbind hcell hloc (fun h₁ hns hk₁ => ?_) hco hgen hk
  exact h s.heap.objs.size h₁ _ ⟨hns, fun b o e => hk₁ b o (P.stays b o e), P.size⟩
    (fun q hq => ⟨hk₁ _ _ (P.led q hq).1, Nat.ne_of_lt (Heap.lt_size (P.led q hq).1), (P.led q hq).2⟩) rfl hk₁

theorem enterZC (X : K.In z) (T : Top p loose mean mg mb z) (P : Pre z s.heap news)
    (ho : K.lookup f = some ⟨oc, od, .func (fnOf name qual params body scope dV kV doc pm an cdv ct), osl⟩) (hcd : codeIn K cdv qual = true) (hroom : A.depth < recursionLimit)
    (hbind : BindsTo s (fnOf name qual params body scope dV kV doc pm an cdv ct) args binds)
    (hkind : (binds.all fun y => scope.names.lookup y.1 == some .local || scope.names.lookup y.1 == some .cell) = true)
    (hnd : ((cellsFrom 0 scope.names []).map (·.1)).Nodup)
    (hco : scope.isCoroutine = false) (hgen : scope.isGenerator = false) (hk : scope.kind = .function)
    (h : ∀ L' h₁ tk cells, Fr z L' h₁ (bindL (envOfC qual scope L' f cdv).kindOf binds fun _ => none) → News z L' h₁ (cells ++ news) →
      CellsAre (bindC (envOfC qual scope L' f cdv).kindOf binds fun _ => none) (cellsFrom (L' + 1) scope.names []) cells → s.heap.objs.size = L' → (∀ b o, s.heap.get? b = some o → h₁.get? b = some o) →
      wpAny (model prog w) (A.deeper (envOfC qual scope L' f cdv)) (execs body (envOfC qual scope L' f cdv))
        (fun fl s' => R (.ok (.ret (match fl with | .ret v => v | _ => .none))) s')
        (fun e s' => wpAny (model prog w) (A.deeper (envOfC qual scope L' f cdv)) (leaving (envOfC qual scope L' f cdv) e) (fun _ s'' => R (.error e) s'') (fun e' s'' => R (.error e') s'') s')
        { s with heap := h₁, toks := tk }) : codeAny (model prog w) A (.call (.ref f) args) R s := by
  have X' : K.In s.heap := X.keeps P.stays
  have T' := T.keeps P.stays
  refine codeAny_call_function (fd := fnOf name qual params body scope dV kV doc pm an cdv ct) (body := body) hroom (X' _ _ ho) rfl hco hgen rfl (codeRec_of X' hcd) (hbind _ _ _ _ ?_)
  refine wpAny_newFunctionEnv_cells hk (kindsX hkind _) fun env' he s' x => ?_
  subst he
  refine ⟨T'.nolimit.keeps x.toInCall.keep, codeAny_func ?_⟩
  obtain ⟨h₁, tk, rfl, _⟩ := x.done
  have hk₁ := x.toInCall.keep
  obtain ⟨cells, NC, Y⟩ := Cl.news (h₀ := s.heap) (Nat.le_refl _) fun n c hm => ⟨x.cell n c (lookup_of_mem_nodup (cellsFrom_names scope.names 0 (s.heap.objs.size + 1) [] [] rfl ▸ hnd) hm), x.above n c hm⟩
  refine h s.heap.objs.size h₁ tk cells ⟨x.toInCall.ns, fun b o e => hk₁ b o (P.stays b o e), P.size⟩ (fun q hq => ?_) Y rfl hk₁
  rcases List.mem_append.mp hq with hp | hp
  · refine ⟨(NC q hp).1, (NC q hp).2.1, ?_⟩
    cases e : z.get? q.1 with
    | none => rfl
    | some o => have := P.stays _ _ e; rw [(NC q hp).2.2] at this; cases this
  · exact ⟨hk₁ _ _ (P.led q hp).1, Nat.ne_of_lt (Heap.lt_size (P.led q hp).1), (P.led q hp).2⟩
end

section
variable {h₀ h h' z : Heap} {L : Addr} {m : Str → Option Value} {news mt mt' rest : List (Addr × Obj)} {K : Frag}

noncomputable def hid (h : Heap) (mt : List (Addr × Obj)) : Heap := hideAll h (mt.map (·.1))

theorem hid_of {b : Addr} {o : Obj} (e : h.get? b = some o) (hm : ∀ q ∈ mt, q.1 ≠ b) : (hid h mt).get? b = some o :=
  hideAll_get _ e fun q => by obtain ⟨x, hx, e⟩ := List.mem_map.mp q; exact hm x hx e
theorem of_hid {b : Addr} {o : Obj} (e : (hid h mt).get? b = some o) : h.get? b = some o := of_hideAll _ e
theorem hid_no {q : Addr × Obj} (hq : q ∈ mt) : (hid h mt).get? q.1 = none := hideAll_none _ (List.mem_map_of_mem hq)
theorem hid_size : (hid h mt).objs.size = h.objs.size := hideAll_size _ _
theorem hid_base (F : Fr h₀ L h m) (N : News h₀ L h mt) : ∀ b o, h₀.get? b = some o → (hid h mt).get? b = some o := fun b o e =>
  hid_of (F.keep b o e) fun q hq r => by have := (N q hq).2.2; rw [r, e] at this; cases this
theorem Pre.of (N : News h₀ L h mt) : Pre (hid h mt) h mt :=
  ⟨fun _ _ e => of_hid e, Nat.le_of_eq hid_size, fun q hq => ⟨(N q hq).1, hid_no hq⟩⟩
theorem Pre.fr (F : Fr h₀ L h m) (N : News h₀ L h mt) (P' : Pre (hid h mt) h' mt') : Fr h₀ L h' m := by
  obtain ⟨oL, a1, a2, hL, a3⟩ := F.ns
  exact ⟨⟨oL, a1, a2, P'.stays _ _ (hid_of hL fun q hq r => (N q hq).2.1 r), a3⟩, fun b o e => P'.stays _ _ (hid_base F N b o e), F.above⟩
theorem Pre.no_base (F : Fr h₀ L h m) (N : News h₀ L h mt) {b : Addr} (e : (hid h mt).get? b = none) : h₀.get? b = none := by
  cases q : h₀.get? b with
  | none => rfl
  | some o => have := hid_base F N b o q; rw [e] at this; cases this
theorem Pre.nws (F : Fr h₀ L h m) (N : News h₀ L h mt) (P' : Pre (hid h mt) h' mt') (hr : ∀ q ∈ rest, (q ∈ news ∧ ∀ p ∈ mt, p.1 ≠ q.1)) (Nn : News h₀ L h news) : News h₀ L h' (mt' ++ rest) := fun q hq => by
  rcases List.mem_append.mp hq with hq | hq
  · refine ⟨(P'.led q hq).1, fun e => ?_, Pre.no_base F N (P'.led q hq).2⟩
    obtain ⟨oL, _, _, hL, _⟩ := F.ns
    have := hid_of (mt := mt) hL fun q hq r => (N q hq).2.1 r
    rw [← e, (P'.led q hq).2] at this; cases this
  · obtain ⟨h1, h2⟩ := hr q hq
    exact ⟨P'.stays _ _ (hid_of (Nn q h1).1 h2), (Nn q h1).2⟩

inductive Rem (q : Addr × Obj) : List (Addr × Obj) → List (Addr × Obj) → Prop
  | head {r} : (∀ p ∈ r, p.1 ≠ q.1) → Rem q (q :: r) r
  | tail {p r r'} : p.1 ≠ q.1 → Rem q r r' → Rem q (p :: r) (p :: r')
theorem Rem.mem {q : Addr × Obj} {l r : List (Addr × Obj)} (h : Rem q l r) : q ∈ l := by
  induction h with
  | head _ => exact .head _
  | tail _ _ ih => exact .tail _ ih
theorem Rem.sub {q : Addr × Obj} {l r : List (Addr × Obj)} (h : Rem q l r) : ∀ x ∈ r, x ∈ l ∧ x.1 ≠ q.1 := by
  induction h with
  | head h => exact fun x hx => ⟨.tail _ hx, h x hx⟩
  | tail h _ ih =>
    intro x hx
    rcases List.mem_cons.mp hx with rfl | hx
    · exact ⟨.head _, h⟩
    · exact ⟨.tail _ (ih x hx).1, (ih x hx).2⟩
inductive Take : List (Addr × Obj) → List (Addr × Obj) → List (Addr × Obj) → Prop
  | nil {l} : Take [] l l
  | cons {q mt l l' r} : Rem q l l' → Take mt l' r → Take (q :: mt) l r
theorem Take.mem {mt l r : List (Addr × Obj)} (h : Take mt l r) : ∀ q ∈ mt, q ∈ l := by
  induction h with
  | nil => exact fun _ h => nomatch h
  | cons R _ ih =>
    intro q hq
    rcases List.mem_cons.mp hq with rfl | hq
    · exact R.mem
    · exact (R.sub _ (ih q hq)).1
theorem Take.sub {mt l r : List (Addr × Obj)} (h : Take mt l r) : ∀ x ∈ r, x ∈ l ∧ ∀ p ∈ mt, p.1 ≠ x.1 := by
  induction h with
  | nil => exact fun _ hx => ⟨hx, fun _ hp => nomatch hp⟩
  | cons R _ ih =>
    intro x hx
    obtain ⟨a, b⟩ := ih x hx
    obtain ⟨c, d⟩ := R.sub x a
    refine ⟨c, fun p hp => ?_⟩
    rcases List.mem_cons.mp hp with rfl | hp
    · exact fun e => d e.symm
    · exact b p hp
theorem Take.nws (t : Take mt news rest) (N : News h₀ L h news) : News h₀ L h mt := fun q hq => N q (t.mem q hq)

theorem back (F : Fr h₀ L h m) (N : News h₀ L h news) (t : Take mt news rest) (P' : Pre (hid h mt) h' mt') : Fr h₀ L h' m ∧ News h₀ L h' (mt' ++ rest) :=
  ⟨Pre.fr F (t.nws N) P', Pre.nws F (t.nws N) P' (t.sub) N⟩
theorem front (F : Fr h₀ L h m) (N : News h₀ L h news) (t : Take mt news rest) (X : K.In h₀) : K.In (hid h mt) ∧ Pre (hid h mt) h mt :=
  ⟨X.keeps (hid_base F (t.nws N)), Pre.of (t.nws N)⟩
theorem front_top {p : Program} {loose : List Str} {mean : ExcName → Option Value} {mg mb : Str → Option Value} (F : Fr h₀ L h m) (N : News h₀ L h news) (t : Take mt news rest) (T : Top p loose mean mg mb h₀) : Top p loose mean mg mb (hid h mt) :=
  T.keeps (hid_base F (t.nws N))
theorem front_get {b : Addr} {o : Obj} (F : Fr h₀ L h m) (N : News h₀ L h news) (t : Take mt news rest) (e : h₀.get? b = some o) : (hid h mt).get? b = some o := hid_base F (t.nws N) b o e
theorem front_led {q : Addr × Obj} (N : News h₀ L h news) (t : Take mt news rest) (hq : q ∈ rest) : (hid h mt).get? q.1 = some q.2 := hid_of (N q (t.sub q hq).1).1 (t.sub q hq).2
theorem lt_new {D : Addr} (N : News h₀ L h news) (hD : (hid h mt).objs.size ≤ D) : ∀ q ∈ news, q.1 < D := fun q hq => Nat.lt_of_lt_of_le (Heap.lt_size (N q hq).1) (by rw [← hid_size (mt := mt)]; exact hD)
end

theorem leaveZ {z h h' : Heap} {L : Addr} {m : Str → Option Value} {news mt : List (Addr × Obj)} (F : Fr z L h' m) (N : News z L h' news) (hs : ∀ q ∈ mt, q ∈ news) (hL : h.objs.size = L) (hz : z.objs.size ≤ h.objs.size) : Pre z h' mt :=
  ⟨F.keep, Nat.le_trans hz (by rw [hL]; exact Nat.le_of_lt F.ns.lt), fun q hq => ⟨(N q (hs q hq)).1, (N q (hs q hq)).2.2⟩⟩

theorem fill0 : PySem.Challenge.rw_np0182_01 = PySem.Challenge.rw_np0182_01 ∧ hd0.heap_1 = hd0.heap_1 := by
  k_fill
  exact ⟨rfl, rfl⟩

end
local macro_rules | `(tactic| walk_at $s:str) => `(tactic| k_extra $s)
local macro_rules | `(tactic| k_mem) => `(tactic| k_extra "mem")
local macro_rules | `(tactic| walk_at "iL") => `(tactic| (intro l1; (try k_lt l1)))
local macro_rules | `(tactic| walk_at "iM") => `(tactic| (intro l2; (try k_lt2 l2)))
local macro_rules | `(tactic| walk_at "iN") => `(tactic| (intro N'; (try dsimp only at N')))
local macro_rules | `(tactic| walk_at "iW") => `(tactic| (intro hd'; (first | replace hd' := wkv_written hd' | replace hd' := wkv_next hd')))
local macro_rules | `(tactic| k_room) => `(tactic| k_extra "room")
local macro_rules | `(tactic| k_units) => `(tactic| k_extra "units")
local macro_rules | `(tactic| walk_at "cellsIn") => `(tactic| ((rename CellsAre _ _ _ => cellsY); k_cells cellsY; (try (rename News _ _ _ _ => newsN; simp only [List.cons_append, List.nil_append] at newsN))))
example : True := by
  k_with "mem" => (first | with_reducible exact mem0 | with_reducible exact mem1 | with_reducible exact mem2 | with_reducible exact mem3 | with_reducible exact mem4 | with_reducible exact mem5 | with_reducible exact mem6 | with_reducible exact mem7 | with_reducible exact mem8 | with_reducible exact mem9 | with_reducible exact mem10 | with_reducible exact mem11 | with_reducible exact mem12 | with_reducible exact mem13 | with_reducible exact mem14 | with_reducible exact mem15 | with_reducible exact mem16 | with_reducible exact mem17 | with_reducible exact mem18 | with_reducible exact mem19 | with_reducible exact mem20 | with_reducible exact mem21 | with_reducible exact mem22 | with_reducible exact mem23 | k_extra "mem2")
  k_with "mem2" => (first | exact List.Mem.head _ | (refine' List.Mem.tail _ ?zm0; (case zm0 => k_extra "mem2")))
  k_with "room" => (first | exact room_le (k := 0) rfl hd rfl | exact room_le (k := 1) rfl hd rfl | exact room_le (k := 2) rfl hd rfl | exact room_le (k := 3) rfl hd rfl | (refine room_ok ?_; simp only [depth_under_make, depth_under_kw, depth_in1, depth_deeper, mkA]; omega))
  k_with "units" => (first | exact units_le (k := 0) rfl hu rfl | exact units_le (k := 1) rfl hu rfl | exact units_le (k := 2) rfl hu rfl | exact units_le (k := 3) rfl hu rfl | exact units_le (k := 4) rfl hu rfl | exact units_le (k := 5) rfl hu rfl | exact units_le (k := 6) rfl hu rfl | exact units_le (k := 7) rfl hu rfl | exact units_le (k := 8) rfl hu rfl | (refine units_ok ?_; simp only [Around.in1_units, Around.deeper_units, Around.mark_units, mkA]; omega))
  k_with "rem" => (first | (refine' Rem.head ?z1a; (case z1a => k_all)) | (refine' Rem.tail ?z1a ?z1b; (case z1a => k_ne); (case z1b => k_extra "rem")))
  k_with "take" => (first | exact Take.nil | (refine' Take.cons ?z2a ?z2b; (case z2a => k_extra "rem"); (case z2b => k_extra "take")))
  k_with "enterZ" => ((refine' enterZ (by assumption) (by assumption) (by assumption) ?z3k6 ?z3k7 ?z3k8 ?z3k9 ?z3kB ?z3c2 ?z3c3 ?z3c4 ?z3c5 ?_; (case z3k6 => k_is); (case z3k7 => k_is); (case z3k8 => k_room); (case z3k9 => exact BindsTo.of_eq (by rfl)); (case z3kB => exact locs (by rfl)); (case z3c2 => exact rfl); (case z3c3 => exact rfl); (case z3c4 => exact rfl); (case z3c5 => decide); intro _ _ _ _ _ _ _; (try dsimp only); k_fold))
  k_with "go" => (repeat' (first | (k_unfold; (try dsimp only)) | (dsimp only; k_unfold; (try dsimp only)) | ((fail_if_success (with_reducible show wpAny _ _ (PySem.exec (PySem.Stmt.For _ _ _ _ _) _) _ _ _)); (fail_if_success (with_reducible show wpAny _ _ (PySem.pyIter _) _ _ _)); first | (k_end; wrow_close) | walk1 | (dsimp only; walk1) | (leave1; walk_say "STEP leave1"; try dsimp only)) | fail "no step"))
  k_with "subl" => (first | exact List.forall_mem_nil _ | (refine' all_cons ?z5a ?z5b; (case z5a => k_mem); (case z5b => k_extra "subl")))
  k_with "goL" => (repeat' (first | (k_unfold; (try dsimp only)) | (dsimp only; k_unfold; (try dsimp only)) | ((fail_if_success (with_reducible show wpAny _ _ (PySem.exec (PySem.Stmt.For _ _ _ _ _) _) _ _ _)); (fail_if_success (with_reducible show wpAny _ _ (PySem.eval (PySem.Expr.Lambda _ _ _ _) _) _ _ _)); (fail_if_success (with_reducible show wpAny _ _ (PySem.call (PySem.Value.ref 263) _) _ _ _)); (fail_if_success (with_reducible show wpAny _ _ (PySem.call (PySem.Value.ref 275) _) _ _ _)); (fail_if_success (with_reducible show wpAny _ _ (PySem.call (PySem.Value.ref 282) _) _ _ _)); (fail_if_success (with_reducible show wpAny _ _ (PySem.eval (PySem.Expr.ListComp _ _ _ _) _) _ _ _)); (fail_if_success (with_reducible show LCg.CompSrc _ _ _ _ _ _ _ _ _ _ _ _ _ _)); (fail_if_success (with_reducible show wpAny _ _ (PySem.pyIter _) _ _ _)); first | (k_end; wrow_close) | walk1 | (dsimp only; walk1) | (leave1; walk_say "STEP leave1"; try dsimp only)) | fail "no step"))
  k_with "goI" => (repeat' (first | (k_unfold; (try dsimp only)) | (dsimp only; k_unfold; (try dsimp only)) | ((fail_if_success (with_reducible show wpAny _ _ (PySem.exec (PySem.Stmt.Return _ _) _) _ _ _)); (fail_if_success (with_reducible show wpAny _ _ (PySem.exec (PySem.Stmt.If _ _ _ _) _) _ _ _)); (fail_if_success (with_reducible show wpAny _ _ (PySem.exec (PySem.Stmt.For _ _ _ _ _) _) _ _ _)); (fail_if_success (with_reducible show wpAny _ _ (PySem.eval (PySem.Expr.Lambda _ _ _ _) _) _ _ _)); (fail_if_success (with_reducible show wpAny _ _ (PySem.call (PySem.Value.ref 263) _) _ _ _)); (fail_if_success (with_reducible show wpAny _ _ (PySem.call (PySem.Value.ref 275) _) _ _ _)); (fail_if_success (with_reducible show wpAny _ _ (PySem.call (PySem.Value.ref 282) _) _ _ _)); (fail_if_success (with_reducible show wpAny _ _ (PySem.eval (PySem.Expr.ListComp _ _ _ _) _) _ _ _)); (fail_if_success (with_reducible show LCg.CompSrc _ _ _ _ _ _ _ _ _ _ _ _ _ _)); (fail_if_success (with_reducible show wpAny _ _ (PySem.pyIter _) _ _ _)); first | (k_end; wrow_close) | walk1 | (dsimp only; walk1) | (leave1; walk_say "STEP leave1"; try dsimp only)) | fail "no step"))
  k_with "goM" => (repeat' (first | (k_unfold; (try dsimp only)) | (dsimp only; k_unfold; (try dsimp only)) | ((fail_if_success (with_reducible show wpAny _ _ (PySem.exec (PySem.Stmt.For _ _ _ _ _) _) _ _ _)); (fail_if_success (with_reducible show wpAny _ _ (PySem.eval (PySem.Expr.Lambda _ _ _ _) _) _ _ _)); (fail_if_success (with_reducible show wpAny _ _ (PySem.call (PySem.Value.ref 263) _) _ _ _)); (fail_if_success (with_reducible show wpAny _ _ (PySem.call (PySem.Value.ref 275) _) _ _ _)); (fail_if_success (with_reducible show wpAny _ _ (PySem.call (PySem.Value.ref 282) _) _ _ _)); (fail_if_success (with_reducible show wpAny _ _ (PySem.pyIter _) _ _ _)); first | (k_end; wrow_close) | walk1 | (dsimp only; walk1) | (leave1; walk_say "STEP leave1"; try dsimp only)) | fail "no step"))
  trivial
theorem ea4_5.{v1, v2, v3, v4} {α1 : Sort v1} {α2 : Sort v2} {α3 : Sort v3} {α4 : Sort v4} {p1 p2 p3 p4 p5 : α1 → α2 → α3 → α4 → Prop} {G : Prop} (h : ∃ x1 x2 x3 x4, p1 x1 x2 x3 x4 ∧ p2 x1 x2 x3 x4 ∧ p3 x1 x2 x3 x4 ∧ p4 x1 x2 x3 x4 ∧ p5 x1 x2 x3 x4) (K : ∀ x1 x2 x3 x4, p1 x1 x2 x3 x4 → p2 x1 x2 x3 x4 → p3 x1 x2 x3 x4 → p4 x1 x2 x3 x4 → p5 x1 x2 x3 x4 → G) : G := h.elim fun x1 h => h.elim fun x2 h => h.elim fun x3 h => h.elim fun x4 h => K x1 x2 x3 x4 h.1 h.2.1 h.2.2.1 h.2.2.2.1 h.2.2.2.2

theorem ea3_8.{v1, v2, v3} {α1 : Sort v1} {α2 : Sort v2} {α3 : Sort v3} {p1 p2 p3 p4 p5 p6 p7 p8 : α1 → α2 → α3 → Prop} {G : Prop} (h : ∃ x1 x2 x3, p1 x1 x2 x3 ∧ p2 x1 x2 x3 ∧ p3 x1 x2 x3 ∧ p4 x1 x2 x3 ∧ p5 x1 x2 x3 ∧ p6 x1 x2 x3 ∧ p7 x1 x2 x3 ∧ p8 x1 x2 x3) (K : ∀ x1 x2 x3, p1 x1 x2 x3 → p2 x1 x2 x3 → p3 x1 x2 x3 → p4 x1 x2 x3 → p5 x1 x2 x3 → p6 x1 x2 x3 → p7 x1 x2 x3 → p8 x1 x2 x3 → G) : G := h.elim fun x1 h => h.elim fun x2 h => h.elim fun x3 h => K x1 x2 x3 h.1 h.2.1 h.2.2.1 h.2.2.2.1 h.2.2.2.2.1 h.2.2.2.2.2.1 h.2.2.2.2.2.2.1 h.2.2.2.2.2.2.2
theorem ea4_4.{v1, v2, v3, v4} {α1 : Sort v1} {α2 : Sort v2} {α3 : Sort v3} {α4 : Sort v4} {p1 p2 p3 p4 : α1 → α2 → α3 → α4 → Prop} {G : Prop} (h : ∃ x1 x2 x3 x4, p1 x1 x2 x3 x4 ∧ p2 x1 x2 x3 x4 ∧ p3 x1 x2 x3 x4 ∧ p4 x1 x2 x3 x4) (K : ∀ x1 x2 x3 x4, p1 x1 x2 x3 x4 → p2 x1 x2 x3 x4 → p3 x1 x2 x3 x4 → p4 x1 x2 x3 x4 → G) : G := h.elim fun x1 h => h.elim fun x2 h => h.elim fun x3 h => h.elim fun x4 h => K x1 x2 x3 x4 h.1 h.2.1 h.2.2.1 h.2.2.2
theorem ea6_6.{v1, v2, v3, v4, v5, v6} {α1 : Sort v1} {α2 : Sort v2} {α3 : Sort v3} {α4 : Sort v4} {α5 : Sort v5} {α6 : Sort v6} {p1 p2 p3 p4 p5 p6 : α1 → α2 → α3 → α4 → α5 → α6 → Prop} {G : Prop} (h : ∃ x1 x2 x3 x4 x5 x6, p1 x1 x2 x3 x4 x5 x6 ∧ p2 x1 x2 x3 x4 x5 x6 ∧ p3 x1 x2 x3 x4 x5 x6 ∧ p4 x1 x2 x3 x4 x5 x6 ∧ p5 x1 x2 x3 x4 x5 x6 ∧ p6 x1 x2 x3 x4 x5 x6) (K : ∀ x1 x2 x3 x4 x5 x6, p1 x1 x2 x3 x4 x5 x6 → p2 x1 x2 x3 x4 x5 x6 → p3 x1 x2 x3 x4 x5 x6 → p4 x1 x2 x3 x4 x5 x6 → p5 x1 x2 x3 x4 x5 x6 → p6 x1 x2 x3 x4 x5 x6 → G) : G := h.elim fun x1 h => h.elim fun x2 h => h.elim fun x3 h => h.elim fun x4 h => h.elim fun x5 h => h.elim fun x6 h => K x1 x2 x3 x4 x5 x6 h.1 h.2.1 h.2.2.1 h.2.2.2.1 h.2.2.2.2.1 h.2.2.2.2.2
theorem ea0_5 {p1 p2 p3 p4 p5 : Prop} {G : Prop} (h : p1 ∧ p2 ∧ p3 ∧ p4 ∧ p5) (K : p1 → p2 → p3 → p4 → p5 → G) : G := K  h.1 h.2.1 h.2.2.1 h.2.2.2.1 h.2.2.2.2
theorem mk4_4.{v1, v2, v3, v4} {α1 : Sort v1} {α2 : Sort v2} {α3 : Sort v3} {α4 : Sort v4} {p1 p2 p3 p4 : α1 → α2 → α3 → α4 → Prop} (x1 : α1) (x2 : α2) (x3 : α3) (x4 : α4) (h1 : p1 x1 x2 x3 x4) (h2 : p2 x1 x2 x3 x4) (h3 : p3 x1 x2 x3 x4) (h4 : p4 x1 x2 x3 x4) : ∃ x1 x2 x3 x4, p1 x1 x2 x3 x4 ∧ p2 x1 x2 x3 x4 ∧ p3 x1 x2 x3 x4 ∧ p4 x1 x2 x3 x4 := ⟨x1, x2, x3, x4, h1, h2, h3, h4⟩
theorem mk6_6.{v1, v2, v3, v4, v5, v6} {α1 : Sort v1} {α2 : Sort v2} {α3 : Sort v3} {α4 : Sort v4} {α5 : Sort v5} {α6 : Sort v6} {p1 p2 p3 p4 p5 p6 : α1 → α2 → α3 → α4 → α5 → α6 → Prop} (x1 : α1) (x2 : α2) (x3 : α3) (x4 : α4) (x5 : α5) (x6 : α6) (h1 : p1 x1 x2 x3 x4 x5 x6) (h2 : p2 x1 x2 x3 x4 x5 x6) (h3 : p3 x1 x2 x3 x4 x5 x6) (h4 : p4 x1 x2 x3 x4 x5 x6) (h5 : p5 x1 x2 x3 x4 x5 x6) (h6 : p6 x1 x2 x3 x4 x5 x6) : ∃ x1 x2 x3 x4 x5 x6, p1 x1 x2 x3 x4 x5 x6 ∧ p2 x1 x2 x3 x4 x5 x6 ∧ p3 x1 x2 x3 x4 x5 x6 ∧ p4 x1 x2 x3 x4 x5 x6 ∧ p5 x1 x2 x3 x4 x5 x6 ∧ p6 x1 x2 x3 x4 x5 x6 := ⟨x1, x2, x3, x4, x5, x6, h1, h2, h3, h4, h5, h6⟩
theorem mk7_6.{v1, v2, v3, v4, v5, v6, v7} {α1 : Sort v1} {α2 : Sort v2} {α3 : Sort v3} {α4 : Sort v4} {α5 : Sort v5} {α6 : Sort v6} {α7 : Sort v7} {p1 p2 p3 p4 p5 p6 : α1 → α2 → α3 → α4 → α5 → α6 → α7 → Prop} (x1 : α1) (x2 : α2) (x3 : α3) (x4 : α4) (x5 : α5) (x6 : α6) (x7 : α7) (h1 : p1 x1 x2 x3 x4 x5 x6 x7) (h2 : p2 x1 x2 x3 x4 x5 x6 x7) (h3 : p3 x1 x2 x3 x4 x5 x6 x7) (h4 : p4 x1 x2 x3 x4 x5 x6 x7) (h5 : p5 x1 x2 x3 x4 x5 x6 x7) (h6 : p6 x1 x2 x3 x4 x5 x6 x7) : ∃ x1 x2 x3 x4 x5 x6 x7, p1 x1 x2 x3 x4 x5 x6 x7 ∧ p2 x1 x2 x3 x4 x5 x6 x7 ∧ p3 x1 x2 x3 x4 x5 x6 x7 ∧ p4 x1 x2 x3 x4 x5 x6 x7 ∧ p5 x1 x2 x3 x4 x5 x6 x7 ∧ p6 x1 x2 x3 x4 x5 x6 x7 := ⟨x1, x2, x3, x4, x5, x6, x7, h1, h2, h3, h4, h5, h6⟩
theorem ea6_5.{v1, v2, v3, v4, v5, v6} {α1 : Sort v1} {α2 : Sort v2} {α3 : Sort v3} {α4 : Sort v4} {α5 : Sort v5} {α6 : Sort v6} {p1 p2 p3 p4 p5 : α1 → α2 → α3 → α4 → α5 → α6 → Prop} {G : Prop} (h : ∃ x1 x2 x3 x4 x5 x6, p1 x1 x2 x3 x4 x5 x6 ∧ p2 x1 x2 x3 x4 x5 x6 ∧ p3 x1 x2 x3 x4 x5 x6 ∧ p4 x1 x2 x3 x4 x5 x6 ∧ p5 x1 x2 x3 x4 x5 x6) (K : ∀ x1 x2 x3 x4 x5 x6, p1 x1 x2 x3 x4 x5 x6 → p2 x1 x2 x3 x4 x5 x6 → p3 x1 x2 x3 x4 x5 x6 → p4 x1 x2 x3 x4 x5 x6 → p5 x1 x2 x3 x4 x5 x6 → G) : G := h.elim fun x1 h => h.elim fun x2 h => h.elim fun x3 h => h.elim fun x4 h => h.elim fun x5 h => h.elim fun x6 h => K x1 x2 x3 x4 x5 x6 h.1 h.2.1 h.2.2.1 h.2.2.2.1 h.2.2.2.2
theorem mk4_5.{v1, v2, v3, v4} {α1 : Sort v1} {α2 : Sort v2} {α3 : Sort v3} {α4 : Sort v4} {p1 p2 p3 p4 p5 : α1 → α2 → α3 → α4 → Prop} (x1 : α1) (x2 : α2) (x3 : α3) (x4 : α4) (h1 : p1 x1 x2 x3 x4) (h2 : p2 x1 x2 x3 x4) (h3 : p3 x1 x2 x3 x4) (h4 : p4 x1 x2 x3 x4) (h5 : p5 x1 x2 x3 x4) : ∃ x1 x2 x3 x4, p1 x1 x2 x3 x4 ∧ p2 x1 x2 x3 x4 ∧ p3 x1 x2 x3 x4 ∧ p4 x1 x2 x3 x4 ∧ p5 x1 x2 x3 x4 := ⟨x1, x2, x3, x4, h1, h2, h3, h4, h5⟩
theorem ea8_12.{v1, v2, v3, v4, v5, v6, v7, v8} {α1 : Sort v1} {α2 : Sort v2} {α3 : Sort v3} {α4 : Sort v4} {α5 : Sort v5} {α6 : Sort v6} {α7 : Sort v7} {α8 : Sort v8} {p1 p2 p3 p4 p5 p6 p7 p8 p9 p10 p11 p12 : α1 → α2 → α3 → α4 → α5 → α6 → α7 → α8 → Prop} {G : Prop} (h : ∃ x1 x2 x3 x4 x5 x6 x7 x8, p1 x1 x2 x3 x4 x5 x6 x7 x8 ∧ p2 x1 x2 x3 x4 x5 x6 x7 x8 ∧ p3 x1 x2 x3 x4 x5 x6 x7 x8 ∧ p4 x1 x2 x3 x4 x5 x6 x7 x8 ∧ p5 x1 x2 x3 x4 x5 x6 x7 x8 ∧ p6 x1 x2 x3 x4 x5 x6 x7 x8 ∧ p7 x1 x2 x3 x4 x5 x6 x7 x8 ∧ p8 x1 x2 x3 x4 x5 x6 x7 x8 ∧ p9 x1 x2 x3 x4 x5 x6 x7 x8 ∧ p10 x1 x2 x3 x4 x5 x6 x7 x8 ∧ p11 x1 x2 x3 x4 x5 x6 x7 x8 ∧ p12 x1 x2 x3 x4 x5 x6 x7 x8) (K : ∀ x1 x2 x3 x4 x5 x6 x7 x8, p1 x1 x2 x3 x4 x5 x6 x7 x8 → p2 x1 x2 x3 x4 x5 x6 x7 x8 → p3 x1 x2 x3 x4 x5 x6 x7 x8 → p4 x1 x2 x3 x4 x5 x6 x7 x8 → p5 x1 x2 x3 x4 x5 x6 x7 x8 → p6 x1 x2 x3 x4 x5 x6 x7 x8 → p7 x1 x2 x3 x4 x5 x6 x7 x8 → p8 x1 x2 x3 x4 x5 x6 x7 x8 → p9 x1 x2 x3 x4 x5 x6 x7 x8 → p10 x1 x2 x3 x4 x5 x6 x7 x8 → p11 x1 x2 x3 x4 x5 x6 x7 x8 → p12 x1 x2 x3 x4 x5 x6 x7 x8 → G) : G := h.elim fun x1 h => h.elim fun x2 h => h.elim fun x3 h => h.elim fun x4 h => h.elim fun x5 h => h.elim fun x6 h => h.elim fun x7 h => h.elim fun x8 h => K x1 x2 x3 x4 x5 x6 x7 x8 h.1 h.2.1 h.2.2.1 h.2.2.2.1 h.2.2.2.2.1 h.2.2.2.2.2.1 h.2.2.2.2.2.2.1 h.2.2.2.2.2.2.2.1 h.2.2.2.2.2.2.2.2.1 h.2.2.2.2.2.2.2.2.2.1 h.2.2.2.2.2.2.2.2.2.2.1 h.2.2.2.2.2.2.2.2.2.2.2
theorem ea0_2 {p1 p2 : Prop} {G : Prop} (h : p1 ∧ p2) (K : p1 → p2 → G) : G := K  h.1 h.2
theorem ea5_8.{v1, v2, v3, v4, v5} {α1 : Sort v1} {α2 : Sort v2} {α3 : Sort v3} {α4 : Sort v4} {α5 : Sort v5} {p1 p2 p3 p4 p5 p6 p7 p8 : α1 → α2 → α3 → α4 → α5 → Prop} {G : Prop} (h : ∃ x1 x2 x3 x4 x5, p1 x1 x2 x3 x4 x5 ∧ p2 x1 x2 x3 x4 x5 ∧ p3 x1 x2 x3 x4 x5 ∧ p4 x1 x2 x3 x4 x5 ∧ p5 x1 x2 x3 x4 x5 ∧ p6 x1 x2 x3 x4 x5 ∧ p7 x1 x2 x3 x4 x5 ∧ p8 x1 x2 x3 x4 x5) (K : ∀ x1 x2 x3 x4 x5, p1 x1 x2 x3 x4 x5 → p2 x1 x2 x3 x4 x5 → p3 x1 x2 x3 x4 x5 → p4 x1 x2 x3 x4 x5 → p5 x1 x2 x3 x4 x5 → p6 x1 x2 x3 x4 x5 → p7 x1 x2 x3 x4 x5 → p8 x1 x2 x3 x4 x5 → G) : G := h.elim fun x1 h => h.elim fun x2 h => h.elim fun x3 h => h.elim fun x4 h => h.elim fun x5 h => K x1 x2 x3 x4 x5 h.1 h.2.1 h.2.2.1 h.2.2.2.1 h.2.2.2.2.1 h.2.2.2.2.2.1 h.2.2.2.2.2.2.1 h.2.2.2.2.2.2.2
theorem ea6_2.{v1, v2, v3, v4, v5, v6} {α1 : Sort v1} {α2 : Sort v2} {α3 : Sort v3} {α4 : Sort v4} {α5 : Sort v5} {α6 : Sort v6} {p1 p2 : α1 → α2 → α3 → α4 → α5 → α6 → Prop} {G : Prop} (h : ∃ x1 x2 x3 x4 x5 x6, p1 x1 x2 x3 x4 x5 x6 ∧ p2 x1 x2 x3 x4 x5 x6) (K : ∀ x1 x2 x3 x4 x5 x6, p1 x1 x2 x3 x4 x5 x6 → p2 x1 x2 x3 x4 x5 x6 → G) : G := h.elim fun x1 h => h.elim fun x2 h => h.elim fun x3 h => h.elim fun x4 h => h.elim fun x5 h => h.elim fun x6 h => K x1 x2 x3 x4 x5 x6 h.1 h.2
theorem ea6_9.{v1, v2, v3, v4, v5, v6} {α1 : Sort v1} {α2 : Sort v2} {α3 : Sort v3} {α4 : Sort v4} {α5 : Sort v5} {α6 : Sort v6} {p1 p2 p3 p4 p5 p6 p7 p8 p9 : α1 → α2 → α3 → α4 → α5 → α6 → Prop} {G : Prop} (h : ∃ x1 x2 x3 x4 x5 x6, p1 x1 x2 x3 x4 x5 x6 ∧ p2 x1 x2 x3 x4 x5 x6 ∧ p3 x1 x2 x3 x4 x5 x6 ∧ p4 x1 x2 x3 x4 x5 x6 ∧ p5 x1 x2 x3 x4 x5 x6 ∧ p6 x1 x2 x3 x4 x5 x6 ∧ p7 x1 x2 x3 x4 x5 x6 ∧ p8 x1 x2 x3 x4 x5 x6 ∧ p9 x1 x2 x3 x4 x5 x6) (K : ∀ x1 x2 x3 x4 x5 x6, p1 x1 x2 x3 x4 x5 x6 → p2 x1 x2 x3 x4 x5 x6 → p3 x1 x2 x3 x4 x5 x6 → p4 x1 x2 x3 x4 x5 x6 → p5 x1 x2 x3 x4 x5 x6 → p6 x1 x2 x3 x4 x5 x6 → p7 x1 x2 x3 x4 x5 x6 → p8 x1 x2 x3 x4 x5 x6 → p9 x1 x2 x3 x4 x5 x6 → G) : G := h.elim fun x1 h => h.elim fun x2 h => h.elim fun x3 h => h.elim fun x4 h => h.elim fun x5 h => h.elim fun x6 h => K x1 x2 x3 x4 x5 x6 h.1 h.2.1 h.2.2.1 h.2.2.2.1 h.2.2.2.2.1 h.2.2.2.2.2.1 h.2.2.2.2.2.2.1 h.2.2.2.2.2.2.2.1 h.2.2.2.2.2.2.2.2
theorem ea7_9.{v1, v2, v3, v4, v5, v6, v7} {α1 : Sort v1} {α2 : Sort v2} {α3 : Sort v3} {α4 : Sort v4} {α5 : Sort v5} {α6 : Sort v6} {α7 : Sort v7} {p1 p2 p3 p4 p5 p6 p7 p8 p9 : α1 → α2 → α3 → α4 → α5 → α6 → α7 → Prop} {G : Prop} (h : ∃ x1 x2 x3 x4 x5 x6 x7, p1 x1 x2 x3 x4 x5 x6 x7 ∧ p2 x1 x2 x3 x4 x5 x6 x7 ∧ p3 x1 x2 x3 x4 x5 x6 x7 ∧ p4 x1 x2 x3 x4 x5 x6 x7 ∧ p5 x1 x2 x3 x4 x5 x6 x7 ∧ p6 x1 x2 x3 x4 x5 x6 x7 ∧ p7 x1 x2 x3 x4 x5 x6 x7 ∧ p8 x1 x2 x3 x4 x5 x6 x7 ∧ p9 x1 x2 x3 x4 x5 x6 x7) (K : ∀ x1 x2 x3 x4 x5 x6 x7, p1 x1 x2 x3 x4 x5 x6 x7 → p2 x1 x2 x3 x4 x5 x6 x7 → p3 x1 x2 x3 x4 x5 x6 x7 → p4 x1 x2 x3 x4 x5 x6 x7 → p5 x1 x2 x3 x4 x5 x6 x7 → p6 x1 x2 x3 x4 x5 x6 x7 → p7 x1 x2 x3 x4 x5 x6 x7 → p8 x1 x2 x3 x4 x5 x6 x7 → p9 x1 x2 x3 x4 x5 x6 x7 → G) : G := h.elim fun x1 h => h.elim fun x2 h => h.elim fun x3 h => h.elim fun x4 h => h.elim fun x5 h => h.elim fun x6 h => h.elim fun x7 h => K x1 x2 x3 x4 x5 x6 x7 h.1 h.2.1 h.2.2.1 h.2.2.2.1 h.2.2.2.2.1 h.2.2.2.2.2.1 h.2.2.2.2.2.2.1 h.2.2.2.2.2.2.2.1 h.2.2.2.2.2.2.2.2
theorem mk5_8.{v1, v2, v3, v4, v5} {α1 : Sort v1} {α2 : Sort v2} {α3 : Sort v3} {α4 : Sort v4} {α5 : Sort v5} {p1 p2 p3 p4 p5 p6 p7 p8 : α1 → α2 → α3 → α4 → α5 → Prop} (x1 : α1) (x2 : α2) (x3 : α3) (x4 : α4) (x5 : α5) (h1 : p1 x1 x2 x3 x4 x5) (h2 : p2 x1 x2 x3 x4 x5) (h3 : p3 x1 x2 x3 x4 x5) (h4 : p4 x1 x2 x3 x4 x5) (h5 : p5 x1 x2 x3 x4 x5) (h6 : p6 x1 x2 x3 x4 x5) (h7 : p7 x1 x2 x3 x4 x5) (h8 : p8 x1 x2 x3 x4 x5) : ∃ x1 x2 x3 x4 x5, p1 x1 x2 x3 x4 x5 ∧ p2 x1 x2 x3 x4 x5 ∧ p3 x1 x2 x3 x4 x5 ∧ p4 x1 x2 x3 x4 x5 ∧ p5 x1 x2 x3 x4 x5 ∧ p6 x1 x2 x3 x4 x5 ∧ p7 x1 x2 x3 x4 x5 ∧ p8 x1 x2 x3 x4 x5 := ⟨x1, x2, x3, x4, x5, h1, h2, h3, h4, h5, h6, h7, h8⟩
theorem mk6_9.{v1, v2, v3, v4, v5, v6} {α1 : Sort v1} {α2 : Sort v2} {α3 : Sort v3} {α4 : Sort v4} {α5 : Sort v5} {α6 : Sort v6} {p1 p2 p3 p4 p5 p6 p7 p8 p9 : α1 → α2 → α3 → α4 → α5 → α6 → Prop} (x1 : α1) (x2 : α2) (x3 : α3) (x4 : α4) (x5 : α5) (x6 : α6) (h1 : p1 x1 x2 x3 x4 x5 x6) (h2 : p2 x1 x2 x3 x4 x5 x6) (h3 : p3 x1 x2 x3 x4 x5 x6) (h4 : p4 x1 x2 x3 x4 x5 x6) (h5 : p5 x1 x2 x3 x4 x5 x6) (h6 : p6 x1 x2 x3 x4 x5 x6) (h7 : p7 x1 x2 x3 x4 x5 x6) (h8 : p8 x1 x2 x3 x4 x5 x6) (h9 : p9 x1 x2 x3 x4 x5 x6) : ∃ x1 x2 x3 x4 x5 x6, p1 x1 x2 x3 x4 x5 x6 ∧ p2 x1 x2 x3 x4 x5 x6 ∧ p3 x1 x2 x3 x4 x5 x6 ∧ p4 x1 x2 x3 x4 x5 x6 ∧ p5 x1 x2 x3 x4 x5 x6 ∧ p6 x1 x2 x3 x4 x5 x6 ∧ p7 x1 x2 x3 x4 x5 x6 ∧ p8 x1 x2 x3 x4 x5 x6 ∧ p9 x1 x2 x3 x4 x5 x6 := ⟨x1, x2, x3, x4, x5, x6, h1, h2, h3, h4, h5, h6, h7, h8, h9⟩
theorem mk7_9.{v1, v2, v3, v4, v5, v6, v7} {α1 : Sort v1} {α2 : Sort v2} {α3 : Sort v3} {α4 : Sort v4} {α5 : Sort v5} {α6 : Sort v6} {α7 : Sort v7} {p1 p2 p3 p4 p5 p6 p7 p8 p9 : α1 → α2 → α3 → α4 → α5 → α6 → α7 → Prop} (x1 : α1) (x2 : α2) (x3 : α3) (x4 : α4) (x5 : α5) (x6 : α6) (x7 : α7) (h1 : p1 x1 x2 x3 x4 x5 x6 x7) (h2 : p2 x1 x2 x3 x4 x5 x6 x7) (h3 : p3 x1 x2 x3 x4 x5 x6 x7) (h4 : p4 x1 x2 x3 x4 x5 x6 x7) (h5 : p5 x1 x2 x3 x4 x5 x6 x7) (h6 : p6 x1 x2 x3 x4 x5 x6 x7) (h7 : p7 x1 x2 x3 x4 x5 x6 x7) (h8 : p8 x1 x2 x3 x4 x5 x6 x7) (h9 : p9 x1 x2 x3 x4 x5 x6 x7) : ∃ x1 x2 x3 x4 x5 x6 x7, p1 x1 x2 x3 x4 x5 x6 x7 ∧ p2 x1 x2 x3 x4 x5 x6 x7 ∧ p3 x1 x2 x3 x4 x5 x6 x7 ∧ p4 x1 x2 x3 x4 x5 x6 x7 ∧ p5 x1 x2 x3 x4 x5 x6 x7 ∧ p6 x1 x2 x3 x4 x5 x6 x7 ∧ p7 x1 x2 x3 x4 x5 x6 x7 ∧ p8 x1 x2 x3 x4 x5 x6 x7 ∧ p9 x1 x2 x3 x4 x5 x6 x7 := ⟨x1, x2, x3, x4, x5, x6, x7, h1, h2, h3, h4, h5, h6, h7, h8, h9⟩
theorem mk0_3 {p1 p2 p3 : Prop}  (h1 : p1) (h2 : p2) (h3 : p3) : p1 ∧ p2 ∧ p3 := ⟨h1, h2, h3⟩
theorem mk0_4 {p1 p2 p3 p4 : Prop}  (h1 : p1) (h2 : p2) (h3 : p3) (h4 : p4) : p1 ∧ p2 ∧ p3 ∧ p4 := ⟨h1, h2, h3, h4⟩
theorem mk1_2.{v1} {α1 : Sort v1} {p1 p2 : α1 → Prop} (x1 : α1) (h1 : p1 x1) (h2 : p2 x1) : ∃ x1, p1 x1 ∧ p2 x1 := ⟨x1, h1, h2⟩
theorem mk1_3.{v1} {α1 : Sort v1} {p1 p2 p3 : α1 → Prop} (x1 : α1) (h1 : p1 x1) (h2 : p2 x1) (h3 : p3 x1) : ∃ x1, p1 x1 ∧ p2 x1 ∧ p3 x1 := ⟨x1, h1, h2, h3⟩
theorem mk1_4.{v1} {α1 : Sort v1} {p1 p2 p3 p4 : α1 → Prop} (x1 : α1) (h1 : p1 x1) (h2 : p2 x1) (h3 : p3 x1) (h4 : p4 x1) : ∃ x1, p1 x1 ∧ p2 x1 ∧ p3 x1 ∧ p4 x1 := ⟨x1, h1, h2, h3, h4⟩
theorem mk1_5.{v1} {α1 : Sort v1} {p1 p2 p3 p4 p5 : α1 → Prop} (x1 : α1) (h1 : p1 x1) (h2 : p2 x1) (h3 : p3 x1) (h4 : p4 x1) (h5 : p5 x1) : ∃ x1, p1 x1 ∧ p2 x1 ∧ p3 x1 ∧ p4 x1 ∧ p5 x1 := ⟨x1, h1, h2, h3, h4, h5⟩
theorem mk2_1.{v1, v2} {α1 : Sort v1} {α2 : Sort v2} {p1 : α1 → α2 → Prop} (x1 : α1) (x2 : α2) (h1 : p1 x1 x2) : ∃ x1 x2, p1 x1 x2 := ⟨x1, x2, h1⟩
theorem mk2_2.{v1, v2} {α1 : Sort v1} {α2 : Sort v2} {p1 p2 : α1 → α2 → Prop} (x1 : α1) (x2 : α2) (h1 : p1 x1 x2) (h2 : p2 x1 x2) : ∃ x1 x2, p1 x1 x2 ∧ p2 x1 x2 := ⟨x1, x2, h1, h2⟩
theorem mk2_3.{v1, v2} {α1 : Sort v1} {α2 : Sort v2} {p1 p2 p3 : α1 → α2 → Prop} (x1 : α1) (x2 : α2) (h1 : p1 x1 x2) (h2 : p2 x1 x2) (h3 : p3 x1 x2) : ∃ x1 x2, p1 x1 x2 ∧ p2 x1 x2 ∧ p3 x1 x2 := ⟨x1, x2, h1, h2, h3⟩
theorem mk2_4.{v1, v2} {α1 : Sort v1} {α2 : Sort v2} {p1 p2 p3 p4 : α1 → α2 → Prop} (x1 : α1) (x2 : α2) (h1 : p1 x1 x2) (h2 : p2 x1 x2) (h3 : p3 x1 x2) (h4 : p4 x1 x2) : ∃ x1 x2, p1 x1 x2 ∧ p2 x1 x2 ∧ p3 x1 x2 ∧ p4 x1 x2 := ⟨x1, x2, h1, h2, h3, h4⟩
theorem mk2_5.{v1, v2} {α1 : Sort v1} {α2 : Sort v2} {p1 p2 p3 p4 p5 : α1 → α2 → Prop} (x1 : α1) (x2 : α2) (h1 : p1 x1 x2) (h2 : p2 x1 x2) (h3 : p3 x1 x2) (h4 : p4 x1 x2) (h5 : p5 x1 x2) : ∃ x1 x2, p1 x1 x2 ∧ p2 x1 x2 ∧ p3 x1 x2 ∧ p4 x1 x2 ∧ p5 x1 x2 := ⟨x1, x2, h1, h2, h3, h4, h5⟩
theorem mk2_6.{v1, v2} {α1 : Sort v1} {α2 : Sort v2} {p1 p2 p3 p4 p5 p6 : α1 → α2 → Prop} (x1 : α1) (x2 : α2) (h1 : p1 x1 x2) (h2 : p2 x1 x2) (h3 : p3 x1 x2) (h4 : p4 x1 x2) (h5 : p5 x1 x2) (h6 : p6 x1 x2) : ∃ x1 x2, p1 x1 x2 ∧ p2 x1 x2 ∧ p3 x1 x2 ∧ p4 x1 x2 ∧ p5 x1 x2 ∧ p6 x1 x2 := ⟨x1, x2, h1, h2, h3, h4, h5, h6⟩
theorem mk2_7.{v1, v2} {α1 : Sort v1} {α2 : Sort v2} {p1 p2 p3 p4 p5 p6 p7 : α1 → α2 → Prop} (x1 : α1) (x2 : α2) (h1 : p1 x1 x2) (h2 : p2 x1 x2) (h3 : p3 x1 x2) (h4 : p4 x1 x2) (h5 : p5 x1 x2) (h6 : p6 x1 x2) (h7 : p7 x1 x2) : ∃ x1 x2, p1 x1 x2 ∧ p2 x1 x2 ∧ p3 x1 x2 ∧ p4 x1 x2 ∧ p5 x1 x2 ∧ p6 x1 x2 ∧ p7 x1 x2 := ⟨x1, x2, h1, h2, h3, h4, h5, h6, h7⟩
theorem mk3_1.{v1, v2, v3} {α1 : Sort v1} {α2 : Sort v2} {α3 : Sort v3} {p1 : α1 → α2 → α3 → Prop} (x1 : α1) (x2 : α2) (x3 : α3) (h1 : p1 x1 x2 x3) : ∃ x1 x2 x3, p1 x1 x2 x3 := ⟨x1, x2, x3, h1⟩
theorem mk3_2.{v1, v2, v3} {α1 : Sort v1} {α2 : Sort v2} {α3 : Sort v3} {p1 p2 : α1 → α2 → α3 → Prop} (x1 : α1) (x2 : α2) (x3 : α3) (h1 : p1 x1 x2 x3) (h2 : p2 x1 x2 x3) : ∃ x1 x2 x3, p1 x1 x2 x3 ∧ p2 x1 x2 x3 := ⟨x1, x2, x3, h1, h2⟩
theorem mk3_3.{v1, v2, v3} {α1 : Sort v1} {α2 : Sort v2} {α3 : Sort v3} {p1 p2 p3 : α1 → α2 → α3 → Prop} (x1 : α1) (x2 : α2) (x3 : α3) (h1 : p1 x1 x2 x3) (h2 : p2 x1 x2 x3) (h3 : p3 x1 x2 x3) : ∃ x1 x2 x3, p1 x1 x2 x3 ∧ p2 x1 x2 x3 ∧ p3 x1 x2 x3 := ⟨x1, x2, x3, h1, h2, h3⟩
theorem mk3_4.{v1, v2, v3} {α1 : Sort v1} {α2 : Sort v2} {α3 : Sort v3} {p1 p2 p3 p4 : α1 → α2 → α3 → Prop} (x1 : α1) (x2 : α2) (x3 : α3) (h1 : p1 x1 x2 x3) (h2 : p2 x1 x2 x3) (h3 : p3 x1 x2 x3) (h4 : p4 x1 x2 x3) : ∃ x1 x2 x3, p1 x1 x2 x3 ∧ p2 x1 x2 x3 ∧ p3 x1 x2 x3 ∧ p4 x1 x2 x3 := ⟨x1, x2, x3, h1, h2, h3, h4⟩
theorem mk3_5.{v1, v2, v3} {α1 : Sort v1} {α2 : Sort v2} {α3 : Sort v3} {p1 p2 p3 p4 p5 : α1 → α2 → α3 → Prop} (x1 : α1) (x2 : α2) (x3 : α3) (h1 : p1 x1 x2 x3) (h2 : p2 x1 x2 x3) (h3 : p3 x1 x2 x3) (h4 : p4 x1 x2 x3) (h5 : p5 x1 x2 x3) : ∃ x1 x2 x3, p1 x1 x2 x3 ∧ p2 x1 x2 x3 ∧ p3 x1 x2 x3 ∧ p4 x1 x2 x3 ∧ p5 x1 x2 x3 := ⟨x1, x2, x3, h1, h2, h3, h4, h5⟩
theorem mk3_6.{v1, v2, v3} {α1 : Sort v1} {α2 : Sort v2} {α3 : Sort v3} {p1 p2 p3 p4 p5 p6 : α1 → α2 → α3 → Prop} (x1 : α1) (x2 : α2) (x3 : α3) (h1 : p1 x1 x2 x3) (h2 : p2 x1 x2 x3) (h3 : p3 x1 x2 x3) (h4 : p4 x1 x2 x3) (h5 : p5 x1 x2 x3) (h6 : p6 x1 x2 x3) : ∃ x1 x2 x3, p1 x1 x2 x3 ∧ p2 x1 x2 x3 ∧ p3 x1 x2 x3 ∧ p4 x1 x2 x3 ∧ p5 x1 x2 x3 ∧ p6 x1 x2 x3 := ⟨x1, x2, x3, h1, h2, h3, h4, h5, h6⟩
theorem mk4_1.{v1, v2, v3, v4} {α1 : Sort v1} {α2 : Sort v2} {α3 : Sort v3} {α4 : Sort v4} {p1 : α1 → α2 → α3 → α4 → Prop} (x1 : α1) (x2 : α2) (x3 : α3) (x4 : α4) (h1 : p1 x1 x2 x3 x4) : ∃ x1 x2 x3 x4, p1 x1 x2 x3 x4 := ⟨x1, x2, x3, x4, h1⟩
theorem mk4_6.{v1, v2, v3, v4} {α1 : Sort v1} {α2 : Sort v2} {α3 : Sort v3} {α4 : Sort v4} {p1 p2 p3 p4 p5 p6 : α1 → α2 → α3 → α4 → Prop} (x1 : α1) (x2 : α2) (x3 : α3) (x4 : α4) (h1 : p1 x1 x2 x3 x4) (h2 : p2 x1 x2 x3 x4) (h3 : p3 x1 x2 x3 x4) (h4 : p4 x1 x2 x3 x4) (h5 : p5 x1 x2 x3 x4) (h6 : p6 x1 x2 x3 x4) : ∃ x1 x2 x3 x4, p1 x1 x2 x3 x4 ∧ p2 x1 x2 x3 x4 ∧ p3 x1 x2 x3 x4 ∧ p4 x1 x2 x3 x4 ∧ p5 x1 x2 x3 x4 ∧ p6 x1 x2 x3 x4 := ⟨x1, x2, x3, x4, h1, h2, h3, h4, h5, h6⟩
theorem mk5_3.{v1, v2, v3, v4, v5} {α1 : Sort v1} {α2 : Sort v2} {α3 : Sort v3} {α4 : Sort v4} {α5 : Sort v5} {p1 p2 p3 : α1 → α2 → α3 → α4 → α5 → Prop} (x1 : α1) (x2 : α2) (x3 : α3) (x4 : α4) (x5 : α5) (h1 : p1 x1 x2 x3 x4 x5) (h2 : p2 x1 x2 x3 x4 x5) (h3 : p3 x1 x2 x3 x4 x5) : ∃ x1 x2 x3 x4 x5, p1 x1 x2 x3 x4 x5 ∧ p2 x1 x2 x3 x4 x5 ∧ p3 x1 x2 x3 x4 x5 := ⟨x1, x2, x3, x4, x5, h1, h2, h3⟩
theorem mk6_5.{v1, v2, v3, v4, v5, v6} {α1 : Sort v1} {α2 : Sort v2} {α3 : Sort v3} {α4 : Sort v4} {α5 : Sort v5} {α6 : Sort v6} {p1 p2 p3 p4 p5 : α1 → α2 → α3 → α4 → α5 → α6 → Prop} (x1 : α1) (x2 : α2) (x3 : α3) (x4 : α4) (x5 : α5) (x6 : α6) (h1 : p1 x1 x2 x3 x4 x5 x6) (h2 : p2 x1 x2 x3 x4 x5 x6) (h3 : p3 x1 x2 x3 x4 x5 x6) (h4 : p4 x1 x2 x3 x4 x5 x6) (h5 : p5 x1 x2 x3 x4 x5 x6) : ∃ x1 x2 x3 x4 x5 x6, p1 x1 x2 x3 x4 x5 x6 ∧ p2 x1 x2 x3 x4 x5 x6 ∧ p3 x1 x2 x3 x4 x5 x6 ∧ p4 x1 x2 x3 x4 x5 x6 ∧ p5 x1 x2 x3 x4 x5 x6 := ⟨x1, x2, x3, x4, x5, x6, h1, h2, h3, h4, h5⟩
theorem mk6_7.{v1, v2, v3, v4, v5, v6} {α1 : Sort v1} {α2 : Sort v2} {α3 : Sort v3} {α4 : Sort v4} {α5 : Sort v5} {α6 : Sort v6} {p1 p2 p3 p4 p5 p6 p7 : α1 → α2 → α3 → α4 → α5 → α6 → Prop} (x1 : α1) (x2 : α2) (x3 : α3) (x4 : α4) (x5 : α5) (x6 : α6) (h1 : p1 x1 x2 x3 x4 x5 x6) (h2 : p2 x1 x2 x3 x4 x5 x6) (h3 : p3 x1 x2 x3 x4 x5 x6) (h4 : p4 x1 x2 x3 x4 x5 x6) (h5 : p5 x1 x2 x3 x4 x5 x6) (h6 : p6 x1 x2 x3 x4 x5 x6) (h7 : p7 x1 x2 x3 x4 x5 x6) : ∃ x1 x2 x3 x4 x5 x6, p1 x1 x2 x3 x4 x5 x6 ∧ p2 x1 x2 x3 x4 x5 x6 ∧ p3 x1 x2 x3 x4 x5 x6 ∧ p4 x1 x2 x3 x4 x5 x6 ∧ p5 x1 x2 x3 x4 x5 x6 ∧ p6 x1 x2 x3 x4 x5 x6 ∧ p7 x1 x2 x3 x4 x5 x6 := ⟨x1, x2, x3, x4, x5, x6, h1, h2, h3, h4, h5, h6, h7⟩
theorem mk7_3.{v1, v2, v3, v4, v5, v6, v7} {α1 : Sort v1} {α2 : Sort v2} {α3 : Sort v3} {α4 : Sort v4} {α5 : Sort v5} {α6 : Sort v6} {α7 : Sort v7} {p1 p2 p3 : α1 → α2 → α3 → α4 → α5 → α6 → α7 → Prop} (x1 : α1) (x2 : α2) (x3 : α3) (x4 : α4) (x5 : α5) (x6 : α6) (x7 : α7) (h1 : p1 x1 x2 x3 x4 x5 x6 x7) (h2 : p2 x1 x2 x3 x4 x5 x6 x7) (h3 : p3 x1 x2 x3 x4 x5 x6 x7) : ∃ x1 x2 x3 x4 x5 x6 x7, p1 x1 x2 x3 x4 x5 x6 x7 ∧ p2 x1 x2 x3 x4 x5 x6 x7 ∧ p3 x1 x2 x3 x4 x5 x6 x7 := ⟨x1, x2, x3, x4, x5, x6, x7, h1, h2, h3⟩
theorem mk8_6.{v1, v2, v3, v4, v5, v6, v7, v8} {α1 : Sort v1} {α2 : Sort v2} {α3 : Sort v3} {α4 : Sort v4} {α5 : Sort v5} {α6 : Sort v6} {α7 : Sort v7} {α8 : Sort v8} {p1 p2 p3 p4 p5 p6 : α1 → α2 → α3 → α4 → α5 → α6 → α7 → α8 → Prop} (x1 : α1) (x2 : α2) (x3 : α3) (x4 : α4) (x5 : α5) (x6 : α6) (x7 : α7) (x8 : α8) (h1 : p1 x1 x2 x3 x4 x5 x6 x7 x8) (h2 : p2 x1 x2 x3 x4 x5 x6 x7 x8) (h3 : p3 x1 x2 x3 x4 x5 x6 x7 x8) (h4 : p4 x1 x2 x3 x4 x5 x6 x7 x8) (h5 : p5 x1 x2 x3 x4 x5 x6 x7 x8) (h6 : p6 x1 x2 x3 x4 x5 x6 x7 x8) : ∃ x1 x2 x3 x4 x5 x6 x7 x8, p1 x1 x2 x3 x4 x5 x6 x7 x8 ∧ p2 x1 x2 x3 x4 x5 x6 x7 x8 ∧ p3 x1 x2 x3 x4 x5 x6 x7 x8 ∧ p4 x1 x2 x3 x4 x5 x6 x7 x8 ∧ p5 x1 x2 x3 x4 x5 x6 x7 x8 ∧ p6 x1 x2 x3 x4 x5 x6 x7 x8 := ⟨x1, x2, x3, x4, x5, x6, x7, x8, h1, h2, h3, h4, h5, h6⟩
theorem mk8_12.{v1, v2, v3, v4, v5, v6, v7, v8} {α1 : Sort v1} {α2 : Sort v2} {α3 : Sort v3} {α4 : Sort v4} {α5 : Sort v5} {α6 : Sort v6} {α7 : Sort v7} {α8 : Sort v8} {p1 p2 p3 p4 p5 p6 p7 p8 p9 p10 p11 p12 : α1 → α2 → α3 → α4 → α5 → α6 → α7 → α8 → Prop} (x1 : α1) (x2 : α2) (x3 : α3) (x4 : α4) (x5 : α5) (x6 : α6) (x7 : α7) (x8 : α8) (h1 : p1 x1 x2 x3 x4 x5 x6 x7 x8) (h2 : p2 x1 x2 x3 x4 x5 x6 x7 x8) (h3 : p3 x1 x2 x3 x4 x5 x6 x7 x8) (h4 : p4 x1 x2 x3 x4 x5 x6 x7 x8) (h5 : p5 x1 x2 x3 x4 x5 x6 x7 x8) (h6 : p6 x1 x2 x3 x4 x5 x6 x7 x8) (h7 : p7 x1 x2 x3 x4 x5 x6 x7 x8) (h8 : p8 x1 x2 x3 x4 x5 x6 x7 x8) (h9 : p9 x1 x2 x3 x4 x5 x6 x7 x8) (h10 : p10 x1 x2 x3 x4 x5 x6 x7 x8) (h11 : p11 x1 x2 x3 x4 x5 x6 x7 x8) (h12 : p12 x1 x2 x3 x4 x5 x6 x7 x8) : ∃ x1 x2 x3 x4 x5 x6 x7 x8, p1 x1 x2 x3 x4 x5 x6 x7 x8 ∧ p2 x1 x2 x3 x4 x5 x6 x7 x8 ∧ p3 x1 x2 x3 x4 x5 x6 x7 x8 ∧ p4 x1 x2 x3 x4 x5 x6 x7 x8 ∧ p5 x1 x2 x3 x4 x5 x6 x7 x8 ∧ p6 x1 x2 x3 x4 x5 x6 x7 x8 ∧ p7 x1 x2 x3 x4 x5 x6 x7 x8 ∧ p8 x1 x2 x3 x4 x5 x6 x7 x8 ∧ p9 x1 x2 x3 x4 x5 x6 x7 x8 ∧ p10 x1 x2 x3 x4 x5 x6 x7 x8 ∧ p11 x1 x2 x3 x4 x5 x6 x7 x8 ∧ p12 x1 x2 x3 x4 x5 x6 x7 x8 := ⟨x1, x2, x3, x4, x5, x6, x7, x8, h1, h2, h3, h4, h5, h6, h7, h8, h9, h10, h11, h12⟩
theorem mk9_11.{v1, v2, v3, v4, v5, v6, v7, v8, v9} {α1 : Sort v1} {α2 : Sort v2} {α3 : Sort v3} {α4 : Sort v4} {α5 : Sort v5} {α6 : Sort v6} {α7 : Sort v7} {α8 : Sort v8} {α9 : Sort v9} {p1 p2 p3 p4 p5 p6 p7 p8 p9 p10 p11 : α1 → α2 → α3 → α4 → α5 → α6 → α7 → α8 → α9 → Prop} (x1 : α1) (x2 : α2) (x3 : α3) (x4 : α4) (x5 : α5) (x6 : α6) (x7 : α7) (x8 : α8) (x9 : α9) (h1 : p1 x1 x2 x3 x4 x5 x6 x7 x8 x9) (h2 : p2 x1 x2 x3 x4 x5 x6 x7 x8 x9) (h3 : p3 x1 x2 x3 x4 x5 x6 x7 x8 x9) (h4 : p4 x1 x2 x3 x4 x5 x6 x7 x8 x9) (h5 : p5 x1 x2 x3 x4 x5 x6 x7 x8 x9) (h6 : p6 x1 x2 x3 x4 x5 x6 x7 x8 x9) (h7 : p7 x1 x2 x3 x4 x5 x6 x7 x8 x9) (h8 : p8 x1 x2 x3 x4 x5 x6 x7 x8 x9) (h9 : p9 x1 x2 x3 x4 x5 x6 x7 x8 x9) (h10 : p10 x1 x2 x3 x4 x5 x6 x7 x8 x9) (h11 : p11 x1 x2 x3 x4 x5 x6 x7 x8 x9) : ∃ x1 x2 x3 x4 x5 x6 x7 x8 x9, p1 x1 x2 x3 x4 x5 x6 x7 x8 x9 ∧ p2 x1 x2 x3 x4 x5 x6 x7 x8 x9 ∧ p3 x1 x2 x3 x4 x5 x6 x7 x8 x9 ∧ p4 x1 x2 x3 x4 x5 x6 x7 x8 x9 ∧ p5 x1 x2 x3 x4 x5 x6 x7 x8 x9 ∧ p6 x1 x2 x3 x4 x5 x6 x7 x8 x9 ∧ p7 x1 x2 x3 x4 x5 x6 x7 x8 x9 ∧ p8 x1 x2 x3 x4 x5 x6 x7 x8 x9 ∧ p9 x1 x2 x3 x4 x5 x6 x7 x8 x9 ∧ p10 x1 x2 x3 x4 x5 x6 x7 x8 x9 ∧ p11 x1 x2 x3 x4 x5 x6 x7 x8 x9 := ⟨x1, x2, x3, x4, x5, x6, x7, x8, x9, h1, h2, h3, h4, h5, h6, h7, h8, h9, h10, h11⟩
theorem ea0_3 {p1 p2 p3 : Prop} {G : Prop} (h : p1 ∧ p2 ∧ p3) (K : p1 → p2 → p3 → G) : G := K  h.1 h.2.1 h.2.2
theorem ea0_4 {p1 p2 p3 p4 : Prop} {G : Prop} (h : p1 ∧ p2 ∧ p3 ∧ p4) (K : p1 → p2 → p3 → p4 → G) : G := K  h.1 h.2.1 h.2.2.1 h.2.2.2
theorem ea0_6 {p1 p2 p3 p4 p5 p6 : Prop} {G : Prop} (h : p1 ∧ p2 ∧ p3 ∧ p4 ∧ p5 ∧ p6) (K : p1 → p2 → p3 → p4 → p5 → p6 → G) : G := K  h.1 h.2.1 h.2.2.1 h.2.2.2.1 h.2.2.2.2.1 h.2.2.2.2.2
theorem ea0_7 {p1 p2 p3 p4 p5 p6 p7 : Prop} {G : Prop} (h : p1 ∧ p2 ∧ p3 ∧ p4 ∧ p5 ∧ p6 ∧ p7) (K : p1 → p2 → p3 → p4 → p5 → p6 → p7 → G) : G := K  h.1 h.2.1 h.2.2.1 h.2.2.2.1 h.2.2.2.2.1 h.2.2.2.2.2.1 h.2.2.2.2.2.2
theorem ea0_8 {p1 p2 p3 p4 p5 p6 p7 p8 : Prop} {G : Prop} (h : p1 ∧ p2 ∧ p3 ∧ p4 ∧ p5 ∧ p6 ∧ p7 ∧ p8) (K : p1 → p2 → p3 → p4 → p5 → p6 → p7 → p8 → G) : G := K  h.1 h.2.1 h.2.2.1 h.2.2.2.1 h.2.2.2.2.1 h.2.2.2.2.2.1 h.2.2.2.2.2.2.1 h.2.2.2.2.2.2.2
theorem ea1_2.{v1} {α1 : Sort v1} {p1 p2 : α1 → Prop} {G : Prop} (h : ∃ x1, p1 x1 ∧ p2 x1) (K : ∀ x1, p1 x1 → p2 x1 → G) : G := h.elim fun x1 h => K x1 h.1 h.2
theorem ea1_3.{v1} {α1 : Sort v1} {p1 p2 p3 : α1 → Prop} {G : Prop} (h : ∃ x1, p1 x1 ∧ p2 x1 ∧ p3 x1) (K : ∀ x1, p1 x1 → p2 x1 → p3 x1 → G) : G := h.elim fun x1 h => K x1 h.1 h.2.1 h.2.2
theorem ea1_4.{v1} {α1 : Sort v1} {p1 p2 p3 p4 : α1 → Prop} {G : Prop} (h : ∃ x1, p1 x1 ∧ p2 x1 ∧ p3 x1 ∧ p4 x1) (K : ∀ x1, p1 x1 → p2 x1 → p3 x1 → p4 x1 → G) : G := h.elim fun x1 h => K x1 h.1 h.2.1 h.2.2.1 h.2.2.2
theorem ea1_5.{v1} {α1 : Sort v1} {p1 p2 p3 p4 p5 : α1 → Prop} {G : Prop} (h : ∃ x1, p1 x1 ∧ p2 x1 ∧ p3 x1 ∧ p4 x1 ∧ p5 x1) (K : ∀ x1, p1 x1 → p2 x1 → p3 x1 → p4 x1 → p5 x1 → G) : G := h.elim fun x1 h => K x1 h.1 h.2.1 h.2.2.1 h.2.2.2.1 h.2.2.2.2
theorem ea2_1.{v1, v2} {α1 : Sort v1} {α2 : Sort v2} {p1 : α1 → α2 → Prop} {G : Prop} (h : ∃ x1 x2, p1 x1 x2) (K : ∀ x1 x2, p1 x1 x2 → G) : G := h.elim fun x1 h => h.elim fun x2 h => K x1 x2 h
theorem ea2_2.{v1, v2} {α1 : Sort v1} {α2 : Sort v2} {p1 p2 : α1 → α2 → Prop} {G : Prop} (h : ∃ x1 x2, p1 x1 x2 ∧ p2 x1 x2) (K : ∀ x1 x2, p1 x1 x2 → p2 x1 x2 → G) : G := h.elim fun x1 h => h.elim fun x2 h => K x1 x2 h.1 h.2
theorem ea2_3.{v1, v2} {α1 : Sort v1} {α2 : Sort v2} {p1 p2 p3 : α1 → α2 → Prop} {G : Prop} (h : ∃ x1 x2, p1 x1 x2 ∧ p2 x1 x2 ∧ p3 x1 x2) (K : ∀ x1 x2, p1 x1 x2 → p2 x1 x2 → p3 x1 x2 → G) : G := h.elim fun x1 h => h.elim fun x2 h => K x1 x2 h.1 h.2.1 h.2.2
theorem ea2_4.{v1, v2} {α1 : Sort v1} {α2 : Sort v2} {p1 p2 p3 p4 : α1 → α2 → Prop} {G : Prop} (h : ∃ x1 x2, p1 x1 x2 ∧ p2 x1 x2 ∧ p3 x1 x2 ∧ p4 x1 x2) (K : ∀ x1 x2, p1 x1 x2 → p2 x1 x2 → p3 x1 x2 → p4 x1 x2 → G) : G := h.elim fun x1 h => h.elim fun x2 h => K x1 x2 h.1 h.2.1 h.2.2.1 h.2.2.2
theorem ea2_5.{v1, v2} {α1 : Sort v1} {α2 : Sort v2} {p1 p2 p3 p4 p5 : α1 → α2 → Prop} {G : Prop} (h : ∃ x1 x2, p1 x1 x2 ∧ p2 x1 x2 ∧ p3 x1 x2 ∧ p4 x1 x2 ∧ p5 x1 x2) (K : ∀ x1 x2, p1 x1 x2 → p2 x1 x2 → p3 x1 x2 → p4 x1 x2 → p5 x1 x2 → G) : G := h.elim fun x1 h => h.elim fun x2 h => K x1 x2 h.1 h.2.1 h.2.2.1 h.2.2.2.1 h.2.2.2.2
theorem ea2_6.{v1, v2} {α1 : Sort v1} {α2 : Sort v2} {p1 p2 p3 p4 p5 p6 : α1 → α2 → Prop} {G : Prop} (h : ∃ x1 x2, p1 x1 x2 ∧ p2 x1 x2 ∧ p3 x1 x2 ∧ p4 x1 x2 ∧ p5 x1 x2 ∧ p6 x1 x2) (K : ∀ x1 x2, p1 x1 x2 → p2 x1 x2 → p3 x1 x2 → p4 x1 x2 → p5 x1 x2 → p6 x1 x2 → G) : G := h.elim fun x1 h => h.elim fun x2 h => K x1 x2 h.1 h.2.1 h.2.2.1 h.2.2.2.1 h.2.2.2.2.1 h.2.2.2.2.2
theorem ea2_7.{v1, v2} {α1 : Sort v1} {α2 : Sort v2} {p1 p2 p3 p4 p5 p6 p7 : α1 → α2 → Prop} {G : Prop} (h : ∃ x1 x2, p1 x1 x2 ∧ p2 x1 x2 ∧ p3 x1 x2 ∧ p4 x1 x2 ∧ p5 x1 x2 ∧ p6 x1 x2 ∧ p7 x1 x2) (K : ∀ x1 x2, p1 x1 x2 → p2 x1 x2 → p3 x1 x2 → p4 x1 x2 → p5 x1 x2 → p6 x1 x2 → p7 x1 x2 → G) : G := h.elim fun x1 h => h.elim fun x2 h => K x1 x2 h.1 h.2.1 h.2.2.1 h.2.2.2.1 h.2.2.2.2.1 h.2.2.2.2.2.1 h.2.2.2.2.2.2
theorem ea3_1.{v1, v2, v3} {α1 : Sort v1} {α2 : Sort v2} {α3 : Sort v3} {p1 : α1 → α2 → α3 → Prop} {G : Prop} (h : ∃ x1 x2 x3, p1 x1 x2 x3) (K : ∀ x1 x2 x3, p1 x1 x2 x3 → G) : G := h.elim fun x1 h => h.elim fun x2 h => h.elim fun x3 h => K x1 x2 x3 h
theorem ea3_2.{v1, v2, v3} {α1 : Sort v1} {α2 : Sort v2} {α3 : Sort v3} {p1 p2 : α1 → α2 → α3 → Prop} {G : Prop} (h : ∃ x1 x2 x3, p1 x1 x2 x3 ∧ p2 x1 x2 x3) (K : ∀ x1 x2 x3, p1 x1 x2 x3 → p2 x1 x2 x3 → G) : G := h.elim fun x1 h => h.elim fun x2 h => h.elim fun x3 h => K x1 x2 x3 h.1 h.2
theorem ea3_3.{v1, v2, v3} {α1 : Sort v1} {α2 : Sort v2} {α3 : Sort v3} {p1 p2 p3 : α1 → α2 → α3 → Prop} {G : Prop} (h : ∃ x1 x2 x3, p1 x1 x2 x3 ∧ p2 x1 x2 x3 ∧ p3 x1 x2 x3) (K : ∀ x1 x2 x3, p1 x1 x2 x3 → p2 x1 x2 x3 → p3 x1 x2 x3 → G) : G := h.elim fun x1 h => h.elim fun x2 h => h.elim fun x3 h => K x1 x2 x3 h.1 h.2.1 h.2.2
theorem ea3_4.{v1, v2, v3} {α1 : Sort v1} {α2 : Sort v2} {α3 : Sort v3} {p1 p2 p3 p4 : α1 → α2 → α3 → Prop} {G : Prop} (h : ∃ x1 x2 x3, p1 x1 x2 x3 ∧ p2 x1 x2 x3 ∧ p3 x1 x2 x3 ∧ p4 x1 x2 x3) (K : ∀ x1 x2 x3, p1 x1 x2 x3 → p2 x1 x2 x3 → p3 x1 x2 x3 → p4 x1 x2 x3 → G) : G := h.elim fun x1 h => h.elim fun x2 h => h.elim fun x3 h => K x1 x2 x3 h.1 h.2.1 h.2.2.1 h.2.2.2
theorem ea3_5.{v1, v2, v3} {α1 : Sort v1} {α2 : Sort v2} {α3 : Sort v3} {p1 p2 p3 p4 p5 : α1 → α2 → α3 → Prop} {G : Prop} (h : ∃ x1 x2 x3, p1 x1 x2 x3 ∧ p2 x1 x2 x3 ∧ p3 x1 x2 x3 ∧ p4 x1 x2 x3 ∧ p5 x1 x2 x3) (K : ∀ x1 x2 x3, p1 x1 x2 x3 → p2 x1 x2 x3 → p3 x1 x2 x3 → p4 x1 x2 x3 → p5 x1 x2 x3 → G) : G := h.elim fun x1 h => h.elim fun x2 h => h.elim fun x3 h => K x1 x2 x3 h.1 h.2.1 h.2.2.1 h.2.2.2.1 h.2.2.2.2
theorem ea3_6.{v1, v2, v3} {α1 : Sort v1} {α2 : Sort v2} {α3 : Sort v3} {p1 p2 p3 p4 p5 p6 : α1 → α2 → α3 → Prop} {G : Prop} (h : ∃ x1 x2 x3, p1 x1 x2 x3 ∧ p2 x1 x2 x3 ∧ p3 x1 x2 x3 ∧ p4 x1 x2 x3 ∧ p5 x1 x2 x3 ∧ p6 x1 x2 x3) (K : ∀ x1 x2 x3, p1 x1 x2 x3 → p2 x1 x2 x3 → p3 x1 x2 x3 → p4 x1 x2 x3 → p5 x1 x2 x3 → p6 x1 x2 x3 → G) : G := h.elim fun x1 h => h.elim fun x2 h => h.elim fun x3 h => K x1 x2 x3 h.1 h.2.1 h.2.2.1 h.2.2.2.1 h.2.2.2.2.1 h.2.2.2.2.2
theorem ea4_1.{v1, v2, v3, v4} {α1 : Sort v1} {α2 : Sort v2} {α3 : Sort v3} {α4 : Sort v4} {p1 : α1 → α2 → α3 → α4 → Prop} {G : Prop} (h : ∃ x1 x2 x3 x4, p1 x1 x2 x3 x4) (K : ∀ x1 x2 x3 x4, p1 x1 x2 x3 x4 → G) : G := h.elim fun x1 h => h.elim fun x2 h => h.elim fun x3 h => h.elim fun x4 h => K x1 x2 x3 x4 h
theorem ea4_6.{v1, v2, v3, v4} {α1 : Sort v1} {α2 : Sort v2} {α3 : Sort v3} {α4 : Sort v4} {p1 p2 p3 p4 p5 p6 : α1 → α2 → α3 → α4 → Prop} {G : Prop} (h : ∃ x1 x2 x3 x4, p1 x1 x2 x3 x4 ∧ p2 x1 x2 x3 x4 ∧ p3 x1 x2 x3 x4 ∧ p4 x1 x2 x3 x4 ∧ p5 x1 x2 x3 x4 ∧ p6 x1 x2 x3 x4) (K : ∀ x1 x2 x3 x4, p1 x1 x2 x3 x4 → p2 x1 x2 x3 x4 → p3 x1 x2 x3 x4 → p4 x1 x2 x3 x4 → p5 x1 x2 x3 x4 → p6 x1 x2 x3 x4 → G) : G := h.elim fun x1 h => h.elim fun x2 h => h.elim fun x3 h => h.elim fun x4 h => K x1 x2 x3 x4 h.1 h.2.1 h.2.2.1 h.2.2.2.1 h.2.2.2.2.1 h.2.2.2.2.2
theorem ea5_1.{v1, v2, v3, v4, v5} {α1 : Sort v1} {α2 : Sort v2} {α3 : Sort v3} {α4 : Sort v4} {α5 : Sort v5} {p1 : α1 → α2 → α3 → α4 → α5 → Prop} {G : Prop} (h : ∃ x1 x2 x3 x4 x5, p1 x1 x2 x3 x4 x5) (K : ∀ x1 x2 x3 x4 x5, p1 x1 x2 x3 x4 x5 → G) : G := h.elim fun x1 h => h.elim fun x2 h => h.elim fun x3 h => h.elim fun x4 h => h.elim fun x5 h => K x1 x2 x3 x4 x5 h
theorem ea5_3.{v1, v2, v3, v4, v5} {α1 : Sort v1} {α2 : Sort v2} {α3 : Sort v3} {α4 : Sort v4} {α5 : Sort v5} {p1 p2 p3 : α1 → α2 → α3 → α4 → α5 → Prop} {G : Prop} (h : ∃ x1 x2 x3 x4 x5, p1 x1 x2 x3 x4 x5 ∧ p2 x1 x2 x3 x4 x5 ∧ p3 x1 x2 x3 x4 x5) (K : ∀ x1 x2 x3 x4 x5, p1 x1 x2 x3 x4 x5 → p2 x1 x2 x3 x4 x5 → p3 x1 x2 x3 x4 x5 → G) : G := h.elim fun x1 h => h.elim fun x2 h => h.elim fun x3 h => h.elim fun x4 h => h.elim fun x5 h => K x1 x2 x3 x4 x5 h.1 h.2.1 h.2.2
theorem ea5_5.{v1, v2, v3, v4, v5} {α1 : Sort v1} {α2 : Sort v2} {α3 : Sort v3} {α4 : Sort v4} {α5 : Sort v5} {p1 p2 p3 p4 p5 : α1 → α2 → α3 → α4 → α5 → Prop} {G : Prop} (h : ∃ x1 x2 x3 x4 x5, p1 x1 x2 x3 x4 x5 ∧ p2 x1 x2 x3 x4 x5 ∧ p3 x1 x2 x3 x4 x5 ∧ p4 x1 x2 x3 x4 x5 ∧ p5 x1 x2 x3 x4 x5) (K : ∀ x1 x2 x3 x4 x5, p1 x1 x2 x3 x4 x5 → p2 x1 x2 x3 x4 x5 → p3 x1 x2 x3 x4 x5 → p4 x1 x2 x3 x4 x5 → p5 x1 x2 x3 x4 x5 → G) : G := h.elim fun x1 h => h.elim fun x2 h => h.elim fun x3 h => h.elim fun x4 h => h.elim fun x5 h => K x1 x2 x3 x4 x5 h.1 h.2.1 h.2.2.1 h.2.2.2.1 h.2.2.2.2
theorem ea6_7.{v1, v2, v3, v4, v5, v6} {α1 : Sort v1} {α2 : Sort v2} {α3 : Sort v3} {α4 : Sort v4} {α5 : Sort v5} {α6 : Sort v6} {p1 p2 p3 p4 p5 p6 p7 : α1 → α2 → α3 → α4 → α5 → α6 → Prop} {G : Prop} (h : ∃ x1 x2 x3 x4 x5 x6, p1 x1 x2 x3 x4 x5 x6 ∧ p2 x1 x2 x3 x4 x5 x6 ∧ p3 x1 x2 x3 x4 x5 x6 ∧ p4 x1 x2 x3 x4 x5 x6 ∧ p5 x1 x2 x3 x4 x5 x6 ∧ p6 x1 x2 x3 x4 x5 x6 ∧ p7 x1 x2 x3 x4 x5 x6) (K : ∀ x1 x2 x3 x4 x5 x6, p1 x1 x2 x3 x4 x5 x6 → p2 x1 x2 x3 x4 x5 x6 → p3 x1 x2 x3 x4 x5 x6 → p4 x1 x2 x3 x4 x5 x6 → p5 x1 x2 x3 x4 x5 x6 → p6 x1 x2 x3 x4 x5 x6 → p7 x1 x2 x3 x4 x5 x6 → G) : G := h.elim fun x1 h => h.elim fun x2 h => h.elim fun x3 h => h.elim fun x4 h => h.elim fun x5 h => h.elim fun x6 h => K x1 x2 x3 x4 x5 x6 h.1 h.2.1 h.2.2.1 h.2.2.2.1 h.2.2.2.2.1 h.2.2.2.2.2.1 h.2.2.2.2.2.2
theorem ea7_3.{v1, v2, v3, v4, v5, v6, v7} {α1 : Sort v1} {α2 : Sort v2} {α3 : Sort v3} {α4 : Sort v4} {α5 : Sort v5} {α6 : Sort v6} {α7 : Sort v7} {p1 p2 p3 : α1 → α2 → α3 → α4 → α5 → α6 → α7 → Prop} {G : Prop} (h : ∃ x1 x2 x3 x4 x5 x6 x7, p1 x1 x2 x3 x4 x5 x6 x7 ∧ p2 x1 x2 x3 x4 x5 x6 x7 ∧ p3 x1 x2 x3 x4 x5 x6 x7) (K : ∀ x1 x2 x3 x4 x5 x6 x7, p1 x1 x2 x3 x4 x5 x6 x7 → p2 x1 x2 x3 x4 x5 x6 x7 → p3 x1 x2 x3 x4 x5 x6 x7 → G) : G := h.elim fun x1 h => h.elim fun x2 h => h.elim fun x3 h => h.elim fun x4 h => h.elim fun x5 h => h.elim fun x6 h => h.elim fun x7 h => K x1 x2 x3 x4 x5 x6 x7 h.1 h.2.1 h.2.2
theorem ea7_6.{v1, v2, v3, v4, v5, v6, v7} {α1 : Sort v1} {α2 : Sort v2} {α3 : Sort v3} {α4 : Sort v4} {α5 : Sort v5} {α6 : Sort v6} {α7 : Sort v7} {p1 p2 p3 p4 p5 p6 : α1 → α2 → α3 → α4 → α5 → α6 → α7 → Prop} {G : Prop} (h : ∃ x1 x2 x3 x4 x5 x6 x7, p1 x1 x2 x3 x4 x5 x6 x7 ∧ p2 x1 x2 x3 x4 x5 x6 x7 ∧ p3 x1 x2 x3 x4 x5 x6 x7 ∧ p4 x1 x2 x3 x4 x5 x6 x7 ∧ p5 x1 x2 x3 x4 x5 x6 x7 ∧ p6 x1 x2 x3 x4 x5 x6 x7) (K : ∀ x1 x2 x3 x4 x5 x6 x7, p1 x1 x2 x3 x4 x5 x6 x7 → p2 x1 x2 x3 x4 x5 x6 x7 → p3 x1 x2 x3 x4 x5 x6 x7 → p4 x1 x2 x3 x4 x5 x6 x7 → p5 x1 x2 x3 x4 x5 x6 x7 → p6 x1 x2 x3 x4 x5 x6 x7 → G) : G := h.elim fun x1 h => h.elim fun x2 h => h.elim fun x3 h => h.elim fun x4 h => h.elim fun x5 h => h.elim fun x6 h => h.elim fun x7 h => K x1 x2 x3 x4 x5 x6 x7 h.1 h.2.1 h.2.2.1 h.2.2.2.1 h.2.2.2.2.1 h.2.2.2.2.2
theorem ea8_6.{v1, v2, v3, v4, v5, v6, v7, v8} {α1 : Sort v1} {α2 : Sort v2} {α3 : Sort v3} {α4 : Sort v4} {α5 : Sort v5} {α6 : Sort v6} {α7 : Sort v7} {α8 : Sort v8} {p1 p2 p3 p4 p5 p6 : α1 → α2 → α3 → α4 → α5 → α6 → α7 → α8 → Prop} {G : Prop} (h : ∃ x1 x2 x3 x4 x5 x6 x7 x8, p1 x1 x2 x3 x4 x5 x6 x7 x8 ∧ p2 x1 x2 x3 x4 x5 x6 x7 x8 ∧ p3 x1 x2 x3 x4 x5 x6 x7 x8 ∧ p4 x1 x2 x3 x4 x5 x6 x7 x8 ∧ p5 x1 x2 x3 x4 x5 x6 x7 x8 ∧ p6 x1 x2 x3 x4 x5 x6 x7 x8) (K : ∀ x1 x2 x3 x4 x5 x6 x7 x8, p1 x1 x2 x3 x4 x5 x6 x7 x8 → p2 x1 x2 x3 x4 x5 x6 x7 x8 → p3 x1 x2 x3 x4 x5 x6 x7 x8 → p4 x1 x2 x3 x4 x5 x6 x7 x8 → p5 x1 x2 x3 x4 x5 x6 x7 x8 → p6 x1 x2 x3 x4 x5 x6 x7 x8 → G) : G := h.elim fun x1 h => h.elim fun x2 h => h.elim fun x3 h => h.elim fun x4 h => h.elim fun x5 h => h.elim fun x6 h => h.elim fun x7 h => h.elim fun x8 h => K x1 x2 x3 x4 x5 x6 x7 x8 h.1 h.2.1 h.2.2.1 h.2.2.2.1 h.2.2.2.2.1 h.2.2.2.2.2
noncomputable def AscF (a : Nat) : List Nat → Prop
  | [] => True
  | b :: l => a < b ∧ AscF b l
noncomputable def Asc : List Nat → Prop
  | [] => True
  | a :: l => AscF a l
section
variable {a b : Nat}
theorem AscF.at : ∀ {l : List Nat} {a : Nat} {j : Nat}, AscF a l → l[j]? = some b → a < b
  | [], _, _, _, e => by simp at e
  | _ :: _, _, 0, h, e => by simp at e; exact e ▸ h.1
  | x :: l, _, j + 1, h, e => Nat.lt_trans h.1 (AscF.at h.2 (by simpa using e))
theorem Asc.at : ∀ {l : List Nat} {i j : Nat}, Asc l → l[i]? = some a → l[j]? = some b → i < j → a < b
  | [], _, _, _, e, _, _ => by simp at e
  | x :: l, 0, j + 1, h, e, e', _ => by simp at e; subst e; exact AscF.at h (by simpa using e')
  | x :: l, i + 1, j + 1, h, e, e', k => Asc.at (l := l) (i := i) (j := j) (by cases l with | nil => trivial | cons y l => exact h.2) (by simpa using e) (by simpa using e') (Nat.lt_of_succ_lt_succ k)
  | x :: l, i, 0, _, _, _, k => absurd k (Nat.not_lt_zero _)
end
structure Up (P : Nat → Nat → Prop) : Prop where
  lt : ∀ i j a b, P i a → P j b → i < j → a < b
  eq : ∀ i a b, P i a → P i b → a = b
section
variable {P : Nat → Nat → Prop} {i j a b : Nat}
theorem up_lt (h : Up P) (p : P i a) (q : P j b) (k : Nat.blt i j = true) : a < b := h.lt _ _ _ _ p q (Nat.le_of_ble_eq_true k)
theorem up_le (h : Up P) (p : P i a) (q : P j b) (k : Nat.ble i j = true) : a ≤ b := by
  rcases Nat.lt_or_eq_of_le (Nat.le_of_ble_eq_true k) with e | e
  · exact Nat.le_of_lt (h.lt _ _ _ _ p q e)
  · subst e; exact Nat.le_of_eq (h.eq _ _ _ p q)
theorem up_ne (h : Up P) (p : P i a) (q : P j b) (k : Nat.beq i j = false) : a ≠ b := by
  rcases Nat.lt_or_gt_of_ne (Nat.ne_of_beq_eq_false k) with e | e
  · exact Nat.ne_of_lt (h.lt _ _ _ _ p q e)
  · exact Nat.ne_of_gt (h.lt _ _ _ _ q p e)
theorem up_gt {t x : Nat} (h : Up P) (hx : t < x) (p : P i t) (q : P j a) (k : Nat.ble j i = true) : a ≠ x := Nat.ne_of_lt (Nat.lt_of_le_of_lt (up_le h q p k) hx)
theorem up_gt' {t x : Nat} (h : Up P) (hx : t < x) (p : P i t) (q : P j a) (k : Nat.ble j i = true) : x ≠ a := Nat.ne_of_gt (Nat.lt_of_le_of_lt (up_le h q p k) hx)
theorem up_ltx {t x : Nat} (h : Up P) (hx : t < x) (p : P i t) (q : P j a) (k : Nat.ble j i = true) : a < x := Nat.lt_of_le_of_lt (up_le h q p k) hx
end
theorem Asc.up {l : List Nat} (h : Asc l) : Up fun i a => l[i]? = some a :=
  ⟨fun _ _ _ _ p q k => h.at p q k, fun _ _ _ p q => Option.some.inj (p.symm.trans q)⟩

theorem asc_upL {dh hp B G W V U M L : Nat} (h : 292 < dh ∧ dh < hp ∧ hp < B ∧ B < G ∧ G < W ∧ W < V ∧ V < U ∧ U < M) (hL : M < L) :
    Asc [272, 277, 284, 289, 292, dh, hp, B, G, W, V, U, M, L, L + 1, L + 1 + 1, L + 1 + 1 + 1, L + 1 + 1 + 1 + 1, L + 1 + 1 + 1 + 1 + 1, L + 1 + 1 + 1 + 1 + 1 + 1, L + 1 + 1 + 1 + 1 + 1 + 1 + 1, L + 1 + 1 + 1 + 1 + 1 + 1 + 1 + 1] :=
  ⟨by decide, by decide, by decide, by decide, h.1, h.2.1, h.2.2.1, h.2.2.2.1, h.2.2.2.2.1, h.2.2.2.2.2.1, h.2.2.2.2.2.2.1, h.2.2.2.2.2.2.2, hL, Nat.lt_succ_self _, Nat.lt_succ_self _, Nat.lt_succ_self _, Nat.lt_succ_self _, Nat.lt_succ_self _, Nat.lt_succ_self _, Nat.lt_succ_self _, Nat.lt_succ_self _, trivial⟩
theorem asc_w {dh hp B G W V U M L : Nat} (h : 292 < dh ∧ dh < hp ∧ hp < B ∧ B < G ∧ G < W ∧ W < V ∧ V < U ∧ U < M ∧ M < L) :
    Asc [272, 277, 284, 289, 292, dh, hp, B, G, W, V, U, M, L, L + 1, L + 1 + 1, L + 1 + 1 + 1, L + 1 + 1 + 1 + 1, L + 1 + 1 + 1 + 1 + 1, L + 1 + 1 + 1 + 1 + 1 + 1, L + 1 + 1 + 1 + 1 + 1 + 1 + 1, L + 1 + 1 + 1 + 1 + 1 + 1 + 1 + 1] :=
  asc_upL ⟨h.1, h.2.1, h.2.2.1, h.2.2.2.1, h.2.2.2.2.1, h.2.2.2.2.2.1, h.2.2.2.2.2.2.1, h.2.2.2.2.2.2.2.1⟩ h.2.2.2.2.2.2.2.2
theorem asc_turn {dh hp B G W V U M L lst pen : Nat} (hL : 292 < L ∧ L + 3 < lst ∧ lst < pen ∧ pen < dh) (h : 292 < dh ∧ dh < hp ∧ hp < B ∧ B < G ∧ G < W ∧ W < V ∧ V < U ∧ U < M) :
    Asc [272, 277, 284, 289, 292, L, L + 1, L + 1 + 1, L + 1 + 1 + 1, lst, pen, dh, hp, B, G, W, V, U, M] :=
  ⟨by decide, by decide, by decide, by decide, hL.1, Nat.lt_succ_self _, Nat.lt_succ_self _, Nat.lt_succ_self _, hL.2.1, hL.2.2.1, hL.2.2.2, h.2.1, h.2.2.1, h.2.2.2.1, h.2.2.2.2.1, h.2.2.2.2.2.1, h.2.2.2.2.2.2.1, h.2.2.2.2.2.2.2, trivial⟩
theorem asc_end {dh hp B G L x1 x2 x3 x4 : Nat} (hL : 292 < L ∧ L + 3 < dh) (h : 292 < dh ∧ dh < hp ∧ hp < B ∧ B < G ∧ G < x1 ∧ x1 < x2 ∧ x2 < x3 ∧ x3 < x4) :
    Asc [272, 277, 284, 289, 292, L, L + 1, L + 1 + 1, L + 1 + 1 + 1, dh, hp, B, G] :=
  ⟨by decide, by decide, by decide, by decide, hL.1, Nat.lt_succ_self _, Nat.lt_succ_self _, Nat.lt_succ_self _, hL.2, h.2.1, h.2.2.1, h.2.2.2.1, trivial⟩
theorem asc_end2 {dh hp B G L x1 x2 x3 x4 kd kx : Nat} (hL : 292 < L ∧ L + 3 < dh) (h : 292 < dh ∧ dh < hp ∧ hp < B ∧ B < G ∧ G < x1 ∧ x1 < x2 ∧ x2 < x3 ∧ x3 < x4) (hk : G < kd ∧ kd < kx) :
    Asc [272, 277, 284, 289, 292, L, L + 1, L + 1 + 1, L + 1 + 1 + 1, dh, hp, B, G, kd, kx] :=
  ⟨by decide, by decide, by decide, by decide, hL.1, Nat.lt_succ_self _, Nat.lt_succ_self _, Nat.lt_succ_self _, hL.2, h.2.1, h.2.2.1, h.2.2.2.1, hk.1, hk.2, trivial⟩
theorem asc_end3 {dh hp B G L x1 x2 x3 x4 kd kx tl : Nat} (hL : 292 < L ∧ L + 3 < dh) (h : 292 < dh ∧ dh < hp ∧ hp < B ∧ B < G ∧ G < x1 ∧ x1 < x2 ∧ x2 < x3 ∧ x3 < x4) (hk : G < kd ∧ kd < kx ∧ kx < tl) :
    Asc [272, 277, 284, 289, 292, L, L + 1, L + 1 + 1, L + 1 + 1 + 1, dh, hp, B, G, kd, kx, tl] :=
  ⟨by decide, by decide, by decide, by decide, hL.1, Nat.lt_succ_self _, Nat.lt_succ_self _, Nat.lt_succ_self _, hL.2, h.2.1, h.2.2.1, h.2.2.2.1, hk.1, hk.2.1, hk.2.2, trivial⟩
theorem asc_front {L sc lst pen : Nat} (hL : 292 < L ∧ L + 3 < sc ∧ sc < lst ∧ lst < pen) : Asc [272, 277, 284, 289, 292, L, L + 1, L + 1 + 1, L + 1 + 1 + 1, sc, lst, pen] :=
  ⟨by decide, by decide, by decide, by decide, hL.1, Nat.lt_succ_self _, Nat.lt_succ_self _, Nat.lt_succ_self _, hL.2.1, hL.2.2.1, hL.2.2.2, trivial⟩
theorem asc_led {dh hp B L : Nat} (h : dh < hp ∧ hp < B) (hL : B < L) : Asc [dh, hp, B, L, L + 1, L + 1 + 1, L + 1 + 1 + 1] :=
  ⟨h.1, h.2, hL, Nat.lt_succ_self _, Nat.lt_succ_self _, Nat.lt_succ_self _, trivial⟩
theorem asc_led4 {dh hp B G L : Nat} (h : dh < hp ∧ hp < B ∧ B < G) (hL : G < L) : Asc [dh, hp, B, G, L, L + 1, L + 1 + 1, L + 1 + 1 + 1] :=
  ⟨h.1, h.2.1, h.2.2, hL, Nat.lt_succ_self _, Nat.lt_succ_self _, Nat.lt_succ_self _, trivial⟩
noncomputable def TestQ (r : Bool) (s : Shared) (b : Bool) (s' : Shared) : Prop := b = r ∧ ∃ tk, s' = { s with toks := tk }
section
variable {M : Model} {A : Around} {E : Value → Shared → Prop} {s : Shared} {Q : Flow → Shared → Prop} {test : PySem.Expr} {body orelse : List Stmt} {pos : Pos} {env : Env}
theorem if_T (hc : wpAny M A (isTrue test env (eval test env)) (TestQ true s) E s) (h : ∀ tk, wpAny M A (execs body env) Q E { s with toks := tk }) : wpAny M A (exec (.If test body orelse pos) env) Q E s :=
  wpAny_If (wpAny_mono hc (fun b s' ⟨hb, tk, hs⟩ => by subst hb hs; exact h tk) fun _ _ e => e)
theorem if_F (hc : wpAny M A (isTrue test env (eval test env)) (TestQ false s) E s) (h : ∀ tk, wpAny M A (execs orelse env) Q E { s with toks := tk }) : wpAny M A (exec (.If test body orelse pos) env) Q E s :=
  wpAny_If (wpAny_mono hc (fun b s' ⟨hb, tk, hs⟩ => by subst hb hs; exact h tk) fun _ _ e => e)
end
theorem mem_in {α : Type} {q x : α} {pre l : List α} (h : q ∈ pre ++ x :: l) : q ∈ x :: (pre ++ l) :=
  (List.mem_append.mp h).elim (fun h => .tail _ (List.mem_append_left _ h)) fun h => (List.mem_cons.mp h).elim (fun h => h ▸ .head _) fun h => .tail _ (List.mem_append_right _ h)
theorem mem_out {α : Type} {q x : α} {pre l : List α} (h : q ∈ x :: (pre ++ l)) : q ∈ pre ++ x :: l :=
  (List.mem_cons.mp h).elim (fun h => h ▸ List.mem_append_right _ (.head _)) fun h => (List.mem_append.mp h).elim (fun h => List.mem_append_left _ h) fun h => List.mem_append_right _ (.tail _ h)
theorem mem_more {α : Type} {q x : α} {pre l l' : List α} (s : ∀ q ∈ l, q ∈ l') (h : q ∈ x :: (pre ++ l)) : q ∈ x :: (pre ++ l') :=
  (List.mem_cons.mp h).elim (fun h => h ▸ .head _) fun h => .tail _ ((List.mem_append.mp h).elim (fun h => List.mem_append_left _ h) fun h => List.mem_append_right _ (s _ h))
theorem ne_map {I : Nat} {pre pre' l : List (Addr × Obj)} (e : pre.map (·.1) = pre'.map (·.1)) (h : ∀ q ∈ pre', q.1 ≠ I) (hl : ∀ q ∈ l, q.1 ≠ I) : ∀ q ∈ pre ++ l, q.1 ≠ I := fun q hq => by
  rcases List.mem_append.mp hq with hq | hq
  · have := List.mem_map_of_mem (f := fun x : Addr × Obj => x.1) hq
    rw [e] at this
    refine ea1_2 (List.mem_map.mp this) fun p hp e2 => ?_
    rw [← e2]
    exact h p hp
  · exact hl q hq
theorem use_h3 {Q : Prop} {dh hp B : Nat} (h : dh < hp ∧ hp < B) (k : ∀ P : Nat → Nat → Prop, Up P → P 0 dh → P 1 hp → P 2 B → Q) : Q := k _ (Asc.up (l := [dh, hp, B]) ⟨h.1, h.2, trivial⟩) rfl rfl rfl
theorem use_h4 {Q : Prop} {dh hp B G : Nat} (h : dh < hp ∧ hp < B ∧ B < G) (k : ∀ P : Nat → Nat → Prop, Up P → P 0 dh → P 1 hp → P 2 B → P 3 G → Q) : Q := k _ (Asc.up (l := [dh, hp, B, G]) ⟨h.1, h.2.1, h.2.2, trivial⟩) rfl rfl rfl rfl
theorem use_upL {Q : Prop} {dh hp B G W V U M L : Nat} (h : 292 < dh ∧ dh < hp ∧ hp < B ∧ B < G ∧ G < W ∧ W < V ∧ V < U ∧ U < M) (hL : M < L) (k : ∀ P : Nat → Nat → Prop, Up P → P 0 (272) → P 1 (277) → P 2 (284) → P 3 (289) → P 4 (292) → P 5 (dh) → P 6 (hp) → P 7 (B) → P 8 (G) → P 9 (W) → P 10 (V) → P 11 (U) → P 12 (M) → P 13 (L) → P 14 (L + 1) → P 15 (L + 1 + 1) → P 16 (L + 1 + 1 + 1) → P 17 (L + 1 + 1 + 1 + 1) → P 18 (L + 1 + 1 + 1 + 1 + 1) → P 19 (L + 1 + 1 + 1 + 1 + 1 + 1) → P 20 (L + 1 + 1 + 1 + 1 + 1 + 1 + 1) → P 21 (L + 1 + 1 + 1 + 1 + 1 + 1 + 1 + 1) → Q) : Q := k _ (Asc.up (asc_upL h hL)) rfl rfl rfl rfl rfl rfl rfl rfl rfl rfl rfl rfl rfl rfl rfl rfl rfl rfl rfl rfl rfl rfl
theorem use_w {Q : Prop} {dh hp B G W V U M L : Nat} (h : 292 < dh ∧ dh < hp ∧ hp < B ∧ B < G ∧ G < W ∧ W < V ∧ V < U ∧ U < M ∧ M < L) (k : ∀ P : Nat → Nat → Prop, Up P → P 0 (272) → P 1 (277) → P 2 (284) → P 3 (289) → P 4 (292) → P 5 (dh) → P 6 (hp) → P 7 (B) → P 8 (G) → P 9 (W) → P 10 (V) → P 11 (U) → P 12 (M) → P 13 (L) → P 14 (L + 1) → P 15 (L + 1 + 1) → P 16 (L + 1 + 1 + 1) → P 17 (L + 1 + 1 + 1 + 1) → P 18 (L + 1 + 1 + 1 + 1 + 1) → P 19 (L + 1 + 1 + 1 + 1 + 1 + 1) → P 20 (L + 1 + 1 + 1 + 1 + 1 + 1 + 1) → P 21 (L + 1 + 1 + 1 + 1 + 1 + 1 + 1 + 1) → Q) : Q := k _ (Asc.up (asc_w h)) rfl rfl rfl rfl rfl rfl rfl rfl rfl rfl rfl rfl rfl rfl rfl rfl rfl rfl rfl rfl rfl rfl
theorem use_turn {Q : Prop} {dh hp B G W V U M L lst pen : Nat} (hL : 292 < L ∧ L + 3 < lst ∧ lst < pen ∧ pen < dh) (h : 292 < dh ∧ dh < hp ∧ hp < B ∧ B < G ∧ G < W ∧ W < V ∧ V < U ∧ U < M) (k : ∀ P : Nat → Nat → Prop, Up P → P 0 (272) → P 1 (277) → P 2 (284) → P 3 (289) → P 4 (292) → P 5 (L) → P 6 (L + 1) → P 7 (L + 1 + 1) → P 8 (L + 1 + 1 + 1) → P 9 (lst) → P 10 (pen) → P 11 (dh) → P 12 (hp) → P 13 (B) → P 14 (G) → P 15 (W) → P 16 (V) → P 17 (U) → P 18 (M) → Q) : Q := k _ (Asc.up (asc_turn hL h)) rfl rfl rfl rfl rfl rfl rfl rfl rfl rfl rfl rfl rfl rfl rfl rfl rfl rfl rfl
theorem use_end {Q : Prop} {dh hp B G L x1 x2 x3 x4 : Nat} (hL : 292 < L ∧ L + 3 < dh) (h : 292 < dh ∧ dh < hp ∧ hp < B ∧ B < G ∧ G < x1 ∧ x1 < x2 ∧ x2 < x3 ∧ x3 < x4) (k : ∀ P : Nat → Nat → Prop, Up P → P 0 (272) → P 1 (277) → P 2 (284) → P 3 (289) → P 4 (292) → P 5 (L) → P 6 (L + 1) → P 7 (L + 1 + 1) → P 8 (L + 1 + 1 + 1) → P 9 (dh) → P 10 (hp) → P 11 (B) → P 12 (G) → Q) : Q := k _ (Asc.up (asc_end hL h)) rfl rfl rfl rfl rfl rfl rfl rfl rfl rfl rfl rfl rfl
theorem use_end2 {Q : Prop} {dh hp B G L x1 x2 x3 x4 kd kx : Nat} (hL : 292 < L ∧ L + 3 < dh) (h : 292 < dh ∧ dh < hp ∧ hp < B ∧ B < G ∧ G < x1 ∧ x1 < x2 ∧ x2 < x3 ∧ x3 < x4) (hk : G < kd ∧ kd < kx) (k : ∀ P : Nat → Nat → Prop, Up P → P 0 (272) → P 1 (277) → P 2 (284) → P 3 (289) → P 4 (292) → P 5 (L) → P 6 (L + 1) → P 7 (L + 1 + 1) → P 8 (L + 1 + 1 + 1) → P 9 (dh) → P 10 (hp) → P 11 (B) → P 12 (G) → P 13 (kd) → P 14 (kx) → Q) : Q := k _ (Asc.up (asc_end2 hL h hk)) rfl rfl rfl rfl rfl rfl rfl rfl rfl rfl rfl rfl rfl rfl rfl
theorem use_end3 {Q : Prop} {dh hp B G L x1 x2 x3 x4 kd kx tl : Nat} (hL : 292 < L ∧ L + 3 < dh) (h : 292 < dh ∧ dh < hp ∧ hp < B ∧ B < G ∧ G < x1 ∧ x1 < x2 ∧ x2 < x3 ∧ x3 < x4) (hk : G < kd ∧ kd < kx ∧ kx < tl) (k : ∀ P : Nat → Nat → Prop, Up P → P 0 (272) → P 1 (277) → P 2 (284) → P 3 (289) → P 4 (292) → P 5 (L) → P 6 (L + 1) → P 7 (L + 1 + 1) → P 8 (L + 1 + 1 + 1) → P 9 (dh) → P 10 (hp) → P 11 (B) → P 12 (G) → P 13 (kd) → P 14 (kx) → P 15 (tl) → Q) : Q := k _ (Asc.up (asc_end3 hL h hk)) rfl rfl rfl rfl rfl rfl rfl rfl rfl rfl rfl rfl rfl rfl rfl rfl
theorem use_front {Q : Prop} {L sc lst pen : Nat} (hL : 292 < L ∧ L + 3 < sc ∧ sc < lst ∧ lst < pen) (k : ∀ P : Nat → Nat → Prop, Up P → P 0 (272) → P 1 (277) → P 2 (284) → P 3 (289) → P 4 (292) → P 5 (L) → P 6 (L + 1) → P 7 (L + 1 + 1) → P 8 (L + 1 + 1 + 1) → P 9 (sc) → P 10 (lst) → P 11 (pen) → Q) : Q := k _ (Asc.up (asc_front hL)) rfl rfl rfl rfl rfl rfl rfl rfl rfl rfl rfl rfl
theorem use_led {Q : Prop} {dh hp B L : Nat} (h : dh < hp ∧ hp < B) (hL : B < L) (k : ∀ P : Nat → Nat → Prop, Up P → P 0 (dh) → P 1 (hp) → P 2 (B) → P 3 (L) → P 4 (L + 1) → P 5 (L + 1 + 1) → P 6 (L + 1 + 1 + 1) → Q) : Q := k _ (Asc.up (asc_led h hL)) rfl rfl rfl rfl rfl rfl rfl
theorem use_led4 {Q : Prop} {dh hp B G L : Nat} (h : dh < hp ∧ hp < B ∧ B < G) (hL : G < L) (k : ∀ P : Nat → Nat → Prop, Up P → P 0 (dh) → P 1 (hp) → P 2 (B) → P 3 (G) → P 4 (L) → P 5 (L + 1) → P 6 (L + 1 + 1) → P 7 (L + 1 + 1 + 1) → Q) : Q := k _ (Asc.up (asc_led4 h hL)) rfl rfl rfl rfl rfl rfl rfl rfl
theorem and11 {p1 p2 p3 p4 p5 p6 p7 p8 p9 p10 p11 G : Prop} (h : p1 ∧ p2 ∧ p3 ∧ p4 ∧ p5 ∧ p6 ∧ p7 ∧ p8 ∧ p9 ∧ p10 ∧ p11) (k : p1 → p2 → p3 → p4 → p5 → p6 → p7 → p8 → p9 → p10 → p11 → G) : G := k h.1 h.2.1 h.2.2.1 h.2.2.2.1 h.2.2.2.2.1 h.2.2.2.2.2.1 h.2.2.2.2.2.2.1 h.2.2.2.2.2.2.2.1 h.2.2.2.2.2.2.2.2.1 h.2.2.2.2.2.2.2.2.2.1 h.2.2.2.2.2.2.2.2.2.2
theorem and12 {p1 p2 p3 p4 p5 p6 p7 p8 p9 p10 p11 p12 G : Prop} (h : p1 ∧ p2 ∧ p3 ∧ p4 ∧ p5 ∧ p6 ∧ p7 ∧ p8 ∧ p9 ∧ p10 ∧ p11 ∧ p12) (k : p1 → p2 → p3 → p4 → p5 → p6 → p7 → p8 → p9 → p10 → p11 → p12 → G) : G := k h.1 h.2.1 h.2.2.1 h.2.2.2.1 h.2.2.2.2.1 h.2.2.2.2.2.1 h.2.2.2.2.2.2.1 h.2.2.2.2.2.2.2.1 h.2.2.2.2.2.2.2.2.1 h.2.2.2.2.2.2.2.2.2.1 h.2.2.2.2.2.2.2.2.2.2.1 h.2.2.2.2.2.2.2.2.2.2.2
theorem and16 {p1 p2 p3 p4 p5 p6 p7 p8 p9 p10 p11 p12 p13 p14 p15 p16 G : Prop} (h : p1 ∧ p2 ∧ p3 ∧ p4 ∧ p5 ∧ p6 ∧ p7 ∧ p8 ∧ p9 ∧ p10 ∧ p11 ∧ p12 ∧ p13 ∧ p14 ∧ p15 ∧ p16) (k : p1 → p2 → p3 → p4 → p5 → p6 → p7 → p8 → p9 → p10 → p11 → p12 → p13 → p14 → p15 → p16 → G) : G := k h.1 h.2.1 h.2.2.1 h.2.2.2.1 h.2.2.2.2.1 h.2.2.2.2.2.1 h.2.2.2.2.2.2.1 h.2.2.2.2.2.2.2.1 h.2.2.2.2.2.2.2.2.1 h.2.2.2.2.2.2.2.2.2.1 h.2.2.2.2.2.2.2.2.2.2.1 h.2.2.2.2.2.2.2.2.2.2.2.1 h.2.2.2.2.2.2.2.2.2.2.2.2.1 h.2.2.2.2.2.2.2.2.2.2.2.2.2.1 h.2.2.2.2.2.2.2.2.2.2.2.2.2.2.1 h.2.2.2.2.2.2.2.2.2.2.2.2.2.2.2
theorem le_k {d n m k : Nat} (h : d ≤ n) (e : Nat.ble (n + k) m = true) : d + k ≤ m := Nat.le_trans (Nat.add_le_add_right h k) (Nat.le_of_ble_eq_true e)
theorem le_0 {d n m : Nat} (h : d ≤ n) (e : Nat.ble n m = true) : d ≤ m := Nat.le_trans h (Nat.le_of_ble_eq_true e)
theorem lt_k {d n m k : Nat} (h : d ≤ n) (e : Nat.blt (n + k) m = true) : d + k < m := Nat.lt_of_le_of_lt (Nat.add_le_add_right h k) (Nat.le_of_ble_eq_true e)
theorem lt_k2 {d n m k l : Nat} (h : d ≤ n) (e : Nat.blt (n + k + l) m = true) : d + k + l < m := Nat.lt_of_le_of_lt (Nat.add_le_add_right (Nat.add_le_add_right h k) l) (Nat.le_of_ble_eq_true e)
theorem room_le {A : Around} {d n k : Nat} (e : A.depth = d + k) (h : d ≤ n) (q : Nat.ble (n + k) 999 = true) : A.depth < recursionLimit := e ▸ Nat.lt_of_le_of_lt (Nat.add_le_add_right h k) (Nat.lt_of_le_of_lt (Nat.le_of_ble_eq_true q) (show 999 < recursionLimit by decide))
theorem units_le {A : Around} {u n k : Nat} (e : A.units = u + k) (h : u ≤ n) (q : Nat.ble (n + k) 9899 = true) : A.units < cLine := e ▸ Nat.lt_of_le_of_lt (Nat.add_le_add_right h k) (Nat.lt_of_le_of_lt (Nat.le_of_ble_eq_true q) (show 9899 < cLine by decide))
theorem and4 {p1 p2 p3 p4 G : Prop} (h : p1 ∧ p2 ∧ p3 ∧ p4) (k : p1 → p2 → p3 → p4 → G) : G := k h.1 h.2.1 h.2.2.1 h.2.2.2
theorem and5 {p1 p2 p3 p4 p5 G : Prop} (h : p1 ∧ p2 ∧ p3 ∧ p4 ∧ p5) (k : p1 → p2 → p3 → p4 → p5 → G) : G := k h.1 h.2.1 h.2.2.1 h.2.2.2.1 h.2.2.2.2
theorem and8 {p1 p2 p3 p4 p5 p6 p7 p8 G : Prop} (h : p1 ∧ p2 ∧ p3 ∧ p4 ∧ p5 ∧ p6 ∧ p7 ∧ p8) (k : p1 → p2 → p3 → p4 → p5 → p6 → p7 → p8 → G) : G := k h.1 h.2.1 h.2.2.1 h.2.2.2.1 h.2.2.2.2.1 h.2.2.2.2.2.1 h.2.2.2.2.2.2.1 h.2.2.2.2.2.2.2
section
variable {α : Type} {a : α} {l : List α} {x0 x1 x2 x3 x4 x5 x6 x7 x8 x9 x10 x11 x12 x13 x14 x15 x16 x17 x18 x19 x20 x21 x22 x23 : α}
theorem mem0 : a ∈ a :: l := .head _
theorem mem1 : a ∈ x0 :: a :: l := .tail _ <| .head _
theorem mem2 : a ∈ x0 :: x1 :: a :: l := .tail _ <| .tail _ <| .head _
theorem mem3 : a ∈ x0 :: x1 :: x2 :: a :: l := .tail _ <| .tail _ <| .tail _ <| .head _
theorem mem4 : a ∈ x0 :: x1 :: x2 :: x3 :: a :: l := .tail _ <| .tail _ <| .tail _ <| .tail _ <| .head _
theorem mem5 : a ∈ x0 :: x1 :: x2 :: x3 :: x4 :: a :: l := .tail _ <| .tail _ <| .tail _ <| .tail _ <| .tail _ <| .head _
theorem mem6 : a ∈ x0 :: x1 :: x2 :: x3 :: x4 :: x5 :: a :: l := .tail _ <| .tail _ <| .tail _ <| .tail _ <| .tail _ <| .tail _ <| .head _
theorem mem7 : a ∈ x0 :: x1 :: x2 :: x3 :: x4 :: x5 :: x6 :: a :: l := .tail _ <| .tail _ <| .tail _ <| .tail _ <| .tail _ <| .tail _ <| .tail _ <| .head _
theorem mem8 : a ∈ x0 :: x1 :: x2 :: x3 :: x4 :: x5 :: x6 :: x7 :: a :: l := .tail _ <| .tail _ <| .tail _ <| .tail _ <| .tail _ <| .tail _ <| .tail _ <| .tail _ <| .head _
theorem mem9 : a ∈ x0 :: x1 :: x2 :: x3 :: x4 :: x5 :: x6 :: x7 :: x8 :: a :: l := .tail _ <| .tail _ <| .tail _ <| .tail _ <| .tail _ <| .tail _ <| .tail _ <| .tail _ <| .tail _ <| .head _
theorem mem10 : a ∈ x0 :: x1 :: x2 :: x3 :: x4 :: x5 :: x6 :: x7 :: x8 :: x9 :: a :: l := .tail _ <| .tail _ <| .tail _ <| .tail _ <| .tail _ <| .tail _ <| .tail _ <| .tail _ <| .tail _ <| .tail _ <| .head _
theorem mem11 : a ∈ x0 :: x1 :: x2 :: x3 :: x4 :: x5 :: x6 :: x7 :: x8 :: x9 :: x10 :: a :: l := .tail _ <| .tail _ <| .tail _ <| .tail _ <| .tail _ <| .tail _ <| .tail _ <| .tail _ <| .tail _ <| .tail _ <| .tail _ <| .head _
theorem mem12 : a ∈ x0 :: x1 :: x2 :: x3 :: x4 :: x5 :: x6 :: x7 :: x8 :: x9 :: x10 :: x11 :: a :: l := .tail _ <| .tail _ <| .tail _ <| .tail _ <| .tail _ <| .tail _ <| .tail _ <| .tail _ <| .tail _ <| .tail _ <| .tail _ <| .tail _ <| .head _
theorem mem13 : a ∈ x0 :: x1 :: x2 :: x3 :: x4 :: x5 :: x6 :: x7 :: x8 :: x9 :: x10 :: x11 :: x12 :: a :: l := .tail _ <| .tail _ <| .tail _ <| .tail _ <| .tail _ <| .tail _ <| .tail _ <| .tail _ <| .tail _ <| .tail _ <| .tail _ <| .tail _ <| .tail _ <| .head _
theorem mem14 : a ∈ x0 :: x1 :: x2 :: x3 :: x4 :: x5 :: x6 :: x7 :: x8 :: x9 :: x10 :: x11 :: x12 :: x13 :: a :: l := .tail _ <| .tail _ <| .tail _ <| .tail _ <| .tail _ <| .tail _ <| .tail _ <| .tail _ <| .tail _ <| .tail _ <| .tail _ <| .tail _ <| .tail _ <| .tail _ <| .head _
theorem mem15 : a ∈ x0 :: x1 :: x2 :: x3 :: x4 :: x5 :: x6 :: x7 :: x8 :: x9 :: x10 :: x11 :: x12 :: x13 :: x14 :: a :: l := .tail _ <| .tail _ <| .tail _ <| .tail _ <| .tail _ <| .tail _ <| .tail _ <| .tail _ <| .tail _ <| .tail _ <| .tail _ <| .tail _ <| .tail _ <| .tail _ <| .tail _ <| .head _
theorem mem16 : a ∈ x0 :: x1 :: x2 :: x3 :: x4 :: x5 :: x6 :: x7 :: x8 :: x9 :: x10 :: x11 :: x12 :: x13 :: x14 :: x15 :: a :: l := .tail _ <| .tail _ <| .tail _ <| .tail _ <| .tail _ <| .tail _ <| .tail _ <| .tail _ <| .tail _ <| .tail _ <| .tail _ <| .tail _ <| .tail _ <| .tail _ <| .tail _ <| .tail _ <| .head _
theorem mem17 : a ∈ x0 :: x1 :: x2 :: x3 :: x4 :: x5 :: x6 :: x7 :: x8 :: x9 :: x10 :: x11 :: x12 :: x13 :: x14 :: x15 :: x16 :: a :: l := .tail _ <| .tail _ <| .tail _ <| .tail _ <| .tail _ <| .tail _ <| .tail _ <| .tail _ <| .tail _ <| .tail _ <| .tail _ <| .tail _ <| .tail _ <| .tail _ <| .tail _ <| .tail _ <| .tail _ <| .head _
theorem mem18 : a ∈ x0 :: x1 :: x2 :: x3 :: x4 :: x5 :: x6 :: x7 :: x8 :: x9 :: x10 :: x11 :: x12 :: x13 :: x14 :: x15 :: x16 :: x17 :: a :: l := .tail _ <| .tail _ <| .tail _ <| .tail _ <| .tail _ <| .tail _ <| .tail _ <| .tail _ <| .tail _ <| .tail _ <| .tail _ <| .tail _ <| .tail _ <| .tail _ <| .tail _ <| .tail _ <| .tail _ <| .tail _ <| .head _
theorem mem19 : a ∈ x0 :: x1 :: x2 :: x3 :: x4 :: x5 :: x6 :: x7 :: x8 :: x9 :: x10 :: x11 :: x12 :: x13 :: x14 :: x15 :: x16 :: x17 :: x18 :: a :: l := .tail _ <| .tail _ <| .tail _ <| .tail _ <| .tail _ <| .tail _ <| .tail _ <| .tail _ <| .tail _ <| .tail _ <| .tail _ <| .tail _ <| .tail _ <| .tail _ <| .tail _ <| .tail _ <| .tail _ <| .tail _ <| .tail _ <| .head _
theorem mem20 : a ∈ x0 :: x1 :: x2 :: x3 :: x4 :: x5 :: x6 :: x7 :: x8 :: x9 :: x10 :: x11 :: x12 :: x13 :: x14 :: x15 :: x16 :: x17 :: x18 :: x19 :: a :: l := .tail _ <| .tail _ <| .tail _ <| .tail _ <| .tail _ <| .tail _ <| .tail _ <| .tail _ <| .tail _ <| .tail _ <| .tail _ <| .tail _ <| .tail _ <| .tail _ <| .tail _ <| .tail _ <| .tail _ <| .tail _ <| .tail _ <| .tail _ <| .head _
theorem all_cons {p : α → Prop} (h : p a) (t : ∀ x ∈ l, p x) : ∀ x ∈ a :: l, p x := List.forall_mem_cons.mpr ⟨h, t⟩
end
theorem off3 {n L : Nat} (h : n < L ∨ L + 3 < n) : n ≠ L + 1 ∧ n ≠ L + 1 + 1 ∧ n ≠ L + 1 + 1 + 1 :=
  h.elim (fun h => ⟨Nat.ne_of_lt (Nat.lt_succ_of_lt h), Nat.ne_of_lt (Nat.lt_succ_of_lt (Nat.lt_succ_of_lt h)), Nat.ne_of_lt (Nat.lt_succ_of_lt (Nat.lt_succ_of_lt (Nat.lt_succ_of_lt h)))⟩)
    fun h => ⟨Nat.ne_of_gt (Nat.lt_trans (Nat.add_lt_add_left (by decide : 1 < 3) L) h), Nat.ne_of_gt (Nat.lt_trans (Nat.add_lt_add_left (by decide : 2 < 3) L) h), Nat.ne_of_gt h⟩
theorem turn_key {dh L lst pen n : Nat} (hL : 292 < L ∧ L + 3 < lst ∧ lst < pen ∧ pen < dh) (h : (dh ≤ n ∨ n = 272) ∨ n = 277) : n ≠ pen ∧ n ≠ lst ∧ n ≠ L + 1 + 1 + 1 ∧ n ≠ L + 1 + 1 ∧ n ≠ L + 1 ∧ n ≠ 284 ∧ n ≠ 289 := by
  have l3 : 292 < L + 3 := Nat.lt_of_lt_of_le hL.1 (Nat.le_add_right _ _)
  have hp : L + 3 < pen := Nat.lt_trans hL.2.1 hL.2.2.1
  have big : dh ≤ n → _ := fun h => by
    have a := Nat.lt_of_lt_of_le hL.2.2.2 h
    have b := Nat.lt_trans hL.2.2.1 a
    have c := Nat.lt_trans hL.2.1 b
    have o := off3 (.inr c)
    have e := Nat.lt_trans l3 c
    exact And.intro (Nat.ne_of_gt a) (And.intro (Nat.ne_of_gt b) (And.intro o.2.2 (And.intro o.2.1 (And.intro o.1 (And.intro (Nat.ne_of_gt (Nat.lt_trans (show 284 < 292 by decide) e)) (Nat.ne_of_gt (Nat.lt_trans (show 289 < 292 by decide) e)))))))
  have low : n < 284 → _ := fun h => by
    have k := Nat.lt_trans (Nat.lt_trans h (show 284 < 292 by decide)) hL.1
    have o := off3 (.inl k)
    have k3 : n < L + 3 := Nat.lt_of_lt_of_le k (Nat.le_add_right _ _)
    exact And.intro (Nat.ne_of_lt (Nat.lt_trans k3 hp)) (And.intro (Nat.ne_of_lt (Nat.lt_trans k3 hL.2.1)) (And.intro o.2.2 (And.intro o.2.1 (And.intro o.1 (And.intro (Nat.ne_of_lt h) (Nat.ne_of_lt (Nat.lt_trans h (show 284 < 289 by decide))))))))
  rcases h with (h | h) | h
  · exact big h
  · exact low (h ▸ by decide)
  · exact low (h ▸ by decide)
theorem ord_front {L sc lst pen dh : Nat} {R : Prop} (hL : 292 < L) (h1 : L + 3 < sc) (h2 : sc < lst) (h3 : lst < pen) (h : pen < dh ∧ R) : 292 < dh ∧ R :=
  ⟨Nat.lt_trans hL (Nat.lt_trans (Nat.lt_of_le_of_lt (Nat.le_add_right L 3) h1) (Nat.lt_trans h2 (Nat.lt_trans h3 h.1))), h.2⟩
theorem ord_M {dh hp B G W V U M : Nat} (h : 292 < dh ∧ dh < hp ∧ hp < B ∧ B < G ∧ G < W ∧ W < V ∧ V < U ∧ U < M) : 292 < M ∧ dh < M :=
  have k : dh < M := Nat.lt_trans h.2.1 (Nat.lt_trans h.2.2.1 (Nat.lt_trans h.2.2.2.1 (Nat.lt_trans h.2.2.2.2.1 (Nat.lt_trans h.2.2.2.2.2.1 (Nat.lt_trans h.2.2.2.2.2.2.1 h.2.2.2.2.2.2.2)))))
  ⟨Nat.lt_trans h.1 k, k⟩
theorem sec_nn {s : Int} (h : 4 ≤ s ∧ s ≤ 16) : 0 ≤ s := Int.le_trans (by decide) h.1
theorem sec_abs {s : Int} (h : 4 ≤ s ∧ s ≤ 16) : s.natAbs < 1073741824 := by omega
theorem up_ns {P : Nat → Nat → Prop} {i j a k : Nat} (h : Up P) (p : P i 292) (q : P j a) (e : Nat.blt i j = true) (hk : Nat.blt k 292 = true) : a ≠ k := Nat.ne_of_gt (Nat.lt_trans (Nat.le_of_ble_eq_true hk) (up_lt h p q e))
theorem le_b {b : Nat} (h : b ≤ 1000) : b ≤ 1099511627776 := Nat.le_trans h (by decide)
theorem le_1 {a k : Nat} (h : a ≤ k) : a ≤ k + 1 := Nat.le_succ_of_le h
theorem kcp_lt {n i : Nat} (h : i < n) : n + 1 - (i + 1) < n + 1 - i := by rw [Nat.add_sub_add_right, Nat.succ_sub (Nat.le_of_lt h)]; exact Nat.lt_succ_self _
theorem lt3 {y : Int} (h0 : 0 ≤ y) (h : y < 3) : y = 0 ∨ y = 1 ∨ y = 2 := by omega
theorem cp_of {y : Int} {cp : Nat} (h0 : 0 ≤ y) (h : y < 3) (e : 1 + y = (cp : Int)) : cp = 1 ∨ cp = 2 ∨ cp = 3 := by
  rcases lt3 h0 h with r | r | r
  · subst r; exact .inl (Int.ofNat_inj.mp e.symm)
  · subst r; exact .inr (.inl (Int.ofNat_inj.mp e.symm))
  · subst r; exact .inr (.inr (Int.ofNat_inj.mp e.symm))
theorem cp_nat {y : Int} (h0 : 0 ≤ y) (h : y < 3) : (1 + y).toNat = 1 ∨ (1 + y).toNat = 2 ∨ (1 + y).toNat = 3 := by
  rcases lt3 h0 h with r | r | r
  · subst r; exact .inl rfl
  · subst r; exact .inr (.inl rfl)
  · subst r; exact .inr (.inr rfl)
theorem cp_le {cp : Nat} (h : cp = 1 ∨ cp = 2 ∨ cp = 3) : cp ≤ 3 := by rcases h with r | r | r <;> subst r <;> decide
theorem ord_L {dh hp B G W V U M L : Nat} (h : 292 < dh ∧ dh < hp ∧ hp < B ∧ B < G ∧ G < W ∧ W < V ∧ V < U ∧ U < M) (hL : M < L) : 292 < dh ∧ dh < hp ∧ hp < B ∧ B < G ∧ G < W ∧ W < V ∧ V < U ∧ U < M ∧ M < L :=
  ⟨h.1, h.2.1, h.2.2.1, h.2.2.2.1, h.2.2.2.2.1, h.2.2.2.2.2.1, h.2.2.2.2.2.2.1, h.2.2.2.2.2.2.2, hL⟩
theorem cnt_arith {n : Nat} {s : Int} (hb : n ≤ 40) (hs : 4 ≤ s ∧ s ≤ 16) : 0 ≤ ((n : Int) + s - 1).fdiv s ∧ ((n : Int) + s - 1).fdiv s ≤ 10 ∧ (0 < n → 0 < ((n : Int) + s - 1).fdiv s) := by
  have h0 : (0 : Int) < s := Int.lt_of_lt_of_le (by decide) hs.1
  rw [Int.fdiv_eq_ediv_of_nonneg _ (Int.le_of_lt h0)]
  refine ⟨Int.ediv_nonneg (by omega) (Int.le_of_lt h0), ?_, fun h => ?_⟩
  · exact Int.le_of_lt_add_one (Int.ediv_lt_of_lt_mul h0 (by omega))
  · exact Int.lt_of_lt_of_le Int.one_pos (Int.le_ediv_of_mul_le h0 (by omega))
section
variable {α : Type} {p l c1 c2 c3 u v h d B G W V U M t s x y z r1 r2 k1 k2 : α} {os own fl : List α}
theorem mdrop {q : α} {l : List α} (n : Nat) (h : q ∈ l.drop n) : q ∈ l := List.mem_of_mem_drop h
theorem pm_to : ∀ q ∈ p :: l :: c1 :: c2 :: c3 :: u :: v :: h :: d :: B :: G :: W :: V :: U :: M :: t :: s :: os, q ∈ (([h, d, B, G] ++ (W :: V :: U :: M :: t :: os)) ++ [s]) ++ ([p, l, c1, c2, c3, u, v] ++ []) := by
  show ∀ q ∈ p :: l :: c1 :: c2 :: c3 :: u :: v :: h :: d :: B :: G :: W :: V :: U :: M :: t :: s :: os, q ∈ h :: d :: B :: G :: W :: V :: U :: M :: t :: ((os ++ [s]) ++ (p :: l :: c1 :: c2 :: c3 :: u :: v :: []))
  exact all_cons (mdrop 9 (List.mem_append_right (os ++ [s]) (mem0 : _ ∈ (p :: l :: c1 :: c2 :: c3 :: u :: v :: [])))) (all_cons (mdrop 9 (List.mem_append_right (os ++ [s]) (mem1 : _ ∈ (p :: l :: c1 :: c2 :: c3 :: u :: v :: [])))) (all_cons (mdrop 9 (List.mem_append_right (os ++ [s]) (mem2 : _ ∈ (p :: l :: c1 :: c2 :: c3 :: u :: v :: [])))) (all_cons (mdrop 9 (List.mem_append_right (os ++ [s]) (mem3 : _ ∈ (p :: l :: c1 :: c2 :: c3 :: u :: v :: [])))) (all_cons (mdrop 9 (List.mem_append_right (os ++ [s]) (mem4 : _ ∈ (p :: l :: c1 :: c2 :: c3 :: u :: v :: [])))) (all_cons (mdrop 9 (List.mem_append_right (os ++ [s]) (mem5 : _ ∈ (p :: l :: c1 :: c2 :: c3 :: u :: v :: [])))) (all_cons (mdrop 9 (List.mem_append_right (os ++ [s]) (mem6 : _ ∈ (p :: l :: c1 :: c2 :: c3 :: u :: v :: [])))) (all_cons mem0 (all_cons mem1 (all_cons mem2 (all_cons mem3 (all_cons mem4 (all_cons mem5 (all_cons mem6 (all_cons mem7 (all_cons mem8 (all_cons (mdrop 9 (List.mem_append_left (p :: l :: c1 :: c2 :: c3 :: u :: v :: []) (List.mem_append_right os (.head _)))) (fun q hq => mdrop 9 (List.mem_append_left (p :: l :: c1 :: c2 :: c3 :: u :: v :: []) (List.mem_append_left [s] hq)))))))))))))))))))
theorem pm_of : ∀ q ∈ (([h, d, B, G] ++ (W :: V :: U :: M :: t :: os)) ++ [s]) ++ ([p, l, c1, c2, c3, u, v] ++ []), q ∈ p :: l :: c1 :: c2 :: c3 :: u :: v :: h :: d :: B :: G :: W :: V :: U :: M :: t :: s :: os := by
  show ∀ q ∈ h :: d :: B :: G :: W :: V :: U :: M :: t :: ((os ++ [s]) ++ (p :: l :: c1 :: c2 :: c3 :: u :: v :: [])), q ∈ p :: l :: c1 :: c2 :: c3 :: u :: v :: h :: d :: B :: G :: W :: V :: U :: M :: t :: s :: os
  exact all_cons mem7 (all_cons mem8 (all_cons mem9 (all_cons mem10 (all_cons mem11 (all_cons mem12 (all_cons mem13 (all_cons mem14 (all_cons mem15 (fun q hq => (List.mem_append.mp hq).elim (fun hq => (List.mem_append.mp hq).elim (fun k => mdrop 17 k) fun k => List.mem_singleton.mp k ▸ mem16) fun k => (all_cons mem0 (all_cons mem1 (all_cons mem2 (all_cons mem3 (all_cons mem4 (all_cons mem5 (all_cons mem6 (List.forall_mem_nil _))))))) : ∀ q ∈ (p :: l :: c1 :: c2 :: c3 :: u :: v :: []), q ∈ p :: l :: c1 :: c2 :: c3 :: u :: v :: h :: d :: B :: G :: W :: V :: U :: M :: t :: s :: os) q k)))))))))
theorem pm_S : ∀ q ∈ c1 :: c2 :: c3 :: h :: d :: B :: G :: W :: V :: U :: M :: t :: s :: (os ++ fl), q ∈ c1 :: c2 :: c3 :: (([h, d, B, G] ++ (W :: V :: U :: M :: t :: os)) ++ (s :: fl)) := by
  show ∀ q ∈ c1 :: c2 :: c3 :: h :: d :: B :: G :: W :: V :: U :: M :: t :: s :: (os ++ fl), q ∈ c1 :: c2 :: c3 :: h :: d :: B :: G :: W :: V :: U :: M :: t :: (os ++ (s :: fl))
  exact all_cons mem0 (all_cons mem1 (all_cons mem2 (all_cons mem3 (all_cons mem4 (all_cons mem5 (all_cons mem6 (all_cons mem7 (all_cons mem8 (all_cons mem9 (all_cons mem10 (all_cons mem11 (all_cons (mdrop 12 (List.mem_append_right os (.head _))) (fun q hq => (List.mem_append.mp hq).elim (fun k => mdrop 12 (List.mem_append_left (s :: fl) k)) fun k => mdrop 12 (List.mem_append_right os (.tail _ k)))))))))))))))
theorem pm_Sm : ∀ q ∈ ([h, d, B, G] ++ (W :: V :: U :: M :: t :: os)) ++ ([c1, c2, c3, s] ++ fl), q ∈ c1 :: c2 :: c3 :: h :: d :: B :: G :: W :: V :: U :: M :: t :: s :: (os ++ fl) := by
  show ∀ q ∈ h :: d :: B :: G :: W :: V :: U :: M :: t :: (os ++ (c1 :: c2 :: c3 :: s :: fl)), q ∈ c1 :: c2 :: c3 :: h :: d :: B :: G :: W :: V :: U :: M :: t :: s :: (os ++ fl)
  exact all_cons mem3 (all_cons mem4 (all_cons mem5 (all_cons mem6 (all_cons mem7 (all_cons mem8 (all_cons mem9 (all_cons mem10 (all_cons mem11 (fun q hq => (List.mem_append.mp hq).elim (fun k => mdrop 13 (List.mem_append_left fl k)) fun k => (all_cons mem0 (all_cons mem1 (all_cons mem2 (all_cons mem12 (fun q hq => mdrop 13 (List.mem_append_right os hq))))) : ∀ q ∈ c1 :: c2 :: c3 :: s :: fl, q ∈ c1 :: c2 :: c3 :: h :: d :: B :: G :: W :: V :: U :: M :: t :: s :: (os ++ fl)) q k)))))))))
theorem pm_E : ∀ q ∈ k1 :: k2 :: c1 :: c2 :: c3 :: u :: v :: h :: d :: B :: G :: (own ++ os), q ∈ h :: d :: B :: (own ++ (r1 :: r2 :: k1 :: k2 :: c1 :: c2 :: c3 :: u :: v :: G :: os)) :=
  all_cons (mdrop 3 (List.mem_append_right own (mem2 : _ ∈ (r1 :: r2 :: k1 :: k2 :: c1 :: c2 :: c3 :: u :: v :: G :: os)))) (all_cons (mdrop 3 (List.mem_append_right own (mem3 : _ ∈ (r1 :: r2 :: k1 :: k2 :: c1 :: c2 :: c3 :: u :: v :: G :: os)))) (all_cons (mdrop 3 (List.mem_append_right own (mem4 : _ ∈ (r1 :: r2 :: k1 :: k2 :: c1 :: c2 :: c3 :: u :: v :: G :: os)))) (all_cons (mdrop 3 (List.mem_append_right own (mem5 : _ ∈ (r1 :: r2 :: k1 :: k2 :: c1 :: c2 :: c3 :: u :: v :: G :: os)))) (all_cons (mdrop 3 (List.mem_append_right own (mem6 : _ ∈ (r1 :: r2 :: k1 :: k2 :: c1 :: c2 :: c3 :: u :: v :: G :: os)))) (all_cons (mdrop 3 (List.mem_append_right own (mem7 : _ ∈ (r1 :: r2 :: k1 :: k2 :: c1 :: c2 :: c3 :: u :: v :: G :: os)))) (all_cons (mdrop 3 (List.mem_append_right own (mem8 : _ ∈ (r1 :: r2 :: k1 :: k2 :: c1 :: c2 :: c3 :: u :: v :: G :: os)))) (all_cons mem0 (all_cons mem1 (all_cons mem2 (all_cons (mdrop 3 (List.mem_append_right own (mem9 : _ ∈ (r1 :: r2 :: k1 :: k2 :: c1 :: c2 :: c3 :: u :: v :: G :: os)))) (fun q hq => (List.mem_append.mp hq).elim (fun k => mdrop 3 (List.mem_append_left (r1 :: r2 :: k1 :: k2 :: c1 :: c2 :: c3 :: u :: v :: G :: os) k)) fun k => mdrop 3 (List.mem_append_right own (mdrop 10 k)))))))))))))
end
theorem le_3k {a k : Nat} (h : a ≤ 3 * k) : a ≤ 3 * (k + 1) := Nat.le_trans h (Nat.mul_le_mul_left 3 (Nat.le_succ k))
theorem lt_3k {a k m N : Nat} (h : a ≤ 3 * k) (hk : k ≤ m) (e : Nat.blt (3 * m) N = true) : a < N := Nat.lt_of_le_of_lt (Nat.le_trans h (Nat.mul_le_mul_left 3 hk)) (Nat.le_of_ble_eq_true e)
theorem le_eq {a b n m : Nat} (e : a = b) (h : b ≤ n) (q : Nat.ble n m = true) : a ≤ m := e ▸ Nat.le_trans h (Nat.le_of_ble_eq_true q)
theorem le_eq_lt1 {a b x : Nat} (e : a = b) (h : b + 1 < x) : a ≤ x := e ▸ Nat.le_of_lt (Nat.lt_of_succ_lt h)
theorem st_len {a b r N : Nat} (h : a + (r + 1) < N) (h2 : b ≤ a + 1) : b + r < N := Nat.lt_of_le_of_lt (Nat.add_le_add_right h2 r) (by rw [Nat.add_assoc, Nat.add_comm 1 r]; exact h)
theorem add_lt3 {a b c : Nat} (h : a < 9000) (e : b = c) (h3 : c ≤ 3) : a + b < 10000 := Nat.lt_of_lt_of_le (Nat.add_lt_add_of_lt_of_le h (e ▸ h3)) (by decide)
theorem add_lt3' {a b : Nat} (h : a < 9000) (h3 : b ≤ 3) : a + b < 10000 := Nat.lt_of_lt_of_le (Nat.add_lt_add_of_lt_of_le h h3) (by decide)
theorem sec_ne {s : Int} (h : 4 ≤ s ∧ s ≤ 16) : s ≠ 0 := fun e => absurd (e ▸ h.1) (by decide)
theorem lt_0 {d n m : Nat} (h : d ≤ n) (e : Nat.blt n m = true) : d < m := Nat.lt_of_le_of_lt h (Nat.le_of_ble_eq_true e)
theorem lt_M {dh hp B G W V U M x : Nat} (h : 292 < dh ∧ dh < hp ∧ hp < B ∧ B < G ∧ G < W ∧ W < V ∧ V < U ∧ U < M) (k : M < x) : 292 < x := Nat.lt_trans (ord_M h).1 k
theorem lt_MG {dh hp B G W V U M x : Nat} (h : 292 < dh ∧ dh < hp ∧ hp < B ∧ B < G ∧ G < W ∧ W < V ∧ V < U ∧ U < M) (k : M < x) : G < x := Nat.lt_trans (Nat.lt_trans h.2.2.2.2.1 (Nat.lt_trans h.2.2.2.2.2.1 (Nat.lt_trans h.2.2.2.2.2.2.1 h.2.2.2.2.2.2.2))) k
theorem nx_s {n : Int} {k : Nat} (h : 1 ≤ n ∧ n ≤ 1 + 30 * (k : Int)) : n ≤ 1 + 30 * ((k : Int) + 1) := Int.le_trans h.2 (by omega)
theorem wr_s {n : Int} {k : Nat} (h : 0 ≤ n ∧ n ≤ (k : Int)) : n ≤ (k : Int) + 1 := Int.le_trans h.2 (by omega)
theorem fm_nat {y n : Int} {N : Nat} (h : y < n) (e : decide (n ≤ (N : Int) + 1) = true) : (y - 0).toNat ≤ N := by
  have := of_decide_eq_true e
  omega
theorem lt_int {k : Int} {c : Nat} (h : k < (c : Int)) (h3 : c ≤ 3) : k < 2 ^ 64 := Int.lt_of_lt_of_le h (Int.le_trans (Int.ofNat_le.mpr h3) (by decide))
theorem k_neg {k : Int} (h : 0 ≤ k) : -(2 ^ 64) < k := Int.lt_of_lt_of_le (by decide) h
theorem lt_trans_1 {a b c : Nat} (h : a + (b + 1) < c) : a < c := Nat.lt_of_le_of_lt (Nat.le_add_right _ _) h
theorem ne_sm {dh hp B G W V U M x k : Nat} (h : 292 < dh ∧ dh < hp ∧ hp < B ∧ B < G ∧ G < W ∧ W < V ∧ V < U ∧ U < M) (hx : M < x) (e : Nat.blt k 292 = true) : x ≠ k := Nat.ne_of_gt (Nat.lt_trans (Nat.le_of_ble_eq_true e) (lt_M h hx))
theorem div_40 {x n : Int} (h : 0 ≤ x ∧ x < 2 ^ 40) (hn : 0 ≤ n) : 0 ≤ x / n ∧ x / n < 2 ^ 40 := ⟨Int.ediv_nonneg h.1 hn, Int.lt_of_le_of_lt (Int.ediv_le_self _ h.1) h.2⟩
theorem len_lim {a b k : Nat} (h : a ≤ 3 * k) (hk : k ≤ 20) (h3 : b ≤ 3) : a + b < 10000 := Nat.lt_of_le_of_lt (Nat.add_le_add (Nat.le_trans h (Nat.mul_le_mul_left 3 hk)) h3) (by decide)
theorem len_lim' {x a b k : Nat} {P : Prop} (e : x = a ∧ P) (h : a ≤ 3 * k) (hk : k ≤ 20) (h3 : b ≤ 3) : x + b < 10000 := e.1 ▸ len_lim h hk h3
theorem len_limr {x a b k : Nat} {P : Prop} (e : P ∧ x = a) (h : a ≤ 3 * k) (hk : k ≤ 20) (h3 : b ≤ 3) : x + b < 10000 := e.2 ▸ len_lim h hk h3
theorem le_eq_lt2 {a b m x : Nat} (e : a = b) (h2 : m < x) (h : b + 1 < m) : a ≤ x := e ▸ Nat.le_of_lt (Nat.lt_trans (Nat.lt_of_succ_lt h) h2)
theorem lt_two {a m x : Nat} (h2 : m < x) (h : a < m) : a < x := Nat.lt_trans h h2
theorem nx_add {n c : Int} {k cp : Nat} (h : 1 ≤ n ∧ n ≤ 1 + 30 * (k : Int)) (h0 : 0 ≤ c) (h10 : c ≤ 10) (h3 : cp ≤ 3) : 1 ≤ n + (cp : Int) * c ∧ n + (cp : Int) * c ≤ 1 + 30 * ((k + 1 : Nat) : Int) := by
  have a1 : 0 ≤ (cp : Int) * c := Int.mul_nonneg (Int.natCast_nonneg _) h0
  have a2 : (cp : Int) * c ≤ 3 * 10 := Int.mul_le_mul (Int.ofNat_le.mpr h3) h10 h0 (by decide)
  exact ⟨Int.le_trans h.1 (Int.le_add_of_nonneg_right a1), Int.le_trans (Int.add_le_add h.2 a2) (by omega)⟩
theorem put_len {a b c k : Nat} (h : c ≤ a + b) (ha : a ≤ 3 * k) (hb : b ≤ 3) : c ≤ 3 * (k + 1) := Nat.le_trans h (Nat.add_le_add ha hb)
theorem ord_9 {dh hp B G W V U M L : Nat} (h : 292 < dh ∧ dh < hp ∧ hp < B ∧ B < G ∧ G < W ∧ W < V ∧ V < U ∧ U < M ∧ M < L) : 292 < L ∧ M < L :=
  ⟨Nat.lt_trans (ord_M ⟨h.1, h.2.1, h.2.2.1, h.2.2.2.1, h.2.2.2.2.1, h.2.2.2.2.2.1, h.2.2.2.2.2.2.1, h.2.2.2.2.2.2.2.1⟩).1 h.2.2.2.2.2.2.2.2, h.2.2.2.2.2.2.2.2⟩
theorem lt_9 {a L : Nat} (h : a < L) : a < L + 8 + 1 := Nat.lt_of_lt_of_le h (Nat.le_add_right L 9)
theorem if_lim (n : Int) : ∃ m : Nat, (if (if n < 14 then n else 14) > 4 then if n < 14 then n else 14 else 4) = (m : Int) ∧ 4 ≤ m ∧ m ≤ 14 := by
  by_cases h : n < 14
  · rw [if_pos h]
    by_cases h4 : n > 4
    · rw [if_pos h4]; exact ⟨n.toNat, by omega, by omega, by omega⟩
    · rw [if_neg h4]; exact ⟨4, rfl, by decide, by decide⟩
  · rw [if_neg h, if_pos (by decide)]; exact ⟨14, rfl, by decide, by decide⟩
theorem use_f {Q : Prop} {dh hp B G dx x : Nat} (h : 292 < dh ∧ dh < hp ∧ hp < B ∧ B < G) (hx : G < dx ∧ dx < x) (k : ∀ P : Nat → Nat → Prop, Up P → P 0 292 → P 1 dh → P 2 hp → P 3 B → P 4 G → P 5 dx → P 6 x → Q) : Q :=
  k _ (Asc.up (l := [292, dh, hp, B, G, dx, x]) ⟨h.1, h.2.1, h.2.2.1, h.2.2.2, hx.1, hx.2, trivial⟩) rfl rfl rfl rfl rfl rfl rfl
theorem add_le1 {a b : Nat} (h : a + b < 1000) : b ≤ 1000 := Nat.le_trans (Nat.le_add_left b a) (Nat.le_of_lt h)
theorem use_n0 {Q : Prop} {L : Nat} (h : 292 < L) (k : ∀ P : Nat → Nat → Prop, Up P → P 0 284 → P 1 292 → P 2 L → P 3 (L + 1) → P 4 (L + 1 + 1) → Q) : Q :=
  k _ (Asc.up (l := [284, 292, L, L + 1, L + 1 + 1]) ⟨by decide, h, Nat.lt_succ_self _, Nat.lt_succ_self _, trivial⟩) rfl rfl rfl rfl rfl
theorem use_n {Q : Prop} {L t : Nat} (h : 292 < L ∧ L + 2 < t) (k : ∀ P : Nat → Nat → Prop, Up P → P 0 284 → P 1 292 → P 2 L → P 3 (L + 1) → P 4 (L + 1 + 1) → P 5 t → Q) : Q :=
  k _ (Asc.up (l := [284, 292, L, L + 1, L + 1 + 1, t]) ⟨by decide, h.1, Nat.lt_succ_self _, Nat.lt_succ_self _, h.2, trivial⟩) rfl rfl rfl rfl rfl rfl

section
variable {w : World} {d u : Nat} {fr : List Env} {R : Result → Shared → Prop} {s : Shared} {z : Heap} {p : Program} {loose : List Str} {mean : ExcName → Option Value} {mg mb : Str → Option Value}
theorem pen_num (a : Int) : 0 ≤ a.fmod (2 ^ Int.toNat 40) ∧ a.fmod (2 ^ Int.toNat 40) < 2 ^ 40 := by
  have e : (2 : Int) ^ Int.toNat 40 = 1099511627776 := by decide
  rw [e]
  refine ⟨fmod_lo _ (by omega), Int.lt_of_lt_of_le (fmod_hi _ (by omega)) (by decide)⟩
set_option maxHeartbeats 8000000 in
theorem law_next {pen lst : Addr} {at' : Int} {t : Tok} {n : Nat} {vs : List Value} {ns : List Int}
    (X : (hd0.heap_1 w.params).In z) (T : Top p loose mean mg mb z) (P : Pre z s.heap [(pen, listOf #[.ref lst, .int at' t] n)]) (hl : z.IsList lst vs.toArray) (hv : IntsAre vs ns) (h0 : 0 ≤ at') (h1 : at' < 100) (hns : ns.length ≤ 63)
    (hd : d ≤ 500)
    (h : ∀ h' tk t' v tv, Pre z h' [(pen, listOf #[.ref lst, .int (at' + 1) t'] n)] → 0 ≤ v → v < 2 ^ 40 → R (.ok (.ret (.int v tv))) { s with heap := h', toks := tk }) :
    codeAny (model PR w) (mkA d fr u) (.call (.ref 256) ⟨[.ref pen], []⟩) R s := by
  refine enterZ (binds := [("pen", .ref pen)]) X T P (by k_is) (by k_is) (by k_room) (BindsTo.of_eq (by rfl)) (locs (by rfl)) (by rfl) (by rfl) (by rfl) (by decide) ?_
  intro L' h' tk' F' N' hL' hst'
  (try dsimp only); k_fold
  k_steps
  · exact h _ _ _ _ _ (leaveZ (by assumption) (by assumption) (by intro q hq; exact hq) (by assumption) P.size) (pen_num _).1 (pen_num _).2
  · exact h _ _ _ _ _ (leaveZ (by assumption) (by assumption) (by intro q hq; exact hq) (by assumption) P.size) (by omega) (by omega)
end

section
variable {M : Model} {A : Around} {E : Value → Shared → Prop} {s : Shared} {B : Heap} {l outer : List Env} {env : Env} {e C L : Addr} {why : Str}

noncomputable abbrev frs (l : List Env) : List Addr := l.filterMap (·.frame)
noncomputable def FrS (S : List Addr) (h h' : Heap) : Prop := ∀ b ∈ S, ∀ o, h.get? b = some o → ∃ sl, h'.get? b = some { o with slots := sl }
theorem FrS.refl {S : List Addr} {h : Heap} : FrS S h h := fun _ _ o e => ⟨o.slots, e⟩
theorem FrS.trans {S : List Addr} {h₁ h₂ h₃ : Heap} (x : FrS S h₁ h₂) (y : FrS S h₂ h₃) : FrS S h₁ h₃ := fun b hb o e => by
  obtain ⟨sl, e1⟩ := x b hb o e
  obtain ⟨sl', e2⟩ := y b hb _ e1
  exact ⟨sl', e2⟩
theorem FrS.mono {S S' : List Addr} {h h' : Heap} (x : FrS S h h') (k : ∀ b ∈ S', b ∈ S) : FrS S' h h' := fun b hb => x b (k b hb)

noncomputable abbrev whyD (P : Params) (why : Str) (t1 t2 : Tok) : Obj := dictOf [⟨PyData.keyHash P "why", .str "why" t1, .str why t2⟩] 1

structure Born (P : Params) (B : Heap) (l : List Env) (e C : Addr) (why : Str) (h : Heap) : Prop where
  keep : ∀ b o, B.get? b = some o → h.get? b = some o
  frames : h.FunFrames B l
  exc : ∃ de vs sl t1 t2, B.get? e = none ∧ B.get? de = none ∧ de ∉ frs l ∧ h.get? e = some ⟨.ref C, some de, .fields vs, sl⟩ ∧ vs[1]? = some .none ∧ h.get? de = some (whyD P why t1 t2)

structure Fly (P : Params) (B : Heap) (l : List Env) (e C : Addr) (why : Str) (fl : Value) (h : Heap) : Prop where
  keep : ∀ b o, B.get? b = some o → h.get? b = some o
  frames : h.FunFrames B l
  exc : ∃ de vs sl T oT ts t1 t2, B.get? e = none ∧ B.get? T = none ∧ B.get? de = none ∧ de ∉ frs l ∧ T ≠ e ∧ T ∉ frs l ∧ h.get? e = some ⟨.ref C, some de, .fields vs, sl⟩ ∧ vs[1]? = some (.ref T) ∧
    h.get? T = some oT ∧ oT.data = .fields ts ∧ ts[3]? = some fl ∧ h.get? de = some (whyD P why t1 t2)

theorem not_frame {h : Heap} {b : Addr} {o : Obj} {vs : Array Value} (hl : h.FunFrames B l) (ho : h.get? b = some o) (hd : o.data = .fields vs) : b ∉ frs l := fun hm => by
  obtain ⟨_, o', ho', hn⟩ := hl.mem hm
  rw [ho] at ho'; cases ho'; exact hn vs hd

theorem entryX {P : Params} {de : Addr} {vs : Array Value} {sl : Array (Option Value)} {t1 t2 : Tok} {head : Value} {hadNext : Bool} {Q : Unit → Shared → Prop}
    (hfr : A.frames = some (env :: outer)) (hf : env.frame = some L) (kB : ∀ b o, B.get? b = some o → s.heap.get? b = some o) (hl : s.heap.FunFrames B (env :: outer))
    (hen : B.get? e = none) (hdn : B.get? de = none) (hdf : de ∉ frs (env :: outer)) (he : s.heap.get? e = some ⟨.ref C, some de, .fields vs, sl⟩) (hsz : 1 < vs.size) (hde : s.heap.get? de = some (whyD P why t1 t2))
    (h : ∀ h', Fly P B (env :: outer) e C why (rawInt L) h' → FrS (frs (env :: outer)) s.heap h' → Q () { s with heap := h' }) :
    wpAny M A (do let a ← frameOf env; let pl ← entryPlaceOf L hadNext; let b ← EntryCells.newEntry head a .none (rawInt L) .none pl; setField (.ref e) 1 b) Q E s := by
  have hene : e ∉ (env :: outer).filterMap (·.frame) := not_frame hl he rfl
  refine wpAny_bind (wpAny_frameOf_fun hfr hl hf fun h₁ hs₁ => ?_)
  refine wpAny_bind (wpAny_entryPlaceOf fun pl hpl => ?_)
  unfold EntryCells.newEntry newFields
  refine wpAny_bind (wpAny_newObj_type ?_ (hpl.sizeOk5 _ _ _ _ _))
  have he₁ : h₁.get? e = some ⟨.ref C, some de, .fields vs, sl⟩ := (hs₁.2.1 e hene).trans he
  have hde₁ : h₁.get? de = some (whyD P why t1 t2) := (hs₁.2.1 de hdf).trans hde
  have kb₁ : ∀ b o, B.get? b = some o → h₁.get? b = some o := fun b o hbo => (hs₁.2.1 b fun hm => by rw [(hl.mem hm).1] at hbo; cases hbo).trans (kB b o hbo)
  have he₂ := Heap.get?_push_of_some (h := h₁) { cls := .type "traceback", dict := none, data := .fields ([head, .ref L, .none, rawInt L, .none] ++ (if pl.isEmpty then List.replicate 6 Value.none else pl)).toArray } he₁
  refine wpAny_setField he₂ rfl hsz (h _ ?_ ?_)
  · have hTe : h₁.objs.size ≠ e := Nat.ne_of_gt (Heap.lt_size he₁)
    have hd₃ := Obj.data_mapFields (o := ⟨.ref C, some de, .fields vs, sl⟩) rfl (·.setIfInBounds 1 (Value.ref h₁.objs.size))
    have he₃ := Heap.get?_update_self (Obj.mapFields (·.setIfInBounds 1 (Value.ref h₁.objs.size))) he₂ (Obj.isFreed_of_fields hd₃)
    have hT₃ := (Heap.get?_update_other (h₁.push { cls := .type "traceback", dict := none, data := .fields ([head, .ref L, .none, rawInt L, .none] ++ (if pl.isEmpty then List.replicate 6 Value.none else pl)).toArray })
      (Obj.mapFields (·.setIfInBounds 1 (Value.ref h₁.objs.size))) (Ne.symm hTe)).trans (Heap.get?_push_size h₁ rfl)
    have keep : ∀ b o, b ≠ e → h₁.get? b = some o →
        ((h₁.push { cls := .type "traceback", dict := none, data := .fields ([head, .ref L, .none, rawInt L, .none] ++ (if pl.isEmpty then List.replicate 6 Value.none else pl)).toArray }).update e (Obj.mapFields (·.setIfInBounds 1 (Value.ref h₁.objs.size)))).get? b = some o :=
      fun b o hbe hb => by
        rw [Heap.get?_update_other _ _ (Ne.symm hbe)]
        exact Heap.get?_push_of_some _ hb
    refine ⟨fun b o hbo => keep b o (fun q => by rw [q, hen] at hbo; cases hbo) (kb₁ b o hbo), hl.of_keeps fun b o hb hnf => ?_, ?_⟩
    · obtain ⟨sl', hs⟩ := hs₁.2.2 b o hb
      exact mk1_2 _ (keep b _ (fun q => by rw [q, he] at hb; cases hb; exact hnf _ rfl) hs) rfl
    · refine mk8_12 de _ sl h₁.objs.size _ _ t1 t2 hen ?_ hdn hdf hTe (fun hm => ?_) he₃ ?_ hT₃ rfl (by first | (simp; done) | (rcases hpl with rfl | ⟨_, _, _, _, _, _, _, rfl⟩ <;> simp)) (keep de _ (fun q => by rw [q, he] at hde; cases hde) hde₁)
      · cases q : B.get? h₁.objs.size with
        | none => rfl
        | some o => exact absurd (Heap.lt_size (kb₁ _ _ q)) (Nat.lt_irrefl _)
      · obtain ⟨_, o, ho, _⟩ := hl.mem hm
        obtain ⟨sl', hs⟩ := hs₁.2.2 _ o ho
        exact absurd (Heap.lt_size hs) (Nat.lt_irrefl _)
      · simp [hsz]
  · intro b hb o ho
    obtain ⟨sl', hs⟩ := hs₁.2.2 b o ho
    refine ⟨sl', ?_⟩
    have hbe : b ≠ e := fun q => hene (q ▸ hb)
    rw [Heap.get?_update_other _ _ (Ne.symm hbe)]
    exact Heap.get?_push_of_some _ hs

theorem Fly.tail {P : Params} {fl : Value} {h : Heap} (x : Fly P B (env :: outer) e C why fl h) : Fly P B outer e C why fl h := by
  obtain ⟨k, ⟨_, _, f⟩, xz9⟩ := x
  refine ea8_12 xz9 fun de vs sl T oT ts t1 t2 a1 a2 a3 a4 a5 a6 r1 r2 r3 r4 r5 r6 => ?_
  have sub : ∀ b, b ∈ frs outer → b ∈ frs (env :: outer) := fun b hb => by
    show b ∈ (env :: outer).filterMap (·.frame)
    rw [List.filterMap_cons]; split <;> first | exact hb | exact .tail _ hb
  exact ⟨k, f, mk8_12 de vs sl T oT ts t1 t2 a1 a2 a3 (fun q => a4 (sub _ q)) a5 (fun q => a6 (sub _ q)) r1 r2 r3 r4 r5 r6⟩

theorem setFlightX {P : Params} {fl : Value} {Q : Unit → Shared → Prop} (x : Fly P B l e C why fl s.heap) (h : ∀ h', Fly P B l e C why .none h' → FrS (frs l) s.heap h' → Q () { s with heap := h' }) :
    wpAny M A (setFlight (.ref e) none) Q E s := by
  obtain ⟨k, f, xz9⟩ := x
  refine ea8_12 xz9 fun de vs sl T oT ts t1 t2 a1 a2 a3 a4 a5 a6 he h1 hT hd h3 hde => ?_
  clear xz9
  unfold setFlight
  refine wpAny_bind (wpAny_field he rfl h1 ?_)
  rw [if_pos (show (Value.ref T != Value.none) = true from by simp)]
  have hsz3 := (Array.getElem?_eq_some_iff.mp h3).1
  have other : ∀ b, b ≠ T → (s.heap.update T (Obj.mapFields (·.setIfInBounds 3 ((none : Option Addr).elim Value.none fun f => rawInt f)))).get? b = s.heap.get? b := fun b hb => Heap.get?_update_other _ _ (Ne.symm hb)
  refine wpAny_setField hT hd hsz3 (h _ ⟨fun b o hbo => (other b fun q => by rw [q, a2] at hbo; cases hbo).trans (k b o hbo), f.of_keeps fun b o hb hn => ⟨o, (other b fun q => ?_).trans hb, rfl⟩, ?_⟩ fun b hb o ho => ⟨o.slots, (other b fun q => a6 (q ▸ hb)).trans ho⟩)
  · rw [q, hT] at hb; cases hb; exact hn _ hd
  · exact mk8_12 de vs sl T _ _ t1 t2 a1 a2 a3 a4 a5 a6 ((other e (Ne.symm a5)).trans he) h1 (Heap.get?_update_self _ hT (Obj.isFreed_of_fields (Obj.data_mapFields hd _))) (Obj.data_mapFields hd _) (by simp [hsz3]) ((other de fun q => by rw [q, hT] at hde; cases hde; cases hd).trans hde)

theorem leaveBorn {P : Params} {Q : Unit → Shared → Prop} (hfr : A.frames = some (env :: outer)) (hf : env.frame = some L) (x : Born P B (env :: outer) e C why s.heap)
    (h : ∀ h', Fly P B outer e C why .none h' → FrS (frs (env :: outer)) s.heap h' → Q () { s with heap := h' }) : wpAny M A (leaving env (.ref e)) Q E s := by
  obtain ⟨k, f, de, vs, sl, t1, t2, a1, a2, a3, he, h1, hde⟩ := x
  unfold leaving noteFrame
  simp only [hf]
  refine wpAny_bind (wpAny_bind (wpAny_field he rfl h1 ?_))
  rw [if_neg (by decide)]
  refine entryX hfr hf k f a1 a2 a3 he (Array.getElem?_eq_some_iff.mp h1).1 hde fun h' x1 x2 => ?_
  exact setFlightX x1 fun h₂ y1 y2 => h h₂ y1.tail (x2.trans y2)

theorem noteX {P : Params} {Q : Unit → Shared → Prop} (hfr : A.frames = some (env :: outer)) (hf : env.frame = some L) (x : Fly P B (env :: outer) e C why .none s.heap)
    (h : ∀ h', Fly P B (env :: outer) e C why (rawInt L) h' → FrS (frs (env :: outer)) s.heap h' → Q () { s with heap := h' }) : wpAny M A (noteFrame (.ref e) env) Q E s := by
  obtain ⟨k, f, xz9⟩ := x
  refine ea8_12 xz9 fun de vs sl T oT ts t1 t2 a1 a2 a3 a4 a5 a6 he h1 hT hd h3 hde => ?_
  clear xz9
  unfold noteFrame
  simp only [hf]
  refine wpAny_bind (wpAny_field he rfl h1 ?_)
  rw [if_pos (show (Value.ref T != Value.none) = true from by simp)]
  refine wpAny_bind (wpAny_field hT hd h3 ?_)
  rw [if_neg (show ¬ ((Value.none == rawInt L) = true) from by simp [rawInt])]
  refine wpAny_bind (wpAny_setField hT hd (Array.getElem?_eq_some_iff.mp h3).1 ?_)
  have other : ∀ b, b ≠ T → (s.heap.update T (Obj.mapFields (·.setIfInBounds 3 Value.none))).get? b = s.heap.get? b := fun b hb => Heap.get?_update_other _ _ (Ne.symm hb)
  refine entryX hfr hf (fun b o hbo => (other b fun q => by rw [q, a2] at hbo; cases hbo).trans (k b o hbo)) (f.of_keeps fun b o hb hn => ⟨o, (other b fun q => ?_).trans hb, rfl⟩) a1 a3 a4 ((other e (Ne.symm a5)).trans he)
    (Array.getElem?_eq_some_iff.mp h1).1 ((other de fun q => by rw [q, hT] at hde; cases hde; cases hd).trans hde) fun h' x1 x2 => h h' x1 ?_
  · rw [q, hT] at hb; cases hb; exact hn _ hd
  · intro b hb o ho
    exact x2 b hb o ((other b fun q => a6 (q ▸ hb)).trans ho)

theorem leaveFly {P : Params} {Q : Unit → Shared → Prop} (hfr : A.frames = some (env :: outer)) (hf : env.frame = some L) (x : Fly P B (env :: outer) e C why .none s.heap)
    (h : ∀ h', Fly P B outer e C why .none h' → FrS (frs (env :: outer)) s.heap h' → Q () { s with heap := h' }) : wpAny M A (leaving env (.ref e)) Q E s := by
  unfold leaving
  refine wpAny_bind (noteX hfr hf x fun h' x1 x2 => ?_)
  exact setFlightX x1 fun h₂ y1 y2 => h h₂ y1.tail (x2.trans y2)
end

set_option maxHeartbeats 1000000 in
open Sem (wp) in
theorem meets_enum_bytes (b : Array UInt8) (t : Tok) :
    Meets (Builtin.«enumerate.__new__» ⟨[.type "enumerate", .bytes b t], []⟩) (fun _ R s =>
      R (.ok (.ret (.ref (s.heap.push { cls := .type "bytes_iterator", data := .fields #[.bytes b t, .int 0 0] }).objs.size)))
        { s with heap := (s.heap.push { cls := .type "bytes_iterator", data := .fields #[.bytes b t, .int 0 0] }).push { cls := .type "enumerate", data := .fields #[.none, .bool false, .ref s.heap.objs.size, rawInt 0, .none, .none] } }) :=
  .of_wp fun prog w A R s h => by
    obtain ⟨hp, g, d, tk, os⟩ := s
    have hsub := sub_enumerate
    wp_walk
    refine wpAny_stack_any fun st => wpAny_pure ?_
    split
    · rename_i c _ _ _ _ _
      cases (c == Value.type "enumerate")
      · wp_walk using KBw.pyIter_bytes
        exact mk1_2 _ rfl h
      · wp_walk using KBw.pyIter_bytes
        exact mk1_2 _ rfl h
    · wp_walk using KBw.pyIter_bytes
      exact mk1_2 _ rfl h
section
variable {prog : Program} {w : World} {A : Around} {E : Value → Shared → Prop} {s : Shared} {b : Array UInt8} {t : Tok}
theorem call_enum_bytes {Q : Value → Shared → Prop}
    (h : ∀ h', IsEnum h' (s.heap.objs.size + 1) s.heap.objs.size 0 .none → KBw.IsBytesIter h' s.heap.objs.size b t 0 → h'.objs.size = s.heap.objs.size + 2 →
      (∀ b o, s.heap.get? b = some o → h'.get? b = some o) → Q (.ref (s.heap.objs.size + 1)) { s with heap := h' }) :
    wpAny (model prog w) A (call (.type "enumerate") [.bytes b t]) Q E s := by
  refine callType_new PySem.F.called_enumerate (by decide) (PySem.F.typeCall_enumerate_1 _) (PySem.F.newCall_enumerate_1 _) (fun obj => PySem.F.args_object_init_2 obj _) PySem.F.entry_enumerate_new
    (meets_enum_bytes b t) ?_
  have hz : (s.heap.push { cls := .type "bytes_iterator", data := .fields #[.bytes b t, .int 0 0] }).objs.size = s.heap.objs.size + 1 := Heap.size_push ..
  show _ ∧ _
  rw [hz]
  have he : IsEnum ((s.heap.push { cls := .type "bytes_iterator", data := .fields #[.bytes b t, .int 0 0] }).push
      { cls := .type "enumerate", data := .fields #[.none, .bool false, .ref s.heap.objs.size, rawInt 0, .none, .none] }) (s.heap.objs.size + 1) s.heap.objs.size 0 .none := by
    have := Heap.get?_push_size (s.heap.push { cls := .type "bytes_iterator", data := .fields #[.bytes b t, .int 0 0] })
      (o := { cls := .type "enumerate", data := .fields #[.none, .bool false, .ref s.heap.objs.size, rawInt 0, .none, .none] }) rfl
    rw [hz] at this; exact this
  refine ⟨⟨_, he, rfl⟩, h _ he ⟨_, Heap.get?_push_of_some _ (Heap.get?_push_size _ rfl), rfl, rfl⟩ (by rw [Heap.size_push, hz]) fun b o y => Heap.get?_push_of_some _ (Heap.get?_push_of_some _ y)⟩
theorem nextB_item {it : Addr} {i : Nat} {c : UInt8} {Q : Value → Shared → Prop} (hit : KBw.IsBytesIter s.heap it b t i) (hx : b[i]? = some c)
    (hQ : ∀ h', KBw.IsBytesIter h' it b t (i + 1) → Heap.SameBut it s.heap h' → Q (.int (c.toNat : Int) s.toks) { s with heap := h', toks := s.toks + 1 }) :
    wpAny (model prog w) A (Builtin.SmallTypes.nextOf (.ref it)) Q E s := by
  refine ea1_3 (id hit) fun o ho hc hd => ?_
  unfold Builtin.SmallTypes.nextOf
  refine wpAny_bind (wpAny_callSpecial?_slot (name := Str.ofString "__next__") (KBw.iter_typeIs hit) KBw.slot_next
    (wpAny_call_entry KBw.slot_next (KBw.iter_typeIs hit) KBw.entry_next ?_ (KBw.args_next _)))
  show wpAny _ _ (field (.ref it) 0 >>= _) _ _ s
  refine wpAny_bind (wpAny_field ho hd (x := .bytes b t) rfl ?_)
  show wpAny _ _ (if (Value.bytes b t == Value.none) = true then _ else _) _ _ s
  rw [if_neg (show ¬ ((Value.bytes b t == Value.none) = true) from Bool.false_ne_true)]
  show wpAny _ _ (field (.ref it) 1 >>= _) _ _ s
  refine wpAny_bind (wpAny_field ho hd (x := .int i 0) rfl ?_)
  refine wpAny_bind (wpAny_of_eq (a := b) rfl ?_)
  simp only [Int.toNat_natCast, hx]
  refine wpAny_bind (wpAny_setField ho hd (by simp) (wpAny_bind (wpAny_mkInt (wpAny_pure ⟨_, rfl, wpAny_pure (hQ _ ?_ (Heap.SameBut.update ..))⟩))))
  exact ⟨_, Heap.get?_update_self _ ho (Obj.isFreed_of_fields (Obj.data_mapFields hd _)), (Obj.cls_mapFields ..).trans hc, by
    rw [Obj.data_mapFields hd]; simp [rawInt]⟩
theorem nextB_end {it : Addr} {i : Nat} {Q : Value → Shared → Prop} (hh : A.handled = none) (hit : KBw.IsBytesIter s.heap it b t i) (hx : b[i]? = none)
    (hE : ∀ h' e, Heap.ExtBut it s.heap h' → (∃ o, h'.get? e = some o ∧ o.cls = .type "StopIteration") → E (.ref e) { s with heap := h' }) :
    wpAny (model prog w) A (Builtin.SmallTypes.nextOf (.ref it)) Q E s := by
  refine ea1_3 (id hit) fun o ho hc hd => ?_
  unfold Builtin.SmallTypes.nextOf
  refine wpAny_bind (wpAny_callSpecial?_slot (name := Str.ofString "__next__") (KBw.iter_typeIs hit) KBw.slot_next
    (wpAny_call_entry KBw.slot_next (KBw.iter_typeIs hit) KBw.entry_next ?_ (KBw.args_next _)))
  show wpAny _ _ (field (.ref it) 0 >>= _) _ _ s
  refine wpAny_bind (wpAny_field ho hd (x := .bytes b t) rfl ?_)
  show wpAny _ _ (if (Value.bytes b t == Value.none) = true then _ else _) _ _ s
  rw [if_neg (show ¬ ((Value.bytes b t == Value.none) = true) from Bool.false_ne_true)]
  show wpAny _ _ (field (.ref it) 1 >>= _) _ _ s
  refine wpAny_bind (wpAny_field ho hd (x := .int i 0) rfl ?_)
  refine wpAny_bind (wpAny_of_eq (a := b) rfl ?_)
  simp only [Int.toNat_natCast, hx]
  refine wpAny_bind (wpAny_rule (wpAny_bind (wpAny_setField ho hd (by simp) ?_)))
  show wpAny _ _ (newExc (.type "StopIteration") [] >>= _) _ _ _
  refine wpAny_bind ?_
  simp only [newExc, newTuple]
  refine wpAny_bind (wpAny_newObj_type ?_ (by size_fits))
  refine wpAny_bind (m := firstArgMember _ _) (wpAny_of_eq (a := Value.none) (by first | rfl | (simp only [firstArgMember]; rfl)) ?_)
  refine wpAny_newObj_type ?_ (by size_fits)
  simp only [raiseNew]
  refine wpAny_bind (wpAny_handled ?_)
  first | rw [show A.in1.handled = none from hh] | rw [hh]
  refine wpAny_bind (wpAny_pure (wpAny_throw ?_))
  exact hE _ _ (((Heap.SameBut.update ..).extBut.push _).push _) ⟨_, Heap.get?_push_size _ rfl, rfl⟩
theorem KBwi.ext {h h' : Heap} {it x : Addr} {i : Nat} (y : KBw.IsBytesIter h it b t i) (k : ∀ c o, c ≠ x → h.get? c = some o → h'.get? c = some o) (hne : it ≠ x) : KBw.IsBytesIter h' it b t i := let ⟨o, a, r⟩ := y; ⟨o, k it o hne a, r⟩
set_option maxHeartbeats 400000 in
theorem enumB_item {e it : Addr} {i : Nat} {c : UInt8} {old : Value} {Q : Value → Shared → Prop}
    (he : IsEnum s.heap e it i old) (hit : KBw.IsBytesIter s.heap it b t i) (hx : b[i]? = some c) (hne : e ≠ it)
    (hQ : ∀ h' t1 t2 tk, IsEnumOut h' e it ((i : Int) + 1) (.int (c.toNat : Int) t1) s.heap.objs.size → KBw.IsBytesIter h' it b t (i + 1) →
      h'.get? s.heap.objs.size = some { cls := .type "tuple", data := .seq #[.int i t2, .int (c.toNat : Int) t1] } → h'.objs.size = s.heap.objs.size + 1 →
      (∀ b o, b ≠ e → b ≠ it → s.heap.get? b = some o → h'.get? b = some o) → Q (.ref s.heap.objs.size) { s with heap := h', toks := tk }) :
    wpAny (model prog w) A (Builtin.«enumerate.__next__» ⟨[.ref e], []⟩) (fun fin s' => ∃ v, fin = .done (.ret v) ∧ Q v s') E s := by
  obtain ⟨hp, g, d, tk, os⟩ := s
  show wpAny _ _ (field (.ref e) 2 >>= _) _ _ _
  refine wpAny_bind (wpAny_field he rfl (x := .ref it) rfl ?_)
  refine wpAny_bind (nextB_item hit hx fun h₁ hit₁ hs₁ => ?_)
  replace hs₁ : Heap.SameBut it hp h₁ := hs₁
  have he₁ : IsEnum h₁ e it i old := (hs₁.2 e hne).trans he
  generalize hvx : Value.int (c.toNat : Int) _ = vx at hQ ⊢
  generalize htk : Shared.toks ⟨hp, g, d, tk, os⟩ + 1 = tk1
  show wpAny _ _ (field (.ref e) 3 >>= _) _ _ ⟨h₁, g, d, tk1, os⟩
  refine wpAny_bind (wpAny_field he₁ rfl (x := rawInt i) rfl ?_)
  show wpAny _ _ (field (.ref e) 4 >>= _) _ _ ⟨h₁, g, d, tk1, os⟩
  refine wpAny_bind (wpAny_field he₁ rfl (x := .none) rfl ?_)
  show wpAny _ _ (mkInt i >>= _) _ _ ⟨h₁, g, d, tk1, os⟩
  refine wpAny_bind (wpAny_mkInt ?_)
  show wpAny _ _ (setField (.ref e) 3 (rawInt ((i : Int) + 1)) >>= _) _ _ ⟨h₁, g, d, tk1 + 1, os⟩
  refine wpAny_bind (wpAny_setField_rec he₁ (by simp) fun h₂ he₂ hs₂ => ?_)
  replace hs₂ : Heap.SameBut e h₁ h₂ := hs₂
  replace he₂ : IsEnum h₂ e it ((i : Int) + 1) old := he₂
  show wpAny _ _ (setField (.ref e) 4 .none >>= _) _ _ ⟨h₂, g, d, tk1 + 1, os⟩
  refine wpAny_bind (wpAny_setField_rec he₂ (by simp) fun h₃ he₃ hs₃ => ?_)
  replace hs₃ : Heap.SameBut e h₂ h₃ := hs₃
  replace he₃ : IsEnum h₃ e it ((i : Int) + 1) old := he₃
  show wpAny _ _ (newTuple [.int i tk1, vx] >>= _) _ _ ⟨h₃, g, d, tk1 + 1, os⟩
  refine wpAny_bind (wpAny_newTuple ?_)
  have he₄ : IsEnum (h₃.push { cls := .type "tuple", data := .seq #[.int i tk1, vx] }) e it ((i : Int) + 1) old := Heap.get?_push_of_some _ he₃
  generalize hh₄ : h₃.push { cls := .type "tuple", data := .seq #[.int i tk1, vx] } = h₄ at he₄
  have hsz : h₃.objs.size = hp.objs.size := by rw [hs₃.1, hs₂.1, hs₁.1]
  have hel : e < hp.objs.size := Heap.lt_size he
  have ht₄ : h₄.get? hp.objs.size = some { cls := .type "tuple", data := .seq #[.int i tk1, vx] } := by rw [← hh₄, ← hsz]; exact Heap.get?_push_size _ rfl
  have hz₄ : h₄.objs.size = hp.objs.size + 1 := by rw [← hh₄, Heap.size_push, hsz]
  have hk₄ : ∀ b o, b ≠ e → b ≠ it → hp.get? b = some o → h₄.get? b = some o := fun b o hbe hbi hb => by
    rw [← hh₄]; exact Heap.get?_push_of_some _ (hs₃.extBut b o hbe (hs₂.extBut b o hbe (hs₁.extBut b o hbi hb)))
  have hit₄ : KBw.IsBytesIter h₄ it b t (i + 1) := by
    rw [← hh₄]; obtain ⟨o, ho, r⟩ := KBwi.ext (KBwi.ext hit₁ hs₂.extBut (Ne.symm hne)) hs₃.extBut (Ne.symm hne); exact ⟨o, Heap.get?_push_of_some _ ho, r⟩
  show wpAny _ _ (Builtin.SmallTypes.ownedTupleIsFree (.ref e) >>= _) _ _ ⟨h₄, g, d, tk1 + 1, os⟩
  rw [hsz]
  clear hh₄ he₃ hs₃ he₂ hs₂ he₁ hs₁ hit₁ hsz h₃ h₂ h₁
  refine wpAny_bind ?_
  · unfold Builtin.SmallTypes.ownedTupleIsFree
    refine wpAny_bind (wpAny_field he₄ rfl (x := .none) rfl (wpAny_pure ?_))
    simp only [if_true]
    refine wpAny_bind (wpAny_rule ?_)
    refine wpAny_bind (wpAny_field he₄ rfl (x := old) rfl ?_)
    refine wpAny_bind (wpAny_setField_rec he₄ (by simp) fun h₅ he₅ hs₅ => ?_)
    replace hs₅ : Heap.SameBut e h₄ h₅ := hs₅
    replace he₅ : IsEnum h₅ e it ((i : Int) + 1) vx := he₅
    show wpAny _ _ (Builtin.SmallTypes.ownedTupleHandOut (.ref e) (.ref hp.objs.size) >>= _) _ _ ⟨h₅, g, d, tk1 + 1, os⟩
    refine wpAny_bind ?_
    · unfold Builtin.SmallTypes.ownedTupleHandOut
      refine wpAny_bind (wpAny_setField_rec he₅ (by simp) fun h₆ he₆ hs₆ => ?_)
      replace hs₆ : Heap.SameBut e h₅ h₆ := hs₆
      replace he₆ : IsEnumOut h₆ e it ((i : Int) + 1) vx hp.objs.size := he₆
      refine wpAny_setField_rec he₆ (by simp) fun h₇ he₇ hs₇ => ?_
      replace hs₇ : Heap.SameBut e h₆ h₇ := hs₇
      replace he₇ : IsEnumOut h₇ e it ((i : Int) + 1) vx hp.objs.size := he₇
      subst hvx
      refine wpAny_bind (wpAny_letGo (wpAny_pure ⟨_, rfl, hQ h₇ _ tk1 _ he₇ ?_ ?_ ?_ ?_⟩))
      · exact KBwi.ext (KBwi.ext (KBwi.ext hit₄ hs₅.extBut (Ne.symm hne)) hs₆.extBut (Ne.symm hne)) hs₇.extBut (Ne.symm hne)
      · exact hs₇.extBut _ _ (Nat.ne_of_gt hel) (hs₆.extBut _ _ (Nat.ne_of_gt hel) (hs₅.extBut _ _ (Nat.ne_of_gt hel) ht₄))
      · rw [hs₇.1, hs₆.1, hs₅.1, hz₄]
      · exact fun b o hbe hbi hb => hs₇.extBut b o hbe (hs₆.extBut b o hbe (hs₅.extBut b o hbe (hk₄ b o hbe hbi hb)))
theorem nextE_item {e it : Addr} {i : Nat} {c : UInt8} {old : Value} {Q : Option Value → Shared → Prop}
    (he : IsEnum s.heap e it i old) (hit : KBw.IsBytesIter s.heap it b t i) (hx : b[i]? = some c) (hne : e ≠ it)
    (hQ : ∀ h' t1 t2 tk, IsEnumOut h' e it ((i : Int) + 1) (.int (c.toNat : Int) t1) s.heap.objs.size → KBw.IsBytesIter h' it b t (i + 1) →
      h'.get? s.heap.objs.size = some { cls := .type "tuple", data := .seq #[.int i t2, .int (c.toNat : Int) t1] } → h'.objs.size = s.heap.objs.size + 1 →
      (∀ b o, b ≠ e → b ≠ it → s.heap.get? b = some o → h'.get? b = some o) → Q (some (.ref s.heap.objs.size)) { s with heap := h', toks := tk }) :
    wpAny (model prog w) A (pyNext (.ref e)) Q E s := by
  have hT : s.TypeIs (.ref e) "enumerate" := ⟨_, he, rfl⟩
  unfold pyNext
  exact wpAny_bind (wpAny_attempt (wpAny_callSpecial?_slot (name := Str.ofString "__next__") hT PySem.F.slot_enumerate_next
    (wpAny_call_entry PySem.F.slot_enumerate_next hT PySem.F.entry_enumerate_next
      (enumB_item he hit hx hne fun h' t1 t2 tk a b c d k => wpAny_pure (hQ h' t1 t2 tk a b c d k)) (PySem.F.args_enumerate_next_1 _))))
theorem nextE_end {e it : Addr} {i : Nat} {old : Value} {Q : Option Value → Shared → Prop} (hh : A.handled = none)
    (he : IsEnum s.heap e it i old) (hit : KBw.IsBytesIter s.heap it b t i) (hx : b[i]? = none)
    (hQ : ∀ h', Heap.ExtBut it s.heap h' → Q none { s with heap := h' }) : wpAny (model prog w) A (pyNext (.ref e)) Q E s := by
  have hT : s.TypeIs (.ref e) "enumerate" := ⟨_, he, rfl⟩
  unfold pyNext
  refine wpAny_bind (wpAny_attempt (wpAny_callSpecial?_slot (name := Str.ofString "__next__") hT PySem.F.slot_enumerate_next
    (wpAny_call_entry PySem.F.slot_enumerate_next hT PySem.F.entry_enumerate_next ?_ (PySem.F.args_enumerate_next_1 _))))
  show wpAny _ _ (field (.ref e) 2 >>= _) _ _ _
  refine wpAny_bind (wpAny_field he rfl (x := .ref it) rfl ?_)
  refine wpAny_bind (nextB_end hh hit hx fun h' x he' hx' => ?_)
  refine ea1_2 (hx') fun o ho hc => ?_
  (try clear hx')
  refine wpAny_bind (wpAny_isInstance (T := "StopIteration") (b := true) ⟨o, ho, hc⟩ isSubtype_stop ?_)
  exact wpAny_pure (hQ _ he')
end

noncomputable abbrev tail31 : List Value := [.ref 31, .type "Exception", .type "BaseException", .type "object"]
section
variable {M : Model} {A : Around} {E : Value → Shared → Prop} {h : Heap} {g : Array GenState} {d : Drawn} {t : Nat} {os : OsState}
variable {nm q : Str} {C N : Addr} {bs : List Value} {hdct : Bool} {sn : List Str} {sub : List Value} {ab : Bool} {col : Option Bool} {dd : Option Addr} {k0 k1 k2 k3 k5 : Option Value}
theorem check_new31 {rest : List Value} {Q : Unit → Shared → Prop} (hC : h.get? C = some (excClassObj nm q C N bs tail31 hdct sn sub ab col dd k0 k1 k2 k3 k5 "Exception.__new__"))
    (hq : Q () ⟨h, g, d, t, os⟩) : wpAny M A (checkBuiltinCall "Exception.__new__" ⟨.ref C :: rest, []⟩) Q E ⟨h, g, d, t, os⟩ := by
  have F := PySem.F.excBase_Exception
  have hcont : (Value.ref C :: tail31).contains (.type "Exception") = true := by rw [List.contains_cons]; simp [tail31]
  have hstar := F.noStar
  simp only [checkBuiltinCall, F.newKind, F.newSplit, F.newRow]
  repeat (first | refine wpAny_loadPart_at hC ?_ | (refine wpAny_isSubtype_exc hC ?_; rw [hcont]) | refine wpAny_staticBase_exc hC ?_ | refine wpAny_madeBy_exc hC ?_ | simp only [bne_self_eq_false, Bool.false_eq_true, if_false] | wp_step)
  exact hq
end
section
variable {prog : Program} {w : World} {A : Around} {R : Result → Shared → Prop} {h : Heap} {g : Array GenState} {d : Drawn} {t : Nat} {os : OsState}
variable {nm q : Str} {C N : Addr} {bs : List Value} {hdct : Bool} {sn : List Str} {sub : List Value} {ab : Bool} {col : Option Bool} {dd : Option Addr} {k0 k1 k2 k3 k5 : Option Value} {K : Frag}

theorem new31 {rest : List Value} (hC : h.get? C = some (excClassObj nm q C N bs tail31 hdct sn sub ab col dd k0 k1 k2 k3 k5 "Exception.__new__"))
    (hq : R (.ok (.ret (.ref (h.objs.size + 1)))) ⟨(h.push { cls := .type "tuple", data := .seq rest.toArray }).push
      { cls := .ref C, data := .fields #[.ref h.objs.size, .none, .none, .none, .bool false, .none] }, g, d, t, os⟩) (hrest : rest.length ≤ sizeLine) :
    codeAny (model prog w) A (.builtin "Exception.__new__" ⟨.ref C :: rest, []⟩) R ⟨h, g, d, t, os⟩ := by
  have F := PySem.F.excBase_Exception
  have hends := F.ends
  have hcB : (Value.ref C :: tail31).contains (.type "Exception") = true := by rw [List.contains_cons]; simp [tail31]
  have hcA : (Value.ref C :: tail31).contains (.type "AttributeError") = false := by rw [List.contains_cons]; simp [tail31]
  have hcN : (Value.ref C :: tail31).contains (.type "NameError") = false := by rw [List.contains_cons]; simp [tail31]
  refine codeAny_builtinAt F.entry ?_
  unfold Builtin.«BaseException.__new__»
  refine PySem.wpAt_bind ?_
  show PySem.wpAt _ _ _ (stack >>= _) _ _ _
  refine PySem.wpAt_bind (PySem.wpAt_stack fun p below => PySem.wpAt_of_wpAny ?_)
  wp_walk
  refine PySem.wpAt_of_wpAny ?_
  rw [F.owner]
  repeat (first | with_reducible refine wpAny_madeHere_exc F.canon hC ?_ | with_reducible refine wpAny_loadPart_at hC ?_ | (with_reducible refine wpAny_isSubtype_exc hC ?_; first | rw [hcB] | rw [hcA] | rw [hcN]) | wp_step)
  show R _ _
  rw [Heap.size_push]
  exact hq

theorem make31 {rest : List Value} {fI : Addr} (X : K.In h) (hk : K.lookup C = some (excClassObj nm q C N bs tail31 hdct sn sub ab col dd k0 k1 k2 k3 k5 "Exception.__new__"))
    (hi : findIn K (.ref C) "__init__" = some (some (.ref fI))) (hf : typeIn K (.ref fI) = some (.type "function")) (hcall : specialIn K (.ref C) "__call__" = some (some (.builtin "type.__call__"))) (htyp : instIn K (.ref C) (.type "type") = some true)
    (hrest : rest.length ≤ sizeLine)
    (hq : codeAny (model prog w) (A.under (.builtin "type.__call__" ⟨.ref C :: rest, []⟩)) (.call (.ref fI) ⟨.ref (h.objs.size + 1) :: rest, []⟩) (InitBack (h.objs.size + 1) R)
      ⟨(h.push { cls := .type "tuple", data := .seq rest.toArray }).push { cls := .ref C, data := .fields #[.ref h.objs.size, .none, .none, .none, .bool false, .none] }, g, d, t, os⟩) :
    codeAny (model prog w) A (.call (.ref C) ⟨rest, []⟩) R ⟨h, g, d, t, os⟩ := by
  have F := PySem.F.excBase_Exception
  have hC := X _ _ hk
  have call := looks_specialIn (M := model prog w) X hcall
  have typ := looks_instIn (M := model prog w) X htyp
  refine codeAny_of_tree ?_
  show wpAny _ _ (callAny (.ref C) _) _ _ _
  refine nd_load hC ?_
  show wpAny _ _ (callAny.viaDunder (.ref C) _) _ _ _
  unfold callAny.viaDunder
  refine wpAny_bind (call.at ?_)
  dsimp only
  rw [tc_bind]
  refine wpAny_bind (wpAny_pure (wpAny_bind (wpAny_pure ?_)))
  refine wpAny_pure (a := Fin.again (.call (.builtin "type.__call__") ⟨.ref C :: rest, []⟩)) (And.intro rfl ?_)
  refine codeAny_call_builtin_at (Code.quiet_builtin _ (by decide +kernel)) entry_typeCall (check_slot tc_kind tc_split typ (tc_args _ _ _) ?_)
  unfold Builtin.«type.__call__»
  repeat (first | with_reducible refine wpAny_loadPart_at hC ?_ | with_reducible refine wpAny_madeBy_exc hC ?_ | wp_step)
  refine codeAny_call_builtin_code (Code.quiet_builtin _ F.quiet) (check_new31 hC ?_)
  refine new31 hC ?_ hrest
  have k : ∀ b o, h.get? b = some o → ((h.push { cls := .type "tuple", data := .seq rest.toArray }).push { cls := .ref C, data := .fields #[.ref h.objs.size, .none, .none, .none, .bool false, .none] }).get? b = some o :=
    fun b o e => Heap.get?_push_of_some _ (Heap.get?_push_of_some _ e)
  have X1 := X.keeps k
  have hC₁ := k _ _ hC
  have hget : ((h.push { cls := .type "tuple", data := .seq rest.toArray }).push
      { cls := .ref C, data := .fields #[.ref h.objs.size, .none, .none, .none, .bool false, .none] }).get? (h.objs.size + 1) = some
      { cls := .ref C, data := .fields #[.ref h.objs.size, .none, .none, .none, .bool false, .none] } := by heap_get
  have t1 : Looks (model prog w) ((h.push { cls := .type "tuple", data := .seq rest.toArray }).push { cls := .ref C, data := .fields #[.ref h.objs.size, .none, .none, .none, .bool false, .none] }) (typeOf (.ref (h.objs.size + 1))) (.ref C) := (Looks.ld hget).andThen .now
  have i1 := looks_findIn (M := model prog w) X1 hi
  have b1 := bind_fn (M := model prog w) X1 (.ref (h.objs.size + 1)) hf
  have hcC : (Value.ref C :: tail31).contains (.ref C) = true := by simp
  show wpAny _ _ _ _ _ _
  unfold isInstance
  repeat (first | with_reducible refine wpAny_loadPart_at hget ?_ | (with_reducible refine wpAny_isSubtype_exc hC₁ ?_; rw [hcC]) | wp_step)
  show wpAny _ _ (typeLookup (.ref C) _) _ _ _
  refine i1.here ?_
  refine wpAny_holding (wpAny_bind (b1.here ?_))
  refine wpAny_bind (wpAny_call (codeAny_mono hq fun r s' z => ?_))
  rcases r with e | (v | _ | _ | _) <;> first | exact z | exact z.elim | skip
  obtain ⟨rfl, z⟩ := z
  exact wpAny_pure (wpAny_pure z)
end

example : True := by
  k_with "om7" => (first | k_extra "om9" | k_extra "cja" | (k_extra "clr"; omega +splitDisjunctions) | omega +splitDisjunctions)
  k_with "omU" => (first | ((with_reducible refine' up_gt (i := 21) ?zhU ?zhX ?zhP ?zhQ ?zhK); (case zhU => with_reducible assumption); (case zhQ => with_reducible assumption); (case zhP => with_reducible assumption); (case zhX => with_reducible assumption); (case zhK => exact rfl)) | ((with_reducible refine' up_gt' (i := 21) ?zhU ?zhX ?zhP ?zhQ ?zhK); (case zhU => with_reducible assumption); (case zhQ => with_reducible assumption); (case zhP => with_reducible assumption); (case zhX => with_reducible assumption); (case zhK => exact rfl)) | ((with_reducible refine' up_ltx (i := 21) ?zhU ?zhX ?zhP ?zhQ ?zhK); (case zhU => with_reducible assumption); (case zhQ => with_reducible assumption); (case zhP => with_reducible assumption); (case zhX => with_reducible assumption); (case zhK => exact rfl)) | ((with_reducible refine' up_gt (i := 16) ?zhU ?zhX ?zhP ?zhQ ?zhK); (case zhU => with_reducible assumption); (case zhQ => with_reducible assumption); (case zhP => with_reducible assumption); (case zhX => with_reducible assumption); (case zhK => exact rfl)) | ((with_reducible refine' up_gt' (i := 16) ?zhU ?zhX ?zhP ?zhQ ?zhK); (case zhU => with_reducible assumption); (case zhQ => with_reducible assumption); (case zhP => with_reducible assumption); (case zhX => with_reducible assumption); (case zhK => exact rfl)) | ((with_reducible refine' up_ltx (i := 16) ?zhU ?zhX ?zhP ?zhQ ?zhK); (case zhU => with_reducible assumption); (case zhQ => with_reducible assumption); (case zhP => with_reducible assumption); (case zhX => with_reducible assumption); (case zhK => exact rfl)) | ((with_reducible refine' up_gt (i := 14) ?zhU ?zhX ?zhP ?zhQ ?zhK); (case zhU => with_reducible assumption); (case zhQ => with_reducible assumption); (case zhP => with_reducible assumption); (case zhX => with_reducible assumption); (case zhK => exact rfl)) | ((with_reducible refine' up_gt' (i := 14) ?zhU ?zhX ?zhP ?zhQ ?zhK); (case zhU => with_reducible assumption); (case zhQ => with_reducible assumption); (case zhP => with_reducible assumption); (case zhX => with_reducible assumption); (case zhK => exact rfl)) | ((with_reducible refine' up_ltx (i := 14) ?zhU ?zhX ?zhP ?zhQ ?zhK); (case zhU => with_reducible assumption); (case zhQ => with_reducible assumption); (case zhP => with_reducible assumption); (case zhX => with_reducible assumption); (case zhK => exact rfl)) | ((with_reducible refine' up_gt (i := 12) ?zhU ?zhX ?zhP ?zhQ ?zhK); (case zhU => with_reducible assumption); (case zhQ => with_reducible assumption); (case zhP => with_reducible assumption); (case zhX => with_reducible assumption); (case zhK => exact rfl)) | ((with_reducible refine' up_gt' (i := 12) ?zhU ?zhX ?zhP ?zhQ ?zhK); (case zhU => with_reducible assumption); (case zhQ => with_reducible assumption); (case zhP => with_reducible assumption); (case zhX => with_reducible assumption); (case zhK => exact rfl)) | ((with_reducible refine' up_ltx (i := 12) ?zhU ?zhX ?zhP ?zhQ ?zhK); (case zhU => with_reducible assumption); (case zhQ => with_reducible assumption); (case zhP => with_reducible assumption); (case zhX => with_reducible assumption); (case zhK => exact rfl)) | ((with_reducible refine' up_gt (i := 8) ?zhU ?zhX ?zhP ?zhQ ?zhK); (case zhU => with_reducible assumption); (case zhQ => with_reducible assumption); (case zhP => with_reducible assumption); (case zhX => with_reducible assumption); (case zhK => exact rfl)) | ((with_reducible refine' up_gt' (i := 8) ?zhU ?zhX ?zhP ?zhQ ?zhK); (case zhU => with_reducible assumption); (case zhQ => with_reducible assumption); (case zhP => with_reducible assumption); (case zhX => with_reducible assumption); (case zhK => exact rfl)) | ((with_reducible refine' up_ltx (i := 8) ?zhU ?zhX ?zhP ?zhQ ?zhK); (case zhU => with_reducible assumption); (case zhQ => with_reducible assumption); (case zhP => with_reducible assumption); (case zhX => with_reducible assumption); (case zhK => exact rfl)) | ((with_reducible refine' up_gt (i := 6) ?zhU ?zhX ?zhP ?zhQ ?zhK); (case zhU => with_reducible assumption); (case zhQ => with_reducible assumption); (case zhP => with_reducible assumption); (case zhX => with_reducible assumption); (case zhK => exact rfl)) | ((with_reducible refine' up_gt' (i := 6) ?zhU ?zhX ?zhP ?zhQ ?zhK); (case zhU => with_reducible assumption); (case zhQ => with_reducible assumption); (case zhP => with_reducible assumption); (case zhX => with_reducible assumption); (case zhK => exact rfl)) | ((with_reducible refine' up_ltx (i := 6) ?zhU ?zhX ?zhP ?zhQ ?zhK); (case zhU => with_reducible assumption); (case zhQ => with_reducible assumption); (case zhP => with_reducible assumption); (case zhX => with_reducible assumption); (case zhK => exact rfl)) | ((with_reducible refine' up_gt (i := 4) ?zhU ?zhX ?zhP ?zhQ ?zhK); (case zhU => with_reducible assumption); (case zhQ => with_reducible assumption); (case zhP => with_reducible assumption); (case zhX => with_reducible assumption); (case zhK => exact rfl)) | ((with_reducible refine' up_gt' (i := 4) ?zhU ?zhX ?zhP ?zhQ ?zhK); (case zhU => with_reducible assumption); (case zhQ => with_reducible assumption); (case zhP => with_reducible assumption); (case zhX => with_reducible assumption); (case zhK => exact rfl)) | ((with_reducible refine' up_ltx (i := 4) ?zhU ?zhX ?zhP ?zhQ ?zhK); (case zhU => with_reducible assumption); (case zhQ => with_reducible assumption); (case zhP => with_reducible assumption); (case zhX => with_reducible assumption); (case zhK => exact rfl)) | ((with_reducible refine' up_gt (i := 3) ?zhU ?zhX ?zhP ?zhQ ?zhK); (case zhU => with_reducible assumption); (case zhQ => with_reducible assumption); (case zhP => with_reducible assumption); (case zhX => with_reducible assumption); (case zhK => exact rfl)) | ((with_reducible refine' up_gt' (i := 3) ?zhU ?zhX ?zhP ?zhQ ?zhK); (case zhU => with_reducible assumption); (case zhQ => with_reducible assumption); (case zhP => with_reducible assumption); (case zhX => with_reducible assumption); (case zhK => exact rfl)) | ((with_reducible refine' up_ltx (i := 3) ?zhU ?zhX ?zhP ?zhQ ?zhK); (case zhU => with_reducible assumption); (case zhQ => with_reducible assumption); (case zhP => with_reducible assumption); (case zhX => with_reducible assumption); (case zhK => exact rfl)))
  k_with "omL" => (first | (exact Nat.le_refl _) | ((with_reducible refine le_b ?_); with_reducible assumption) | ((with_reducible refine le_1 ?_); with_reducible assumption) | ((with_reducible refine le_3k ?_); with_reducible assumption) | ((with_reducible refine' le_0 ?zse ?zsf); (case zse => with_reducible assumption); (case zsf => exact rfl)) | ((with_reducible refine' le_k ?zse ?zsf); (case zse => with_reducible assumption); (case zsf => exact rfl)) | ((with_reducible refine' le_eq_lt ?zse ?zsf); (case zse => with_reducible assumption); (case zsf => (first | with_reducible assumption | k_extra "cjl"))) | ((with_reducible refine' le_eq_lt1 ?zse ?zsf); (case zse => with_reducible assumption); (case zsf => (first | with_reducible assumption | k_extra "cjl"))) | ((with_reducible refine' le_eq_lt2 ?zse ?zsf ?zsg); (case zse => with_reducible assumption); (case zsf => with_reducible assumption); (case zsg => k_extra "cjl")) | ((with_reducible refine' le_eq ?zse ?zsf ?zsg); (case zse => with_reducible assumption); (case zsf => with_reducible assumption); (case zsg => exact rfl)) | (exact Nat.le_add_right _ 1) | (exact Nat.le_add_right _ 2) | (exact Nat.le_succ _) | ((with_reducible refine fm_nat (n := 41) ?_ rfl); with_reducible assumption) | ((with_reducible refine fm_nat (n := 6) ?_ rfl); with_reducible assumption))
  k_with "omT" => (first | ((with_reducible refine' lt_two ?zse ?zsf); (case zse => with_reducible assumption); (case zsf => k_extra "cjl")) | ((with_reducible refine' len_lim ?zse ?zsf ?zsg); (case zse => with_reducible assumption); (case zsf => with_reducible assumption); (case zsg => with_reducible assumption)) | ((with_reducible refine' len_lim' ?zsd ?zse ?zsf ?zsg); (case zsd => with_reducible assumption); (case zse => with_reducible assumption); (case zsf => with_reducible assumption); (case zsg => with_reducible assumption)) | ((with_reducible refine' len_limr ?zsd ?zse ?zsf ?zsg); (case zsd => with_reducible assumption); (case zse => with_reducible assumption); (case zsf => with_reducible assumption); (case zsg => with_reducible assumption)) | ((with_reducible refine' lt_trans_1 ?zse); (case zse => with_reducible assumption)) | ((with_reducible refine' st_len ?zse ?zsf); (case zse => with_reducible assumption); (case zsf => with_reducible assumption)) | ((with_reducible refine sec_abs ?_); with_reducible assumption) | ((with_reducible refine' lt_0 ?zse ?zsf); (case zse => with_reducible assumption); (case zsf => exact rfl)) | ((with_reducible refine' lt_k ?zse ?zsf); (case zse => with_reducible assumption); (case zsf => exact rfl)) | ((with_reducible refine' lt_k2 ?zse ?zsf); (case zse => with_reducible assumption); (case zsf => exact rfl)) | ((with_reducible refine' lt_cl ?zse ?zsf ?zsg); (case zse => with_reducible assumption); (case zsf => with_reducible assumption); (case zsg => exact rfl)) | ((with_reducible refine' lt_3k ?zse ?zsf ?zsg); (case zse => with_reducible assumption); (case zsf => with_reducible assumption); (case zsg => exact rfl)) | ((with_reducible refine' add_lt3' ?zse ?zsf); (case zse => with_reducible assumption); (case zsf => with_reducible assumption)) | ((with_reducible refine' add_lt3 ?zse ?zsf ?zsg); (case zse => with_reducible assumption); (case zsf => with_reducible assumption); (case zsg => with_reducible assumption)) | ((with_reducible refine' lt_M ?zse ?zsf); (case zse => with_reducible assumption); (case zsf => with_reducible assumption)) | ((with_reducible refine' lt_MG ?zse ?zsf); (case zse => with_reducible assumption); (case zsf => with_reducible assumption)))
  k_with "omN" => (first | ((with_reducible refine (off3 ?_).1); with_reducible assumption) | ((with_reducible refine (off3 ?_).2.1); with_reducible assumption) | ((with_reducible refine (off3 ?_).2.2); with_reducible assumption) | ((with_reducible refine' ne_sm ?zse ?zsf ?zsg); (case zse => with_reducible assumption); (case zsf => with_reducible assumption); (case zsg => exact rfl)) | ((with_reducible refine' Nat.ne_of_lt (Nat.lt_trans ?zse ?zsf)); (case zsf => with_reducible assumption); (case zse => k_extra "cjl")) | ((with_reducible refine' Nat.ne_of_gt (Nat.lt_trans ?zse ?zsf)); (case zsf => with_reducible assumption); (case zse => k_extra "cjl")))
  k_with "omI" => (first | ((with_reducible refine sec_nn ?_); with_reducible assumption) | ((with_reducible refine nx_s ?_); with_reducible assumption) | ((with_reducible refine wr_s ?_); with_reducible assumption))
  k_with "omJ" => (first | ((with_reducible refine' lt_int ?zse ?zsf); (case zse => with_reducible assumption); (case zsf => with_reducible assumption)) | ((with_reducible refine k_neg ?_); with_reducible assumption))
  k_with "omg" => (first | decide | ((with_reducible show False); first | with_reducible contradiction | (exact hne ⟨by with_reducible assumption, by with_reducible assumption⟩)) | ((with_reducible show (_ : Nat) ≤ _); k_extra "omL") | ((with_reducible show (_ : Nat) < _); k_extra "omT") | ((with_reducible show (_ : Nat) ≠ _); k_extra "omN") | ((with_reducible show (_ : Int) ≤ _); k_extra "omI") | ((with_reducible show (_ : Int) < _); k_extra "omJ") | ((with_reducible refine sec_ne ?_); with_reducible assumption) | ((with_reducible refine' Or.inr (Or.inl (And.intro ?zse ?zsf))); (case zse => k_extra "omL"); (case zsf => k_extra "omL")))
  k_with "om9" => (first | ((with_reducible refine' up_ne ?zhU ?zhP ?zhQ ?zhK); (case zhU => with_reducible assumption); (case zhP => with_reducible assumption); (case zhQ => with_reducible assumption); (case zhK => exact rfl)) | ((with_reducible refine' up_lt ?zhU ?zhP ?zhQ ?zhK); (case zhU => with_reducible assumption); (case zhP => with_reducible assumption); (case zhQ => with_reducible assumption); (case zhK => exact rfl)) | ((with_reducible refine' up_le ?zhU ?zhP ?zhQ ?zhK); (case zhU => with_reducible assumption); (case zhP => with_reducible assumption); (case zhQ => with_reducible assumption); (case zhK => exact rfl)) | ((with_reducible refine' up_gt ?zhU ?zhX ?zhP ?zhQ ?zhK); (case zhU => with_reducible assumption); (case zhQ => with_reducible assumption); (case zhX => with_reducible assumption); (case zhP => with_reducible assumption); (case zhK => exact rfl)) | ((with_reducible refine' up_gt' ?zhU ?zhX ?zhP ?zhQ ?zhK); (case zhU => with_reducible assumption); (case zhQ => with_reducible assumption); (case zhX => with_reducible assumption); (case zhP => with_reducible assumption); (case zhK => exact rfl)) | ((with_reducible refine' up_ltx ?zhU ?zhX ?zhP ?zhQ ?zhK); (case zhU => with_reducible assumption); (case zhQ => with_reducible assumption); (case zhX => with_reducible assumption); (case zhP => with_reducible assumption); (case zhK => exact rfl)) | ((with_reducible refine Nat.ne_of_lt ?_); with_reducible assumption) | ((with_reducible refine Nat.ne_of_gt ?_); with_reducible assumption) | ((with_reducible show _ ≤ _); first | (exact le_k hd rfl) | (exact le_k hu rfl) | (exact le_0 hd rfl) | (exact le_0 hu rfl) | (exact le_k2 hd rfl) | (exact le_k2 hu rfl)) | ((with_reducible show _ < _); first | (exact lt_k hd rfl) | (exact lt_k hu rfl) | (exact lt_0 hd rfl) | (exact lt_0 hu rfl) | (exact lt_k2 hd rfl) | (exact lt_k2 hu rfl)) | ((with_reducible refine' up_ns ?zhU ?zhP ?zhQ ?zhK ?zhL); (case zhU => with_reducible assumption); (case zhP => with_reducible assumption); (case zhQ => with_reducible assumption); (case zhK => exact rfl); (case zhL => exact rfl)) | ((with_reducible refine' up_sn ?zhU ?zhP ?zhQ ?zhK ?zhL); (case zhU => with_reducible assumption); (case zhP => with_reducible assumption); (case zhQ => with_reducible assumption); (case zhK => exact rfl); (case zhL => exact rfl)) | k_extra "omU" | k_extra "omg" | ((with_reducible refine Or.inl ?_); k_extra "om9") | ((with_reducible refine Or.inr (Or.inl (And.intro ?_ ?_))) <;> k_extra "om9") | ((with_reducible refine Or.inr (Or.inr (And.intro ?_ ?_))) <;> k_extra "om9"))
  k_with "cjn" => ((with_reducible rename _ ≠ _ ∧ _ => hcj); with_reducible first | exact hcj.1 | exact hcj.2.1 | exact hcj.2.2.1 | exact hcj.2.2.2.1 | exact hcj.2.2.2.2.1 | exact hcj.2.2.2.2.2.1 | exact hcj.2.2.2.2.2.2.1 | exact hcj.2.2.2.2.2.2.2.1 | exact hcj.2.2.2.2.2.2.2.2.1 | exact hcj.2.2.2.2.2.2.2.2.2.1 | exact hcj.2.2.2.2.2.2.2.2.2.2.1 | exact hcj.2.2.2.2.2.2.2.2.2.2.2.1 | exact hcj.2.2.2.2.2.2.2.2.2.2.2.2.1 | exact hcj.2.2.2.2.2.2.2.2.2.2.2.2.2.1 | exact hcj.2.2.2.2.2.2.2.2.2.2.2.2.2.2.1 | exact hcj.2.2.2.2.2.2.2.2.2.2.2.2.2.2.2.1 | exact hcj.2.2.2.2.2.2.2.2.2.2.2.2.2.2.2.2.1 | exact hcj.2.2.2.2.2.2.2.2.2.2.2.2.2.2.2.2.2.1 | exact hcj.2.2.2.2.2.2.2.2.2.2.2.2.2.2.2.2.2.2.1 | exact hcj.2.2.2.2.2.2.2.2.2.2.2.2.2.2.2.2.2.2.2.1 | exact hcj.2.2.2.2.2.2.2.2.2.2.2.2.2.2.2.2.2.2.2.2.1 | exact hcj.2.2.2.2.2.2.2.2.2.2.2.2.2.2.2.2.2.2.2.2.2.1 | exact (hcj.1).symm | exact (hcj.2.1).symm | exact (hcj.2.2.1).symm | exact (hcj.2.2.2.1).symm | exact (hcj.2.2.2.2.1).symm | exact (hcj.2.2.2.2.2.1).symm | exact (hcj.2.2.2.2.2.2.1).symm | exact (hcj.2.2.2.2.2.2.2.1).symm | exact (hcj.2.2.2.2.2.2.2.2.1).symm | exact (hcj.2.2.2.2.2.2.2.2.2.1).symm | exact (hcj.2.2.2.2.2.2.2.2.2.2.1).symm | exact (hcj.2.2.2.2.2.2.2.2.2.2.2.1).symm | exact (hcj.2.2.2.2.2.2.2.2.2.2.2.2.1).symm | exact (hcj.2.2.2.2.2.2.2.2.2.2.2.2.2.1).symm | exact (hcj.2.2.2.2.2.2.2.2.2.2.2.2.2.2.1).symm | exact (hcj.2.2.2.2.2.2.2.2.2.2.2.2.2.2.2.1).symm | exact (hcj.2.2.2.2.2.2.2.2.2.2.2.2.2.2.2.2.1).symm | exact (hcj.2.2.2.2.2.2.2.2.2.2.2.2.2.2.2.2.2.1).symm | exact (hcj.2.2.2.2.2.2.2.2.2.2.2.2.2.2.2.2.2.2.1).symm | exact (hcj.2.2.2.2.2.2.2.2.2.2.2.2.2.2.2.2.2.2.2.1).symm | exact (hcj.2.2.2.2.2.2.2.2.2.2.2.2.2.2.2.2.2.2.2.2.1).symm | exact (hcj.2.2.2.2.2.2.2.2.2.2.2.2.2.2.2.2.2.2.2.2.2.1).symm | (clear hcj; k_extra "cjn"))
  k_with "cjl" => ((with_reducible rename _ < _ ∧ _ => hcl); with_reducible first | exact hcl.1 | exact hcl.2.1 | exact hcl.2.2.1 | exact hcl.2.2.2.1 | exact hcl.2.2.2.2.1 | exact hcl.2.2.2.2.2.1 | exact hcl.2.2.2.2.2.2.1 | exact hcl.2.2.2.2.2.2.2.1 | exact hcl.2.2.2.2.2.2.2.2.1 | exact hcl.2.2.2.2.2.2.2.2.2.1 | exact hcl.2.2.2.2.2.2.2.2.2.2.1 | exact hcl.2.2.2.2.2.2.2.2.2.2.2.1 | exact hcl.2.2.2.2.2.2.2.2.2.2.2.2.1 | exact hcl.2.2.2.2.2.2.2.2.2.2.2.2.2.1 | exact hcl.2.2.2.2.2.2.2.2.2.2.2.2.2.2.1 | exact hcl.2.2.2.2.2.2.2.2.2.2.2.2.2.2.2.1 | exact hcl.2.2.2.2.2.2.2.2.2.2.2.2.2.2.2.2.1 | exact hcl.2.2.2.2.2.2.2.2.2.2.2.2.2.2.2.2.2.1 | exact hcl.2.2.2.2.2.2.2.2.2.2.2.2.2.2.2.2.2.2.1 | exact hcl.2.2.2.2.2.2.2.2.2.2.2.2.2.2.2.2.2.2.2.1 | exact hcl.2.2.2.2.2.2.2.2.2.2.2.2.2.2.2.2.2.2.2.2.1 | exact hcl.2.2.2.2.2.2.2.2.2.2.2.2.2.2.2.2.2.2.2.2.2.1 | (clear hcl; k_extra "cjl"))
  k_with "cjg" => ((with_reducible rename _ < _ ∧ _ => hcl); with_reducible first | exact Nat.ne_of_gt hcl.1 | exact Nat.ne_of_gt hcl.2.1 | exact Nat.ne_of_gt hcl.2.2.1 | exact Nat.ne_of_gt hcl.2.2.2.1 | exact Nat.ne_of_gt hcl.2.2.2.2.1 | exact Nat.ne_of_gt hcl.2.2.2.2.2.1 | exact Nat.ne_of_gt hcl.2.2.2.2.2.2.1 | exact Nat.ne_of_gt hcl.2.2.2.2.2.2.2.1 | exact Nat.ne_of_gt hcl.2.2.2.2.2.2.2.2.1 | exact Nat.ne_of_gt hcl.2.2.2.2.2.2.2.2.2.1 | exact Nat.ne_of_gt hcl.2.2.2.2.2.2.2.2.2.2.1 | exact Nat.ne_of_gt hcl.2.2.2.2.2.2.2.2.2.2.2.1 | exact Nat.ne_of_gt hcl.2.2.2.2.2.2.2.2.2.2.2.2.1 | exact Nat.ne_of_gt hcl.2.2.2.2.2.2.2.2.2.2.2.2.2.1 | exact Nat.ne_of_gt hcl.2.2.2.2.2.2.2.2.2.2.2.2.2.2.1 | exact Nat.ne_of_gt hcl.2.2.2.2.2.2.2.2.2.2.2.2.2.2.2.1 | exact Nat.ne_of_gt hcl.2.2.2.2.2.2.2.2.2.2.2.2.2.2.2.2.1 | exact Nat.ne_of_gt hcl.2.2.2.2.2.2.2.2.2.2.2.2.2.2.2.2.2.1 | exact Nat.ne_of_gt hcl.2.2.2.2.2.2.2.2.2.2.2.2.2.2.2.2.2.2.1 | exact Nat.ne_of_gt hcl.2.2.2.2.2.2.2.2.2.2.2.2.2.2.2.2.2.2.2.1 | exact Nat.ne_of_gt hcl.2.2.2.2.2.2.2.2.2.2.2.2.2.2.2.2.2.2.2.2.1 | exact Nat.ne_of_gt hcl.2.2.2.2.2.2.2.2.2.2.2.2.2.2.2.2.2.2.2.2.2.1 | exact Nat.ne_of_lt hcl.1 | exact Nat.ne_of_lt hcl.2.1 | exact Nat.ne_of_lt hcl.2.2.1 | exact Nat.ne_of_lt hcl.2.2.2.1 | exact Nat.ne_of_lt hcl.2.2.2.2.1 | exact Nat.ne_of_lt hcl.2.2.2.2.2.1 | exact Nat.ne_of_lt hcl.2.2.2.2.2.2.1 | exact Nat.ne_of_lt hcl.2.2.2.2.2.2.2.1 | exact Nat.ne_of_lt hcl.2.2.2.2.2.2.2.2.1 | exact Nat.ne_of_lt hcl.2.2.2.2.2.2.2.2.2.1 | exact Nat.ne_of_lt hcl.2.2.2.2.2.2.2.2.2.2.1 | exact Nat.ne_of_lt hcl.2.2.2.2.2.2.2.2.2.2.2.1 | exact Nat.ne_of_lt hcl.2.2.2.2.2.2.2.2.2.2.2.2.1 | exact Nat.ne_of_lt hcl.2.2.2.2.2.2.2.2.2.2.2.2.2.1 | exact Nat.ne_of_lt hcl.2.2.2.2.2.2.2.2.2.2.2.2.2.2.1 | exact Nat.ne_of_lt hcl.2.2.2.2.2.2.2.2.2.2.2.2.2.2.2.1 | exact Nat.ne_of_lt hcl.2.2.2.2.2.2.2.2.2.2.2.2.2.2.2.2.1 | exact Nat.ne_of_lt hcl.2.2.2.2.2.2.2.2.2.2.2.2.2.2.2.2.2.1 | exact Nat.ne_of_lt hcl.2.2.2.2.2.2.2.2.2.2.2.2.2.2.2.2.2.2.1 | exact Nat.ne_of_lt hcl.2.2.2.2.2.2.2.2.2.2.2.2.2.2.2.2.2.2.2.1 | exact Nat.ne_of_lt hcl.2.2.2.2.2.2.2.2.2.2.2.2.2.2.2.2.2.2.2.2.1 | exact Nat.ne_of_lt hcl.2.2.2.2.2.2.2.2.2.2.2.2.2.2.2.2.2.2.2.2.2.1 | (clear hcl; k_extra "cjg"))
  k_with "cja" => (first | ((with_reducible show _ ≠ _); first | k_extra "cjn" | k_extra "cjg") | ((with_reducible show _ < _); k_extra "cjl"))
  k_with "clr" => (repeat (first | ((with_reducible rename _ ≠ _ ∧ _ => hz9); clear hz9) | ((with_reducible rename (_ ≠ _ ∧ _) ∧ _ => hz9); clear hz9)))
  trivial
local macro_rules | `(tactic| omega) => `(tactic| k_extra "om7")
local macro_rules | `(tactic| k_lt $h:ident) => `(tactic| (replace $h := allLt_of $h; dsimp only [AllLt] at $h:ident))
theorem le_new {s₀ h z : Heap} {L de : Addr} {m : Str → Option Value} (e : h.objs.size = de) (hL : s₀.objs.size = L) (F : Fr z L h m) : s₀.objs.size ≤ de := by
  rw [hL, ← e]
  exact Nat.le_of_lt F.ns.lt
noncomputable abbrev excO (C t : Addr) (od : Option Addr) : Obj := ⟨.ref C, od, .fields #[.ref t, .none, .none, .none, .bool false, .none], #[]⟩
theorem typ_exc : typeOf (.type "Exception") = pure (.type "type") := by kernel_rfl
section
variable {M : Model} {A : Around} {E : Value → Shared → Prop} {h : Heap} {g : Array GenState} {d : Drawn} {t : Nat} {os : OsState}
variable {nm q : Str} {C N : Addr} {bs : List Value} {hdct : Bool} {sn : List Str} {sub : List Value} {ab : Bool} {col : Option Bool} {dd : Option Addr} {k0 k1 k2 k3 k5 : Option Value}
theorem check_init31 {e : Addr} {oe : Obj} {rest : List Value} {Q : Unit → Shared → Prop}
    (hC : h.get? C = some (excClassObj nm q C N bs tail31 hdct sn sub ab col dd k0 k1 k2 k3 k5 "Exception.__new__")) (he : h.get? e = some oe) (hcls : oe.cls = .ref C) (hq : Q () ⟨h, g, d, t, os⟩) :
    wpAny M A (checkBuiltinCall "Exception.__init__" ⟨.ref e :: rest, []⟩) Q E ⟨h, g, d, t, os⟩ := by
  have F := PySem.F.excBase_Exception
  have hcB : (Value.ref C :: tail31).contains (.type "Exception") = true := by rw [List.contains_cons]; simp [tail31]
  have hshort := F.noStar
  simp only [checkBuiltinCall, F.initKind, F.initSplit, F.initRow]
  repeat (first | (with_reducible refine wpAny_loadPart_at he ?_; rw [hcls]) | with_reducible refine wpAny_loadPart_at hC ?_ | (with_reducible refine wpAny_isSubtype_exc hC ?_; rw [hcB]) | wp_step)
  refine wpAny_onRaise ?_
  rw [show ∀ (a b : String) (n : Nat), Bind.check ⟨.positional, "*", "Exception", .self, [⟨"args", .varPos, false⟩]⟩ a b n (List.map (fun x => x.fst) ({ pos := Value.ref e :: rest } : Args).kw) = pure () from
    fun a b n => check_star_args _ _ _ _ _ _]
  exact wpAny_pure hq
end
section
variable {prog : Program} {w : World} {A : Around} {E : Value → Shared → Prop} {s : Shared} {K : Frag} {h₀ : Heap} {L : Addr} {m : Str → Option Value} {news : List (Addr × Obj)} {gn : Obj → List (Addr × Obj)}
variable {nm q : Str} {C Nn : Addr} {bs : List Value} {hdct : Bool} {sn : List Str} {sub : List Value} {ab : Bool} {col : Option Bool} {dd : Option Addr} {k0 k1 k2 k3 k5 : Option Value}
theorem exc_init_call {e t : Addr} {v : Value} {Q : Value → Shared → Prop} (F : Fr h₀ L s.heap m) (N : News h₀ L s.heap news) (X₀ : K.In h₀) (U : UpdF e (excO C t none) news gn) (hk : K.lookup C = some (excClassObj nm q C Nn bs tail31 hdct sn sub ab col dd k0 k1 k2 k3 k5 "Exception.__new__"))
    (h : ∀ h' t', Fr h₀ L h' m → News h₀ L h' (gn (excO C t' none)) → Q .none { s with heap := h' }) :
    wpAny (model prog w) A (call (.builtin "Exception.__init__") [.ref e, v]) Q E s := by
  have X := X₀.keeps F.keep
  have F' := PySem.F.excBase_Exception
  refine ea2_4 (U.split) fun pre post e1 e2 e3 e4 => ?_
  have hm : (e, excO C t none) ∈ news := by rw [e1]; exact List.mem_append_right _ (.head _)
  have he := (N _ hm).1
  have hLe := (N _ hm).2.1
  have hbe := (N _ hm).2.2
  obtain ⟨hp, g, dr, tk, os⟩ := s
  refine wpAny_call (codeAny_call_builtin F'.init.plain F'.initEntry (check_init31 (X _ _ hk) he rfl ?_))
  · unfold Builtin.«BaseException.__init__»
    refine wpAny_bind ?_
    show wpAny _ _ (newTuple _) _ _ _
    unfold newTuple
    refine wpAny_newObj_type ?_ (by show (1 : Nat) ≤ sizeLine; decide)
    have he' := Heap.get?_push_of_some (h := hp) { cls := .type "tuple", data := .seq [v].toArray } he
    refine wpAny_bind ?_
    unfold Builtin.BaseException.bexcPut
    refine wpAny_bind (wpAny_field he' rfl rfl (wpAny_bind (wpAny_setField he' rfl (by show 0 < 6; decide) ?_)))
    refine wpAny_letGo (wpAny_pure ?_)
    have hne : hp.objs.size ≠ e := Nat.ne_of_gt (Heap.lt_size he)
    have upd : ∀ b o, b ≠ e → hp.get? b = some o → ((hp.push { cls := .type "tuple", data := .seq [v].toArray }).update e (Obj.mapFields fun vs => vs.setIfInBounds 0 (.ref hp.objs.size))).get? b = some o := fun b o hb q => by
      rw [Heap.get?_update_other _ _ (Ne.symm hb)]
      exact Heap.get?_push_of_some _ q
    have hee : ((hp.push { cls := .type "tuple", data := .seq [v].toArray }).update e (Obj.mapFields fun vs => vs.setIfInBounds 0 (.ref hp.objs.size))).get? e = some (excO C hp.objs.size none) := by
      rw [Heap.get?_update_self _ he' rfl]; rfl
    refine h _ hp.objs.size ?_ ?_
    · refine ea3_2 (F.ns) fun oL a1 a2 hL a3 => ?_
      exact ⟨⟨oL, a1, a2, upd _ _ (Ne.symm hLe) hL, a3⟩, fun b o q => upd b o (fun r => by rw [r, hbe] at q; cases q) (F.keep b o q), F.above⟩
    · rw [e2]
      intro q hq
      rcases List.mem_append.mp hq with hq | hq
      · have := N q (by rw [e1]; exact List.mem_append_left _ hq)
        exact ⟨upd _ _ (e3 q hq) this.1, this.2⟩
      · rcases List.mem_cons.mp hq with rfl | hq
        · exact mk0_3 hee hLe hbe
        · have := N q (by rw [e1]; exact List.mem_append_right _ (.tail _ hq))
          exact ⟨upd _ _ (e4 q hq) this.1, this.2⟩
end
open Builtin Builtin.ObjectAttr
section
variable {prog : Program} {w : World} {A : Around} {R : Result → Shared → Prop} {E : Value → Shared → Prop} {s : Shared} {K : Frag} {C x : Addr}

theorem refuse_exc (self : Value) (a b : Addr) : refuseLoop self "__setattr__" [.ref a, .ref b, .type "Exception", .type "BaseException", .type "object"] = pure () := by
  rw [refuseLoop_ref, refuseLoop_ref]
  kernel_rfl

theorem exc_osa {dt : Data} {sl : Array (Option Value)} {name : Str} {tk : Tok} {v : Value} {cd : ClassData} (X : K.In s.heap) (hx : s.heap.get? x = some ⟨.ref C, none, dt, sl⟩) (hn : notCls ⟨.ref C, none, dt, sl⟩ = true)
    (hc : clsIn K C = some cd) (hd : cd.hasDict = true) (hm : ∃ a b, cd.mro = [.ref a, .ref b, .type "Exception", .type "BaseException", .type "object"])
    (ht : takerIn K C name = some none) (hfr : ∀ d, (⟨.ref C, d, dt, sl⟩ : Obj).isFreed = false)
    (h : ∀ h' tk', (∀ b o, b ≠ x → s.heap.get? b = some o → h'.get? b = some o) → h'.get? x = some ⟨.ref C, some s.heap.objs.size, dt, sl⟩ →
      h'.get? s.heap.objs.size = some (dictOf [⟨PyData.keyHash w.params name, .str name s.toks, v⟩] 1) → R (.ok (.ret .none)) { s with heap := h', toks := tk' }) :
    codeAny (model prog w) A (.call (.builtin "object.__setattr__") ⟨[.ref x, .str name tk, v], []⟩) R s := by
  have I : InstAt s.heap x ⟨.ref C, none, dt, sl⟩ C none := ⟨hx, rfl, hn, trivial⟩
  have SF := PySem.F.store_object
  revert hm
  intro ez9
  refine ea2_1 (ez9) fun a b hm => ?_
  (try clear ez9)
  have ne : cd.mro.isEmpty = false := by rw [hm]; rfl
  have sub : Looks (model prog w) s.heap (isInstance (.ref x) (.type "object")) true := I.type.andThen (looks_mroIn X (by unfold mroIn; rw [hc, Option.bind_some, if_neg (by rw [ne]; decide), hm]; rfl))
  refine codeAny_call_builtin SF.slot.plain SF.entry (@check_slot (model prog w) _ _ s "object.__setattr__" "object" "__setattr__" (.ref x) [.str name tk, v] [] _ SF.kind SF.split sub (SF.args (.ref x) (.str name tk) v) ?_)
  refine ea1_2 (Option.bind_eq_some_iff.mp ht) fun attr ha hr => ?_
  have hmr : Looks (model prog w) s.heap (mroOf (.ref C)) cd.mro := (looks_clsIn X hc).andThen .now
  have L3 : Looks (model prog w) s.heap (storeTaker? attr) none := by
    cases attr with
    | none => exact .now
    | some a =>
      refine ea1_2 (Option.map_eq_some_iff.mp hr) fun b hb hbb => ?_
      cases b with
      | true => cases hbb
      | false => exact (looks_takesIn X hb).andThen .now
  rw [osa_eq, refuse_eq]
  refine wpAny_bind (wpAny_bind (I.type.here (wpAny_bind (hmr.here ?_))))
  rw [hm, refuse_exc]
  refine wpAny_pure (wpAny_bind (I.type.here (wpAny_bind ((looks_findIn X ha).here (wpAny_bind (L3.here ?_))))))
  refine wpAny_bind (wpAny_pure (wpAny_bind (wpAny_bind (wpAny_loadPart hx (wpAny_bind ((looks_clsIn X hc).here ?_))))))
  rw [hd]
  have hxs : x ≠ s.heap.objs.size := Nat.ne_of_lt (Heap.lt_size hx)
  have fin : wpAny (model prog w) A.in1 (do
      let d ← alloc { cls := .type "dict", data := .dict #[] }
      update x fun o => { o with dict := some d }
      dictMade (.ref C) x d) (fun od s₁ => wpAny (model prog w) A.in1 (match od with | some d => storeInDict d (.str name tk) name v | none => noDictFor (.ref x) (.ref C) name attr.isSome)
        (fun fin s' => match fin with | .done f => R (.ok f) s' | .again c' => c'.quiet = true ∧ codeAny (model prog w) A c' R s') (fun e s' => R (.error e) s') s₁) (fun e s' => R (.error e) s') s := by
    obtain ⟨hp, g, dr, tk0, os⟩ := s
    have hx₁ : (hp.push { cls := .type "dict", data := .dict #[] }).get? x = some ⟨.ref C, none, dt, sl⟩ := Heap.get?_push_of_some _ hx
    refine wpAny_bind (wpAny_alloc (wpAny_bind (wpAny_update hx₁ ?_)))
    refine wpAny_pure (a := some hp.objs.size) ?_
    have hgd : ((hp.push { cls := .type "dict", data := .dict #[] }).update x fun o => { cls := o.cls, dict := some hp.objs.size, data := o.data, slots := o.slots }).get? hp.objs.size = some (dictOf [] 0) :=
      (Heap.get?_update_ne _ _ _ _ hxs.symm).trans (Heap.get?_push_at rfl rfl)
    show wpAny _ _ (storeInDict hp.objs.size (.str name tk) name v) _ _ _
    unfold storeInDict newKeyGuard
    refine wpAny_bind (wpAny_pure (wpAny_bind ?_))
    unfold nsSet
    refine wpAny_bind (wpAny_bind (wpAny_askSetting (wpAny_pure (wpAny_bind (wpAny_mkText (wpAny_bind (wpAny_loadPart hgd ?_)))))))
    have c : aRefKeyMayBeTheName name (#[] : Array DictEntry) = false := by rw [aRefKeyMayBeTheName_at]; simp
    show wpAny _ _ (if aRefKeyMayBeTheName name (#[] : Array DictEntry) = true then _ else _) _ _ _
    rw [c]
    refine wpAny_updatePart hgd ?_
    have hg2 := Heap.get?_update_self (Obj.putName name (PyData.keyHash w.params name) (.str name tk0) v) hgd (by rw [putName_dict]; rfl)
    rw [putName_dict] at hg2
    refine wpAny_bind (wpAny_lookBehind hg2 (by exact pastItsLine_dict (by rw [List.size_toArray, sizeLine_eq]; exact Nat.le_of_ble_eq_true rfl)) ?_)
    refine wpAny_pure (h _ _ (fun b o hb e => ?_) ?_ hg2)
    · rw [Heap.get?_update_ne _ _ _ _ (Nat.ne_of_lt (Heap.lt_size e))]
      exact (Heap.get?_update_ne _ _ _ _ hb).trans (Heap.get?_push_of_some _ e)
    · rw [Heap.get?_update_ne _ _ _ _ hxs]
      exact Heap.get?_update_self _ hx₁ (hfr _)
  rw [if_neg (by decide)]
  cases dt <;> first | exact fin | (cases hn)

theorem exc_set {dt : Data} {sl : Array (Option Value)} {name : Str} {v : Value} {cd : ClassData} {Q : Unit → Shared → Prop} (X : K.In s.heap) (hx : s.heap.get? x = some ⟨.ref C, none, dt, sl⟩) (hn : notCls ⟨.ref C, none, dt, sl⟩ = true)
    (hs : findIn K (.ref C) "__setattr__" = some (some (.builtin "object.__setattr__")))
    (hc : clsIn K C = some cd) (hd : cd.hasDict = true) (hm : ∃ a b, cd.mro = [.ref a, .ref b, .type "Exception", .type "BaseException", .type "object"])
    (ht : takerIn K C name = some none) (hfr : ∀ d, (⟨.ref C, d, dt, sl⟩ : Obj).isFreed = false)
    (h : ∀ h' tk' t, (∀ b o, b ≠ x → s.heap.get? b = some o → h'.get? b = some o) → h'.get? x = some ⟨.ref C, some s.heap.objs.size, dt, sl⟩ →
      h'.get? s.heap.objs.size = some (dictOf [⟨PyData.keyHash w.params name, .str name t, v⟩] 1) → Q () { s with heap := h', toks := tk' }) :
    wpAny (model prog w) A (setAttr (.ref x) name v) Q E s :=
  set_plain (ox := ⟨.ref C, none, dt, sl⟩) (od := none) X ⟨hx, rfl, hn, trivial⟩ hs (exc_osa (s := { s with toks := s.toks + 1 }) X hx hn hc hd hm ht hfr fun h' tk' a b c => h h' tk' _ a b c)

set_option maxHeartbeats 2000000 in
theorem exc_get {ox od : Obj} {name : Str} {v : Value} {expr : Bool} {Q : Value → Shared → Prop} (X : K.In s.heap) (I : InstAt s.heap x ox C (some od))
    (hga : findIn K (.ref C) "__getattribute__" = some (some (.builtin "BaseException.__getattribute__"))) (hgt : findIn K (.ref C) "__getattr__" = some none)
    (hm : mroIn K C (.type "BaseException") = some true) (hf : findObj K C (some od) name = some (.value v)) (hh : handedIn v = true) (h : Q v { s with toks := s.toks + 1 }) :
    wpAny (model prog w) A (getAttr (.ref x) name expr) Q E s := by
  obtain ⟨hp, g, d, t, os⟩ := s
  have L0 := I.type (M := model prog w)
  have L1 := looks_findIn (M := model prog w) X hga
  have L2 := looks_findIn (M := model prog w) X hgt
  have L3 := looks_find (M := model prog w) X I hf
  have L4 := looks_mroIn (M := model prog w) X hm
  have L5 : Looks (model prog w) hp (isInstance (.ref x) (.type "BaseException")) true := L0.andThen L4
  have SG : Slot "Exception" "__getattribute__" "BaseException.__getattribute__" := PySem.F.attr_Exception.ga
  have hk : builtinKind "BaseException.__getattribute__" = some .slot := by decide +kernel
  have hsplit : splitId "BaseException.__getattribute__" = some ("BaseException", "__getattribute__") := by decide +kernel
  unfold getAttr getAttrBy
  refine wpAny_bind (wpAny_mkText (wpAny_holding (wpAny_bind (L0.at (wpAny_bind (L1.at ?_))))))
  show wpAny _ _ (if (onTheHeap (.ref C) && Value.builtin "BaseException.__getattribute__" == Value.builtin "object.__getattribute__") = true then _ else getAttrByItsOwn _ _ _ _ _ _) _ _ _
  have hx2 : (Value.builtin "BaseException.__getattribute__" == Value.builtin "object.__getattribute__") = false := by decide +kernel
  rw [hx2, Bool.and_false, if_neg (by decide)]
  unfold getAttrByItsOwn
  refine wpAny_bind ?_
  show wpAny _ _ (typeLookup (.ref C) "__getattr__") _ _ _
  refine L2.at (wpAny_bind ?_)
  refine wpAny_attempt ?_
  have hx0 : (expr && onTheHeap (Value.builtin "BaseException.__getattribute__")) = false := by cases expr <;> rfl
  unfold callGetattribute
  rw [hx0, if_neg (by decide)]
  unfold boundAndCalled
  rw [SG.bind]
  refine wpAny_holding (wpAny_bind (wpAny_pure ?_))
  show wpAny _ _ (call (Value.builtin "BaseException.__getattribute__") [.ref x, .str name t]) _ _ _
  refine wpAny_call (codeAny_call_builtin SG.plain PySem.F.entry_bexc_ga (@check_slot (model prog w) _ _ _ "BaseException.__getattribute__" "BaseException" "__getattribute__" (.ref x) [.str name t] [] _ hk hsplit L5 (PySem.F.args_bexc_ga (.ref x) (.str name t)) ?_))
  unfold Builtin.«object.__getattribute__»
  refine wpAny_bind (m := slotArgs "__getattribute__" 1 { pos := [Value.ref x, Value.str name t] }) (wpAny_pure (a := (Value.ref x, [Value.str name t])) ?_)
  refine wpAny_bind (m := attrName (.str name t)) (wpAny_pure (a := name) (wpAny_bind (L0.at (wpAny_bind (L3.at ?_)))))
  refine wpAny_pure ?_
  show wpAny _ _ (handedOut v) _ _ _
  rw [handedOut_of hh]; exact wpAny_pure h
end
section
variable {prog : Program} {w : World} {A : Around} {E : Value → Shared → Prop} {s : Shared} {K : Frag} {h₀ : Heap} {L C x : Addr} {m : Str → Option Value} {news : List (Addr × Obj)} {gn : Obj → List (Addr × Obj)}
theorem exc_set_N {dt : Data} {sl : Array (Option Value)} {name : Str} {v : Value} {cd : ClassData} {Q : Unit → Shared → Prop} (F : Fr h₀ L s.heap m) (N : News h₀ L s.heap news) (X₀ : K.In h₀) (U : UpdF x ⟨.ref C, none, dt, sl⟩ news gn) (hn : notCls ⟨.ref C, none, dt, sl⟩ = true)
    (hs : findIn K (.ref C) "__setattr__" = some (some (.builtin "object.__setattr__")))
    (hc : clsIn K C = some cd) (hd : cd.hasDict = true) (hm : ∃ a b, cd.mro = [.ref a, .ref b, .type "Exception", .type "BaseException", .type "object"])
    (ht : takerIn K C name = some none) (hfr : ∀ d, (⟨.ref C, d, dt, sl⟩ : Obj).isFreed = false)
    (h : ∀ h' tk' de t, Fr h₀ L h' m → News h₀ L h' ((de, dictOf [⟨PyData.keyHash w.params name, .str name t, v⟩] 1) :: gn ⟨.ref C, some de, dt, sl⟩) → s.heap.objs.size = de → Q () { s with heap := h', toks := tk' }) :
    wpAny (model prog w) A (setAttr (.ref x) name v) Q E s := by
  refine ea2_4 (U.split) fun pre post e1 e2 e3 e4 => ?_
  have hmem : (x, (⟨.ref C, none, dt, sl⟩ : Obj)) ∈ news := by rw [e1]; exact List.mem_append_right _ (.head _)
  have hx := N _ hmem
  refine exc_set (X₀.keeps F.keep) hx.1 hn hs hc hd hm ht hfr fun h' tk' t k1 k2 k3 => ?_
  have hLx := hx.2.1
  refine h h' tk' _ t ?_ ?_ rfl
  · refine ea3_2 (F.ns) fun oL a1 a2 hL a3 => ?_
    exact ⟨⟨oL, a1, a2, k1 _ _ (Ne.symm hLx) hL, a3⟩, fun b o q => k1 b o (fun r => by rw [r, hx.2.2] at q; cases q) (F.keep b o q), F.above⟩
  · have hde : h₀.get? s.heap.objs.size = none := none_at_size F
    have hL : s.heap.objs.size ≠ L := Nat.ne_of_gt F.ns.lt
    intro q hq
    rcases List.mem_cons.mp hq with rfl | hq
    · exact mk0_3 k3 hL hde
    · rw [e2] at hq
      rcases List.mem_append.mp hq with hq | hq
      · have := N q (by rw [e1]; exact List.mem_append_left _ hq)
        exact ⟨k1 _ _ (e3 q hq) this.1, this.2⟩
      · rcases List.mem_cons.mp hq with rfl | hq
        · exact mk0_3 k2 hLx hx.2.2
        · have := N q (by rw [e1]; exact List.mem_append_right _ (.tail _ hq))
          exact ⟨k1 _ _ (e4 q hq) this.1, this.2⟩
end
section
variable {w : World} {d u : Nat} {fr : List Env} {R : Result → Shared → Prop} {s : Shared} {z : Heap} {p : Program} {loose : List Str} {mean : ExcName → Option Value} {mg mb : Str → Option Value}
example : True := by
  k_with "getMethod type:Exception" => ((k_here; refine' method_type ?z203F ?z203X ?z203m (by decide +kernel) ?z203e ?z203h ?_; (case z203F => k_asm); (case z203X => k_asm); (case z203m => exact typ_exc); (case z203e => k_dflt k_is); (case z203h => k_handed)))
  trivial
example : True := by
  k_with "call builtin:Exception.__init__" => ((k_here; k_dflt (refine' exc_init_call ?z204F ?z204N ?z204X ?z204U ?z204e ?_; (case z204F => k_asm); (case z204N => k_asm); (case z204X => k_asm); (case z204U => k_updF); (case z204e => k_is)); intro _ _ _ _))
  trivial
example : True := by
  k_with "setAttr ref" => ((k_here; k_dflt (refine' exc_set_N ?z205F ?z205N ?z205X ?z205U ?z205a ?z205b ?z205c ?z205d ?z205e ?z205f ?z205g ?_; (case z205F => k_asm); (case z205N => k_asm); (case z205X => k_asm); (case z205U => k_updF); (case z205a => exact rfl); (case z205b => k_is); (case z205c => k_is); (case z205d => exact rfl); (case z205e => exact ⟨_, _, rfl⟩); (case z205f => k_is); (case z205g => exact fun _ => rfl)); intro _ _ _ _ _ _ _))
  trivial
set_option maxHeartbeats 8000000 in
theorem pf_init {A : Around} {e C t : Addr} {why : Str} {tw : Tok}
    (X : (hd0.heap_1 w.params).In z) (T : Top p loose mean mg mb z) (P : Pre z s.heap [(e, excO C t none)]) (hC : C = 44 ∨ C = 56 ∨ C = 68)
    (hroom : A.depth < 900)
    (h : ∀ h' tk de t1 t2 t', Pre z h' [(e, excO C t' (some de)), (de, whyD w.params why t1 t2)] → s.heap.objs.size ≤ de → R (.ok (.ret .none)) { s with heap := h', toks := tk }) :
    codeAny (model PR w) A (.call (.ref 28) ⟨[.ref e, .str why tw], []⟩) R s := by
  refine enterZ (binds := [("self", .ref e), ("why", .str why tw)]) X T P (by k_is) (by k_is) (by exact Nat.lt_trans hroom (by decide)) (BindsTo.of_eq (by rfl)) (locs (by rfl)) (by rfl) (by rfl) (by rfl) (by decide) ?_
  intro L' h' tk' F' N' hL' hst'
  (try dsimp only); k_fold
  rcases hC with rfl | rfl | rfl
  all_goals k_steps
  all_goals exact h _ _ _ _ _ _ (leaveZ (by assumption) (by assumption) (by intro q hq; simp only [List.mem_cons, List.not_mem_nil, or_false] at hq ⊢; exact hq.symm) (by assumption) P.size) (le_new (by assumption) (by assumption) (by assumption))
end

theorem kind_ne : PySem.ScopeKind.function ≠ PySem.ScopeKind.module := by decide
noncomputable def FFr (z : Heap) (l : List Env) : Prop := ∀ env ∈ l, env.scope.kind ≠ .module ∧ ∃ L o, env.frame = some L ∧ z.get? L = some o ∧ ∀ vs, o.data ≠ .fields vs
theorem FFr.keeps {z z' : Heap} {l : List Env} (x : FFr z l) (k : ∀ b o, z.get? b = some o → z'.get? b = some o) : FFr z' l := fun env he => by
  obtain ⟨a, L, o, b, c, d⟩ := x env he
  exact ⟨a, L, o, b, k _ _ c, d⟩
theorem FFr.at {z : Heap} {l : List Env} (x : FFr z l) {b : Addr} (hb : b ∈ frs l) : ∃ o, z.get? b = some o := by
  refine ea1_2 (List.mem_filterMap.mp hb) fun env he hf => ?_
  obtain ⟨_, L, o, c, d, _⟩ := x env he
  rw [c] at hf; cases hf; exact ⟨o, d⟩
theorem funFrames_of {h B : Heap} : ∀ {l : List Env}, FFr h l → (∀ b ∈ frs l, B.get? b = none) → h.FunFrames B l
  | [], _, _ => trivial
  | env :: l, x, hb => by
    obtain ⟨a, L, o, b, c, d⟩ := x env (.head _)
    refine mk0_3 a (⟨L, o, b, hb L (List.mem_filterMap.mpr ⟨env, .head _, b⟩), c, d⟩) (funFrames_of (fun e he => x e (.tail _ he)) fun b' hb' => hb b' ?_)
    refine ea1_2 (List.mem_filterMap.mp hb') fun e' he' hf' => ?_
    exact List.mem_filterMap.mpr ⟨e', .tail _ he', hf'⟩
theorem FFr.cons {z h : Heap} {l : List Env} {env : Env} {L : Addr} {m : Str → Option Value} (x : FFr z l) (F : Fr z L h m) (hf : env.frame = some L) (hk : env.scope.kind ≠ .module) : FFr h (env :: l) := fun e he => by
  rcases List.mem_cons.mp he with rfl | he
  · refine ea3_3 (F.ns) fun oL es ep hL hd _ => ?_
    exact ⟨hk, L, oL, hf, hL, fun vs q => by rw [hd] at q; cases q⟩
  · exact x.keeps F.keep e he
theorem FFr.hid {z h : Heap} {l : List Env} {env : Env} {L : Addr} {m : Str → Option Value} {mt news rest : List (Addr × Obj)} (x : FFr z l) (F : Fr z L h m) (N : News z L h news) (t : Take mt news rest) (hf : env.frame = some L) (hk : env.scope.kind ≠ .module) : FFr (hid h mt) (env :: l) := fun e he => by
  rcases List.mem_cons.mp he with rfl | he
  · refine ea3_3 (F.ns) fun oL es ep hL hd _ => ?_
    exact ⟨hk, L, oL, hf, hid_of hL fun q hq r => (N q (t.mem q hq)).2.1 r, fun vs q => by rw [hd] at q; cases q⟩
  · exact x.keeps (hid_base F (t.nws N)) e he

noncomputable def Raised (P : Params) (z : Heap) (l : List Env) (mt : List (Addr × Obj)) (C : Addr) (why : Str) (v : Value) (h' : Heap) : Prop :=
  ∃ e B, v = .ref e ∧ (∀ b o, z.get? b = some o → b ∉ frs l → B.get? b = some o) ∧ (∀ q ∈ mt, B.get? q.1 = some q.2 ∧ z.get? q.1 = none) ∧ Fly P B l e C why .none h' ∧ FrS (frs l) z h' ∧ z.objs.size ≤ h'.objs.size

section
variable {M : Model} {A : Around} {E : Value → Shared → Prop} {s : Shared} {z h : Heap} {l : List Env} {env : Env} {e de t C L : Addr} {why : Str} {P : Params} {m : Str → Option Value} {news mt mt0 mt0' rest : List (Addr × Obj)} {t1 t2 : Tok} {Q : Unit → Shared → Prop}
theorem FrS.size {S : List Addr} {h h' : Heap} {b : Addr} {o : Obj} (x : FrS S h h') (hb : b ∈ S) (ho : h.get? b = some o) : b < h'.objs.size := by
  obtain ⟨sl, q⟩ := x b hb o ho
  exact Heap.lt_size q
theorem frs_cons {b : Addr} (hf : env.frame = some L) : b ∈ frs (env :: l) ↔ b = L ∨ b ∈ frs l := by
  show b ∈ (env :: l).filterMap (·.frame) ↔ _
  rw [List.filterMap_cons, hf]
  exact List.mem_cons

theorem raise_leave (hfr : A.frames = some (env :: l)) (hf : env.frame = some L) (hk : env.scope.kind ≠ .module) (FF : FFr z l) (F : Fr z L s.heap m) (N : News z L s.heap news)
    (he : (e, excO C t (some de)) ∈ news) (hde : (de, whyD P why t1 t2) ∈ news) (hmt : ∀ q ∈ mt, q ∈ news ∧ q.1 ≠ e ∧ q.1 ≠ de)
    (hQ : ∀ h', Raised P z l mt C why (.ref e) h' → Q () { s with heap := h' }) : wpAny M A (leaving env (.ref e)) Q E s := by
  let B := hideAll s.heap (e :: de :: frs (env :: l))
  have inB : ∀ b o, s.heap.get? b = some o → b ≠ e → b ≠ de → b ∉ frs (env :: l) → B.get? b = some o := fun b o q h1 h2 h3 => hideAll_get _ q fun hm => by
    rcases List.mem_cons.mp hm with r | hm
    · exact h1 r
    · rcases List.mem_cons.mp hm with r | hm
      · exact h2 r
      · exact h3 hm
  have FF' := FF.cons F hf hk
  have ff : s.heap.FunFrames B (env :: l) := funFrames_of FF' fun b hb => hideAll_none _ (.tail _ (.tail _ hb))
  have nz : ∀ q ∈ news, q.1 ∉ frs (env :: l) := fun q hq hm => by
    rcases (frs_cons hf).mp hm with r | hm
    · exact (N q hq).2.1 r
    · obtain ⟨o, ho⟩ := FF.at hm
      rw [(N q hq).2.2] at ho; cases ho
  refine leaveBorn (B := B) (C := C) (why := why) (P := P) hfr hf ⟨fun b o q => of_hideAll _ q, ff, de, _, _, t1, t2, hideAll_none _ (.head _), hideAll_none _ (.tail _ (.head _)), nz _ hde, (N _ he).1, rfl, (N _ hde).1⟩ fun h' x1 x2 => ?_
  refine hQ h' ⟨e, B, rfl, fun b o q hb => ?_, fun q hq => ?_, x1, fun b hb o q => x2 b ((frs_cons hf).mpr (.inr hb)) o (F.keep b o q), ?_⟩
  · refine inB b o (F.keep b o q) (fun r => ?_) (fun r => ?_) fun hm => ?_
    · rw [r, (N _ he).2.2] at q; cases q
    · rw [r, (N _ hde).2.2] at q; cases q
    · rcases (frs_cons hf).mp hm with r | hm
      · subst r; exact absurd (Heap.lt_size q) (Nat.not_lt.mpr F.above)
      · exact hb hm
  · refine ea0_3 (hmt q hq) fun h1 h2 h3 => ?_
    exact ⟨inB _ _ (N q h1).1 h2 h3 (nz q h1), (N q h1).2.2⟩
  · refine ea3_2 (F.ns) fun oL _ _ hL _ => ?_
    exact Nat.le_trans F.above (Nat.le_of_lt (x2.size ((frs_cons hf).mpr (.inl rfl)) hL))

theorem raise_pass {v : Value} (hfr : A.frames = some (env :: l)) (hf : env.frame = some L) (FF : FFr z l) (F : Fr z L h m) (N : News z L h news) (tk : Take mt0 news rest)
    (R : Raised P (hid h mt0) (env :: l) mt0' C why v s.heap) (hmt : ∀ q ∈ mt, q ∈ mt0' ∨ q ∈ rest)
    (hQ : ∀ h', Raised P z l mt C why v h' → Q () { s with heap := h' }) : wpAny M A (leaving env v) Q E s := by
  refine ea2_6 (R) fun e B rz2 k1 k2 k3 k4 k5 => ?_
  (try clear R)
  subst rz2
  refine leaveFly hfr hf k3 fun h' x1 x2 => hQ h' ⟨e, B, rfl, fun b o q hb => ?_, fun q hq => ?_, x1, ?_, ?_⟩
  · refine k1 b o (hid_base F (tk.nws N) b o q) fun hm => ?_
    rcases (frs_cons hf).mp hm with r | hm
    · subst r; exact absurd (Heap.lt_size q) (Nat.not_lt.mpr F.above)
    · exact hb hm
  · rcases hmt q hq with hq | hq
    · exact ⟨(k2 q hq).1, Pre.no_base F (tk.nws N) (k2 q hq).2⟩
    · obtain ⟨h1, h2⟩ := tk.sub q hq
      refine ⟨k1 _ _ (hid_of (N q h1).1 h2) fun hm => ?_, (N q h1).2.2⟩
      rcases (frs_cons hf).mp hm with r | hm
      · exact (N q h1).2.1 r
      · obtain ⟨o, ho⟩ := FF.at hm
        rw [(N q h1).2.2] at ho; cases ho
  · intro b hb o q
    obtain ⟨sl, q1⟩ := k4 b ((frs_cons hf).mpr (.inr hb)) o (hid_base F (tk.nws N) b o q)
    obtain ⟨sl', q2⟩ := x2 b ((frs_cons hf).mpr (.inr hb)) _ q1
    exact ⟨sl', q2⟩
  · refine ea3_2 (F.ns) fun oL _ _ hL _ => ?_
    obtain ⟨sl, q1⟩ := k4 L ((frs_cons hf).mpr (.inl rfl)) oL (hid_of hL fun q hq r => (N q (tk.mem q hq)).2.1 r)
    exact Nat.le_trans F.above (Nat.le_of_lt (x2.size ((frs_cons hf).mpr (.inl rfl)) q1))
end

section
variable {prog : Program} {w : World} {A : Around} {E : Value → Shared → Prop} {s : Shared} {env : Env} {K : Frag}
variable {nm q : Str} {C Nn : Addr} {bs : List Value} {hdct : Bool} {sn : List Str} {sub : List Value} {ab : Bool} {col : Option Bool} {dd : Option Addr} {k0 k1 k2 k3 k5 : Option Value}

noncomputable def ExcCls (K : Frag) (C : Addr) : Prop := ∀ G : Prop, (∀ (nm q : Str) (Nn : Addr) (bs : List Value) (hdct : Bool) (sn : List Str) (sub : List Value) (ab : Bool) (col : Option Bool) (dd : Option Addr) (k0 k1 k2 k3 k5 : Option Value),
  K.lookup C = some (excClassObj nm q C Nn bs tail31 hdct sn sub ab col dd k0 k1 k2 k3 k5 "Exception.__new__") → G) → G
noncomputable def RaiseQ (E : Value → Shared → Prop) (v : Value) (s : Shared) : Prop :=
  ∃ (K : Frag) (e C t : Addr) (de : Option Addr), v = .ref e ∧ K.In s.heap ∧ ExcCls K C ∧ s.heap.get? e = some (excO C t de) ∧ E (.ref e) s
theorem raise31 {x : PySem.Expr} {pos : Pos} {Q : Flow → Shared → Prop} (hh : A.handled = none) (h : wpAny (model prog w) A (eval x env) (RaiseQ E) E s) :
    wpAny (model prog w) A (exec (.Raise (some x) none pos) env) Q E s := by
  rw [arm_exec_Raise]
  simp only [arm_evalOpt_some, show evalOpt none env = none from rfl, Option.map]
  refine wpAny_bind (wpAny_standAt ?_)
  unfold raiseStmt
  refine wpAny_bind (wpAny_bind (wpAny_mono h (fun v s₁ h₁ => wpAny_bind (wpAny_standAt (wpAny_pure ?_))) fun _ _ x => x))
  refine ea5_5 (h₁) fun K e C t de rz5 X sz7 he hE => ?_
  (try clear h₁)
  subst rz5
  refine sz7 _ fun nm q Nn bs hdct sn sub ab col dd k0 k1 k2 k3 k5 hk => ?_
  clear sz7
  have hcB : (Value.ref C :: tail31).contains (.type "BaseException") = true := by rw [List.contains_cons]; simp [tail31]
  have hC := X _ _ hk
  obtain ⟨hp, g, d, tk, os⟩ := s₁
  repeat (first | with_reducible refine wpAny_loadPart_at he ?_ | with_reducible refine wpAny_loadPart_at hC ?_ | (with_reducible refine wpAny_isSubtype_exc hC ?_; rw [hcB]) | wp_step)
  exact wpAny_raiseNew_none hh hE
end

theorem excCls_44 {P : Params} : ExcCls (hd0.heap_1 P) 44 := fun _ k => k _ _ _ _ _ _ _ _ _ _ _ _ _ _ _ (by k_is)
theorem excCls_56 {P : Params} : ExcCls (hd0.heap_1 P) 56 := fun _ k => k _ _ _ _ _ _ _ _ _ _ _ _ _ _ _ (by k_is)
theorem excCls_68 {P : Params} : ExcCls (hd0.heap_1 P) 68 := fun _ k => k _ _ _ _ _ _ _ _ _ _ _ _ _ _ _ (by k_is)
section
variable {w : World} {A : Around} {E : Value → Shared → Prop} {s : Shared} {h₀ : Heap} {L C : Addr} {m : Str → Option Value} {news : List (Addr × Obj)} {p : Program} {loose : List Str} {mean : ExcName → Option Value} {mg mb : Str → Option Value}
variable {nm q : Str} {Nn : Addr} {bs : List Value} {hdct : Bool} {sn : List Str} {sub : List Value} {ab : Bool} {col : Option Bool} {dd : Option Addr} {k0 k1 k2 k3 k5 : Option Value}
theorem call31 {why : Str} {tw : Tok} {Q : Value → Shared → Prop} (F : Fr h₀ L s.heap m) (N : News h₀ L s.heap news) (X₀ : (hd0.heap_1 w.params).In h₀) (T : Top p loose mean mg mb h₀) (hC : C = 44 ∨ C = 56 ∨ C = 68)
    (hk : (hd0.heap_1 w.params).lookup C = some (excClassObj nm q C Nn bs tail31 hdct sn sub ab col dd k0 k1 k2 k3 k5 "Exception.__new__")) (hi : findIn (hd0.heap_1 w.params) (.ref C) "__init__" = some (some (.ref 28)))
    (hf : typeIn (hd0.heap_1 w.params) (.ref 28) = some (.type "function")) (hcall : specialIn (hd0.heap_1 w.params) (.ref C) "__call__" = some (some (.builtin "type.__call__"))) (htyp : instIn (hd0.heap_1 w.params) (.ref C) (.type "type") = some true)
    (hd : A.depth < 890)
    (h : ∀ e de t t1 t2 h' tk, Fr h₀ L h' m → News h₀ L h' ((e, excO C t (some de)) :: (de, whyD w.params why t1 t2) :: news) → (∀ q ∈ news, q.1 < e) → e < de → Q (.ref e) { s with heap := h', toks := tk }) :
    wpAny (model PR w) A (call (.ref C) [.str why tw]) Q E s := by
  obtain ⟨hp, g, dr, tk, os⟩ := s
  have F1 := F.push { cls := .type "tuple", data := .seq [Value.str why tw].toArray }
  have N1 := N.push F { cls := .type "tuple", data := .seq [Value.str why tw].toArray }
  have F2 := F1.push (excO C hp.objs.size none)
  have N2 := N1.push F1 (excO C hp.objs.size none)
  have X := X₀.keeps F.keep
  rw [Heap.size_push] at N2
  refine wpAny_call (make31 X hk hi hf hcall htyp (by show (1 : Nat) ≤ sizeLine; decide) ?_)
  have hlt : ∀ q ∈ news, q.1 < hp.objs.size := fun q hq => Heap.lt_size (N q hq).1
  have tk2 : Take [(hp.objs.size + 1, excO C hp.objs.size none)] ((hp.objs.size + 1, excO C hp.objs.size none) :: (hp.objs.size, { cls := .type "tuple", data := .seq [Value.str why tw].toArray }) :: news)
      ((hp.objs.size, { cls := .type "tuple", data := .seq [Value.str why tw].toArray }) :: news) := by
    refine .cons (.head fun q hq => ?_) .nil
    rcases List.mem_cons.mp hq with rfl | hq
    · exact Nat.ne_of_lt (Nat.lt_succ_self _)
    · exact Nat.ne_of_lt (Nat.lt_succ_of_lt (hlt q hq))
  obtain ⟨X2, P2⟩ := front F2 N2 tk2 X₀
  have T2 := front_top F2 N2 tk2 T
  refine pf_init (s := ⟨(hp.push { cls := .type "tuple", data := .seq [Value.str why tw].toArray }).push (excO C hp.objs.size none), g, dr, tk, os⟩) X2 T2 P2 hC (by show A.depth + 1 < 900; omega) fun h' tk' de t1 t2 t' P' hde => ?_
  obtain ⟨F3, N3⟩ := back F2 N2 tk2 P'
  refine ⟨rfl, h _ de t' t1 t2 h' tk' F3 (fun q hq => N3 q ?_) (fun q hq => Nat.lt_succ_of_lt (hlt q hq)) ?_⟩
  · rcases List.mem_cons.mp hq with rfl | hq
    · exact .head _
    · rcases List.mem_cons.mp hq with rfl | hq
      · exact .tail _ (.head _)
      · exact .tail _ (.tail _ (.tail _ hq))
  · have : ((hp.push { cls := .type "tuple", data := .seq [Value.str why tw].toArray }).push (excO C hp.objs.size none)).objs.size = hp.objs.size + 1 + 1 := by rw [Heap.size_push, Heap.size_push]
    exact Nat.lt_of_lt_of_le (by rw [this]; exact Nat.lt_succ_self _) hde
end

example : True := by
  k_with "exec Raise some none" => ((k_here; (with_unfolding_all refine raise31 rfl ?_)))
  k_with "call ref" => ((k_here; (with_reducible show wpAny _ _ (PySem.call (Value.ref _) [Value.str _ _]) _ _ _); k_dflt (refine' call31 ?z17F ?z17N ?z17X ?z17T ?z17C ?z17k ?z17i ?z17f ?z17c ?z17t ?z17d ?_; (case z17F => k_asm); (case z17N => k_asm); (case z17X => k_asm); (case z17T => k_asm); (case z17C => decide); (case z17k => k_is); (case z17i => k_is); (case z17f => k_is); (case z17c => k_is); (case z17t => k_is); (case z17d => (simp only [depth_under_make, depth_under_kw, depth_in1, depth_deeper, mkA]; omega)); k_whole); intro _ _ _ _ _ _ _ _ _; walk_at "iL"; walk_at "iM"))
  k_with "raiseLeave" => (((refine' ⟨_, _, _, _, _, rfl, ?z18X, ?z18k, ?z18e, ?_⟩; (case z18X => exact Frag.In.keeps (by k_asm) (Fr.keep (by k_asm))); (case z18e => exact News.get (by k_asm) (by k_mem)); (case z18k => first | exact excCls_44 | exact excCls_56 | exact excCls_68)); (with_unfolding_all refine' raise_leave ?z18a ?z18b ?z18c ?z18d ?z18F ?z18N ?z18e ?z18f ?_ ?_); (case z18a => with_unfolding_all rfl); (case z18b => with_unfolding_all rfl); (case z18c => exact kind_ne); (case z18d => assumption); (case z18F => k_asm); (case z18N => k_asm); (case z18e => k_mem); (case z18f => k_mem)))
  k_with "raisePass" => (((try k_unfold); (try dsimp only); (with_unfolding_all refine' raise_pass ?z19a ?z19b ?z19c ?z19F ?z19N ?z19t ?z19R ?_ ?_); (case z19R => assumption); (case z19t => assumption); (case z19a => with_unfolding_all rfl); (case z19b => with_unfolding_all rfl); (case z19c => assumption); (case z19F => assumption); (case z19N => assumption)))
  trivial
noncomputable abbrev Ent := List Int × Addr × Value
noncomputable abbrev KeyA (w : World) (h : Heap) (k : List Int) (a : Addr) : Prop := IsTupleKey (intKind PR w) h k a
noncomputable def tD (w : World) (xs : List Ent) (n : Nat) : Obj := { cls := .type "dict", data := .dict (xs.map (entryOfKey (tupleKind (intKind PR w)))).toArray n }
noncomputable def KeyO (w : World) (z : Heap) (own : List (Addr × Obj)) (k : List Int) (a : Addr) : Prop := KeyA w z k a ∨ ∃ o, (a, o) ∈ own ∧ TupKeyObj (intKind PR w) k o
structure KeysO (w : World) (z : Heap) (own : List (Addr × Obj)) (xs : List Ent) : Prop where
  keys : ∀ x ∈ xs, KeyO w z own x.1 x.2.1
  nodup : (xs.map (·.1)).Nodup
  len : xs.length ≤ 10000
noncomputable def dropK (xs : List Ent) (k : List Int) : List Ent := xs.filter fun x => decide (x.1 ≠ k)

theorem erase_map {α β : Type} (f : α → β) : ∀ (l : List α) (j : Nat), (l.map f).eraseIdx j = (l.eraseIdx j).map f
  | [], _ => rfl
  | _ :: _, 0 => rfl
  | x :: l, j + 1 => by show f x :: (l.map f).eraseIdx j = f x :: (l.eraseIdx j).map f; rw [erase_map f l j]
theorem eraseIdx_dropK {k : List Int} {p : Addr × Value} : ∀ {xs : List Ent} {j : Nat}, (xs.map (·.1)).Nodup → xs[j]? = some (k, p) → xs.eraseIdx j = dropK xs k
  | [], _, _, h => by simp at h
  | x :: xs, 0, hn, h => by
    simp only [List.getElem?_cons_zero, Option.some.injEq] at h
    subst h
    rw [List.map_cons, List.nodup_cons] at hn
    have e : dropK xs k = xs := List.filter_eq_self.mpr fun y hy => by
      simp only [decide_eq_true_eq, ne_eq]
      exact fun q => hn.1 (List.mem_map.mpr ⟨y, hy, q⟩)
    show xs = dropK ((k, p) :: xs) k
    unfold dropK at e ⊢
    rw [List.filter_cons_of_neg (by simp), e]
  | x :: xs, j + 1, hn, h => by
    rw [List.map_cons, List.nodup_cons] at hn
    simp only [List.getElem?_cons_succ] at h
    have hne : x.1 ≠ k := fun q => hn.1 (q ▸ List.mem_map.mpr ⟨(k, p), List.mem_of_getElem? h, rfl⟩)
    show x :: xs.eraseIdx j = dropK (x :: xs) k
    rw [eraseIdx_dropK hn.2 h]
    unfold dropK
    rw [List.filter_cons_of_pos (by simpa using hne)]

theorem KeyO.at {w : World} {z h : Heap} {L : Addr} {m : Str → Option Value} {news own : List (Addr × Obj)} {k : List Int} {a : Addr} (K : KeyO w z own k a) (F : Fr z L h m) (N : News z L h news) (ho : ∀ q ∈ own, q ∈ news) : KeyA w h k a := by
  rcases K with ⟨o, items, n, h1, h2, h3, h4⟩ | ⟨o, h1, h2⟩
  · exact mk3_4 o items n (F.keep _ _ h1) h2 h3 h4
  · exact h2.key (N.get (ho _ h1))
theorem KeyO.mono {w : World} {z : Heap} {own own' : List (Addr × Obj)} {k : List Int} {a : Addr} (K : KeyO w z own k a) (ho : ∀ q ∈ own, q ∈ own') : KeyO w z own' k a :=
  K.imp id fun ⟨o, h1, h2⟩ => ⟨o, ho _ h1, h2⟩
theorem KeysO.mono {w : World} {z : Heap} {own own' : List (Addr × Obj)} {xs : List Ent} (K : KeysO w z own xs) (ho : ∀ q ∈ own, q ∈ own') : KeysO w z own' xs :=
  ⟨fun x hx => (K.keys x hx).mono ho, K.nodup, K.len⟩
theorem dictOf_obj {w : World} {h : Heap} {B : Addr} {xs : List Ent} (D : h.DictOfH (tupleKind (intKind PR w)) B xs) : ∃ n, h.get? B = some (tD w xs n) ∧ (xs.map (·.1)).Nodup := by
  refine ea3_6 (D) fun sz0 es ep ho sz4 hd he _ hn => ?_
  (try clear D)
  obtain ⟨c, dd, dt, sl⟩ := sz0
  obtain ⟨h1, h2, h3⟩ := sz4
  dsimp only at h1 h2 h3 hd
  subst h1 h2 h3 hd
  refine mk1_2 ep ?_ hn
  rw [ho]
  obtain ⟨l⟩ := es
  dsimp only at he
  subst he
  rfl

section
variable {w : World} {A : Around} {E : Value → Shared → Prop} {s : Shared} {z : Heap} {L B a : Addr} {m : Str → Option Value} {news own : List (Addr × Obj)} {gn : Obj → List (Addr × Obj)} {xs : List Ent} {n : Nat} {k : List Int}

theorem KeysO.dict (K : KeysO w z own xs) (F : Fr z L s.heap m) (N : News z L s.heap news) (ho : ∀ q ∈ own, q ∈ news) (hB : (B, tD w xs n) ∈ news) : s.heap.DictOfH (tupleKind (intKind PR w)) B xs :=
  ⟨_, _, n, N.get hB, ⟨rfl, rfl, rfl⟩, rfl, rfl, fun x hx => (K.keys x hx).at F N ho, K.nodup⟩
theorem in_tk {Q : Value → Shared → Prop} (hu : A.in1.units < cLine) (hB0 : B ≠ 1) (F : Fr z L s.heap m) (N : News z L s.heap news) (ho : ∀ q ∈ own, q ∈ news) (hB : (B, tD w xs n) ∈ news) (K : KeysO w z own xs) (ka : KeyO w z own k a)
    (h : Q (.bool (atKey xs k).isSome) { s with toks := s.toks + (k.length + 1) }) : wpAny (model PR w) A (compareOp .In (.ref a) (.ref B)) Q E s :=
  wpAny_in_heap (knd := tupleKind (intKind PR w)) hu (ka.at F N ho) (beq_eq_false_iff_ne.mpr hB0) (K.dict F N ho hB) h
theorem notin_tk {Q : Value → Shared → Prop} (hu : A.in1.units < cLine) (hB0 : B ≠ 1) (F : Fr z L s.heap m) (N : News z L s.heap news) (ho : ∀ q ∈ own, q ∈ news) (hB : (B, tD w xs n) ∈ news) (K : KeysO w z own xs) (ka : KeyO w z own k a)
    (h : Q (.bool (!(atKey xs k).isSome)) { s with toks := s.toks + (k.length + 1) }) : wpAny (model PR w) A (compareOp .NotIn (.ref a) (.ref B)) Q E s :=
  wpAny_notIn_heap (knd := tupleKind (intKind PR w)) hu (ka.at F N ho) (beq_eq_false_iff_ne.mpr hB0) (K.dict F N ho hB) h
theorem item_tk {value slice : PySem.Expr} {v : Value} {Q : Value → Shared → Prop} (hu : A.in1.units < cLine) (F : Fr z L s.heap m) (N : News z L s.heap news) (ho : ∀ q ∈ own, q ∈ news) (hB : (B, tD w xs n) ∈ news) (K : KeysO w z own xs) (ka : KeyO w z own k a)
    (hv : (atKey xs k).map (·.2) = some v) (h : Q v { s with toks := s.toks + (k.length + 1) })
    (hs : subscripted slice false (.ref B) (.ref a) = operate [.ref B, .ref a] (getItem (.ref B) (.ref a))) (hg : ∀ r, letTemporaryGo value (.ref B) r = pure ()) :
    wpAny (model PR w) A (subscriptTail value slice (.ref B) (.ref a)) Q E s := by
  refine ea1_2 (Option.map_eq_some_iff.mp hv) fun p hp rz2 => ?_
  subst rz2
  have D := K.dict F N ho hB
  exact subscriptTail_builtin D.typeIs slot_dict_getitem.lookup (wpAny_getItem_heap (knd := tupleKind (intKind PR w)) hu (ka.at F N ho) D hp h) hs hg

theorem after_tk {h' : Heap} {xs' : List Ent} (U : UpdF B (tD w xs n) news gn) (F : Fr z L s.heap m) (N : News z L s.heap news) (D' : h'.DictOfH (tupleKind (intKind PR w)) B xs') (hs : Heap.SameBut B s.heap h') :
    ∃ n', Fr z L h' m ∧ News z L h' (gn (tD w xs' n')) := by
  refine ea2_4 (U.split) fun pre post e1 e2 e3 e4 => ?_
  have hm : (B, tD w xs n) ∈ news := by rw [e1]; exact List.mem_append_right _ (.head _)
  refine ea1_2 (dictOf_obj D') fun n' ho' _ => ?_
  refine mk1_2 n' (F.change hs (N _ hm).2.1 (N.fresh hm)) ?_
  rw [e2]
  intro q hq
  rcases List.mem_append.mp hq with hq | hq
  · have := N q (by rw [e1]; exact List.mem_append_left _ hq)
    exact ⟨(hs.2 _ (e3 q hq)).trans this.1, this.2⟩
  · rcases List.mem_cons.mp hq with rfl | hq
    · exact ⟨ho', (N _ hm).2⟩
    · have := N q (by rw [e1]; exact List.mem_append_right _ (.tail _ hq))
      exact ⟨(hs.2 _ (e4 q hq)).trans this.1, this.2⟩
theorem updF_mem {o : Obj} (U : UpdF B o news gn) : (B, o) ∈ news := by
  refine ea2_2 (U.split) fun pre post e1 _ => ?_
  rw [e1]; exact List.mem_append_right _ (.head _)

theorem storedH_len (xs : List Ent) (k : List Int) (a : Addr) (v : Value) : (storedH xs k a v).length ≤ xs.length + 1 := by
  unfold storedH; split <;> simp
theorem KeysO.store {v : Value} (K : KeysO w z own xs) (ka : KeyO w z own k a) (hn : ((storedH xs k a v).map (·.1)).Nodup) (hl : xs.length < 10000) : KeysO w z own (storedH xs k a v) := by
  refine ⟨fun x hx => ?_, hn, Nat.le_trans (storedH_len ..) hl⟩
  rcases mem_storedH hx with ⟨y, hy, e1, e2⟩ | ⟨e1, e2⟩
  · rw [e1, e2]; exact K.keys y hy
  · rw [e1, e2]; exact ka
theorem set_tk {v : Value} {Q : Unit → Shared → Prop} (hu : A.in1.units < cLine) (F : Fr z L s.heap m) (N : News z L s.heap news) (ho : ∀ q ∈ own, q ∈ news) (U : UpdF B (tD w xs n) news gn) (K : KeysO w z own xs) (ka : KeyO w z own k a) (hl : xs.length < 10000)
    (h : ∀ h' n' tk, Fr z L h' m → News z L h' (gn (tD w (storedH xs k a v) n')) → KeysO w z own (storedH xs k a v) → Q () { s with heap := h', toks := tk }) :
    wpAny (model PR w) A (setItem (.ref B) (.ref a) v) Q E s := by
  refine wpAny_setItem_heap (hsz := Nat.le_trans (Nat.le_of_lt hl) (by decide)) (knd := tupleKind (intKind PR w)) hu (ka.at F N ho) (K.dict F N ho (updF_mem U)) fun h' D' hs => ?_
  refine ea1_2 (after_tk U F N D' hs) fun n' F' N' => ?_
  refine ea1_2 (dictOf_obj D') fun _ _ hn => ?_
  exact h h' n' _ F' N' (K.store ka hn hl)

theorem dropK_keys (xs : List Ent) (k : List Int) : (dropK xs k).map (·.1) = (xs.map (·.1)).filter fun x => decide (x ≠ k) := by
  unfold dropK
  rw [List.filter_map]
  rfl
theorem KeysO.drop (K : KeysO w z own xs) (k : List Int) : KeysO w z own (dropK xs k) :=
  ⟨fun x hx => K.keys x (List.mem_filter.mp hx).1, by rw [dropK_keys]; exact K.nodup.filter _, Nat.le_trans (List.length_filter_le _ _) K.len⟩

theorem takeOut_tk {p : Addr × Value} {Q : Option DictEntry → Shared → Prop} (hu : (tupleKind (intKind PR w)).room A) (hkey : KeyA w s.heap k a) (D : s.heap.DictOfH (tupleKind (intKind PR w)) B xs) (hp : atKey xs k = some p) (hl : xs.length ≤ 10000)
    (h : ∀ h' e, e.val = p.2 → h'.DictOfH (tupleKind (intKind PR w)) B (dropK xs k) → Heap.SameBut B s.heap h' → Q (some e) { s with heap := h', toks := s.toks + (k.length + 1) }) :
    wpAny (model PR w) A (Builtin.Dict.takeOut B (.ref a)) Q E s := by
  refine ea3_6 (D) fun o es ep ho hc hd he his hn => ?_
  (try clear D)
  have hes : es.size ≤ sizeLine := by have e := size_of_entries he; rw [e]; exact Nat.le_trans hl (by decide)
  unfold Builtin.Dict.takeOut
  refine wpAny_holding (wpAny_bind ((tupleKind (intKind PR w)).pyHash hu hkey (wpAny_bind (wpAny_dictFind_heap (knd := tupleKind (intKind PR w)) (s := { s with toks := s.toks + (k.length + 1) }) hu hkey ho hd he his hn (fun hno => ?_) fun j p' hj => ?_))))
  · rw [atKey_none_of_get hno] at hp; cases hp
  · rw [atKey_of_get hn hj] at hp
    cases hp
    have hej : es[j]? = some (entryOfKey (tupleKind (intKind PR w)) (k, p)) := by rw [entry_at he j, hj]; rfl
    refine wpAny_bind (wpAny_dictEntries (s := { s with toks := s.toks + (k.length + 1) }) ho hd ?_)
    rw [hej]
    refine wpAny_bind (wpAny_updateDictKeys (hz := hes) (s := { s with toks := s.toks + (k.length + 1) }) ho hd (wpAny_pure (h _ _ rfl ⟨_, _, ep + 1, Heap.get?_update_self _ ho (Obj.isFreed_of_dict (Obj.data_mapDictKeys hd _)),
      hc.mapDictKeys _, Obj.data_mapDictKeys hd _, ?_, fun x hx => ?_, by rw [dropK_keys]; exact hn.filter _⟩ (Heap.SameBut.update ..))))
    · rw [← eraseIdx_dropK hn hj]
      obtain ⟨l⟩ := es
      dsimp only at he
      subst he
      rw [List.eraseIdxIfInBounds_toArray, erase_map]
    · exact (tupleKind (intKind PR w)).keeps (his x (List.mem_filter.mp hx).1) ho hd (Heap.SameBut.update ..)

theorem takeOut_none {Q : Option DictEntry → Shared → Prop} (hu : (tupleKind (intKind PR w)).room A) (hkey : KeyA w s.heap k a) (D : s.heap.DictOfH (tupleKind (intKind PR w)) B xs) (hp : atKey xs k = none)
    (h : Q none { s with toks := s.toks + (k.length + 1) }) : wpAny (model PR w) A (Builtin.Dict.takeOut B (.ref a)) Q E s := by
  refine ea3_6 (D) fun o es ep ho hc hd he his hn => ?_
  (try clear D)
  unfold Builtin.Dict.takeOut
  refine wpAny_holding (wpAny_bind ((tupleKind (intKind PR w)).pyHash hu hkey (wpAny_bind (wpAny_dictFind_heap (knd := tupleKind (intKind PR w)) (s := { s with toks := s.toks + (k.length + 1) }) hu hkey ho hd he his hn (fun hno => wpAny_pure h) fun j p' hj => ?_))))
  rw [atKey_of_get hn hj] at hp
  cases hp

theorem pop_tk {v : Value} {Q : Value → Shared → Prop} (hu : A.in1.units < cLine) (hB0 : B ≠ 1) (F : Fr z L s.heap m) (N : News z L s.heap news) (ho : ∀ q ∈ own, q ∈ news) (U : UpdF B (tD w xs n) news gn) (K : KeysO w z own xs) (ka : KeyO w z own k a)
    (hv : (atKey xs k).map (·.2) = some v)
    (h : ∀ h' n' tk, Fr z L h' m → News z L h' (gn (tD w (dropK xs k) n')) → KeysO w z own (dropK xs k) → Q v { s with heap := h', toks := tk }) :
    wpAny (model PR w) A (call (.builtin "dict.pop") [.ref B, .ref a]) Q E s := by
  refine ea1_2 (Option.map_eq_some_iff.mp hv) fun p hp rz2 => ?_
  subst rz2
  have D := K.dict F N ho (updF_mem U)
  refine wpAny_call (codeAny_call_builtin PySem.F.slot_dict_pop.plain PySem.F.entry_dict_pop (PySem.F.slot_dict_pop.check _ _ _ _ _ _ _ _ D.typeIs (PySem.F.args_dict_pop_2 _ _) ?_))
  unfold Builtin.«dict.pop»
  refine wpAny_bind ?_
  unfold Builtin.Dict.keyAndDefault
  refine wpAny_bind (wpAny_notOrdered_dict D.typeIs ?_)
  show wpAny _ _ (pure (B, Value.ref a, none)) _ _ s
  refine wpAny_pure ?_
  have D2 := D
  refine ea3_6 (D2) fun o es ep hob hc hd he his hn => ?_
  (try clear D2)
  have hne : es.isEmpty = false := by
    have e := size_of_entries he
    cases q : es.isEmpty with
    | false => rfl
    | true =>
      rw [Array.isEmpty_iff] at q
      rw [q] at e
      have : xs = [] := List.length_eq_zero_iff.mp (by simpa using e.symm)
      rw [this] at hp; cases hp
  show wpAny _ _ (do
    let empty ← if (keyPart (Value.ref a)).isSome then pure false else do pure (← dictEntries B).isEmpty
    _) _ _ s
  have fin : wpAny (model PR w) A.in1 (Builtin.Dict.takeOut B (.ref a)) (fun old s' => wpAny (model PR w) A.in1 (do
      if old.isNone then Builtin.Dict.missedRemoval B (.ref a)
      match old, (none : Option Value) with
      | some e, _ => letGo [e.key] [e.val]; ret e.val
      | none, some x => rule "dict.pop.default"; ret x
      | none, none => rule "dict.pop.keyerror"; raiseNew (← newExc (.type "KeyError") [.ref a])) (fun fin s' => match fin with | .done f => (match (Except.ok f : Result) with | .ok (.ret v) => Q v s' | .ok _ => False | .error e => E e s') | .again c' => c'.quiet = true ∧ codeAny (model PR w) A c' (fun r s' => match r with | .ok (.ret v) => Q v s' | .ok _ => False | .error e => E e s') s') (fun e s' => E e s') s') (fun e s' => E e s') s := by
    refine takeOut_tk hu (ka.at F N ho) D hp K.len fun h' e ev D' hs => ?_
    refine ea1_2 (after_tk U F N D' hs) fun n' F' N' => ?_
    refine wpAny_bind (wpAny_letGo (wpAny_pure ?_))
    show Q e.val _
    rw [ev]
    exact h h' n' _ F' N' (K.drop k)
  refine wpAny_bind ?_
  refine wpAny_dictEntries hob hd ?_
  rw [hne]
  refine wpAny_bind (wpAny_pure ?_)
  show wpAny _ _ (Builtin.Dict.takeOut B (.ref a) >>= _) _ _ _
  exact wpAny_bind fin

theorem popNone_tk {dflt : Value} {Q : Value → Shared → Prop} (hu : A.in1.units < cLine) (hB0 : B ≠ 1) (F : Fr z L s.heap m) (N : News z L s.heap news) (ho : ∀ q ∈ own, q ∈ news) (hB : (B, tD w xs n) ∈ news) (K : KeysO w z own xs) (ka : KeyO w z own k a)
    (hv : atKey xs k = none) (h : ∀ tk, Q dflt { s with toks := tk }) :
    wpAny (model PR w) A (call (.builtin "dict.pop") [.ref B, .ref a, dflt]) Q E s := by
  have D := K.dict F N ho hB
  refine wpAny_call (codeAny_call_builtin PySem.F.slot_dict_pop.plain PySem.F.entry_dict_pop (PySem.F.slot_dict_pop.check _ _ _ _ _ _ _ _ D.typeIs (PySem.F.args_dict_pop_3 _ _ _) ?_))
  unfold Builtin.«dict.pop»
  refine wpAny_bind ?_
  unfold Builtin.Dict.keyAndDefault
  refine wpAny_bind (wpAny_notOrdered_dict D.typeIs ?_)
  show wpAny _ _ (pure (B, Value.ref a, some dflt)) _ _ s
  refine wpAny_pure ?_
  have D2 := D
  refine ea3_6 (D2) fun o es ep hob hc hd he his hn => ?_
  (try clear D2)
  have miss : ∀ {Q' : Unit → Shared → Prop} {E' : Value → Shared → Prop} {s' : Shared}, Q' () s' → wpAny (model PR w) A.in1 (Builtin.Dict.missedRemoval B (.ref a)) Q' E' s' := fun h => by
    unfold Builtin.Dict.missedRemoval
    rw [if_neg (by rw [show (B == sysModules) = false from beq_eq_false_iff_ne.mpr hB0]; exact Bool.false_ne_true)]
    exact wpAny_pure h
  refine wpAny_bind ?_
  refine wpAny_dictEntries hob hd ?_
  refine wpAny_bind (wpAny_pure ?_)
  by_cases hem : es.isEmpty = true
  · rw [hem]
    show wpAny _ _ (rule "dict.pop.empty" >>= _) _ _ _
    refine wpAny_bind (wpAny_rule (wpAny_bind (wpAny_pure ?_)))
    show wpAny _ _ (Builtin.Dict.missedRemoval B (.ref a) >>= _) _ _ _
    exact wpAny_bind (miss (wpAny_bind (wpAny_rule (wpAny_pure (h _)))))
  · rw [Bool.not_eq_true] at hem
    rw [hem]
    show wpAny _ _ (Builtin.Dict.takeOut B (.ref a) >>= _) _ _ _
    refine wpAny_bind (takeOut_none hu (ka.at F N ho) D hv ?_)
    show wpAny _ _ (Builtin.Dict.missedRemoval B (.ref a) >>= _) _ _ _
    exact wpAny_bind (miss (wpAny_bind (wpAny_rule (wpAny_pure (h _)))))
end

section
variable {prog : Program} {w : World} {A : Around} {E : Value → Shared → Prop} {s : Shared} {env : Env} {h₀ : Heap} {x : Str} {body : List Stmt} {Q : Flow → Shared → Prop}
noncomputable abbrev putM (m : Str → Option Value) (x : Str) (d : Option Value) : Str → Option Value := fun y => if y = x then d else m y
theorem putM_putM (m : Str → Option Value) (x : Str) (d d' : Option Value) : putM (putM m x d) x d' = putM m x d' := by
  funext y; by_cases h : y = x <;> simp [putM, h]
theorem putM_self (m : Str → Option Value) (x : Str) : putM m x (m x) = m := by
  funext y; by_cases h : y = x <;> simp [putM, h]
noncomputable def TurnQ (h₀ : Heap) (L : Addr) (m : Str → Option Value) (I : Addr) (it : Obj) (J : List (Addr × Obj) → Prop) (s : Shared) (Q : Flow → Shared → Prop) (f : Flow) (s₂ : Shared) : Prop := match f with
  | .ret v => Q (.ret v) s₂
  | .brk => Q .next s₂
  | _ => ∃ h' tk' news', s₂ = { s with heap := h', toks := tk' } ∧ Fr h₀ L h' m ∧ News h₀ L h' ((I, it) :: news') ∧ (∀ p ∈ news', p.1 ≠ I) ∧ J news'

theorem iter_tup {D : Addr} {oD : Obj} {c : Nat} {items : List Value} {m₀ : Str → Option Value} {news : List (Addr × Obj)} (J : List Value → List (Addr × Obj) → Prop)
    (hh : A.handled = none) (F : Fr h₀ env.locals s.heap m₀) (N : News h₀ env.locals s.heap news) (hD : oD = { cls := .type "tuple", data := .seq items.toArray c })
    (hst : h₀.get? D = some oD ∨ ∀ vs n', J vs n' → (D, oD) ∈ n') (h0 : J items news)
    (turn : ∀ v vs news₁ I it h tk, J (v :: vs) news₁ → (∀ p ∈ news, p.1 < I) → it.cls = .type "tuple_iterator" → Fr h₀ env.locals h (putM m₀ x (some v)) → News h₀ env.locals h ((I, it) :: news₁) → (∀ p ∈ news₁, p.1 ≠ I) →
      wpAny (model prog w) A (execs body env) (TurnQ h₀ env.locals (putM m₀ x (some v)) I it (J vs) s Q) E { s with heap := h, toks := tk })
    (done : ∀ d h tk news₁, J [] news₁ → Fr h₀ env.locals h (putM m₀ x d) → News h₀ env.locals h news₁ → Q .next { s with heap := h, toks := tk }) :
    wpAny (model prog w) A (pyIter (.ref D)) (fun it s₂ => LoopAtV prog w A h₀ env x body Q E it s₂) E s := by
  have hol : s.heap.get? D = some oD := by
    rcases hst with h | h
    · exact F.keep _ _ h
    · exact (N _ (h _ _ h0)).1
  have hDL : D ≠ env.locals := by
    rcases hst with h | h
    · exact Nat.ne_of_lt (Nat.lt_of_lt_of_le (Heap.lt_size h) F.above)
    · exact (N _ (h _ _ h0)).2.1
  have hls : s.heap.IsTuple D items.toArray := ⟨oD, hol, by rw [hD], c, by rw [hD]⟩
  have hlt : D < s.heap.objs.size := Heap.lt_size hol
  have hne : D ≠ s.heap.objs.size := Nat.ne_of_lt hlt
  have hnew := next_is_new F
  refine wpAny_pyIter_tuple hls ?_
  have W := Walks.tuple (prog := prog) (w := w) hh s.heap.objs.size D hne items.toArray
  have hlen : items.toArray.size = items.length := by simp
  rw [hlen] at W
  let J' : Nat → (Str → Option Value) → List (Addr × Obj) → Prop := fun i m₁ news₁ => (∃ d, m₁ = putM m₀ x d) ∧ J (items.drop i) news₁
  refine mk9_11 s.heap.objs.size ([s.heap.objs.size, D]) ([s.heap.objs.size]) items.length _ _ m₀ news J' rfl W ?_ ?_ ?_ (⟨⟨_, Heap.get?_push_size _ rfl, rfl, rfl⟩, hls.at fun o e => Heap.get?_push_of_some _ e⟩) (F.push _) (fun p hp => ⟨Heap.get?_push_of_some _ (N p hp).1, (N p hp).2⟩) (⟨⟨m₀ x, (putM_self _ _).symm⟩, by rw [List.drop_zero]; exact h0⟩) ?_ ?_
  · intro hm
    rcases List.mem_cons.mp hm with e | hm
    · exact absurd F.ns.lt (e ▸ Nat.lt_irrefl _)
    · exact hDL (List.mem_singleton.mp hm).symm
  · intro b hb
    rw [List.mem_singleton.mp hb]
    exact hnew
  · intro p hp hI
    exact absurd (Heap.lt_size (N p hp).1) ((List.mem_singleton.mp hI) ▸ Nat.lt_irrefl _)
  · rintro i v m₁ news₁ s₁ own ⟨hh', tk', rfl⟩ hin hP ⟨⟨d, rfl⟩, hJ⟩ hoff hown hget hall hst₁ F₁ N₁
    have F₁' : Fr h₀ env.locals hh' (putM m₀ x (some v)) := by
      have e : (fun y => if y = x then some v else putM m₀ x d y) = putM m₀ x (some v) := putM_putM m₀ x d (some v)
      rw [e] at F₁; exact F₁
    refine ea1_3 (hst₁.1) fun it hit hic hid => ?_
    have hmemI := hall s.heap.objs.size (List.mem_cons_self ..) hnew _ hit
    have hdrop : items.drop i = v :: items.drop (i + 1) := by
      have hv : items[i]? = some v := by simpa using hP
      rw [List.drop_eq_getElem_cons hin]
      congr 1
      exact Option.some.inj ((List.getElem?_eq_getElem hin).symm.trans hv)
    rw [hdrop] at hJ
    have N₂ : News h₀ env.locals hh' ((s.heap.objs.size, it) :: news₁) := fun p hp => by
      rcases List.mem_cons.mp hp with rfl | hp
      · exact N₁ _ (List.mem_append_left _ hmemI)
      · exact N₁ _ (List.mem_append_right _ hp)
    refine wpAny_mono (turn v _ news₁ s.heap.objs.size it hh' tk' hJ (fun p hp => Heap.lt_size (N p hp).1) hic F₁' N₂ (fun p hp r => hoff p hp (List.mem_singleton.mpr r))) (fun f s₂ p => ?_) fun _ _ e => e
    have fin : (∃ h' tk' news', s₂ = { s with heap := h', toks := tk' } ∧ Fr h₀ env.locals h' (putM m₀ x (some v)) ∧ News h₀ env.locals h' ((s.heap.objs.size, it) :: news') ∧ (∀ p ∈ news', p.1 ≠ s.heap.objs.size) ∧ J (items.drop (i + 1)) news') →
        LoopStepU h₀ env.locals [s.heap.objs.size] own (J' (i + 1)) { s with heap := hh', toks := tk' } .next s₂ := by
      intro hz9
      refine ea3_5 hz9 fun h' tk news' e1 F' N' ho r => ?_
      clear hz9
      subst e1
      refine ⟨rfl, mk4_5 h' tk _ news' rfl F' (fun p hp => ?_) (fun p hp hI => ho p hp (List.mem_singleton.mp hI)) ⟨⟨_, rfl⟩, r⟩⟩
      rcases List.mem_append.mp hp with hp | hp
      · have h2 : hh'.get? p.1 = some p.2 := hget p hp
        rcases List.mem_cons.mp (hown p hp) with h1 | h1
        · have h3 : p = (s.heap.objs.size, it) := by
            rw [h1, hit] at h2
            exact Prod.ext h1 (Option.some.inj h2).symm
          rw [h3]; exact N' _ (List.mem_cons_self ..)
        · have h1' : p.1 = D := List.mem_singleton.mp h1
          rcases hst with hb | hb
          · exfalso
            have := (N₁ p (List.mem_append_left _ hp)).2.2
            rw [h1', hb] at this; cases this
          · have h3 : p = (D, oD) := by
              have q1 := (N₁ _ (List.mem_append_right _ (hb _ _ hJ))).1
              rw [h1', q1] at h2
              exact Prod.ext h1' (Option.some.inj h2).symm
            rw [h3]; exact N' _ (List.mem_cons_of_mem _ (hb _ _ r))
      · exact N' _ (List.mem_cons_of_mem _ hp)
    cases f with
    | ret v => exact .ret p
    | brk => exact .brk p
    | next => exact .next (fin p)
    | cont => exact .cont (fin p)
  · rintro h' tk m' news' F' N' _ ⟨⟨d, rfl⟩, hJ⟩
    rw [List.drop_length] at hJ
    exact done d h' tk news' hJ F' N'
noncomputable def DvaQ {σ τ : Type} (f : τ → Value) (h₀ : Heap) (L : Addr) (m : Str → Option Value) (I : Addr) (it : Obj) (Nw : σ → List (Addr × Obj)) (Inv : σ → List τ → Prop) (rem : List τ) (s : Shared) (Q : Flow → Shared → Prop) : Flow → Shared → Prop :=
  TurnQ h₀ L m I it (fun news₁ => ∃ rem' st, rem.map f = rem'.map f ∧ news₁ = Nw st ∧ Inv st rem') s Q
theorem dva_end {σ τ : Type} {f : τ → Value} {h₀ h' : Heap} {L : Addr} {m : Str → Option Value} {I : Addr} {it : Obj} {Nw : σ → List (Addr × Obj)} {Inv : σ → List τ → Prop} {rem : List τ} {s : Shared} {Q : Flow → Shared → Prop} {tk' : Nat} (st : σ)
    (F : Fr h₀ L h' m) (N : News h₀ L h' ((I, it) :: Nw st)) (hne : ∀ p ∈ Nw st, p.1 ≠ I) (i : Inv st rem) : DvaQ f h₀ L m I it Nw Inv rem s Q .next { s with heap := h', toks := tk' } :=
  ⟨h', tk', Nw st, rfl, F, N, hne, rem, st, rfl, rfl, i⟩
theorem iter_dva {σ τ : Type} {f : τ → Value} {D : Addr} {c : Nat} {ts : List τ} {m₀ : Str → Option Value} (Nw : σ → List (Addr × Obj)) (Inv : σ → List τ → Prop) (st0 : σ)
    (hh : A.handled = none) (F : Fr h₀ env.locals s.heap m₀) (N : News h₀ env.locals s.heap (Nw st0))
    (hst : h₀.get? D = some { cls := .type "tuple", data := .seq (ts.map f).toArray c } ∨ ∀ st, (D, ({ cls := .type "tuple", data := .seq (ts.map f).toArray c } : Obj)) ∈ Nw st) (h0 : Inv st0 ts)
    (turn : ∀ t rem st I it h tk, Inv st (t :: rem) → (∀ p ∈ Nw st0, p.1 < I) → it.cls = .type "tuple_iterator" → Fr h₀ env.locals h (putM m₀ x (some (f t))) → News h₀ env.locals h ((I, it) :: Nw st) → (∀ p ∈ Nw st, p.1 ≠ I) →
      wpAny (model prog w) A (execs body env) (DvaQ f h₀ env.locals (putM m₀ x (some (f t))) I it Nw Inv rem s Q) E { s with heap := h, toks := tk })
    (done : ∀ d h tk st, Inv st [] → Fr h₀ env.locals h (putM m₀ x d) → News h₀ env.locals h (Nw st) → Q .next { s with heap := h, toks := tk }) :
    wpAny (model prog w) A (pyIter (.ref D)) (fun it s₂ => LoopAtV prog w A h₀ env x body Q E it s₂) E s := by
  refine iter_tup (fun vs news₁ => ∃ rem st, vs = rem.map f ∧ news₁ = Nw st ∧ Inv st rem) hh F N rfl (hst.imp id fun h vs n' ⟨_, st, _, e, _⟩ => e ▸ h st) ⟨ts, st0, rfl, rfl, h0⟩ ?_ ?_
  · rintro v vs news₁ I it h tk ⟨rem, st, e, rfl, hI⟩ a b c d e'
    cases rem with
    | nil => cases e
    | cons t rem =>
      rw [List.map_cons] at e
      injection e with e1 e2
      subst e1 e2
      exact turn t rem st I it h tk hI a b c d e'
  · rintro d h tk news₁ ⟨rem, st, e, rfl, hI⟩ F N
    cases rem with
    | nil => exact done d h tk st hI F N
    | cons t rem => cases e

end

noncomputable abbrev tupO (vs : List Value) (c : Nat := 0) : Obj := { cls := .type "tuple", data := .seq vs.toArray c }
set_option genSizeOf false in
set_option genInjectivity false in
structure HT where
  (k0 k1 k2 k3 k4 st : Tok)
noncomputable abbrev hD (P : Params) (T : HT) (B G : Nat) (sec nxt wr : Int) (tn tw : Tok) : Obj :=
  dictOf [⟨PyData.keyHash P "sector", .str "sector" T.k0, .int sec T.st⟩, ⟨PyData.keyHash P "blocks", .str "blocks" T.k1, .ref B⟩, ⟨PyData.keyHash P "gone", .str "gone" T.k2, .ref G⟩,
    ⟨PyData.keyHash P "next", .str "next" T.k3, .int nxt tn⟩, ⟨PyData.keyHash P "written", .str "written" T.k4, .int wr tw⟩] 5
set_option genSizeOf false in
set_option genInjectivity false in
structure PT where
  (dx D S : Nat)
  (kind level size packed summed birth fill dedup : Int)
  (k v : Nat → Tok)
noncomputable abbrev pD (P : Params) (q : PT) : Obj :=
  dictOf [⟨PyData.keyHash P "dvas", .str "dvas" (q.k 0), .ref q.D⟩, ⟨PyData.keyHash P "kind", .str "kind" (q.k 1), .int q.kind (q.v 1)⟩, ⟨PyData.keyHash P "level", .str "level" (q.k 2), .int q.level (q.v 2)⟩,
    ⟨PyData.keyHash P "lsize", .str "lsize" (q.k 3), .int q.size (q.v 3)⟩, ⟨PyData.keyHash P "psize", .str "psize" (q.k 4), .int q.size (q.v 4)⟩, ⟨PyData.keyHash P "packed", .str "packed" (q.k 5), .int q.packed (q.v 5)⟩,
    ⟨PyData.keyHash P "summed", .str "summed" (q.k 6), .int q.summed (q.v 6)⟩, ⟨PyData.keyHash P "birth", .str "birth" (q.k 7), .int q.birth (q.v 7)⟩, ⟨PyData.keyHash P "fill", .str "fill" (q.k 8), .int q.fill (q.v 8)⟩,
    ⟨PyData.keyHash P "sum", .str "sum" (q.k 9), .ref q.S⟩, ⟨PyData.keyHash P "dedup", .str "dedup" (q.k 10), .int q.dedup (q.v 10)⟩] 11
structure PtrAt (w : World) (z : Heap) (p : Nat) (q : PT) (ts : List (List Int × Nat)) : Prop where
  inst : z.get? p = some (instObj 117 q.dx)
  dict : z.get? q.dx = some (pD w.params q)
  tup : ∃ c, z.get? q.D = some (tupO (ts.map fun t => .ref t.2) c)
  keys : ∀ t ∈ ts, KeyA w z t.1 t.2
theorem PtrAt.keeps {w : World} {z z' : Heap} {p : Nat} {q : PT} {ts : List (List Int × Nat)} (x : PtrAt w z p q ts) (k : ∀ b o, z.get? b = some o → z'.get? b = some o) : PtrAt w z' p q ts :=
  ⟨k _ _ x.inst, k _ _ x.dict, x.tup.imp fun _ h => k _ _ h, fun t ht => let ⟨o, i, n, a, r⟩ := x.keys t ht; ⟨o, i, n, k _ _ a, r⟩⟩
theorem inst_base {z h : Heap} {L x C dx : Addr} {m : Str → Option Value} {od : Obj} {sl : Array (Option Value)} (F : Fr z L h m) (h1 : z.get? x = some ⟨.ref C, some dx, .plain, sl⟩) (h2 : z.get? dx = some od) :
    InstAt h x ⟨.ref C, some dx, .plain, sl⟩ C (some od) := ⟨F.keep _ _ h1, rfl, rfl, F.keep _ _ h2⟩
section
variable {w : World} {A : Around} {E : Value → Shared → Prop} {s : Shared} {z : Heap} {L B a : Addr} {m : Str → Option Value} {news own : List (Addr × Obj)} {gn : Obj → List (Addr × Obj)} {xs : List Ent} {n : Nat} {k : List Int}
theorem notin_T {Q : Value → Shared → Prop} (hu : A.in1.units < cLine) (hB0 : B ≠ 1) (F : Fr z L s.heap m) (N : News z L s.heap news) (hB : (B, tD w xs n) ∈ news) (K : KeysO w z own xs) (ho : ∀ q ∈ own, q ∈ news) (ka : KeyO w z own k a)
    (hb : (atKey xs k).isSome = true) (h : ∀ tk, Q (.bool false) { s with toks := tk }) : wpAny (model PR w) A (compareOp .NotIn (.ref a) (.ref B)) Q E s :=
  notin_tk hu hB0 F N ho hB K ka (by rw [hb]; exact h _)
theorem notin_F {Q : Value → Shared → Prop} (hu : A.in1.units < cLine) (hB0 : B ≠ 1) (F : Fr z L s.heap m) (N : News z L s.heap news) (hB : (B, tD w xs n) ∈ news) (K : KeysO w z own xs) (ho : ∀ q ∈ own, q ∈ news) (ka : KeyO w z own k a)
    (hb : (atKey xs k).isSome = false) (h : ∀ tk, Q (.bool true) { s with toks := tk }) : wpAny (model PR w) A (compareOp .NotIn (.ref a) (.ref B)) Q E s :=
  notin_tk hu hB0 F N ho hB K ka (by rw [hb]; exact h _)
theorem in_B {b : Bool} {Q : Value → Shared → Prop} (hu : A.in1.units < cLine) (hB0 : B ≠ 1) (F : Fr z L s.heap m) (N : News z L s.heap news) (hB : (B, tD w xs n) ∈ news) (K : KeysO w z own xs) (ho : ∀ q ∈ own, q ∈ news) (ka : KeyO w z own k a)
    (hb : (atKey xs k).isSome = b) (h : ∀ tk, Q (.bool b) { s with toks := tk }) : wpAny (model PR w) A (compareOp .In (.ref a) (.ref B)) Q E s :=
  in_tk hu hB0 F N ho hB K ka (by rw [hb]; exact h _)
theorem item_T {value slice : PySem.Expr} {v : Value} {Q : Value → Shared → Prop} (hu : A.in1.units < cLine) (F : Fr z L s.heap m) (N : News z L s.heap news) (hB : (B, tD w xs n) ∈ news) (K : KeysO w z own xs) (ho : ∀ q ∈ own, q ∈ news) (ka : KeyO w z own k a)
    (hv : (atKey xs k).map (·.2) = some v) (h : ∀ tk, Q v { s with toks := tk })
    (hs : subscripted slice false (.ref B) (.ref a) = operate [.ref B, .ref a] (getItem (.ref B) (.ref a)) ) (hg : ∀ r, letTemporaryGo value (.ref B) r = pure ()) :
    wpAny (model PR w) A (subscriptTail value slice (.ref B) (.ref a)) Q E s := item_tk hu F N ho hB K ka hv (h _) hs hg
end

theorem item0_base {prog : Program} {w : World} {A : Around} {E : Value → Shared → Prop} {s : Shared} {z : Heap} {L D : Addr} {m : Str → Option Value} {v : Value} {vs : List Value} {c : Nat} {u : Tok} {value slice : PySem.Expr} {Q : Value → Shared → Prop} (F : Fr z L s.heap m) (e : z.get? D = some (tupO (v :: vs) c)) (h : Q v s)
    (hs : subscripted slice false (.ref D) (.int 0 u) = operate [.ref D, .int 0 u] (getItem (.ref D) (.int 0 u))) :
    wpAny (model prog w) A (subscriptTail value slice (.ref D) (.int 0 u)) Q E s :=
  item_tupleT (l := v :: vs) (j := 0) ⟨_, F.keep _ _ e, rfl, c, rfl⟩ (by decide) (by decide) (by simp [seqIndex?]) (by simp) h hs

local macro_rules | `(tactic| k_inst) => `(tactic| k_extra "inst9")
example : True := by
  k_with "inst9" => ((refine' inst_base ?zinF ?zinh ?zini); (case zinF => k_asm); (case zinh => assumption); (case zini => assumption))
  k_with "compareOp NotIn ref ref" => ((k_here; k_dflt (first | (refine' notin_T ?z10u ?z10q ?z10F ?z10N ?z10B ?z10K ?z10o ?z10ka ?z10b ?_; (case z10q => (refine neN ?_; omega)); (case z10u => k_units); (case z10F => k_asm); (case z10N => k_asm); (case z10B => k_mem); (case z10K => assumption); (case z10o => k_extra "subl"); (case z10ka => assumption); (case z10b => assumption)) | (refine' notin_F ?z10u ?z10q ?z10F ?z10N ?z10B ?z10K ?z10o ?z10ka ?z10b ?_; (case z10q => (refine neN ?_; omega)); (case z10u => k_units); (case z10F => k_asm); (case z10N => k_asm); (case z10B => k_mem); (case z10K => assumption); (case z10o => k_extra "subl"); (case z10ka => assumption); (case z10b => assumption))); intro _))
  k_with "compareOp In ref ref" => ((k_here; k_dflt (refine' in_B ?z11u ?z11q ?z11F ?z11N ?z11B ?z11K ?z11o ?z11ka ?z11b ?_; (case z11q => (refine neN ?_; omega)); (case z11u => k_units); (case z11F => k_asm); (case z11N => k_asm); (case z11B => k_mem); (case z11K => assumption); (case z11o => k_extra "subl"); (case z11ka => assumption); (case z11b => assumption)); intro _))
  k_with "subscriptTail" => ((k_here; (with_reducible show wpAny _ _ (subscriptTail _ _ (Value.ref _) (Value.ref _)) _ _ _); k_dflt (refine' item_T ?z12u ?z12F ?z12N ?z12B ?z12K ?z12o ?z12ka ?z12b ?_ (by with_unfolding_all rfl) (by intro _; with_unfolding_all rfl); (case z12u => k_units); (case z12F => k_asm); (case z12N => k_asm); (case z12B => k_mem); (case z12K => assumption); (case z12o => k_extra "subl"); (case z12ka => assumption); (case z12b => assumption)); intro _))
  k_with "compareOp NotIn ref" => (walk_at "compareOp NotIn ref ref")
  k_with "compareOp In ref" => (walk_at "compareOp In ref ref")
  k_with "subscriptTail" => ((k_here; (with_reducible show wpAny _ _ (subscriptTail _ _ (Value.ref _) (Value.int 0 _)) _ _ _); (with_unfolding_all refine' item0_base ?z15F ?z15e ?_ (by with_unfolding_all rfl); (case z15F => k_asm); (case z15e => assumption))))
  trivial
section
variable {w : World} {d u : Nat} {fr : List Env} {R : Result → Shared → Prop} {s : Shared} {z : Heap} {p : Program} {loose : List Str} {mean : ExcName → Option Value} {mg mb : Str → Option Value}
set_option maxHeartbeats 8000000 in
theorem want_ok {hp dh B G pt n : Nat} {HT : HT} {q : PT} {ts : List (List Int × Nat)} {xs : List Ent} {sec nxt wr : Int} {tn tw : Tok}
    (X : (hd0.heap_1 w.params).In z) (T : Top p loose mean mg mb z) (P : Pre z s.heap [(hp, instObj 190 dh), (dh, hD w.params HT B G sec nxt wr tn tw), (B, tD w xs n)])
    (PA : PtrAt w z pt q ts) (K : KeysO w z [] xs) (hall : ∀ t ∈ ts, (atKey xs t.1).isSome = true) (hB : 292 < B) (hd : d ≤ 500) (hu : u ≤ 900)
    (h : ∀ h' tk, Pre z h' [(hp, instObj 190 dh), (dh, hD w.params HT B G sec nxt wr tn tw), (B, tD w xs n)] → R (.ok (.ret .none)) { s with heap := h', toks := tk }) :
    codeAny (model PR w) (mkA d fr u) (.call (.ref 154) ⟨[.ref hp, .ref pt], []⟩) R s := by
  refine enterZ (binds := [("self", .ref hp), ("pointer", .ref pt)]) X T P (by k_is) (by k_is) (by k_room) (BindsTo.of_eq (by rfl)) (locs (by rfl)) (by rfl) (by rfl) (by rfl) (by decide) ?_
  intro L' h' tk' F' N' hL' hst'
  (try dsimp only); k_fold
  obtain ⟨pa1, pa2, ⟨c, pa3⟩, pa4⟩ := PA
  walk_at "go"
  refine For_invV z (by rfl) (by rfl) ?_
  walk_at "go"
  refine iter_tup (J := fun vs news₁ => news₁ = [(hp, instObj 190 dh), (dh, hD w.params HT B G sec nxt wr tn tw), (B, tD w xs n)] ∧ ∀ v ∈ vs, ∃ k a, v = .ref a ∧ KeyO w z [] k a ∧ (atKey xs k).isSome = true) rfl (by assumption) (by assumption) rfl (.inl pa3) ⟨rfl, ?_⟩ ?_ ?_
  · intro v hv
    refine ea1_2 (List.mem_map.mp hv) fun t ht rz2 => ?_
    subst rz2
    exact mk2_3 t.1 t.2 rfl (.inl (pa4 t ht)) (hall t ht)
  · rintro v vs news₁ I it h₁ tk₁ ⟨rfl, hv⟩ hI hic F₁ N₁ hnI
    refine ea2_3 (hv v (.head _)) fun k a rz2 ka hk => ?_
    subst rz2
    walk_at "go"
    exact mk3_6 _ _ _ rfl (by assumption) (by assumption) hnI rfl (fun v hv' => hv v (.tail _ hv'))
  · rintro d h₁ tk₁ news₁ ⟨rfl, _⟩ F₁ N₁
    walk_at "go"
    exact h _ _ (leaveZ (by assumption) (by assumption) (by intro q hq; exact hq) (by assumption) P.size)
end

noncomputable def goneStr (g : Bool) : Str := if g then "a block that is gone" else "a block that never was"
section
variable {w : World} {d u : Nat} {fr : List Env} {R : Result → Shared → Prop} {s : Shared} {z : Heap} {p : Program} {loose : List Str} {mean : ExcName → Option Value} {mg mb : Str → Option Value}
set_option maxHeartbeats 8000000 in
theorem want_no {hp dh B G pt n n2 : Nat} {HT : HT} {q : PT} {t0 : List Int × Nat} {ts : List (List Int × Nat)} {xs ys : List Ent} {sec nxt wr : Int} {tn tw : Tok} {g : Bool}
    (X : (hd0.heap_1 w.params).In z) (T : Top p loose mean mg mb z) (P : Pre z s.heap [(hp, instObj 190 dh), (dh, hD w.params HT B G sec nxt wr tn tw), (B, tD w xs n), (G, tD w ys n2)])
    (PA : PtrAt w z pt q (t0 :: ts)) (K : KeysO w z [] xs) (K2 : KeysO w z [] ys) (hno : (atKey xs t0.1).isSome = false) (hg : (atKey ys t0.1).isSome = g) (hB : 292 < B) (hG : 292 < G) (hd : d ≤ 500) (hu : u ≤ 900) (FF : FFr z fr)
    (h : ∀ h' tk v, Raised w.params z fr [(hp, instObj 190 dh), (dh, hD w.params HT B G sec nxt wr tn tw), (B, tD w xs n), (G, tD w ys n2)] 56 (goneStr g) v h' → R (.error v) { s with heap := h', toks := tk }) :
    codeAny (model PR w) (mkA d fr u) (.call (.ref 154) ⟨[.ref hp, .ref pt], []⟩) R s := by
  refine enterZ (binds := [("self", .ref hp), ("pointer", .ref pt)]) X T P (by k_is) (by k_is) (by k_room) (BindsTo.of_eq (by rfl)) (locs (by rfl)) (by rfl) (by rfl) (by rfl) (by decide) ?_
  intro L' h' tk' F' N' hL' hst'
  (try dsimp only); k_fold
  obtain ⟨pa1, pa2, ⟨c, pa3⟩, pa4⟩ := PA
  walk_at "go"
  refine For_invV z (by rfl) (by rfl) ?_
  walk_at "go"
  refine iter_tup (J := fun vs news₁ => news₁ = [(hp, instObj 190 dh), (dh, hD w.params HT B G sec nxt wr tn tw), (B, tD w xs n), (G, tD w ys n2)] ∧ vs = (t0 :: ts).map fun t => .ref t.2) rfl (by assumption) (by assumption) rfl (.inl pa3) ⟨rfl, rfl⟩ ?_ ?_
  · rintro v vs news₁ I it h₁ tk₁ ⟨rfl, hv⟩ hI hic F₁ N₁ hnI
    have ka : KeyO w z [] t0.1 t0.2 := .inl (pa4 t0 (.head _))
    rw [List.map_cons] at hv
    injection hv with hv1 hv2
    subst hv1
    cases g
    all_goals (walk_at "go"; walk_at "raiseLeave")
    any_goals (intro h'' Rz; exact h _ _ _ Rz)
    all_goals (intro q hq; refine ⟨.tail _ (.tail _ (.tail _ hq)), ?_⟩; simp only [List.mem_cons, List.not_mem_nil, or_false] at hq; rcases hq with rfl | rfl | rfl | rfl <;> (dsimp only; constructor <;> (refine neN ?_; omega)))
  · rintro d h₁ tk₁ news₁ ⟨rfl, hv⟩ F₁ N₁
    cases hv
end

theorem newTk {w : World} {A : Around} {E : Value → Shared → Prop} {s : Shared} {h₀ : Heap} {L : Addr} {m : Str → Option Value} {news : List (Addr × Obj)} {env : Env} {pos : Pos} {Q : Value → Shared → Prop} (F : Fr h₀ L s.heap m) (N : News h₀ L s.heap news)
    (h : ∀ B h', Fr h₀ L h' m → News h₀ L h' ((B, tD w [] 0) :: news) → (∀ q ∈ news, q.1 < B) → L < B → Q (.ref B) { s with heap := h' }) : wpAny (model PR w) A (eval (.Dict [] [] pos) env) Q E s := by
  have hN := N.push F (tD w [] 0)
  show wpAny (model PR w) A (do standAt pos; newDict) Q E s
  refine wpAny_bind (wpAny_standAt ?_)
  unfold newDict
  exact wpAny_newObj_type (h _ _ (F.push _) hN (fun q hq => Heap.lt_size (N q hq).1) F.ns.lt) (by size_fits)
section
variable {w : World} {A : Around} {R : Result → Shared → Prop} {s : Shared} {z : Heap} {p : Program} {loose : List Str} {mean : ExcName → Option Value} {mg mb : Str → Option Value}
example : True := by
  k_with "eval Dict nil nil" => ((k_here; k_dflt (refine' newTk ?z206F ?z206N ?_; (case z206F => k_asm); (case z206N => k_asm)); intro _ _ _ _; walk_at "iL"; walk_at "iM"; (try k_sweep)))
  trivial
noncomputable abbrev rD (P : Params) (pk sm cp dd : Int) (k v : Nat → Tok) : Obj :=
  dictOf [⟨PyData.keyHash P "packed", .str "packed" (k 0), .int pk (v 0)⟩, ⟨PyData.keyHash P "summed", .str "summed" (k 1), .int sm (v 1)⟩, ⟨PyData.keyHash P "copies", .str "copies" (k 2), .int cp (v 2)⟩, ⟨PyData.keyHash P "dedup", .str "dedup" (k 3), .int dd (v 3)⟩] 4
noncomputable abbrev plD (P : Params) (io : Nat) (us bo fd : Int) (k v : Nat → Tok) : Obj :=
  dictOf [⟨PyData.keyHash P "io", .str "io" (k 0), .ref io⟩, ⟨PyData.keyHash P "used", .str "used" (k 1), .int us (v 1)⟩, ⟨PyData.keyHash P "born_many", .str "born_many" (k 2), .int bo (v 2)⟩, ⟨PyData.keyHash P "freed_many", .str "freed_many" (k 3), .int fd (v 3)⟩] 4
noncomputable def pick4 (a b c d : Tok) : Nat → Tok | 0 => a | 1 => b | 2 => c | _ => d
noncomputable def pick11 (a b c d e f g h i j k : Tok) : Nat → Tok | 0 => a | 1 => b | 2 => c | 3 => d | 4 => e | 5 => f | 6 => g | 7 => h | 8 => i | 9 => j | _ => k
set_option maxHeartbeats 8000000 in
theorem rules_init {x dx : Nat} {pk sm cp : Int} {t0 t1 t2 : Tok}
    (X : (hd0.heap_1 w.params).In z) (T : Top p loose mean mg mb z) (P : Pre z s.heap [(x, instObj 88 dx), (dx, dictOf [] 0)]) (hx : dx < x)
    (hroom : A.depth < 900)
    (h : ∀ h' tk k v, Pre z h' [(x, instObj 88 dx), (dx, rD w.params pk sm cp 0 k v)] → R (.ok (.ret .none)) { s with heap := h', toks := tk }) :
    codeAny (model PR w) A (.call (.ref 85) ⟨[.ref x, .int pk t0, .int sm t1, .int cp t2], []⟩) R s := by
  refine enterZ X T P (by k_is) (by k_is) (by exact Nat.lt_trans hroom (by decide)) (binds_K (X.keeps P.stays) (by rfl) (by k_is) (by rfl) (by rfl) (by rfl)) (locs (by rfl)) (by rfl) (by rfl) (by rfl) (by decide) ?_
  intro L' h' tk' F' N' hL' hst'
  (try dsimp only); k_fold
  walk_at "go"
  exact h _ _ (pick4 _ _ _ _) (pick4 _ _ _ _) (leaveZ (by assumption) (by assumption) (by intro q hq; exact hq) (by assumption) P.size)
set_option maxHeartbeats 8000000 in
theorem heap_init {x dx : Nat} {sec : Int} {t0 : Tok}
    (X : (hd0.heap_1 w.params).In z) (T : Top p loose mean mg mb z) (P : Pre z s.heap [(x, instObj 190 dx), (dx, dictOf [] 0)]) (hx : dx < x)
    (hroom : A.depth < 900)
    (h : ∀ h' tk HT tn tw B G, Pre z h' [(x, instObj 190 dx), (dx, hD w.params HT B G sec 1 0 tn tw), (B, tD w [] 0), (G, tD w [] 0)] → s.heap.objs.size ≤ B → B < G → R (.ok (.ret .none)) { s with heap := h', toks := tk }) :
    codeAny (model PR w) A (.call (.ref 141) ⟨[.ref x, .int sec t0], []⟩) R s := by
  refine enterZ X T P (by k_is) (by k_is) (by exact Nat.lt_trans hroom (by decide)) (binds_K (X.keeps P.stays) (by rfl) (by k_is) (by rfl) (by rfl) (by rfl)) (locs (by rfl)) (by rfl) (by rfl) (by rfl) (by decide) ?_
  intro L' h' tk' F' N' hL' hst'
  (try dsimp only); k_fold
  have hxL : x < L' ∧ dx < L' := ⟨by rw [← hL']; exact Heap.lt_size (P.led _ (.head _)).1, by rw [← hL']; exact Heap.lt_size (P.led _ (.tail _ (.head _))).1⟩
  walk_at "go"
  exact h _ _ ⟨_, _, _, _, _, _⟩ _ _ _ _ (leaveZ (by assumption) (by assumption) (by intro q hq; simp only [List.mem_cons, List.not_mem_nil, or_false] at hq; rcases hq with rfl | rfl | rfl | rfl <;> k_mem) (by assumption) P.size) (by omega) (by omega)
set_option maxHeartbeats 8000000 in
theorem pointer_init {x dx D S : Nat} {kd lv sz pk sm bi fl : Int} {t1 t2 t3 t4 t5 t6 t7 t8 t9 : Tok}
    (X : (hd0.heap_1 w.params).In z) (T : Top p loose mean mg mb z) (P : Pre z s.heap [(x, instObj 117 dx), (dx, dictOf [] 0)]) (hx : dx < x)
    (hroom : A.depth < 900)
    (h : ∀ h' tk q, Pre z h' [(x, instObj 117 dx), (dx, pD w.params q)] → q = ⟨dx, D, S, kd, lv, sz, pk, sm, bi, fl, 0, q.k, q.v⟩ → R (.ok (.ret .none)) { s with heap := h', toks := tk }) :
    codeAny (model PR w) A (.call (.ref 107) ⟨[.ref x, .ref D, .int kd t1, .int lv t2, .int sz t3, .int sz t4, .int pk t5, .int sm t6, .int bi t7, .int fl t8, .ref S, .int 0 t9], []⟩) R s := by
  refine enterZ X T P (by k_is) (by k_is) (by exact Nat.lt_trans hroom (by decide)) (binds_K (X.keeps P.stays) (by rfl) (by k_is) (by rfl) (by rfl) (by rfl)) (locs (by rfl)) (by rfl) (by rfl) (by rfl) (by decide) ?_
  intro L' h' tk' F' N' hL' hst'
  (try dsimp only); k_fold
  walk_at "go"
  exact h _ _ ⟨_, _, _, _, _, _, _, _, _, _, _, pick11 _ _ _ _ _ _ _ _ _ _ _, pick11 0 _ _ _ _ _ _ _ _ 0 _⟩ (leaveZ (by assumption) (by assumption) (by intro q hq; exact hq) (by assumption) P.size) rfl
set_option maxHeartbeats 8000000 in
theorem plain_init {x dx io : Nat}
    (X : (hd0.heap_1 w.params).In z) (T : Top p loose mean mg mb z) (P : Pre z s.heap [(x, instObj 225 dx), (dx, dictOf [] 0)]) (hx : dx < x)
    (hroom : A.depth < 900)
    (h : ∀ h' tk k v, Pre z h' [(x, instObj 225 dx), (dx, plD w.params io 0 0 0 k v)] → R (.ok (.ret .none)) { s with heap := h', toks := tk }) :
    codeAny (model PR w) A (.call (.ref 208) ⟨[.ref x, .ref io], []⟩) R s := by
  refine enterZ (binds := [("self", .ref x), ("io", .ref io)]) X T P (by k_is) (by k_is) (by exact Nat.lt_trans hroom (by decide)) (BindsTo.of_eq (by rfl)) (locs (by rfl)) (by rfl) (by rfl) (by rfl) (by decide) ?_
  intro L' h' tk' F' N' hL' hst'
  (try dsimp only); k_fold
  walk_at "go"
  exact h _ _ (pick4 _ _ _ _) (pick4 0 _ _ _) (leaveZ (by assumption) (by assumption) (by intro q hq; exact hq) (by assumption) P.size)
end

theorem take2 {x dx : Addr} {o1 o2 : Obj} {news : List (Addr × Obj)} (l1 : ∀ q ∈ news, q.1 < dx) (l2 : dx < x) : Take [(x, o1), (dx, o2)] ((x, o1) :: (dx, o2) :: news) news := by
  refine .cons (.head fun p hp => ?_) (.cons (.head fun p hp => ?_) .nil)
  · rcases List.mem_cons.mp hp with rfl | hp
    · exact Nat.ne_of_lt l2
    · exact Nat.ne_of_lt (Nat.lt_trans (l1 p hp) l2)
  · exact Nat.ne_of_lt (l1 p hp)
section
variable {w : World} {A : Around} {E : Value → Shared → Prop} {s : Shared} {h₀ : Heap} {L : Addr} {m : Str → Option Value} {news : List (Addr × Obj)} {p : Program} {loose : List Str} {mean : ExcName → Option Value} {mg mb : Str → Option Value} {Q : Value → Shared → Prop}
theorem new_rules {pk sm cp : Int} {t0 t1 t2 : Tok} (F : Fr h₀ L s.heap m) (N : News h₀ L s.heap news) (X : (hd0.heap_1 w.params).In h₀) (T : Top p loose mean mg mb h₀) (hroom : A.depth < 880)
    (h : ∀ x dx k v h' tk, Fr h₀ L h' m → News h₀ L h' ((x, instObj 88 dx) :: (dx, rD w.params pk sm cp 0 k v) :: news) → (∀ q ∈ news, q.1 < dx) → dx < x → Q (.ref x) { s with heap := h', toks := tk }) :
    wpAny (model PR w) A (call (.ref 88) [.int pk t0, .int sm t1, .int cp t2] []) Q E s := by
  refine call_cls F X N (by k_is) (by k_is) (by k_is) fun x dx h' F' N' l1 l2 => ?_
  have tk := take2 (o1 := instObj 88 dx) (o2 := dictOf [] 0) l1 l2
  refine rules_init (front F' N' tk X).1 (front_top F' N' tk T) (front F' N' tk X).2 l2 (by show A.depth + 1 < 900; omega) fun h'' tk' k v P'' => ?_
  obtain ⟨F2, N2⟩ := back F' N' tk P''
  exact ⟨rfl, h x dx k v h'' tk' F2 N2 l1 l2⟩
theorem new_heap {sec : Int} {t0 : Tok} (F : Fr h₀ L s.heap m) (N : News h₀ L s.heap news) (X : (hd0.heap_1 w.params).In h₀) (T : Top p loose mean mg mb h₀) (hroom : A.depth < 880)
    (h : ∀ (x dx : Nat) HT tn tw (B G : Nat) h' tk, Fr h₀ L h' m → News h₀ L h' ((x, instObj 190 dx) :: (dx, hD w.params HT B G sec 1 0 tn tw) :: (B, tD w [] 0) :: (G, tD w [] 0) :: news) → (∀ q ∈ news, q.1 < dx) → dx < x → x < B → B < G → Q (.ref x) { s with heap := h', toks := tk }) :
    wpAny (model PR w) A (call (.ref 190) [.int sec t0] []) Q E s := by
  refine call_cls F X N (by k_is) (by k_is) (by k_is) fun x dx h' F' N' l1 l2 => ?_
  have tk := take2 (o1 := instObj 190 dx) (o2 := dictOf [] 0) l1 l2
  refine heap_init (front F' N' tk X).1 (front_top F' N' tk T) (front F' N' tk X).2 l2 (by show A.depth + 1 < 900; omega) fun h'' tk' HT tn tw B G P'' hB hG => ?_
  obtain ⟨F2, N2⟩ := back F' N' tk P''
  exact ⟨rfl, h x dx HT tn tw B G h'' tk' F2 N2 l1 l2 (Nat.lt_of_lt_of_le (Heap.lt_size (N' _ (.head _)).1) hB) hG⟩
theorem new_pointer {D S : Nat} {kd lv sz pk sm bi fl : Int} {t1 t2 t3 t4 t5 t6 t7 t8 t9 : Tok} (F : Fr h₀ L s.heap m) (N : News h₀ L s.heap news) (X : (hd0.heap_1 w.params).In h₀) (T : Top p loose mean mg mb h₀) (hroom : A.depth < 880)
    (h : ∀ (x : Nat) q h' tk, Fr h₀ L h' m → News h₀ L h' ((x, instObj 117 q.dx) :: (q.dx, pD w.params q) :: news) → (∀ p ∈ news, p.1 < q.dx) → q.dx < x → q = ⟨q.dx, D, S, kd, lv, sz, pk, sm, bi, fl, 0, q.k, q.v⟩ → Q (.ref x) { s with heap := h', toks := tk }) :
    wpAny (model PR w) A (call (.ref 117) [.ref D, .int kd t1, .int lv t2, .int sz t3, .int sz t4, .int pk t5, .int sm t6, .int bi t7, .int fl t8, .ref S, .int 0 t9] []) Q E s := by
  refine call_cls F X N (by k_is) (by k_is) (by k_is) fun x dx h' F' N' l1 l2 => ?_
  have tk := take2 (o1 := instObj 117 dx) (o2 := dictOf [] 0) l1 l2
  refine pointer_init (front F' N' tk X).1 (front_top F' N' tk T) (front F' N' tk X).2 l2 (by show A.depth + 1 < 900; omega) fun h'' tk' q P'' hq => ?_
  obtain ⟨F2, N2⟩ := back F' N' tk P''
  have e : q.dx = dx := by rw [hq]
  subst e
  exact ⟨rfl, h x q h'' tk' F2 N2 l1 l2 hq⟩
theorem new_plain {io : Nat} (F : Fr h₀ L s.heap m) (N : News h₀ L s.heap news) (X : (hd0.heap_1 w.params).In h₀) (T : Top p loose mean mg mb h₀) (hroom : A.depth < 880)
    (h : ∀ x dx k v h' tk, Fr h₀ L h' m → News h₀ L h' ((x, instObj 225 dx) :: (dx, plD w.params io 0 0 0 k v) :: news) → (∀ q ∈ news, q.1 < dx) → dx < x → Q (.ref x) { s with heap := h', toks := tk }) :
    wpAny (model PR w) A (call (.ref 225) [.ref io] []) Q E s := by
  refine call_cls F X N (by k_is) (by k_is) (by k_is) fun x dx h' F' N' l1 l2 => ?_
  have tk := take2 (o1 := instObj 225 dx) (o2 := dictOf [] 0) l1 l2
  refine plain_init (front F' N' tk X).1 (front_top F' N' tk T) (front F' N' tk X).2 l2 (by show A.depth + 1 < 900; omega) fun h'' tk' k v P'' => ?_
  obtain ⟨F2, N2⟩ := back F' N' tk P''
  exact ⟨rfl, h x dx k v h'' tk' F2 N2 l1 l2⟩
end

example : True := by
  k_with "call ref" => ((k_here; (with_reducible show wpAny _ _ (PySem.call (Value.ref 117) _) _ _ _); k_dflt (refine' new_pointer ?z36F ?z36N ?z36X ?z36T ?z36d ?_; (case z36F => k_asm); (case z36N => k_asm); (case z36X => k_asm); (case z36T => k_asm); (case z36d => (simp only [depth_under_make, depth_under_kw, depth_in1, depth_deeper, mkA]; omega))); intro _ _ _ _ _ _; walk_at "iL"; walk_at "iM"; intro _; (try k_sweep)))
  k_with "call ref" => ((k_here; (with_reducible show wpAny _ _ (PySem.call (Value.ref 88) _) _ _ _); k_dflt (refine' new_rules ?z37F ?z37N ?z37X ?z37T ?z37d ?_; (case z37F => k_asm); (case z37N => k_asm); (case z37X => k_asm); (case z37T => k_asm); (case z37d => (simp only [depth_under_make, depth_under_kw, depth_in1, depth_deeper, mkA]; omega))); intro _ _ _ _ _ _ _ _; walk_at "iL"; walk_at "iM"; (try k_sweep)))
  k_with "call ref" => ((k_here; (with_reducible show wpAny _ _ (PySem.call (Value.ref 225) _) _ _ _); k_dflt (refine' new_plain ?z38F ?z38N ?z38X ?z38T ?z38d ?_; (case z38F => k_asm); (case z38N => k_asm); (case z38X => k_asm); (case z38T => k_asm); (case z38d => (simp only [depth_under_make, depth_under_kw, depth_in1, depth_deeper, mkA]; omega))); intro _ _ _ _ _ _ _ _; walk_at "iL"; walk_at "iM"; (try k_sweep)))
  k_with "call ref" => ((k_here; (with_reducible show wpAny _ _ (PySem.call (Value.ref 190) _) _ _ _); k_dflt (refine' new_heap ?z39F ?z39N ?z39X ?z39T ?z39d ?_; (case z39F => k_asm); (case z39N => k_asm); (case z39X => k_asm); (case z39T => k_asm); (case z39d => (simp only [depth_under_make, depth_under_kw, depth_in1, depth_deeper, mkA]; omega))); intro _ _ _ _ _ _ _ _ _ _ _; walk_at "iL"; walk_at "iM"; walk_at "iM"; walk_at "iM"; (try k_sweep)))
  trivial
theorem KeysO.front {w : World} {h₀ h : Heap} {L : Addr} {m : Str → Option Value} {news mt rest own : List (Addr × Obj)} {xs : List Ent} (K : KeysO w h₀ own xs) (F : Fr h₀ L h m) (N : News h₀ L h news) (t : Take mt news rest) (ho : ∀ q ∈ own, q ∈ rest) : KeysO w (hid h mt) [] xs := by
  refine ⟨fun x hx => .inl ?_, K.nodup, K.len⟩
  rcases K.keys x hx with ⟨o, i, n, a, r⟩ | ⟨o, a, ⟨r1, i, n, r2, r3⟩⟩
  · exact mk3_2 o i n (front_get F N t a) r
  · exact mk3_4 o i n (front_led N t (ho _ a)) r1 r2 r3
section
variable {w : World} {d u : Nat} {fr : List Env} {E : Value → Shared → Prop} {s : Shared} {h₀ : Heap} {L : Addr} {m : Str → Option Value} {news rest : List (Addr × Obj)} {p : Program} {loose : List Str} {mean : ExcName → Option Value} {mg mb : Str → Option Value} {Q : Value → Shared → Prop}
theorem want_call_ok {env : Env} {hp dh B G pt n : Nat} {HT : HT} {q : PT} {ts : List (List Int × Nat)} {xs : List Ent} {sec nxt wr : Int} {tn tw : Tok} (F : Fr h₀ L s.heap m) (N : News h₀ L s.heap news) (X : (hd0.heap_1 w.params).In h₀) (T : Top p loose mean mg mb h₀)
    (t : Take [(hp, instObj 190 dh), (dh, hD w.params HT B G sec nxt wr tn tw), (B, tD w xs n)] news rest)
    (PA : PtrAt w h₀ pt q ts) (K : KeysO w h₀ [] xs) (hall : ∀ t ∈ ts, (atKey xs t.1).isSome = true) (hB : 292 < B) (hd : d ≤ 480) (hu : u ≤ 880)
    (h : ∀ h' tk, Fr h₀ L h' m → News h₀ L h' ((hp, instObj 190 dh) :: (dh, hD w.params HT B G sec nxt wr tn tw) :: (B, tD w xs n) :: rest) → Q .none { s with heap := h', toks := tk }) :
    wpAny (model PR w) ((mkA d fr u).deeper env) (call (.ref 154) [.ref hp, .ref pt]) Q E s := by
  refine wpAny_call (want_ok (d := d + 1) (u := u + 3) (fr := env :: fr) (front F N t X).1 (front_top F N t T) (front F N t X).2 (PA.keeps fun b o e => front_get F N t e) (K.front F N t fun _ h => nomatch h) hall hB (by omega) (by omega) fun h' tk P' => ?_)
  obtain ⟨F', N'⟩ := back F N t P'
  exact h h' tk F' N'
theorem want_call_no {env : Env} {hp dh B G pt n n2 : Nat} {HT : HT} {q : PT} {t0 : List Int × Nat} {ts : List (List Int × Nat)} {xs ys : List Ent} {sec nxt wr : Int} {tn tw : Tok} {g : Bool} (F : Fr h₀ L s.heap m) (N : News h₀ L s.heap news) (X : (hd0.heap_1 w.params).In h₀) (T : Top p loose mean mg mb h₀)
    (t : Take [(hp, instObj 190 dh), (dh, hD w.params HT B G sec nxt wr tn tw), (B, tD w xs n), (G, tD w ys n2)] news rest) (hf : env.frame = some L) (hk : env.scope.kind ≠ .module) (FF : FFr h₀ fr)
    (PA : PtrAt w h₀ pt q (t0 :: ts)) (K : KeysO w h₀ [] xs) (K2 : KeysO w h₀ [] ys) (hno : (atKey xs t0.1).isSome = false) (hg : (atKey ys t0.1).isSome = g) (hB : 292 < B) (hG : 292 < G) (hd : d ≤ 480) (hu : u ≤ 880)
    (h : ∀ h' tk v, Raised w.params (hid s.heap [(hp, instObj 190 dh), (dh, hD w.params HT B G sec nxt wr tn tw), (B, tD w xs n), (G, tD w ys n2)]) (env :: fr) [(hp, instObj 190 dh), (dh, hD w.params HT B G sec nxt wr tn tw), (B, tD w xs n), (G, tD w ys n2)] 56 (goneStr g) v h' → E v { s with heap := h', toks := tk }) :
    wpAny (model PR w) ((mkA d fr u).deeper env) (call (.ref 154) [.ref hp, .ref pt]) Q E s :=
  wpAny_call (want_no (d := d + 1) (u := u + 3) (fr := env :: fr) (front F N t X).1 (front_top F N t T) (front F N t X).2 (PA.keeps fun b o e => front_get F N t e) (K.front F N t fun _ h => nomatch h) (K2.front F N t fun _ h => nomatch h) hno hg hB hG (by omega) (by omega) (FF.hid F N t hf hk) h)
end

example : True := by
  k_with "call ref" => ((k_here; (with_reducible show wpAny _ _ (PySem.call (Value.ref 154) _) _ _ _); k_dflt (refine' want_call_ok ?z27F ?z27N ?z27X ?z27T ?z27t ?z27PA ?z27K ?z27a ?z27b ?z27d ?z27u ?_; (case z27F => k_asm); (case z27N => k_asm); (case z27X => k_asm); (case z27T => k_asm); (case z27t => k_extra "take"); (case z27PA => assumption); (case z27K => assumption); (case z27a => assumption); (case z27b => assumption); (case z27d => omega); (case z27u => omega)); intro _ _ _ _; (try k_sweep)))
  trivial

section
variable {w : World} {d u : Nat} {fr : List Env} {R : Result → Shared → Prop} {s : Shared} {z : Heap} {p : Program} {loose : List Str} {mean : ExcName → Option Value} {mg mb : Str → Option Value}
set_option maxHeartbeats 8000000 in
theorem read_ok {hp dh B G pt n : Nat} {HT : HT} {q : PT} {t0 : List Int × Nat} {ts : List (List Int × Nat)} {xs : List Ent} {sec nxt wr : Int} {tn tw tb : Tok} {b : Array UInt8}
    (X : (hd0.heap_1 w.params).In z) (T : Top p loose mean mg mb z) (P : Pre z s.heap [(hp, instObj 190 dh), (dh, hD w.params HT B G sec nxt wr tn tw), (B, tD w xs n)])
    (PA : PtrAt w z pt q (t0 :: ts)) (K : KeysO w z [] xs) (hall : ∀ t ∈ (t0 :: ts), (atKey xs t.1).isSome = true) (hB : 292 < B) (hd : d ≤ 470) (hu : u ≤ 870) (hO : dh < hp ∧ hp < B)
    (hb : (atKey xs t0.1).map (·.2) = some (.bytes b tb)) (hs : (b.size : Int) = q.size) (hsm : b.size ≤ 1000)
    (h : ∀ h' tk, Pre z h' [(hp, instObj 190 dh), (dh, hD w.params HT B G sec nxt wr tn tw), (B, tD w xs n)] → R (.ok (.ret (.bytes b tb))) { s with heap := h', toks := tk }) :
    codeAny (model PR w) (mkA d fr u) (.call (.ref 161) ⟨[.ref hp, .ref pt], []⟩) R s := by
  refine enterZ (binds := [("self", .ref hp), ("pointer", .ref pt)]) X T P (by k_is) (by k_is) (by k_room) (BindsTo.of_eq (by rfl)) (locs (by rfl)) (by rfl) (by rfl) (by rfl) (by decide) ?_
  intro L' h' tk' F' N' hL' hst'
  refine use_h3 hO fun P9 U9 q100 q101 q102 => ?_
  (try dsimp only); k_fold
  have PA' := PA
  obtain ⟨pa1, pa2, ⟨c, pa3⟩, pa4⟩ := PA'
  have ka : KeyO w z [] t0.1 t0.2 := .inl (pa4 t0 (.head _))
  walk_at "go"
  all_goals first
    | (exfalso; omega)
    | exact h _ _ (leaveZ (by assumption) (by assumption) (by intro q hq; exact hq) (by assumption) P.size)
set_option maxHeartbeats 8000000 in
theorem read_bad {hp dh B G pt n : Nat} {HT : HT} {q : PT} {t0 : List Int × Nat} {ts : List (List Int × Nat)} {xs : List Ent} {sec nxt wr : Int} {tn tw tb : Tok} {b : Array UInt8}
    (X : (hd0.heap_1 w.params).In z) (T : Top p loose mean mg mb z) (P : Pre z s.heap [(hp, instObj 190 dh), (dh, hD w.params HT B G sec nxt wr tn tw), (B, tD w xs n)])
    (PA : PtrAt w z pt q (t0 :: ts)) (K : KeysO w z [] xs) (hall : ∀ t ∈ (t0 :: ts), (atKey xs t.1).isSome = true) (hB : 292 < B) (hd : d ≤ 470) (hu : u ≤ 870) (hO : dh < hp ∧ hp < B)
    (hb : (atKey xs t0.1).map (·.2) = some (.bytes b tb)) (hs : ¬ (b.size : Int) = q.size) (FF : FFr z fr) (hsm : b.size ≤ 1000)
    (h : ∀ h' tk v, Raised w.params z fr [(hp, instObj 190 dh), (dh, hD w.params HT B G sec nxt wr tn tw), (B, tD w xs n)] 44 "a block of another size" v h' → R (.error v) { s with heap := h', toks := tk }) :
    codeAny (model PR w) (mkA d fr u) (.call (.ref 161) ⟨[.ref hp, .ref pt], []⟩) R s := by
  refine enterZ (binds := [("self", .ref hp), ("pointer", .ref pt)]) X T P (by k_is) (by k_is) (by k_room) (BindsTo.of_eq (by rfl)) (locs (by rfl)) (by rfl) (by rfl) (by rfl) (by decide) ?_
  intro L' h' tk' F' N' hL' hst'
  refine use_h3 hO fun P9 U9 q100 q101 q102 => ?_
  (try dsimp only); k_fold
  have PA' := PA
  obtain ⟨pa1, pa2, ⟨c, pa3⟩, pa4⟩ := PA'
  have ka : KeyO w z [] t0.1 t0.2 := .inl (pa4 t0 (.head _))
  walk_at "go"
  all_goals try (exfalso; omega)
  walk_at "raiseLeave"
  any_goals (intro h'' Rz; exact h _ _ _ Rz)
  all_goals (intro q hq; refine ⟨.tail _ (.tail _ hq), ?_⟩; simp only [List.mem_cons, List.not_mem_nil, or_false] at hq; rcases hq with rfl | rfl | rfl <;> (dsimp only; constructor <;> (refine neN ?_; omega)))
set_option maxHeartbeats 8000000 in
theorem read_no {hp dh B G pt n n2 : Nat} {HT : HT} {q : PT} {t0 : List Int × Nat} {ts : List (List Int × Nat)} {xs ys : List Ent} {sec nxt wr : Int} {tn tw : Tok} {g : Bool}
    (X : (hd0.heap_1 w.params).In z) (T : Top p loose mean mg mb z) (P : Pre z s.heap [(hp, instObj 190 dh), (dh, hD w.params HT B G sec nxt wr tn tw), (B, tD w xs n), (G, tD w ys n2)])
    (PA : PtrAt w z pt q (t0 :: ts)) (K : KeysO w z [] xs) (K2 : KeysO w z [] ys) (hno : (atKey xs t0.1).isSome = false) (hg : (atKey ys t0.1).isSome = g) (hB : 292 < B) (hG : 292 < G) (hd : d ≤ 470) (hu : u ≤ 870) (FF : FFr z fr) (hO : dh < hp ∧ hp < B ∧ B < G)
    (h : ∀ h' tk v, Raised w.params z fr [(hp, instObj 190 dh), (dh, hD w.params HT B G sec nxt wr tn tw), (B, tD w xs n), (G, tD w ys n2)] 56 (goneStr g) v h' → R (.error v) { s with heap := h', toks := tk }) :
    codeAny (model PR w) (mkA d fr u) (.call (.ref 161) ⟨[.ref hp, .ref pt], []⟩) R s := by
  refine enterZ (binds := [("self", .ref hp), ("pointer", .ref pt)]) X T P (by k_is) (by k_is) (by k_room) (BindsTo.of_eq (by rfl)) (locs (by rfl)) (by rfl) (by rfl) (by rfl) (by decide) ?_
  intro L' h' tk' F' N' hL' hst'
  refine use_h4 hO fun P9 U9 q100 q101 q102 q103 => ?_
  (try dsimp only); k_fold
  walk_at "go"
  have tk0 : Take [(hp, instObj 190 dh), (dh, hD w.params HT B G sec nxt wr tn tw), (B, tD w xs n), (G, tD w ys n2)] [(hp, instObj 190 dh), (dh, hD w.params HT B G sec nxt wr tn tw), (B, tD w xs n), (G, tD w ys n2)] [] := by walk_at "take"
  refine want_call_no (by assumption) (by assumption) X T tk0 rfl (by exact kind_ne) FF PA K K2 hno hg hB hG (by omega) (by omega) fun h'' tk v Rz => ?_
  walk_at "raisePass"
  any_goals (intro h'' Rz; exact h _ _ _ Rz)
  intro q hq
  exact .inl hq
end

noncomputable def dropX (xs : List Ent) (ts : List (List Int × Nat)) : List Ent := ts.foldl (fun xs t => dropK xs t.1) xs
noncomputable def putX (v : Value) (xs : List Ent) (ts : List (List Int × Nat)) : List Ent := ts.foldl (fun xs t => storedH xs t.1 t.2 v) xs
theorem atKey_dropK_ne {xs : List Ent} {k k' : List Int} (h : k' ≠ k) : atKey (dropK xs k) k' = atKey xs k' := by
  unfold atKey dropK
  congr 1
  induction xs with
  | nil => rfl
  | cons x xs ih =>
    by_cases h1 : x.1 = k
    · rw [List.filter_cons_of_neg (by simpa using h1), ih, List.find?_cons_of_neg]
      simp only [decide_eq_true_eq]
      exact fun e => h (e.symm.trans h1)
    · rw [List.filter_cons_of_pos (by simpa using h1)]
      by_cases h2 : x.1 = k'
      · rw [List.find?_cons_of_pos (by simpa using h2), List.find?_cons_of_pos (by simpa using h2)]
      · rw [List.find?_cons_of_neg (by simpa using h2), List.find?_cons_of_neg (by simpa using h2), ih]
theorem storedH_nodup {xs : List Ent} {k : List Int} {a : Addr} {v : Value} (hn : (xs.map (·.1)).Nodup) : ((storedH xs k a v).map (·.1)).Nodup := by
  unfold storedH
  split
  · rw [keys_map_putAt]; exact hn
  · rename_i h
    rw [List.map_append, List.nodup_append]
    refine mk0_3 hn (by simp) (fun x hx y hy e => ?_)
    simp only [List.map_cons, List.map_nil, List.mem_singleton] at hy
    subst hy e
    refine ea1_2 (List.mem_map.mp hx) fun e he rz2 => ?_
    subst rz2
    apply h
    unfold atKey
    rw [Option.isSome_map, List.find?_isSome]
    exact mk1_2 e he (by simp)
section
variable {w : World} {A : Around} {E : Value → Shared → Prop} {s : Shared} {z : Heap} {L B a : Addr} {m : Str → Option Value} {news own : List (Addr × Obj)} {gn : Obj → List (Addr × Obj)} {xs : List Ent} {n : Nat} {k : List Int}
theorem KeysO.storeK {v : Value} (K : KeysO w z own xs) (ka : KeyO w z own k a) (hl : xs.length < 10000) : KeysO w z own (storedH xs k a v) := K.store ka (storedH_nodup K.nodup) hl
theorem KeysO.putX' {v : Value} : ∀ {ts : List (List Int × Nat)} {xs : List Ent}, KeysO w z own xs → (∀ t ∈ ts, KeyO w z own t.1 t.2) → xs.length + ts.length < 10000 → KeysO w z own (putX v xs ts)
  | [], _, K, _, _ => K
  | t :: ts, xs, K, hk, hl => KeysO.putX' (ts := ts) (xs := storedH xs t.1 t.2 v) (K.storeK (hk t (.head _)) (by simp only [List.length_cons] at hl; omega)) (fun t' h => hk t' (.tail _ h)) (by
      have := storedH_len xs t.1 t.2 v
      simp only [List.length_cons] at hl; omega)
theorem KeysO.dropX' : ∀ {ts : List (List Int × Nat)} {xs : List Ent}, KeysO w z own xs → KeysO w z own (dropX xs ts)
  | [], _, K => K
  | t :: ts, xs, K => KeysO.dropX' (ts := ts) (K.drop t.1)
theorem set_T {v : Value} {Q : Unit → Shared → Prop} (hu : A.in1.units < cLine) (F : Fr z L s.heap m) (N : News z L s.heap news) (U : UpdF B (tD w xs n) news gn) (K : KeysO w z own xs) (ho : ∀ q ∈ own, q ∈ news) (ka : KeyO w z own k a) (hl : xs.length < 10000)
    (h : ∀ h' n' tk, Fr z L h' m → News z L h' (gn (tD w (storedH xs k a v) n')) → KeysO w z own (storedH xs k a v) → Q () { s with heap := h', toks := tk }) :
    wpAny (model PR w) A (setItem (.ref B) (.ref a) v) Q E s := set_tk hu F N ho U K ka hl h
theorem pop_T {Q : Value → Shared → Prop} (hu : A.in1.units < cLine) (hB0 : B ≠ 1) (F : Fr z L s.heap m) (N : News z L s.heap news) (U : UpdF B (tD w xs n) news gn) (K : KeysO w z own xs) (ho : ∀ q ∈ own, q ∈ news) (ka : KeyO w z own k a)
    (hv : (atKey xs k).isSome = true)
    (h : ∀ h' n' tk v, Fr z L h' m → News z L h' (gn (tD w (dropK xs k) n')) → KeysO w z own (dropK xs k) → Q v { s with heap := h', toks := tk }) :
    wpAny (model PR w) A (call (.builtin "dict.pop") [.ref B, .ref a]) Q E s := by
  obtain ⟨p, hp⟩ := Option.isSome_iff_exists.mp hv
  exact pop_tk (v := p.2) hu hB0 F N ho U K ka (by rw [hp]; rfl) fun h' n' tk F' N' K' => h h' n' tk _ F' N' K'
theorem popNone_T {dflt : Value} {Q : Value → Shared → Prop} (hu : A.in1.units < cLine) (hB0 : B ≠ 1) (F : Fr z L s.heap m) (N : News z L s.heap news) (hB : (B, tD w xs n) ∈ news) (K : KeysO w z own xs) (ho : ∀ q ∈ own, q ∈ news) (ka : KeyO w z own k a)
    (hv : atKey xs k = none) (h : ∀ tk, Q dflt { s with toks := tk }) :
    wpAny (model PR w) A (call (.builtin "dict.pop") [.ref B, .ref a, dflt]) Q E s := popNone_tk hu hB0 F N ho hB K ka hv h
theorem method_pop {pl : Sem Bool} {Q : Value × List Value → Shared → Prop} (F : Fr z L s.heap m) (N : News z L s.heap news) (hB : (B, tD w xs n) ∈ news) (K : KeysO w z own xs) (ho : ∀ q ∈ own, q ∈ news)
    (h : Q (.builtin "dict.pop", [.ref B]) s) : wpAny (model PR w) A (getMethod (.ref B) "pop" pl) Q E s := by
  have D := K.dict F N ho hB
  exact getMethod_builtin D.typeIs PySem.F.plainAttrs_dict PySem.F.slot_dict_pop PySem.F.type_dict_pop (dictOfH_noDict D) h
theorem method_get {pl : Sem Bool} {Q : Value × List Value → Shared → Prop} (F : Fr z L s.heap m) (N : News z L s.heap news) (hB : (B, tD w xs n) ∈ news) (K : KeysO w z own xs) (ho : ∀ q ∈ own, q ∈ news)
    (h : Q (.builtin "dict.get", [.ref B]) s) : wpAny (model PR w) A (getMethod (.ref B) "get" pl) Q E s := by
  have D := K.dict F N ho hB
  exact getMethod_builtin D.typeIs PySem.F.plainAttrs_dict PySem.F.slot_dict_get PySem.F.type_dict_get (dictOfH_noDict D) h
theorem get_T {dflt : Value} {Q : Value → Shared → Prop} (hu : A.in1.units < cLine) (hB0 : B ≠ 1) (F : Fr z L s.heap m) (N : News z L s.heap news) (hB : (B, tD w xs n) ∈ news) (K : KeysO w z own xs) (ho : ∀ q ∈ own, q ∈ news) (ka : KeyO w z own k a)
    (h : ∀ tk, Q (((atKey xs k).map (·.2)).getD dflt) { s with toks := tk }) :
    wpAny (model PR w) A (call (.builtin "dict.get") [.ref B, .ref a, dflt]) Q E s := by
  have D := K.dict F N ho hB
  exact call_meetsIn PySem.F.slot_dict_get D.typeIs PySem.F.entry_dict_get (PySem.F.args_dict_get_3 _ _ _) (meetsH_dict_get_default (tupleKind (intKind PR w)) B a (beq_eq_false_iff_ne.mpr hB0) dflt) ⟨hu, k, xs, ka.at F N ho, D, h _⟩
end

example : True := by
  k_with "setItem ref ref" => ((k_here; k_dflt (refine' set_T ?z20u ?z20F ?z20N ?z20U ?z20K ?z20o ?z20ka ?z20l ?_; (case z20u => k_units); (case z20F => k_asm); (case z20N => k_asm); (case z20U => k_updF); (case z20K => assumption); (case z20o => k_extra "subl"); (case z20ka => assumption); (case z20l => omega)); intro _ _ _ _; walk_at "iN"; intro _; (try k_sweep)))
  k_with "getMethod ref" => ((k_here; (with_reducible show wpAny _ _ (getMethod (Value.ref _) "pop" _) _ _ _); k_dflt (refine' method_pop ?z21F ?z21N ?z21B ?z21K ?z21o ?_; (case z21F => k_asm); (case z21N => k_asm); (case z21B => k_mem); (case z21K => assumption); (case z21o => k_extra "subl"))))
  k_with "getMethod ref" => ((k_here; (with_reducible show wpAny _ _ (getMethod (Value.ref _) "get" _) _ _ _); k_dflt (refine' method_get ?z22F ?z22N ?z22B ?z22K ?z22o ?_; (case z22F => k_asm); (case z22N => k_asm); (case z22B => k_mem); (case z22K => assumption); (case z22o => k_extra "subl"))))
  k_with "call builtin:dict.pop" => ((k_here; (with_reducible show wpAny _ _ (PySem.call _ [Value.ref _, Value.ref _]) _ _ _); k_dflt (refine' pop_T ?z23u ?z23q ?z23F ?z23N ?z23U ?z23K ?z23o ?z23ka ?z23v ?_; (case z23q => (refine neN ?_; omega)); (case z23u => k_units); (case z23F => k_asm); (case z23N => k_asm); (case z23U => k_updF); (case z23K => assumption); (case z23o => k_extra "subl"); (case z23ka => assumption); (case z23v => assumption)); intro _ _ _ _ _; walk_at "iN"; intro _; (try k_sweep)))
  k_with "call builtin:dict.pop" => ((k_here; (with_reducible show wpAny _ _ (PySem.call _ [Value.ref _, Value.ref _, _]) _ _ _); k_dflt (refine' popNone_T ?z24u ?z24q ?z24F ?z24N ?z24B ?z24K ?z24o ?z24ka ?z24v ?_; (case z24q => (refine neN ?_; omega)); (case z24u => k_units); (case z24F => k_asm); (case z24N => k_asm); (case z24B => k_mem); (case z24K => assumption); (case z24o => k_extra "subl"); (case z24ka => assumption); (case z24v => assumption)); intro _))
  k_with "call builtin:dict.get" => ((k_here; (with_reducible show wpAny _ _ (PySem.call _ [Value.ref _, Value.ref _, _]) _ _ _); k_dflt (refine' get_T ?z25u ?z25q ?z25F ?z25N ?z25B ?z25K ?z25o ?z25ka ?_; (case z25q => (refine neN ?_; omega)); (case z25u => k_units); (case z25F => k_asm); (case z25N => k_asm); (case z25B => k_mem); (case z25K => assumption); (case z25o => k_extra "subl"); (case z25ka => assumption)); intro _))
  trivial
section
variable {prog : Program} {w : World} {A : Around} {E : Value → Shared → Prop} {s : Shared}
theorem bb_lookup : typeLookup (.type "bytes") "__bytes__" = pure (some (.builtin "bytes.__bytes__")) := by rw [typeLookup_type, builtinLookup_eq_fast]; kernel_rfl
theorem bytes_new_bytes {b : Array UInt8} {tb : Tok} {Q : Value → Shared → Prop} (hQ : Q (.bytes b tb) s) :
    codeAny (model prog w) A (.call (.builtin "bytes.__new__") ⟨[.type "bytes", .bytes b tb], []⟩) (wants Q E) s := by
  refine codeAny_of_tree ?_
  show wpAny _ A.in1 (do checkBuiltinCall "bytes.__new__" ⟨[.type "bytes", .bytes b tb], []⟩; again (.builtin "bytes.__new__" ⟨[.type "bytes", .bytes b tb], []⟩)) _ _ s
  refine wpAny_bind (wpAny_of_eq (PySem.F.bm_newCall _) (wpAny_pure ⟨plainId_quiet PySem.F.bm_plain _, codeAny_builtin PySem.F.bm_entry ?_⟩))
  rw [Around.under_plainId PySem.F.bm_plain _]
  have hT : s.TypeIs (.bytes b tb) "bytes" := rfl
  unfold Builtin.«bytes.__new__»
  refine wpAny_bind (wpAny_of_eq (a := true) rfl ?_)
  refine bm_if_false rfl ?_
  refine wpAny_bind (wpAny_of_eq PySem.F.bm_sub ?_)
  refine bm_if_false rfl ?_
  refine wpAny_bind (wpAny_of_eq (PySem.F.bm_bind _) ?_)
  refine wpAny_bind (wpAny_of_eq (a := ()) rfl ?_)
  refine wpAny_bind (wpAny_of_eq (a := ()) rfl ?_)
  refine bm_if_false rfl ?_
  refine wpAny_bind (wpAny_specialOf_val hT bb_lookup ?_)
  refine wpAny_bind (wpAny_rule ?_)
  refine wpAny_bind (wpAny_of_eq (a := Value.type "bytes") rfl ?_)
  exact wpAny_pure hQ
theorem call_bytes_bytes {b : Array UInt8} {tb : Tok} {Q : Value → Shared → Prop} (hQ : Q (.bytes b tb) s) : wpAny (model prog w) A (call (.type "bytes") [.bytes b tb]) Q E s := by
  refine callType_codes (Q₁ := fun obj s₁ => s₁.TypeIs obj "bytes" ∧ Q obj s₁) PySem.F.bm_called (PySem.F.bm_typeCall _) PySem.F.entry_object_init
    (bytes_new_bytes ⟨rfl, hQ⟩) fun obj s₁ h₁ => ?_
  exact mk0_3 h₁.1 (PySem.F.args_object_init_2 obj _) (object_init_meets PySem.F.bm_called.init.lookup PySem.F.bm_called.made (by decide) prog w A.in1 _ s₁ ⟨h₁.1, rfl, h₁.2⟩)
end

example : True := by
  k_with "call type:bytes" => (((with_reducible show wpAny _ _ (PySem.call (Value.type "bytes") [Value.bytes _ _]) _ _ _); (refine call_bytes_bytes ?_)))
  trivial
structure Rest (w : World) (z : Heap) (vs : List Value) (rem : List (List Int × Nat)) : Prop where
  vals : vs = rem.map fun t => .ref t.2
  keys : ∀ t ∈ rem, KeyA w z t.1 t.2
  nodup : (rem.map (·.1)).Nodup
section
variable {w : World} {d u : Nat} {fr : List Env} {R : Result → Shared → Prop} {s : Shared} {z : Heap} {p : Program} {loose : List Str} {mean : ExcName → Option Value} {mg mb : Str → Option Value}
set_option maxHeartbeats 8000000 in
theorem free_ok {hp dh B G pt n n2 : Nat} {HT : HT} {q : PT} {ts : List (List Int × Nat)} {xs ys : List Ent} {sec nxt wr : Int} {tn tw : Tok} {tx : Int} {tt : Tok}
    (X : (hd0.heap_1 w.params).In z) (T : Top p loose mean mg mb z) (P : Pre z s.heap [(hp, instObj 190 dh), (dh, hD w.params HT B G sec nxt wr tn tw), (B, tD w xs n), (G, tD w ys n2)])
    (PA : PtrAt w z pt q ts) (K : KeysO w z [] xs) (K2 : KeysO w z [] ys) (hall : ∀ t ∈ ts, (atKey xs t.1).isSome = true) (hnd : (ts.map (·.1)).Nodup) (hB : 292 < B) (hG : 292 < G) (hd : d ≤ 470) (hu : u ≤ 870) (hO : dh < hp ∧ hp < B ∧ B < G)
    (hlen : ys.length + ts.length < 10000)
    (h : ∀ h' tk n' n2', Pre z h' [(hp, instObj 190 dh), (dh, hD w.params HT B G sec nxt wr tn tw), (B, tD w (dropX xs ts) n'), (G, tD w (putX (.int tx tt) ys ts) n2')] → R (.ok (.ret .none)) { s with heap := h', toks := tk }) :
    codeAny (model PR w) (mkA d fr u) (.call (.ref 168) ⟨[.ref hp, .ref pt, .int tx tt], []⟩) R s := by
  refine enterZ (binds := [("self", .ref hp), ("pointer", .ref pt), ("txg", .int tx tt)]) X T P (by k_is) (by k_is) (by k_room) (BindsTo.of_eq (by rfl)) (locs (by rfl)) (by rfl) (by rfl) (by rfl) (by decide) ?_
  intro L' h' tk' F' N' hL' hst'
  refine use_h4 hO fun P9 U9 q100 q101 q102 q103 => ?_
  (try dsimp only); k_fold
  have PA' := PA
  obtain ⟨pa1, pa2, ⟨c, pa3⟩, pa4⟩ := PA'
  walk_at "go"
  refine For_invV z (by rfl) (by rfl) ?_
  walk_at "go"
  refine iter_dva (σ := (List Ent × Nat) × (List Ent × Nat)) (f := fun t : List Int × Nat => Value.ref t.2) (fun y => [(hp, instObj 190 dh), (dh, hD w.params HT B G sec nxt wr tn tw), (B, tD w y.1.1 y.1.2), (G, tD w y.2.1 y.2.2)])
    (fun y rem => KeysO w z [] y.1.1 ∧ KeysO w z [] y.2.1 ∧ dropX y.1.1 rem = dropX xs ts ∧ putX (.int tx tt) y.2.1 rem = putX (.int tx tt) ys ts ∧ (∀ t ∈ rem, (atKey y.1.1 t.1).isSome = true) ∧ y.2.1.length + rem.length < 10000 ∧ (∀ t ∈ rem, KeyA w z t.1 t.2) ∧ (rem.map (·.1)).Nodup)
    ((xs, n), (ys, n2)) rfl (by assumption) (by assumption) (.inl pa3) ⟨K, K2, rfl, rfl, hall, hlen, pa4, hnd⟩ ?_ ?_
  · clear hall hlen
    intro t rem' y I it h₁ tk₁ hy hI hic F₁ N₁ hnI
    refine and8 hy fun K' K2' e1 e2 hall hlen hka hnd' => ?_
    clear hy
    have ka : KeyO w z [] t.1 t.2 := .inl (hka t (.head _))
    have hn2 := List.nodup_cons.mp (show (t.1 :: rem'.map (·.1)).Nodup from hnd')
    have hne : ∀ t' ∈ rem', t'.1 ≠ t.1 := fun t' h e => hn2.1 (e ▸ List.mem_map_of_mem (f := fun x : List Int × Nat => x.1) h)
    have hk := hall t (.head _)
    have hIG := ltN (hI (G, _) (.tail _ (.tail _ (.tail _ (.head _)))))
    dsimp only at hIG N₁ hnI
    clear hI
    simp only [List.length_cons] at hlen
    walk_at "go"
    refine dva_end ((dropK y.1.1 t.1, _), (storedH y.2.1 t.1 t.2 (.int tx tt), _)) (by assumption) (by assumption) ?_ ⟨by assumption, by assumption, e1, e2, fun t' ht' => ?_, ?_, fun t' h => hka t' (.tail _ h), hn2.2⟩
    · k_all
    · rw [atKey_dropK_ne (hne t' ht')]; exact hall t' (.tail _ ht')
    · have := storedH_len y.2.1 t.1 t.2 (.int tx tt)
      dsimp only
      omega
  · intro d h₁ tk₁ y hy F₁ N₁
    have e1 : y.1.1 = dropX xs ts := hy.2.2.1
    have e2 : y.2.1 = putX (.int tx tt) ys ts := hy.2.2.2.1
    rw [e1, e2] at N₁
    walk_at "go"
    exact h _ _ _ _ (leaveZ (by assumption) (by assumption) (by intro q hq; exact hq) (by assumption) P.size)
set_option maxHeartbeats 8000000 in
theorem free_no {hp dh B G pt n n2 : Nat} {HT : HT} {q : PT} {t0 : List Int × Nat} {ts : List (List Int × Nat)} {xs ys : List Ent} {sec nxt wr : Int} {tn tw tt : Tok} {tx : Int} {g : Bool}
    (X : (hd0.heap_1 w.params).In z) (T : Top p loose mean mg mb z) (P : Pre z s.heap [(hp, instObj 190 dh), (dh, hD w.params HT B G sec nxt wr tn tw), (B, tD w xs n), (G, tD w ys n2)])
    (PA : PtrAt w z pt q (t0 :: ts)) (K : KeysO w z [] xs) (K2 : KeysO w z [] ys) (hno : (atKey xs t0.1).isSome = false) (hg : (atKey ys t0.1).isSome = g) (hB : 292 < B) (hG : 292 < G) (hd : d ≤ 470) (hu : u ≤ 870) (FF : FFr z fr) (hO : dh < hp ∧ hp < B ∧ B < G)
    (h : ∀ h' tk v, Raised w.params z fr [(hp, instObj 190 dh), (dh, hD w.params HT B G sec nxt wr tn tw), (B, tD w xs n), (G, tD w ys n2)] 56 (goneStr g) v h' → R (.error v) { s with heap := h', toks := tk }) :
    codeAny (model PR w) (mkA d fr u) (.call (.ref 168) ⟨[.ref hp, .ref pt, .int tx tt], []⟩) R s := by
  refine enterZ (binds := [("self", .ref hp), ("pointer", .ref pt), ("txg", .int tx tt)]) X T P (by k_is) (by k_is) (by k_room) (BindsTo.of_eq (by rfl)) (locs (by rfl)) (by rfl) (by rfl) (by rfl) (by decide) ?_
  intro L' h' tk' F' N' hL' hst'
  refine use_h4 hO fun P9 U9 q100 q101 q102 q103 => ?_
  (try dsimp only); k_fold
  walk_at "go"
  have tk0 : Take [(hp, instObj 190 dh), (dh, hD w.params HT B G sec nxt wr tn tw), (B, tD w xs n), (G, tD w ys n2)] [(hp, instObj 190 dh), (dh, hD w.params HT B G sec nxt wr tn tw), (B, tD w xs n), (G, tD w ys n2)] [] := by walk_at "take"
  refine want_call_no (by assumption) (by assumption) X T tk0 rfl (by exact kind_ne) FF PA K K2 hno hg hB hG (by omega) (by omega) fun h'' tk v Rz => ?_
  walk_at "raisePass"
  any_goals (intro h'' Rz; exact h _ _ _ Rz)
  intro q hq
  exact .inl hq
set_option maxHeartbeats 8000000 in
theorem harm_no {hp dh B G pt n n2 : Nat} {HT : HT} {q : PT} {t0 : List Int × Nat} {ts : List (List Int × Nat)} {xs ys : List Ent} {sec nxt wr : Int} {tn tw tb : Tok} {b : Array UInt8} {g : Bool}
    (X : (hd0.heap_1 w.params).In z) (T : Top p loose mean mg mb z) (P : Pre z s.heap [(hp, instObj 190 dh), (dh, hD w.params HT B G sec nxt wr tn tw), (B, tD w xs n), (G, tD w ys n2)])
    (PA : PtrAt w z pt q (t0 :: ts)) (K : KeysO w z [] xs) (K2 : KeysO w z [] ys) (hno : (atKey xs t0.1).isSome = false) (hg : (atKey ys t0.1).isSome = g) (hB : 292 < B) (hG : 292 < G) (hd : d ≤ 470) (hu : u ≤ 870) (FF : FFr z fr) (hO : dh < hp ∧ hp < B ∧ B < G)
    (h : ∀ h' tk v, Raised w.params z fr [(hp, instObj 190 dh), (dh, hD w.params HT B G sec nxt wr tn tw), (B, tD w xs n), (G, tD w ys n2)] 56 (goneStr g) v h' → R (.error v) { s with heap := h', toks := tk }) :
    codeAny (model PR w) (mkA d fr u) (.call (.ref 187) ⟨[.ref hp, .ref pt, .bytes b tb], []⟩) R s := by
  refine enterZ (binds := [("self", .ref hp), ("pointer", .ref pt), ("octets", .bytes b tb)]) X T P (by k_is) (by k_is) (by k_room) (BindsTo.of_eq (by rfl)) (locs (by rfl)) (by rfl) (by rfl) (by rfl) (by decide) ?_
  intro L' h' tk' F' N' hL' hst'
  refine use_h4 hO fun P9 U9 q100 q101 q102 q103 => ?_
  (try dsimp only); k_fold
  walk_at "go"
  have tk0 : Take [(hp, instObj 190 dh), (dh, hD w.params HT B G sec nxt wr tn tw), (B, tD w xs n), (G, tD w ys n2)] [(hp, instObj 190 dh), (dh, hD w.params HT B G sec nxt wr tn tw), (B, tD w xs n), (G, tD w ys n2)] [] := by walk_at "take"
  refine want_call_no (by assumption) (by assumption) X T tk0 rfl (by exact kind_ne) FF PA K K2 hno hg hB hG (by omega) (by omega) fun h'' tk v Rz => ?_
  walk_at "raisePass"
  any_goals (intro h'' Rz; exact h _ _ _ Rz)
  intro q hq
  exact .inl hq
set_option maxHeartbeats 8000000 in
theorem harm_ok {hp dh B G pt n : Nat} {HT : HT} {q : PT} {ts : List (List Int × Nat)} {xs : List Ent} {sec nxt wr : Int} {tn tw : Tok} {b : Array UInt8} {tb : Tok}
    (X : (hd0.heap_1 w.params).In z) (T : Top p loose mean mg mb z) (P : Pre z s.heap [(hp, instObj 190 dh), (dh, hD w.params HT B G sec nxt wr tn tw), (B, tD w xs n)])
    (PA : PtrAt w z pt q ts) (K : KeysO w z [] xs) (hall : ∀ t ∈ ts, (atKey xs t.1).isSome = true) (hnd : (ts.map (·.1)).Nodup) (hB : 292 < B) (hd : d ≤ 470) (hu : u ≤ 870) (hO : dh < hp ∧ hp < B)
    (hlen : xs.length + ts.length < 10000) (hb : b.size ≤ 1000)
    (h : ∀ h' tk n', Pre z h' [(hp, instObj 190 dh), (dh, hD w.params HT B G sec nxt wr tn tw), (B, tD w (putX (.bytes b tb) xs ts) n')] → R (.ok (.ret .none)) { s with heap := h', toks := tk }) :
    codeAny (model PR w) (mkA d fr u) (.call (.ref 187) ⟨[.ref hp, .ref pt, .bytes b tb], []⟩) R s := by
  refine enterZ (binds := [("self", .ref hp), ("pointer", .ref pt), ("octets", .bytes b tb)]) X T P (by k_is) (by k_is) (by k_room) (BindsTo.of_eq (by rfl)) (locs (by rfl)) (by rfl) (by rfl) (by rfl) (by decide) ?_
  intro L' h' tk' F' N' hL' hst'
  refine use_h3 hO fun P9 U9 q100 q101 q102 => ?_
  (try dsimp only); k_fold
  have PA' := PA
  obtain ⟨pa1, pa2, ⟨c, pa3⟩, pa4⟩ := PA'
  walk_at "go"
  refine For_invV z (by rfl) (by rfl) ?_
  walk_at "go"
  refine iter_dva (σ := List Ent × Nat) (f := fun t : List Int × Nat => Value.ref t.2) (fun y => [(hp, instObj 190 dh), (dh, hD w.params HT B G sec nxt wr tn tw), (B, tD w y.1 y.2)])
    (fun y rem => KeysO w z [] y.1 ∧ putX (.bytes b tb) y.1 rem = putX (.bytes b tb) xs ts ∧ y.1.length + rem.length < 10000 ∧ (∀ t ∈ rem, KeyA w z t.1 t.2)) (xs, n) rfl (by assumption) (by assumption) (.inl pa3) ⟨K, rfl, hlen, pa4⟩ ?_ ?_
  · clear hall hlen
    intro t rem' y I it h₁ tk₁ hy hI hic F₁ N₁ hnI
    refine and4 hy fun K' e1 hlen hka => ?_
    clear hy
    have ka : KeyO w z [] t.1 t.2 := .inl (hka t (.head _))
    have hIB := ltN (hI (B, _) (.tail _ (.tail _ (.head _))))
    dsimp only at hIB N₁ hnI
    clear hI
    simp only [List.length_cons] at hlen
    walk_at "go"
    refine dva_end (storedH y.1 t.1 t.2 (.bytes b tb), _) (by assumption) (by assumption) ?_ ⟨by assumption, e1, ?_, fun t' h => hka t' (.tail _ h)⟩
    · k_all
    · have := storedH_len y.1 t.1 t.2 (.bytes b tb)
      dsimp only
      omega
  · intro d h₁ tk₁ y hy F₁ N₁
    have e1 : y.1 = putX (.bytes b tb) xs ts := hy.2.1
    rw [e1] at N₁
    walk_at "go"
    exact h _ _ _ (leaveZ (by assumption) (by assumption) (by intro q hq; exact hq) (by assumption) P.size)
end

structure PtrO (w : World) (z : Heap) (own : List (Addr × Obj)) (p : Nat) (q : PT) (ts : List (List Int × Nat)) : Prop where
  inst : (p, instObj 117 q.dx) ∈ own
  dict : (q.dx, pD w.params q) ∈ own
  tup : ∃ c, z.get? q.D = some (tupO (ts.map fun t => .ref t.2) c) ∨ (q.D, tupO (ts.map fun t => .ref t.2) c) ∈ own
  keys : ∀ t ∈ ts, KeyO w z own t.1 t.2
  sum : ∃ a b c d e, (q.S, tupO [.int 0 a, .int 0 b, .int 0 c, .int 0 d] e) ∈ own
theorem PtrO.made {w : World} {z : Heap} {own : List (Addr × Obj)} {pt D S : Nat} {q : PT} {ts : List (List Int × Nat)} {c e : Nat} {t1 t2 t3 t4 : Tok} (e1 : q.D = D) (e2 : q.S = S) (hk : ∀ t ∈ ts, KeyO w z own t.1 t.2) :
    PtrO w z ((pt, instObj 117 q.dx) :: (q.dx, pD w.params q) :: (S, tupO [.int 0 t1, .int 0 t2, .int 0 t3, .int 0 t4] e) :: (D, tupO (ts.map fun t => .ref t.2) c) :: own) pt q ts := by
  subst e1 e2
  exact ⟨.head _, .tail _ (.head _), ⟨c, .inr (.tail _ (.tail _ (.tail _ (.head _))))⟩, fun t ht => (hk t ht).mono fun q hq => .tail _ (.tail _ (.tail _ (.tail _ hq))), ⟨_, _, _, _, _, .tail _ (.tail _ (.head _))⟩⟩
theorem forall_sizes {own : List (Addr × Obj)} {x y : Nat} (h : ∀ p ∈ own, x < p.1) (e : @LE.le Nat _ y x) : ∀ p ∈ own, y ≤ p.1 := fun p hp => Nat.le_of_lt (Nat.lt_of_le_of_lt e (h p hp))
theorem leN {a b : Nat} (h : a ≤ b) : a ≤ b := h
noncomputable def newKeys (nxt cnt : Int) (n : Nat) : List (List Int) := (rangeKs 0 n).map fun k => [0, nxt + k * cnt, cnt]
theorem keyObj3 {w : World} {a b c : Int} {t1 t2 t3 : Tok} {k : Nat} : TupKeyObj (intKind PR w) [a, b, c] (tupO [.int a t1, .int b t2, .int c t3] k) :=
  ⟨rfl, _, _, rfl, .cons (intKind_is _ _ _ _) (.cons (intKind_is _ _ _ _) (.cons (intKind_is _ _ _ _) .nil))⟩
theorem tail_gt {own : List (Addr × Obj)} {x y : Nat} (h : ∀ p ∈ own, x < p.1) (e : @LE.le Nat _ y x) : ∀ p ∈ own, p.1 ≠ y := fun p hp => Nat.ne_of_gt (Nat.lt_of_le_of_lt e (h p hp))
theorem tail_lt {own : List (Addr × Obj)} {x y : Nat} (h : AllLt x own) (e : @LE.le Nat _ x y) : ∀ p ∈ own, p.1 ≠ y := by
  induction own with
  | nil => exact fun _ hp => nomatch hp
  | cons a r ih =>
    intro p hp
    rcases List.mem_cons.mp hp with rfl | hp
    · exact Nat.ne_of_lt (Nat.lt_of_lt_of_le h.1 e)
    · exact ih h.2 p hp
section
variable {prog : Program} {w : World} {A : Around} {h₀ : Heap} {L : Addr} {m : Str → Option Value} {env : Env} {elt : PySem.Expr} {x : Str} {scope : Scope} {cl : List (Str × Addr)} {s : Shared} {Fin : List Value → List (Addr × Obj) → Prop} {news : List (Addr × Obj)}
structure NewTups (w : World) (news own : List (Addr × Obj)) (ts : List (List Int × Nat)) (ks : List (List Int)) : Prop where
  keys : ts.map (·.1) = ks
  objs : ∀ t ∈ ts, ∃ o, (t.2, o) ∈ own ∧ TupKeyObj (intKind PR w) t.1 o
  above : ∀ q ∈ own, ∀ p ∈ news, p.1 < q.1
theorem NewTups.snoc {news own : List (Addr × Obj)} {ts : List (List Int × Nat)} {ks : List (List Int)} {k : List Int} {T : Nat} {o : Obj} (x : NewTups w news own ts ks) (h : ∀ p ∈ news, p.1 < T) (ho : TupKeyObj (intKind PR w) k o) : NewTups w news ((T, o) :: own) (ts ++ [(k, T)]) (ks ++ [k]) := by
  refine ⟨by rw [List.map_append, x.keys]; rfl, fun t ht => ?_, fun q hq => ?_⟩
  · rcases List.mem_append.mp ht with ht | ht
    · refine ea1_2 (x.objs t ht) fun o' h1 h2 => ?_
      exact mk1_2 o' (.tail _ h1) h2
    · rw [List.mem_singleton.mp ht]
      exact mk1_2 o (.head _) ho
  · rcases List.mem_cons.mp hq with rfl | hq
    · exact h
    · exact x.above q hq
noncomputable def TupEnd (w : World) (h₀ : Heap) (L : Addr) (m : Str → Option Value) (s : Shared) (all : List (Addr × Obj)) (k : List Int) (y : Value) (s₂ : Shared) : Prop :=
  ∃ (T : Nat) (o : Obj) (h' : Heap) (tk' : Nat), y = .ref T ∧ s₂ = { s with heap := h', toks := tk' } ∧ Fr h₀ L h' m ∧ News h₀ L h' ((T, o) :: all) ∧ AllLt T all ∧ TupKeyObj (intKind PR w) k o
theorem comp_tup {n : Nat} (fk : Int → List Int)
    (turn : ∀ k t I oI C oC D m₂ ys h tk (E' : Value → Shared → Prop) own, 0 ≤ k → k < (n : Int) → LCg.NsObj oC m₂ → m₂ x = some (.int k t) → Fr h₀ L h m → News h₀ L h ((I, oI) :: (C, oC) :: (D, LCg.lst ys) :: (news ++ own)) →
      wpAny (model prog w) A (eval elt (compEnvC scope cl C env)) (TupEnd w h₀ L m s ((I, oI) :: (C, oC) :: (D, LCg.lst ys) :: (news ++ own)) (fk k)) E' { s with heap := h, toks := tk })
    (fin : ∀ ts own, NewTups w news own ts ((rangeKs 0 n).map fk) → Fin (ts.map fun t => .ref t.2) (news ++ own)) :
    LCg.CompRest prog w A h₀ L m env elt x scope cl s (fun _ => True) (fun i v => ∃ t, v = .int (0 + (i : Int)) t) Fin n 0 [] news := by
  have key : ∀ (j i : Nat) (ts : List (List Int × Nat)) (own : List (Addr × Obj)), i + j = n → NewTups w news own ts ((rangeKs 0 i).map fk) →
      LCg.CompRest prog w A h₀ L m env elt x scope cl s (fun _ => True) (fun i v => ∃ t, v = .int (0 + (i : Int)) t) Fin j i (ts.map fun t => .ref t.2) (news ++ own) := by
    intro j
    induction j with
    | zero =>
      intro i ts own hi hy
      have e : i = n := by omega
      subst e
      exact LCg.CompRest.zero (fin ts own hy)
    | succ j ih =>
      intro i ts own hi hy
      refine LCg.CompRest.succ ?_
      rintro v I oI C oC D m₂ h tk E' ⟨t, rfl⟩ hC hx F N off ne
      refine wpAny_mono (turn _ t I oI C oC D m₂ _ h tk E' own (by omega) (by omega) hC hx F N) (fun y s₂ hq => ?_) fun _ _ e => e
      refine ea4_6 (hq) fun T o h' tk' rz4 rz5 F' N' hT ho => ?_
      (try clear hq)
      subst rz4
      subst rz5
      have hlt : ∀ {l : List (Addr × Obj)}, AllLt T l → ∀ p ∈ l, p.1 < T := by
        intro l
        induction l with
        | nil => exact fun _ _ h => nomatch h
        | cons a r ih =>
          intro h p hp
          rcases List.mem_cons.mp hp with rfl | hp
          · exact h.1
          · exact ih h.2 p hp
      have hT' := hlt hT
      refine mk3_6 h' tk' (news ++ ((T, o) :: own)) rfl F' (fun p hp => N' p ?_) (LCg.Off3.of fun p hp => ?_) trivial ?_
      · rcases List.mem_cons.mp hp with rfl | hp
        · exact .tail _ (.head _)
        rcases List.mem_cons.mp hp with rfl | hp
        · exact .tail _ (.tail _ (.head _))
        rcases List.mem_cons.mp hp with rfl | hp
        · exact .tail _ (.tail _ (.tail _ (.head _)))
        rcases List.mem_append.mp hp with hp | hp
        · exact .tail _ (.tail _ (.tail _ (.tail _ (List.mem_append_left _ hp))))
        rcases List.mem_cons.mp hp with rfl | hp
        · exact .head _
        · exact .tail _ (.tail _ (.tail _ (.tail _ (List.mem_append_right _ hp))))
      · have old : p ∈ news ++ own ∨ p = (T, o) := by
          rcases List.mem_append.mp hp with hp | hp
          · exact .inl (List.mem_append_left _ hp)
          rcases List.mem_cons.mp hp with rfl | hp
          · exact .inr rfl
          · exact .inl (List.mem_append_right _ hp)
        rcases old with hp | rfl
        · exact off.mem p hp
        · exact mk0_3 (Nat.ne_of_gt hT.1) (Nat.ne_of_gt hT.2.1) (Nat.ne_of_gt hT.2.2.1)
      · have := ih (i + 1) (ts ++ [(fk (0 + (i : Int)), T)]) ((T, o) :: own) (by omega) (by
          have e : (rangeKs 0 (i + 1)).map fk = (rangeKs 0 i).map fk ++ [fk (0 + (i : Int))] := by simp [rangeKs, List.range_succ]
          rw [e]
          exact hy.snoc (fun p hp => hT' p (.tail _ (.tail _ (.tail _ (List.mem_append_left _ hp))))) ho)
        rw [List.map_append] at this
        exact this
  have := key n 0 [] [] (by omega) ⟨rfl, (fun _ h => nomatch h), (fun _ h => nomatch h)⟩
  rw [List.append_nil] at this
  exact this
theorem tupleOf_T {E : Value → Shared → Prop} {Q : Value → Shared → Prop} {D : Nat} {ys : List Value} (F : Fr h₀ L s.heap m) (N : News h₀ L s.heap news) (hl : (D, LCg.lst ys) ∈ news) (hz : ys.length ≤ 10000)
    (h : ∀ (T : Nat) h', Fr h₀ L h' m → News h₀ L h' ((T, tupO ys) :: news) → (∀ p ∈ news, p.1 < T) → Q (.ref T) { s with heap := h' }) : wpAny (model prog w) A (call (.type "tuple") [.ref D]) Q E s :=
  kde_tupleOf F N (N.isList hl) (by show ys.toArray.size ≤ 16384; rw [List.size_toArray]; omega) List.toList_toArray h
end

local macro_rules | `(tactic| k_all) => `(tactic| walk_at "allT")
example : True := by
  k_with "allT" => (first | exact List.forall_mem_nil _ | (refine' all_cons ?z28a ?z28b; (case z28a => k_ne); (case z28b => k_extra "allT")) | (refine' tail_gt ?z28a ?z28b; (case z28a => assumption); (case z28b => omega)) | (refine' tail_lt ?z28a ?z28b; (case z28a => assumption); (case z28b => omega)) | fail "no tail")
  k_with "tailT" => (first | assumption | (refine List.Mem.tail _ ?_; k_extra "tailT"))
  k_with "tailm" => (k_extra "tailT")
  k_with "sublT" => (first | exact List.forall_mem_nil _ | (refine' all_cons ?z31a ?z31b; (case z31a => k_dflt k_mem); (case z31b => k_extra "sublT")) | (intro q hq; k_extra "tailm") | fail "subl")
  k_with "subl" => (k_extra "sublT")
  k_with "call type:tuple" => ((k_here; (with_reducible show wpAny _ _ (call (Value.type _) [Value.ref _]) _ _ _); k_dflt (refine' tupleOf_T ?z33F ?z33N ?z33m ?z33z ?_; (case z33F => k_asm); (case z33N => k_asm); (case z33m => k_mem); (case z33z => (simp only [List.length_map]; omega))); intro _ _ _ _; walk_at "iL"; (try k_sweep)))
  k_with "sizesT" => (first | exact List.forall_mem_nil _ | (refine' all_cons ?z34a ?z34b; (case z34a => (first | (refine leN ?_; (try dsimp only); omega) | omega)); (case z34b => k_extra "sizesT")) | (refine' forall_sizes ?z34a ?z34b; (case z34a => assumption); (case z34b => omega)) | fail "no size")
  k_with "sizes" => (k_extra "sizesT")
  trivial
structure RestO (w : World) (z : Heap) (own : List (Addr × Obj)) (vs : List Value) (rem : List (List Int × Nat)) : Prop where
  vals : vs = rem.map fun t => .ref t.2
  keys : ∀ t ∈ rem, KeyO w z own t.1 t.2
section
variable {w : World} {d u : Nat} {fr : List Env} {R : Result → Shared → Prop} {s : Shared} {z : Heap} {p : Program} {loose : List Str} {mean : ExcName → Option Value} {mg mb : Str → Option Value}
set_option maxHeartbeats 8000000 in
theorem write_fresh_g {hp dh B G rr rdx n : Nat} {HT : HT} {xs : List Ent} {sec nxt wr lv tg fl : Int} {tn tw tb t1 t2 t3 t4 : Tok} {b : Array UInt8} {rk rv : Nat → Tok} {cp : Nat} {former : Value} {args : List Value} (hargs : args = [.ref hp, .bytes b tb, .int 8 t1, .int lv t2, .ref rr, .int tg t3, .int fl t4, former] ∨ (former = .none ∧ args = [.ref hp, .bytes b tb, .int 8 t1, .int lv t2, .ref rr, .int tg t3, .int fl t4])) (hf : former = .none ∨ ∃ pt q ts, former = .ref pt ∧ PtrAt w z pt q ts ∧ ¬(q.birth = tg ∧ q.size = (b.size : Int)))
    (X : (hd0.heap_1 w.params).In z) (T : Top p loose mean mg mb z) (P : Pre z s.heap [(hp, instObj 190 dh), (dh, hD w.params HT B G sec nxt wr tn tw), (B, tD w xs n)])
    (K : KeysO w z [] xs) (hr1 : z.get? rr = some (instObj 88 rdx)) (hr2 : z.get? rdx = some (rD w.params 0 0 (cp : Int) 0 rk rv)) (hcp : cp = 1 ∨ cp = 2 ∨ cp = 3) (hB : 292 < B) (hd : d ≤ 470) (hu : u ≤ 870) (hO : dh < hp ∧ hp < B)
    (hb : b.size ≤ 1000) (hsec : 4 ≤ sec ∧ sec ≤ 16) (hnx : 1 ≤ nxt ∧ nxt ≤ 100000) (hwr : 0 ≤ wr ∧ wr ≤ 10000) (hlen : xs.length < 9000)
    (h : ∀ h' tk n' pt q ts own tn' tw', Pre z h' ((hp, instObj 190 dh) :: (dh, hD w.params HT B G sec (nxt + cp * (((b.size : Int) + sec - 1).fdiv sec)) (wr + 1) tn' tw') :: (B, tD w (putX (.bytes b tb) xs ts) n') :: own) →
      (∀ z, PtrO w z own pt q ts) → q = ⟨q.dx, q.D, q.S, 8, lv, b.size, 0, 0, tg, fl, 0, q.k, q.v⟩ → ts.map (·.1) = newKeys nxt (((b.size : Int) + sec - 1).fdiv sec) cp → (∀ e ∈ own, s.heap.objs.size ≤ e.1) → R (.ok (.ret (.ref pt))) { s with heap := h', toks := tk }) :
    codeAny (model PR w) (mkA d fr u) (.call (.ref 147) ⟨args, []⟩) R s := by
  refine' enterZC (binds := [("self", .ref hp), ("octets", .bytes b tb), ("kind", .int 8 t1), ("level", .int lv t2), ("rules", .ref rr), ("txg", .int tg t3), ("fill", .int fl t4), ("former", former)]) X T P ?o ?cd ?rm ?hb ?kd ?nd ?co ?gn ?kk ?_
  case o => k_is
  case cd => k_is
  case rm => k_room
  case hb =>
    rcases hargs with rfl | ⟨rfl, rfl⟩
    · exact binds_K (X.keeps P.stays) (by rfl) (by k_is) (by rfl) (by rfl) (by rfl)
    · exact binds_K (X.keeps P.stays) (by rfl) (by k_is) (by rfl) (by rfl) (by rfl)
  case kd => rfl
  case nd => decide +kernel
  case co => rfl
  case gn => rfl
  case kk => rfl
  clear hargs
  have cp3 := cp_le hcp
  intro L' h' tk' cells' F' N' Y' hL' hst'
  (try dsimp only); k_fold
  have l1' := allLt_of (d := L') (l := [(hp, instObj 190 dh), (dh, hD w.params HT B G sec nxt wr tn tw), (B, tD w xs n)]) fun q hq => hL' ▸ Heap.lt_size (P.led q hq).1
  simp only [AllLt, and_true] at l1'
  walk_at "cellsIn"
  rename_i oc2 dc1 dc2 _
  refine use_led hO l1'.2.2 fun P9 U9 q100 q101 q102 q103 q104 q105 q106 => ?_
  walk_at "goI"
  refine if_F ?_ fun tk7 => ?_
  focus
    rcases hf with rfl | ⟨pt0, q0, ts0, rfl, PA, hne⟩
    · walk_at "goL"
      exact ⟨rfl, _, rfl⟩
    · have PA0 := PA
      obtain ⟨pa1, pa2, ⟨pac, pa3⟩, pa4⟩ := PA0
      walk_at "goL"
      all_goals first | (exfalso; omega) | exact ⟨rfl, _, rfl⟩
  walk_at "goL"
  refine LCg.ListComp_U (F₀ := by assumption) (by with_unfolding_all rfl) (by decide) (by rfl) (by decide) (by rfl) ?_
  walk_at "goL"
  refine LCg.CompSrc.range (n := cp) (by rfl) (by assumption) (by assumption) (by assumption) (by rcases hcp with rfl | rfl | rfl <;> decide) (by exact rangeSize_nat _ _) (by rw [PySem.sizeLine_eq]; omega) fun g => ?_
  refine comp_tup (fun k => [0, nxt + k * (((b.size : Int) + sec - 1).fdiv sec), (((b.size : Int) + sec - 1).fdiv sec)]) ?_ ?_
  · intro k t I oI C oC D m₂ ys h₁ tk₁ E₁ own hk0 hk1 hC hx F₁ N₁
    simp only [List.cons_append, List.nil_append] at N₁
    walk_at "goL"
    exact mk4_6 _ _ _ _ rfl rfl (by assumption) (by assumption) (by assumption) keyObj3
  · intro ts own hT
    have hown : ∀ p ∈ own, (fun a b : Nat => a < b) (L' + 1) p.1 := fun q hq => hT.above q hq (L' + 1, _) (.tail _ (.tail _ (.head _)))
    dsimp only at hown
    simp only [List.cons_append, List.nil_append]
    have hlt := congrArg List.length hT.keys
    simp only [List.length_map, rangeKs_length] at hlt
    walk_at "goL"
    rename Fr _ _ _ _ => F9
    rename News _ _ _ _ => N9
    rename_i T9 _ l9 _ h9
    obtain ⟨tn9, tw9, N10⟩ : ∃ tn9 tw9, News z L' h9 ((T9, tupO (ts.map fun t => .ref t.2)) :: (L' + 1, oc2) :: (hp, instObj 190 dh) :: (dh, hD w.params HT B G sec (nxt + cp * (((b.size : Int) + sec - 1).fdiv sec)) (wr + 1) tn9 tw9) :: (B, tD w xs n) :: own) := ⟨_, _, fun p hp => N9 p (by revert p; walk_at "subl")⟩
    clear N9
    have ho9 : ∀ t ∈ ts, KeyO w z own t.1 t.2 := fun t ht => .inr (hT.objs t ht)
    have K9 : KeysO w z own xs := K.mono fun _ h => nomatch h
    refine For_invV z (by rfl) (by rfl) ?_
    walk_at "goL"
    refine iter_dva (σ := List Ent × Nat) (f := fun t : List Int × Nat => Value.ref t.2) (fun y => (T9, tupO (ts.map fun t => .ref t.2)) :: (L' + 1, oc2) :: (hp, instObj 190 dh) :: (dh, hD w.params HT B G sec (nxt + cp * (((b.size : Int) + sec - 1).fdiv sec)) (wr + 1) tn9 tw9) :: (B, tD w y.1 y.2) :: own)
      (fun y rem => KeysO w z own y.1 ∧ putX (.bytes b tb) y.1 rem = putX (.bytes b tb) xs ts ∧ y.1.length + rem.length < 10000 ∧ (∀ t ∈ rem, KeyO w z own t.1 t.2)) (xs, _) rfl (by assumption) (by assumption) (.inr fun _ => .head _) ⟨K9, rfl, by dsimp only; omega, ho9⟩ ?_ ?_
    · clear hlen hT ho9 K9
      intro t rem' y I it h₁ tk₁ hy hI hic F₁ N₁ hnI
      refine and4 hy fun K' e1 hlen hkt => ?_
      clear hy
      have ka := hkt t (.head _)
      have hI0 := ltN (hI (L' + 1, _) (.tail _ (.head _)))
      have hIt := ltN (hI (T9, _) (.head _))
      have hIo : ∀ p ∈ own, p.1 < I := fun p hp => hI p (.tail _ (.tail _ (.tail _ (.tail _ (.tail _ hp)))))
      replace hIo := allLt_of hIo
      dsimp only at hI0 hIt N₁ hnI
      clear hI
      simp only [List.length_cons] at hlen
      walk_at "goL"
      refine dva_end (storedH y.1 t.1 t.2 (.bytes b tb), _) (by assumption) (by assumption) ?_ ⟨by assumption, e1, ?_, fun t' h => hkt t' (.tail _ h)⟩
      · k_all
      · have := storedH_len y.1 t.1 t.2 (.bytes b tb)
        dsimp only
        omega
    · intro d h₁ tk₁ y hy F₁ N₁
      have e1 : y.1 = putX (.bytes b tb) xs ts := hy.2.1
      rw [e1] at N₁
      walk_at "goL"
      rename News _ _ _ _ => N9
      rename _ = (_ : PT) => eq9
      have eD := congrArg PT.D eq9
      have eS := congrArg PT.S eq9
      dsimp only at eD eS
      refine h _ _ _ _ _ ts _ _ _ (leaveZ (mt := (hp, _) :: (dh, _) :: (B, _) :: (_, _) :: (_, _) :: (_, _) :: (T9, _) :: own) (by assumption) N9 (by walk_at "subl") (by assumption) P.size)
        (fun z => PtrO.made eD eS fun t ht => .inr (hT.objs t ht)) (eq9.trans (by rw [eD, eS])) hT.keys (by walk_at "sizes")
theorem write_fresh {hp dh B G rr rdx n : Nat} {HT : HT} {xs : List Ent} {sec nxt wr lv tg fl : Int} {tn tw tb t1 t2 t3 t4 : Tok} {b : Array UInt8} {rk rv : Nat → Tok} {cp : Nat} {former : Value} (hf : former = .none ∨ ∃ pt q ts, former = .ref pt ∧ PtrAt w z pt q ts ∧ ¬(q.birth = tg ∧ q.size = (b.size : Int)))
    (X : (hd0.heap_1 w.params).In z) (T : Top p loose mean mg mb z) (P : Pre z s.heap [(hp, instObj 190 dh), (dh, hD w.params HT B G sec nxt wr tn tw), (B, tD w xs n)])
    (K : KeysO w z [] xs) (hr1 : z.get? rr = some (instObj 88 rdx)) (hr2 : z.get? rdx = some (rD w.params 0 0 (cp : Int) 0 rk rv)) (hcp : cp = 1 ∨ cp = 2 ∨ cp = 3) (hB : 292 < B) (hd : d ≤ 470) (hu : u ≤ 870) (hO : dh < hp ∧ hp < B)
    (hb : b.size ≤ 1000) (hsec : 4 ≤ sec ∧ sec ≤ 16) (hnx : 1 ≤ nxt ∧ nxt ≤ 100000) (hwr : 0 ≤ wr ∧ wr ≤ 10000) (hlen : xs.length < 9000)
    (h : ∀ h' tk n' pt q ts own tn' tw', Pre z h' ((hp, instObj 190 dh) :: (dh, hD w.params HT B G sec (nxt + cp * (((b.size : Int) + sec - 1).fdiv sec)) (wr + 1) tn' tw') :: (B, tD w (putX (.bytes b tb) xs ts) n') :: own) →
      (∀ z, PtrO w z own pt q ts) → q = ⟨q.dx, q.D, q.S, 8, lv, b.size, 0, 0, tg, fl, 0, q.k, q.v⟩ → ts.map (·.1) = newKeys nxt (((b.size : Int) + sec - 1).fdiv sec) cp → (∀ e ∈ own, s.heap.objs.size ≤ e.1) → R (.ok (.ret (.ref pt))) { s with heap := h', toks := tk }) :
    codeAny (model PR w) (mkA d fr u) (.call (.ref 147) ⟨[.ref hp, .bytes b tb, .int 8 t1, .int lv t2, .ref rr, .int tg t3, .int fl t4, former], []⟩) R s :=
  write_fresh_g (.inl rfl) hf X T P K hr1 hr2 hcp hB hd hu hO hb hsec hnx hwr hlen h
end

noncomputable abbrev TakeN {h₀ h : Heap} {L : Addr} {news : List (Addr × Obj)} (_ : News h₀ L h news) (mt rest : List (Addr × Obj)) : Prop := Take mt news rest
noncomputable def PtrSame (w : World) (own : List (Addr × Obj)) (pt' : Nat) (q q' : PT) (ts : List (List Int × Nat)) : Prop :=
  ∀ (z : Heap) (os : List (Addr × Obj)), (∃ c, z.get? q.D = some (tupO (ts.map fun t => .ref t.2) c) ∨ (q.D, tupO (ts.map fun t => .ref t.2) c) ∈ os) → (∀ t ∈ ts, KeyO w z os t.1 t.2) → PtrO w z (own ++ os) pt' q' ts
theorem PtrO.again {w : World} {pt' S : Nat} {q q' : PT} {ts : List (List Int × Nat)} {e : Nat} {t1 t2 t3 t4 : Tok} (e1 : q'.D = q.D) (e2 : q'.S = S) :
    PtrSame w ((pt', instObj 117 q'.dx) :: (q'.dx, pD w.params q') :: (S, tupO [.int 0 t1, .int 0 t2, .int 0 t3, .int 0 t4] e) :: []) pt' q q' ts := by
  subst e2
  rintro z os ⟨c, hc⟩ hk
  refine ⟨.head _, .tail _ (.head _), ⟨c, ?_⟩, fun t ht => (hk t ht).mono fun q hq => List.mem_append_right _ hq, ⟨_, _, _, _, _, .tail _ (.tail _ (.head _))⟩⟩
  rw [e1]
  exact hc.imp id fun h => List.mem_append_right _ h
section
variable {w : World} {d u : Nat} {fr : List Env} {R : Result → Shared → Prop} {s : Shared} {z : Heap} {p : Program} {loose : List Str} {mean : ExcName → Option Value} {mg mb : Str → Option Value}
set_option maxHeartbeats 8000000 in
theorem write_same {hp dh B G rr n pt : Nat} {q : PT} {ts : List (List Int × Nat)} {HT : HT} {xs : List Ent} {sec nxt wr lv tg fl : Int} {tn tw tb t1 t2 t3 t4 : Tok} {b : Array UInt8}
    (X : (hd0.heap_1 w.params).In z) (T : Top p loose mean mg mb z) (P : Pre z s.heap [(hp, instObj 190 dh), (dh, hD w.params HT B G sec nxt wr tn tw), (B, tD w xs n)])
    (K : KeysO w z [] xs) (PA : PtrAt w z pt q ts) (hbi : q.birth = tg) (hsz : q.size = (b.size : Int)) (hall : ∀ t ∈ ts, (atKey xs t.1).isSome = true) (hB : 292 < B) (hd : d ≤ 470) (hu : u ≤ 870) (hO : dh < hp ∧ hp < B)
    (hb : b.size ≤ 1000) (hsec : 4 ≤ sec ∧ sec ≤ 16) (hnx : 1 ≤ nxt ∧ nxt ≤ 100000) (hwr : 0 ≤ wr ∧ wr ≤ 10000) (hlen : xs.length + ts.length < 10000)
    (h : ∀ h' tk n' pt' q' own tw', Pre z h' ((hp, instObj 190 dh) :: (dh, hD w.params HT B G sec nxt (wr + 1) tn tw') :: (B, tD w (putX (.bytes b tb) xs ts) n') :: own) →
      PtrSame w own pt' q q' ts → q'.D = q.D → q' = ⟨q'.dx, q'.D, q'.S, 8, lv, b.size, 0, 0, tg, fl, 0, q'.k, q'.v⟩ → (∀ e ∈ own, s.heap.objs.size ≤ e.1) → R (.ok (.ret (.ref pt'))) { s with heap := h', toks := tk }) :
    codeAny (model PR w) (mkA d fr u) (.call (.ref 147) ⟨[.ref hp, .bytes b tb, .int 8 t1, .int lv t2, .ref rr, .int tg t3, .int fl t4, .ref pt], []⟩) R s := by
  refine enterZC X T P (by k_is) (by k_is) (by k_room) (binds_K (X.keeps P.stays) (by rfl) (by k_is) (by rfl) (by rfl) (by rfl)) (by rfl) (by decide +kernel) (by rfl) (by rfl) (by rfl) ?_
  intro L' h' tk' cells' F' N' Y' hL' hst'
  (try dsimp only); k_fold
  have l1' := allLt_of (d := L') (l := [(hp, instObj 190 dh), (dh, hD w.params HT B G sec nxt wr tn tw), (B, tD w xs n)]) fun q hq => hL' ▸ Heap.lt_size (P.led q hq).1
  simp only [AllLt, and_true] at l1'
  refine use_led hO l1'.2.2 fun P9 U9 q100 q101 q102 q103 q104 q105 q106 => ?_
  walk_at "cellsIn"
  rename_i oc2 dc1 dc2 _
  have PA0 := PA
  obtain ⟨pa1, pa2, ⟨pac, pa3⟩, pa4⟩ := PA0
  walk_at "goL"
  all_goals (try (exfalso; omega))
  rename Fr _ _ _ _ => F9
  rename News _ _ _ _ => N9
  obtain ⟨tw9, N10⟩ : ∃ tw9, News z L' _ ((L' + 1, oc2) :: (hp, instObj 190 dh) :: (dh, hD w.params HT B G sec nxt (wr + 1) tn tw9) :: (B, tD w xs n) :: []) := ⟨_, fun p hp => N9 p (by revert p; walk_at "subl")⟩
  clear N9
  refine For_invV z (by rfl) (by rfl) ?_
  walk_at "goL"
  refine iter_dva (σ := List Ent × Nat) (f := fun t : List Int × Nat => Value.ref t.2) (fun y => (L' + 1, oc2) :: (hp, instObj 190 dh) :: (dh, hD w.params HT B G sec nxt (wr + 1) tn tw9) :: (B, tD w y.1 y.2) :: [])
    (fun y rem => KeysO w z [] y.1 ∧ putX (.bytes b tb) y.1 rem = putX (.bytes b tb) xs ts ∧ y.1.length + rem.length < 10000 ∧ (∀ t ∈ rem, KeyO w z [] t.1 t.2)) (xs, _) rfl (by assumption) (by assumption) (.inl pa3) ⟨K, rfl, by dsimp only; omega, fun t ht => .inl (pa4 t ht)⟩ ?_ ?_
  · clear hlen hall
    intro t rem' y I it h₁ tk₁ hy hI hic F₁ N₁ hnI
    refine and4 hy fun K' e1 hlen hkt => ?_
    clear hy
    have ka := hkt t (.head _)
    have hI0 := ltN (hI (L' + 1, _) (.head _))
    dsimp only at hI0 N₁ hnI
    clear hI
    simp only [List.length_cons] at hlen
    walk_at "goL"
    refine dva_end (storedH y.1 t.1 t.2 (.bytes b tb), _) (by assumption) (by assumption) ?_ ⟨by assumption, e1, ?_, fun t' h => hkt t' (.tail _ h)⟩
    · k_all
    · have := storedH_len y.1 t.1 t.2 (.bytes b tb)
      dsimp only
      omega
  · intro d h₁ tk₁ y hy F₁ N₁
    have e1 : y.1 = putX (.bytes b tb) xs ts := hy.2.1
    rw [e1] at N₁
    walk_at "goL"
    rename News _ _ _ _ => N9
    rename _ = (_ : PT) => eq9
    have eD := congrArg PT.D eq9
    have eS := congrArg PT.S eq9
    dsimp only at eD eS
    refine h _ _ _ _ _ _ _ (leaveZ (mt := (hp, _) :: (dh, _) :: (B, _) :: (_, _) :: (_, _) :: (_, _) :: []) (by assumption) N9 (by walk_at "subl") (by assumption) P.size)
      (PtrO.again eD eS) eD (eq9.trans (by rw [eD, eS])) (by walk_at "sizes")
set_option maxHeartbeats 8000000 in
theorem write_no {hp dh B G rr n n2 pt : Nat} {q : PT} {t0 : List Int × Nat} {ts : List (List Int × Nat)} {HT : HT} {xs ys : List Ent} {sec nxt wr lv tg fl : Int} {tn tw tb t1 t2 t3 t4 : Tok} {b : Array UInt8} {g : Bool}
    (X : (hd0.heap_1 w.params).In z) (T : Top p loose mean mg mb z) (P : Pre z s.heap [(hp, instObj 190 dh), (dh, hD w.params HT B G sec nxt wr tn tw), (B, tD w xs n), (G, tD w ys n2)])
    (K : KeysO w z [] xs) (K2 : KeysO w z [] ys) (PA : PtrAt w z pt q (t0 :: ts)) (hbi : q.birth = tg) (hsz : q.size = (b.size : Int)) (hno : (atKey xs t0.1).isSome = false) (hg : (atKey ys t0.1).isSome = g) (hB : 292 < B) (hG : 292 < G) (hd : d ≤ 470) (hu : u ≤ 870) (FF : FFr z fr) (hO : dh < hp ∧ hp < B ∧ B < G)
    (hb : b.size ≤ 1000) (hsec : 4 ≤ sec ∧ sec ≤ 16) (hnx : 1 ≤ nxt ∧ nxt ≤ 100000) (hwr : 0 ≤ wr ∧ wr ≤ 10000)
    (h : ∀ h' tk v tw', Raised w.params z fr [(hp, instObj 190 dh), (dh, hD w.params HT B G sec nxt (wr + 1) tn tw'), (B, tD w xs n), (G, tD w ys n2)] 56 (goneStr g) v h' → R (.error v) { s with heap := h', toks := tk }) :
    codeAny (model PR w) (mkA d fr u) (.call (.ref 147) ⟨[.ref hp, .bytes b tb, .int 8 t1, .int lv t2, .ref rr, .int tg t3, .int fl t4, .ref pt], []⟩) R s := by
  refine enterZC X T P (by k_is) (by k_is) (by k_room) (binds_K (X.keeps P.stays) (by rfl) (by k_is) (by rfl) (by rfl) (by rfl)) (by rfl) (by decide +kernel) (by rfl) (by rfl) (by rfl) ?_
  intro L' h' tk' cells' F' N' Y' hL' hst'
  (try dsimp only); k_fold
  have l1' := allLt_of (d := L') (l := [(hp, instObj 190 dh), (dh, hD w.params HT B G sec nxt wr tn tw), (B, tD w xs n), (G, tD w ys n2)]) fun q hq => hL' ▸ Heap.lt_size (P.led q hq).1
  simp only [AllLt, and_true] at l1'
  refine use_led4 hO l1'.2.2.2 fun P9 U9 q100 q101 q102 q103 q104 q105 q106 q107 => ?_
  walk_at "cellsIn"
  have PA0 := PA
  obtain ⟨pa1, pa2, ⟨pac, pa3⟩, pa4⟩ := PA0
  walk_at "goL"
  all_goals (try (exfalso; omega))
  rename News _ _ _ _ => N9
  obtain ⟨tw9, rest9, tk0⟩ : ∃ tw9 rest9, TakeN N9 [(hp, instObj 190 dh), (dh, hD w.params HT B G sec nxt (wr + 1) tn tw9), (B, tD w xs n), (G, tD w ys n2)] rest9 := by
    refine mk2_1 ?_ ?_ ?t
    case t => (show Take _ _ _; walk_at "take")
  refine want_call_no (by assumption) (by assumption) X T tk0 rfl (by exact kind_ne) FF PA K K2 hno hg hB hG (by omega) (by omega) fun h'' tk v Rz => ?_
  walk_at "raisePass"
  any_goals (intro h'' Rz; exact h _ _ _ tw9 Rz)
  all_goals (intro q hq; exact .inl hq)
end

inductive FlS : List (Addr × Obj) → List (Addr × Obj) → Prop
  | nil : FlS [] []
  | cons {a : Addr} {o : Obj} {sl : Array (Option Value)} {fl fl' : List (Addr × Obj)} : FlS fl fl' → FlS ((a, o) :: fl) ((a, { o with slots := sl }) :: fl')
theorem FlS.refl : ∀ {fl : List (Addr × Obj)}, FlS fl fl
  | [] => .nil
  | (_, o) :: _ => .cons (sl := o.slots) FlS.refl
theorem FlS.adr {fl fl' : List (Addr × Obj)} (x : FlS fl fl') : fl'.map (·.1) = fl.map (·.1) := by
  induction x with
  | nil => rfl
  | cons _ ih => rw [List.map_cons, List.map_cons, ih]
theorem FlS.data {fl fl' : List (Addr × Obj)} (x : FlS fl fl') (h : ∀ q ∈ fl, ∀ vs, q.2.data ≠ .fields vs) : ∀ q ∈ fl', ∀ vs, q.2.data ≠ .fields vs := by
  induction x with
  | nil => exact h
  | cons _ ih =>
    intro q hq
    rcases List.mem_cons.mp hq with rfl | hq
    · exact fun vs => h _ (.head _) vs
    · exact ih (fun q hq => h q (.tail _ hq)) q hq
structure FrL (l : List Env) (fl : List (Addr × Obj)) : Prop where
  adr : fl.map (·.1) = frs l
  kind : ∀ env ∈ l, env.scope.kind ≠ .module ∧ ∃ L, env.frame = some L
  data : ∀ q ∈ fl, ∀ vs, q.2.data ≠ .fields vs
theorem FrL.turn {l : List Env} {fl fl' : List (Addr × Obj)} (x : FrL l fl) (y : FlS fl fl') : FrL l fl' := ⟨y.adr.trans x.adr, x.kind, y.data x.data⟩
theorem FrL.ffr {l : List Env} {fl : List (Addr × Obj)} {h : Heap} (x : FrL l fl) (k : ∀ q ∈ fl, h.get? q.1 = some q.2) : FFr h l := fun env he => by
  obtain ⟨a, L, hf⟩ := x.kind env he
  have hm : L ∈ frs l := List.mem_filterMap.mpr ⟨env, he, hf⟩
  rw [← x.adr] at hm
  refine ea1_2 (List.mem_map.mp hm) fun q hq rz2 => ?_
  subst rz2
  exact ⟨a, q.1, q.2, hf, k q hq, x.data q hq⟩
theorem FlS.of {h h' : Heap} : ∀ {fl : List (Addr × Obj)}, (∀ q ∈ fl, h.get? q.1 = some q.2) → FrS (fl.map (·.1)) h h' → ∃ fl', FlS fl fl' ∧ ∀ q ∈ fl', h'.get? q.1 = some q.2
  | [], _, _ => ⟨[], .nil, fun _ h => nomatch h⟩
  | (a, o) :: fl, k, x => by
    refine ea1_2 (FlS.of (fl := fl) (fun q hq => k q (.tail _ hq)) (x.mono fun b hb => .tail _ hb)) fun fl' y z => ?_
    obtain ⟨sl, e⟩ := x a (.head _) o (k _ (.head _))
    refine mk1_2 _ (.cons (sl := sl) y) (fun q hq => ?_)
    rcases List.mem_cons.mp hq with rfl | hq
    · exact e
    · exact z q hq
noncomputable def toldStr (C : Addr) (why : Str) : Str := if C = 44 then "corrupt: " ++ why else if C = 56 then "misused: " ++ why else "broken"
theorem Fly.keeps {P : Params} {B h h' : Heap} {l : List Env} {e C : Addr} {why : Str} {fl : Value} (x : Fly P B l e C why fl h) (k : ∀ b o, h.get? b = some o → h'.get? b = some o) : Fly P B l e C why fl h' := by
  obtain ⟨k0, f, xz9⟩ := x
  refine ea8_12 xz9 fun de vs sl T oT ts t1 t2 a1 a2 a3 a4 a5 a6 he h1 hT hd h3 hde => ?_
  clear xz9
  exact ⟨fun b o q => k b o (k0 b o q), f.of_keeps fun b o hb _ => ⟨o, k b o hb, rfl⟩, de, vs, sl, T, oT, ts, t1, t2, a1, a2, a3, a4, a5, a6, k _ _ he, h1, k _ _ hT, hd, h3, k _ _ hde⟩
theorem Fly.ty {M : Model} {P : Params} {B h : Heap} {l : List Env} {e C : Addr} {why : Str} {fl : Value} (x : Fly P B l e C why fl h) : Looks M h (typeOf (.ref e)) (.ref C) := by
  obtain ⟨k0, f, de, vs, sl, T, oT, ts, t1, t2, a1, a2, a3, a4, a5, a6, he, _⟩ := x
  exact (Looks.ld he).andThen .now
section
variable {prog : Program} {w : World} {A : Around} {E : Value → Shared → Prop} {s : Shared} {z B : Heap} {outer : List Env} {L a e C : Addr} {m : Str → Option Value} {name why : Str} {scope : Scope} {cd : Value} {P : Params}
  {n : Str} {nm : Option Str} {b₀ : Stmt} {suite body : List Stmt} {pos : Pos} {rest : List ExceptHandler} {Q : Flow → Shared → Prop} {KF : Frag} {tt : PySem.Expr} {p : Program} {loose : List Str} {mean : ExcName → Option Value} {mg mb : Str → Option Value}
theorem pass_h (F : Fr z L s.heap m) (X : KF.In z) (T : Top p loose mean mg mb z) (Y : Fly P B (envOf name scope L a cd :: outer) e C why .none s.heap) (Ts : KtsTest prog w KF p loose mg mb name scope L a cd (.ref C) tt false)
    (k : ∀ h', (∀ b o, s.heap.get? b = some o → h'.get? b = some o) → wpAny (model prog w) A (handleBy (.ref e) (envOf name scope L a cd) rest) Q E { s with heap := h' }) :
    wpAny (model prog w) A (handleBy (.ref e) (envOf name scope L a cd) (.ExceptHandler (some tt) nm body pos :: rest)) Q E s :=
  wpAny_handleBy_cons (codeAny_handlers_test (Ts _ _ _ _ z e m F X (topRead_of T) Y.ty fun h' kp => k h' kp)) (by intro q; cases q)
theorem hit_as (F : Fr z L s.heap m) (X : KF.In z) (T : Top p loose mean mg mb z) (Y : Fly P B (envOf name scope L a cd :: outer) e C why .none s.heap) (Ts : KtsTest prog w KF p loose mg mb name scope L a cd (.ref C) tt true)
    (k : ∀ h', Fly P B (envOf name scope L a cd :: outer) e C why .none h' → FrS (frs (envOf name scope L a cd :: outer)) s.heap h' →
      wpAny (model prog w) (A.mark (some (.ref e))) (storeName (envOf name scope L a cd) n (.ref e)) (fun _ s₂ => wpAny (model prog w) (A.mark (some (.ref e))) (execs (b₀ :: suite) (envOf name scope L a cd))
        (fun f s₄ => wpAny (model prog w) A (do bindName (envOf name scope L a cd) n .none; unbindBehindTheSuite (envOf name scope L a cd) n pos) (fun _ s₅ => Q f s₅) E s₄)
        (fun _ _ => False) s₂) (fun _ _ => False) { s with heap := h' }) :
    wpAny (model prog w) A (handleBy (.ref e) (envOf name scope L a cd) (.ExceptHandler (some tt) (some n) (b₀ :: suite) pos :: rest)) Q E s := by
  refine wpAny_handleBy_cons (codeAny_handlers_test (Ts _ _ _ _ z e m F X (topRead_of T) Y.ty fun h₅ kp => ?_)) (by intro q; cases q)
  refine codeAny_handlers_suite_as ?_
  refine setFlightX (Y.keeps kp) fun h₆ Y₆ S₆ => ?_
  refine wpAny_mono (k h₆ Y₆ (FrS.trans (fun b _ o q => ⟨o.slots, kp b o q⟩) S₆)) (fun _ s₂ h₂ => ?_) fun _ _ x => x.elim
  exact wpAny_mono h₂ (fun _ _ x => x) fun _ _ x => x.elim
theorem hit_0 (F : Fr z L s.heap m) (X : KF.In z) (T : Top p loose mean mg mb z) (Y : Fly P B (envOf name scope L a cd :: outer) e C why .none s.heap) (Ts : KtsTest prog w KF p loose mg mb name scope L a cd (.ref C) tt true)
    (k : ∀ h', Fly P B (envOf name scope L a cd :: outer) e C why .none h' → FrS (frs (envOf name scope L a cd :: outer)) s.heap h' →
      wpAny (model prog w) (A.mark (some (.ref e))) (execs (b₀ :: suite) (envOf name scope L a cd)) (fun f s₂ => Q f s₂) (fun _ _ => False) { s with heap := h' }) :
    wpAny (model prog w) A (handleBy (.ref e) (envOf name scope L a cd) (.ExceptHandler (some tt) none (b₀ :: suite) pos :: rest)) Q E s := by
  refine wpAny_handleBy_cons (codeAny_handlers_test (Ts _ _ _ _ z e m F X (topRead_of T) Y.ty fun h₅ kp => ?_)) (by intro q; cases q)
  refine codeAny_handlers_suite ?_
  refine setFlightX (Y.keeps kp) fun h₆ Y₆ S₆ => ?_
  exact wpAny_mono (k h₆ Y₆ (FrS.trans (fun b _ o q => ⟨o.slots, kp b o q⟩) S₆)) (fun _ s₂ h₂ => h₂) fun _ _ x => x.elim
end
theorem FlS.mem {fl fl' : List (Addr × Obj)} (x : FlS fl fl') {q : Addr × Obj} (hq : q ∈ fl') : ∃ q' ∈ fl, q'.1 = q.1 := by
  have : q.1 ∈ fl'.map (·.1) := List.mem_map_of_mem hq
  rw [x.adr] at this
  refine ea1_2 (List.mem_map.mp this) fun q' h1 h2 => ?_
  exact mk1_2 q' h1 h2
theorem caught {P : Params} {z h0 h B : Heap} {L e C : Addr} {m : Str → Option Value} {mt mt' fl : List (Addr × Obj)} {fr : List Env} {env : Env} {why : Str} (F : Fr z L h0 m) (Nm : News z L h0 mt) (Nf : News z L h0 fl) (FL : FrL fr fl) (hf : env.frame = some L)
    (hdis : ∀ q ∈ fl, ∀ p ∈ mt, p.1 ≠ q.1) (k1 : ∀ b o, (hid h0 mt).get? b = some o → b ∉ frs (env :: fr) → B.get? b = some o) (k2 : ∀ q ∈ mt', B.get? q.1 = some q.2 ∧ (hid h0 mt).get? q.1 = none)
    (Y : Fly P B (env :: fr) e C why .none h) (S : FrS (frs (env :: fr)) (hid h0 mt) h) :
    Fr z L h m ∧ ∃ fl' de vs sl t1 t2, FlS fl fl' ∧ News z L h ((e, ⟨.ref C, some de, .fields vs, sl⟩) :: (de, whyD P why t1 t2) :: (mt' ++ fl')) := by
  have hzL : z.get? L = none := Heap.get?_none_of_le F.above
  have hLm : L ∈ frs (env :: fr) := (frs_cons hf).mpr (.inl rfl)
  have flm : ∀ b, b ∈ frs fr → ∃ q ∈ fl, q.1 = b := fun b hb => by
    rw [← FL.adr] at hb
    refine ea1_2 (List.mem_map.mp hb) fun q h1 h2 => ?_
    exact mk1_2 q h1 h2
  have zB : ∀ b o, z.get? b = some o → B.get? b = some o := fun b o q => k1 b o (hid_base F Nm b o q) fun hb => by
    rcases (frs_cons hf).mp hb with r | hb
    · rw [r, hzL] at q; cases q
    · refine ea1_2 (flm b hb) fun x hx r => ?_
      rw [← r, (Nf x hx).2.2] at q; cases q
  refine ea3_3 (F.ns) fun oL es ep hL hd hr => ?_
  have hLz : (hid h0 mt).get? L = some oL := hid_of hL fun q hq r => (Nm q hq).2.1 r
  obtain ⟨sl0, hL'⟩ := S L hLm oL hLz
  have zn : ∀ b, B.get? b = none → z.get? b = none := fun b hb => by
    cases q : z.get? b with
    | none => rfl
    | some o => rw [zB b o q] at hb; cases hb
  refine ea1_2 (FlS.of (h := hid h0 mt) (h' := h) (fl := fl) (fun q hq => hid_of (Nf q hq).1 fun p hp => hdis q hq p hp) (S.mono fun b hb => by
    rw [FL.adr] at hb
    exact (frs_cons hf).mpr (.inr hb))) fun fl' x1 x2 => ?_
  have Y' := Y
  obtain ⟨kk, ff, xz9⟩ := Y'
  refine ea8_12 xz9 fun de vs sl T oT ts t1 t2 a1 a2 a3 a4 a5 a6 he h1 hT hdT h3 hde => ?_
  clear xz9
  refine ⟨⟨⟨_, es, ep, hL', hd, hr⟩, fun b o q => kk b o (zB b o q), F.above⟩, fl', de, vs, sl, t1, t2, x1, fun q hq => ?_⟩
  rcases List.mem_cons.mp hq with rfl | hq
  · exact mk0_3 he (fun r => not_frame ff he rfl (by rw [show e = L from r]; exact hLm)) (zn _ a1)
  rcases List.mem_cons.mp hq with rfl | hq
  · exact mk0_3 hde (fun r => a4 (by rw [show de = L from r]; exact hLm)) (zn _ a3)
  rcases List.mem_append.mp hq with hq | hq
  · refine mk0_3 (kk _ _ (k2 q hq).1) (fun r => ?_) (Pre.no_base F Nm (k2 q hq).2)
    have := (k2 q hq).2
    rw [r, hLz] at this; cases this
  · refine ea1_2 (x1.mem hq) fun q' h4 h5 => ?_
    exact ⟨x2 q hq, h5 ▸ (Nf q' h4).2⟩
theorem InstAt.of_exc {h₀ h : Heap} {L x C dx : Addr} {news : List (Addr × Obj)} {od : Obj} {vs : Array Value} {sl : Array (Option Value)} (N : News h₀ L h news) (h1 : (x, (⟨.ref C, some dx, .fields vs, sl⟩ : Obj)) ∈ news) (h2 : (dx, od) ∈ news) :
    InstAt h x ⟨.ref C, some dx, .fields vs, sl⟩ C (some od) := ⟨(N _ h1).1, rfl, rfl, (N _ h2).1⟩
theorem find_own {K : Frag} {C : Addr} {od : Obj} {name : Str} {v : Value} {cd : ClassData} (hc : clsIn K C = some cd) (hd : cd.hasDict = true) (hf : findIn K (.ref C) name = some none) (hl : lookIn name od = some (some v)) : findObj K C (some od) name = some (.value v) := by
  unfold findObj W.ownOf
  simp [hc, hf, hl, hd]
theorem look_why {P : Params} {why : Str} {t1 t2 : Tok} : lookIn "why" (whyD P why t1 t2) = some (some (.str why t2)) := rfl
example : True := by
  k_with "getAttr ref" => ((k_here; (with_reducible show wpAny _ _ (getAttr (Value.ref _) "why" _) _ _ _); k_dflt (refine' exc_get ?z211X ?z211I ?z211a ?z211b ?z211c (find_own ?z211d0 ?z211d1 ?z211d2 look_why) ?z211e ?_; (case z211X => k_in); (case z211I => exact InstAt.of_exc (by k_asm) (by k_mem) (by k_mem)); (case z211a => k_is); (case z211b => k_is); (case z211c => k_is); (case z211d0 => k_is); (case z211d1 => exact rfl); (case z211d2 => k_is); (case z211e => exact rfl))))
  trivial
section
variable {w : World} {d u : Nat} {fr : List Env} {R : Result → Shared → Prop} {s : Shared} {z : Heap} {p : Program} {loose : List Str} {mean : ExcName → Option Value} {mg mb : Str → Option Value}
noncomputable def CallEnds (w : World) (z : Heap) (l : List Env) (Ok : Value → List (Addr × Obj) → Prop) (Er : Addr → Str → List (Addr × Obj) → Prop) (s : Shared) (r : Result) (s' : Shared) : Prop :=
  (∃ v h' tk mt', r = .ok (.ret v) ∧ s' = { s with heap := h', toks := tk } ∧ Pre z h' mt' ∧ Ok v mt') ∨
  (∃ v h' tk mt' C why, r = .error v ∧ s' = { s with heap := h', toks := tk } ∧ (C = 44 ∨ C = 56 ∨ C = 68) ∧ why.length ≤ 100 ∧ Raised w.params z l mt' C why v h' ∧ Er C why mt')
theorem CallEnds.ok {w : World} {z : Heap} {l : List Env} {Ok : Value → List (Addr × Obj) → Prop} {Er : Addr → Str → List (Addr × Obj) → Prop} {s : Shared} (v : Value) (h' : Heap) (tk : Nat) (mt' : List (Addr × Obj)) (P : Pre z h' mt') (o : Ok v mt') : CallEnds w z l Ok Er s (.ok (.ret v)) { s with heap := h', toks := tk } :=
  .inl ⟨v, h', tk, mt', rfl, rfl, P, o⟩
theorem CallEnds.err {w : World} {z : Heap} {l : List Env} {Ok : Value → List (Addr × Obj) → Prop} {Er : Addr → Str → List (Addr × Obj) → Prop} {s : Shared} (v : Value) (h' : Heap) (tk : Nat) (mt' : List (Addr × Obj)) (C : Addr) (why : Str) (hC : C = 44 ∨ C = 56 ∨ C = 68) (hw : why.length ≤ 100) (Rz : Raised w.params z l mt' C why v h') (e : Er C why mt') : CallEnds w z l Ok Er s (.error v) { s with heap := h', toks := tk } :=
  .inr ⟨v, h', tk, mt', C, why, rfl, rfl, hC, hw, Rz, e⟩
set_option maxHeartbeats 8000000 in
theorem told_K {f : Addr} {mt fl : List (Addr × Obj)} (Ok : Value → List (Addr × Obj) → Prop) (Er : Addr → Str → List (Addr × Obj) → Prop)
    (X : (hd0.heap_1 w.params).In z) (T : Top p loose mean mg mb z) (P : Pre z s.heap (mt ++ fl)) (FL : FrL fr fl) (hfn : FnAt f z) (hdis : ∀ q ∈ fl, ∀ p ∈ mt, p.1 ≠ q.1) (hd : d ≤ 460) (hu : u ≤ 860)
    (hcall : ∀ (z' : Heap) (env : Env) (s' : Shared), (∀ b o, z.get? b = some o → z'.get? b = some o) → z.objs.size ≤ z'.objs.size → Pre z' s'.heap mt → FFr z' (env :: fr) → codeAny (model PR w) ((mkA d fr u).deeper env) (.call (.ref f) ⟨[], []⟩) (CallEnds w z' (env :: fr) Ok Er s') s')
    (hok : ∀ h' tk v mt' fl', FlS fl fl' → (∀ p ∈ fl, ∀ q ∈ mt', q.1 ≠ p.1) → Ok v mt' → Pre z h' (mt' ++ fl') → R (.ok (.ret v)) { s with heap := h', toks := tk })
    (her : ∀ h' tk C why mt' fl' t, FlS fl fl' → (∀ p ∈ fl, ∀ q ∈ mt', q.1 ≠ p.1) → Er C why mt' → Pre z h' (mt' ++ fl') → R (.ok (.ret (.str (toldStr C why) t))) { s with heap := h', toks := tk }) :
    codeAny (model PR w) (mkA d fr u) (.call (.ref 263) ⟨[.ref f], []⟩) R s := by
  refine enterZ (binds := [("call", .ref f)]) X T P (by k_is) (by k_is) (by k_room) (BindsTo.of_eq (by rfl)) (locs (by rfl)) (by rfl) (by rfl) (by rfl) (by decide) ?_
  intro L' h' tk' F' N' hL' hst'
  (try dsimp only); k_fold
  repeat' (first | (k_unfold; (try dsimp only)) | (dsimp only; k_unfold; (try dsimp only)) | ((fail_if_success (with_reducible show wpAny _ _ (PySem.exec (PySem.Stmt.Try _ _ _ _ _) _) _ _ _)); walk1))
  refine wpAny_Try_except ?_
  repeat' (first | (k_unfold; (try dsimp only)) | (dsimp only; k_unfold; (try dsimp only)) | ((fail_if_success (with_reducible show wpAny _ _ (PySem.callWith _ _ _ _ _) _ _ _)); first | walk1 | (dsimp only; walk1)))
  have hfn' : FnAt f h' := by
    refine ea4_1 (hfn) fun oc od fd sl e => ?_
    (try clear hfn)
    exact mk4_1 oc od fd sl (F'.keep _ _ e)
  refine callWith_F0 hfn' ?_
  have Nm : News z L' h' mt := fun q hq => N' q (List.mem_append_left _ hq)
  have Nf : News z L' h' fl := fun q hq => N' q (List.mem_append_right _ hq)
  have z0 : ∀ b o, z.get? b = some o → (hid h' mt).get? b = some o := hid_base F' Nm
  have fz : ∀ q ∈ fl, (hid h' mt).get? q.1 = some q.2 := fun q hq => hid_of (Nf q hq).1 fun p hp => hdis q hq p hp
  refine wpAny_call (codeAny_mono (hcall (hid h' mt) _ _ z0 (by rw [hid_size]; exact Nat.le_trans F'.above (Nat.le_of_lt F'.ns.lt)) (Pre.of Nm) ?_) fun r s₂ hr => ?_)
  · intro env he
    rcases List.mem_cons.mp he with rfl | he
    · refine ea3_3 (F'.ns) fun oL es ep hL hd _ => ?_
      exact ⟨kind_ne, L', oL, rfl, hid_of hL (fun q hq r => (Nm q hq).2.1 r), fun vs q => by rw [hd] at q; cases q⟩
    · exact FL.ffr fz env he
  have hfl := FL
  rcases hr with hr | hr
  · refine ea4_4 hr fun v h2 tk2 mt' e1 e2 P2 hO => ?_
    clear hr
    subst e1 e2
    have F2 := Pre.fr F' Nm P2
    have N2 := Pre.nws F' Nm P2 (rest := fl) (news := mt ++ fl) (fun q hq => ⟨List.mem_append_right _ hq, fun p hp => hdis q hq p hp⟩) N'
    exact hok _ _ v mt' fl FlS.refl (fun p hp q hq r => by have := (P2.led q hq).2; rw [r, fz p hp] at this; cases this) hO (leaveZ F2 N2 (fun q hq => hq) hL' P.size)
  · refine ea6_6 hr fun v h2 tk2 mt' C why e1 e2 hC hwl Rz hE => ?_
    clear hr
    subst e1 e2
    refine ea2_6 (Rz) fun e B rz2 k1 k2 k3 k4 k5 => ?_
    (try clear Rz)
    subst rz2
    show wpAny _ _ (noteFrame (.ref e) _) _ _ _
    refine noteX rfl rfl k3 fun h3 x1 x2 => ?_
    refine setFlightX x1 fun h4 y1 y2 => ?_
    have S4 := (k4.trans x2).trans y2
    clear x1 x2 y2 k3 k4
    have hoff : ∀ p ∈ fl, ∀ q ∈ mt', q.1 ≠ p.1 := fun p hp q hq r => by have := (k2 q hq).2; rw [r, fz p hp] at this; cases this
    have F4 := (caught F' Nm Nf FL rfl hdis k1 k2 y1 S4).1
    rcases hC with rfl | rfl | rfl
    · refine hit_as F4 X T y1 (by kts_test) fun h6 y6 S6 => ?_
      refine ea0_2 (caught F' Nm Nf FL rfl hdis k1 k2 y6 (S4.trans S6)) fun F6 cz9 => ?_
      refine ea6_2 cz9 fun fl' de vs sl t1 t2 x6 N6 => ?_
      clear cz9
      clear S4 y6 y1 S6 F4 k1 k2
      walk_at "go"
      exact her _ _ 44 why mt' fl' _ x6 hoff hE (leaveZ (by assumption) (by assumption) (fun q hq => .tail _ (.tail _ hq)) hL' P.size)
    · refine pass_h F4 X T y1 (by kts_test) fun h5 S5 => ?_
      have y5 := y1.keeps S5
      have S5' := S4.trans (fun b _ o q => ⟨o.slots, S5 b o q⟩ : FrS _ h4 h5)
      have F5 := (caught F' Nm Nf FL rfl hdis k1 k2 y5 S5').1
      clear y1 S4 F4
      refine hit_as F5 X T y5 (by kts_test) fun h6 y6 S6 => ?_
      refine ea0_2 (caught F' Nm Nf FL rfl hdis k1 k2 y6 (S5'.trans S6)) fun F6 cz9 => ?_
      refine ea6_2 cz9 fun fl' de vs sl t1 t2 x6 N6 => ?_
      clear cz9
      clear S5' y6 y5 S6 F5 k1 k2
      walk_at "go"
      exact her _ _ 56 why mt' fl' _ x6 hoff hE (leaveZ (by assumption) (by assumption) (fun q hq => .tail _ (.tail _ hq)) hL' P.size)
    · refine pass_h F4 X T y1 (by kts_test) fun h5 S5 => ?_
      have y5 := y1.keeps S5
      have S5' := S4.trans (fun b _ o q => ⟨o.slots, S5 b o q⟩ : FrS _ h4 h5)
      have F5 := (caught F' Nm Nf FL rfl hdis k1 k2 y5 S5').1
      clear y1 S4 F4
      refine pass_h F5 X T y5 (by kts_test) fun h6 S6 => ?_
      have y6 := y5.keeps S6
      have S6' := S5'.trans (fun b _ o q => ⟨o.slots, S6 b o q⟩ : FrS _ h5 h6)
      have F6 := (caught F' Nm Nf FL rfl hdis k1 k2 y6 S6').1
      clear y5 S5' F5
      refine hit_0 F6 X T y6 (by kts_test) fun h7 y7 S7 => ?_
      refine ea0_2 (caught F' Nm Nf FL rfl hdis k1 k2 y7 (S6'.trans S7)) fun F7 cz9 => ?_
      refine ea6_2 cz9 fun fl' de vs sl t1 t2 x7 N7 => ?_
      clear cz9
      clear S6' y6 y7 S7 F6 k1 k2
      walk_at "go"
      exact her _ _ 68 why mt' fl' _ x7 hoff hE (leaveZ F7 N7 (fun q hq => .tail _ (.tail _ hq)) hL' P.size)
end

noncomputable def RawD (h : Heap) (d : Addr) (es : Array DictEntry) (ep : Nat) : Prop := ∃ o, h.get? d = some o ∧ o.ExactDict ∧ o.data = .dict es ep
theorem RawD.at {h h' : Heap} {d : Addr} {es : Array DictEntry} {ep : Nat} (x : RawD h d es ep) (e : ∀ o, h.get? d = some o → h'.get? d = some o) : RawD h' d es ep := let ⟨o, a, r⟩ := x; ⟨o, e o a, r⟩
theorem RawD.typeIs {s : Shared} {d : Addr} {es : Array DictEntry} {ep : Nat} (x : RawD s.heap d es ep) : s.TypeIs (.ref d) "dict" := let ⟨o, a, c, _⟩ := x; ⟨o, a, c.1⟩
section
variable {prog : Program} {w : World} {A : Around} {E : Value → Shared → Prop} {s : Shared} {es : Array DictEntry} {ep : Nat} {d it : Addr}
open PySem.F in
theorem pyIter_rawD {Q : Value → Shared → Prop} (hd : (d == sysModules) = false) (hm : RawD s.heap d es ep)
    (hQ : Q (.ref s.heap.objs.size) { s with heap := s.heap.push { cls := .type "dict_keyiterator", data := .fields #[.ref d, .int 0 0, .int es.size 0, .int ep 0] } }) :
    wpAny (model prog w) A (pyIter (.ref d)) Q E s := by
  have hT := hm.typeIs
  refine ea1_3 (hm) fun o ho hc hdat => ?_
  (try clear hm)
  refine wpAny_pyIter_slot hT slot_dict_iter (wpAny_call_entry slot_dict_iter hT entry_dict_iter ?_ (args_dict_iter_1 _))
  unfold Builtin.«dict.__iter__»
  refine wpAny_bind ?_
  unfold Builtin.Dict.dictSlotNone
  refine wpAny_bind (wpAny_notOrdered_dict hT ?_)
  show wpAny _ _ (pure (Value.ref d)) _ _ s
  refine wpAny_pure ?_
  show wpAny _ _ (Builtin.Dict.showsAll d >>= _) _ _ s
  unfold Builtin.Dict.showsAll
  rw [if_neg (by rw [hd]; exact Bool.false_ne_true)]
  refine wpAny_bind (wpAny_pure ?_)
  refine wpAny_bind (wpAny_dictEntries ho hdat ?_)
  refine wpAny_bind (wpAny_dictEpoch ho hdat ?_)
  refine wpAny_bind (wpAny_newObj_type (wpAny_pure ⟨_, rfl, "dict_keyiterator", _, ⟨_, Heap.get?_push_size _ rfl, rfl⟩, slot_dict_keyiterator_next.lookup, ?_⟩))
  simpa [rawInt] using hQ
open PySem.F in
theorem pyNext_rawD {i : Nat} {e : DictEntry} {Q : Option Value → Shared → Prop} (hit : s.heap.IsKeyIter it d i es.size ep) (hm : RawD s.heap d es ep) (hx : es[i]? = some e)
    (hQ : ∀ h', h'.IsKeyIter it d (i + 1) es.size ep → Heap.SameBut it s.heap h' → Q (some e.key) { s with heap := h' }) :
    wpAny (model prog w) A (pyNext (.ref it)) Q E s := by
  refine ea1_3 (id hit) fun o ho hc hd => ?_
  refine ea1_3 (id hm) fun od hod hcd hdd => ?_
  unfold pyNext
  refine wpAny_bind (wpAny_attempt (wpAny_callSpecial?_slot (name := Str.ofString "__next__") hit.typeIs slot_dict_keyiterator_next
    (wpAny_call_entry slot_dict_keyiterator_next hit.typeIs entry_dict_keyiterator_next ?_ (args_dict_keyiterator_next_1 _))))
  refine wpAny_bind (wpAny_pure ?_)
  refine wpAny_bind ?_
  refine wpAny_bind ?_
  first | refine wpAny_bind (wpAny_typeNameOfWhole_keyiter hit.typeIs (wpAny_pure ?_)) | refine wpAny_bind (wpAny_typeNameOf_keyiter hit.typeIs (wpAny_pure ?_))
  refine wpAny_bind (wpAny_fieldsOf ho hd ?_)
  have hown : Builtin.Dict_items.ownsTuple "dict_keyiterator" = false := by decide
  rw [hown, if_neg Bool.false_ne_true]
  show wpAny _ _ (if (Value.ref d == Value.none) = true then _ else _) _ _ s
  rw [if_neg (show ¬ ((Value.ref d == Value.none) = true) from Bool.false_ne_true)]
  refine wpAny_bind (wpAny_pure ?_)
  refine wpAny_bind (wpAny_dictEntries hod hdd ?_)
  rw [if_neg (by simp)]
  refine wpAny_bind (wpAny_pure ?_)
  refine wpAny_bind (wpAny_dictEpoch hod hdd ?_)
  rw [if_neg (by simp)]
  refine wpAny_pure ?_
  dsimp only
  rw [if_neg (Int.not_lt.mpr (Int.natCast_nonneg i)), Int.toNat_natCast, hx]
  dsimp only
  refine wpAny_bind ?_
  first | refine wpAny_bind (wpAny_typeNameOfWhole_keyiter hit.typeIs (wpAny_pure ?_)) | refine wpAny_bind (wpAny_typeNameOf_keyiter hit.typeIs (wpAny_pure ?_))
  refine wpAny_bind (wpAny_isOneOf_keyiter hit.typeIs ?_)
  show wpAny _ _ (setField (.ref it) 1 (rawInt ((i : Int) + 1)) >>= _) _ _ s
  refine wpAny_bind (wpAny_setField ho hd (by simp) ?_)
  have hit' : (s.heap.update it (Obj.mapFields (·.setIfInBounds 1 (rawInt ((i : Int) + 1))))).IsKeyIter it d (i + 1) es.size ep :=
    ⟨_, Heap.get?_update_self _ ho (Obj.isFreed_of_fields (Obj.data_mapFields hd _)), (Obj.cls_mapFields ..).trans hc, by rw [Obj.data_mapFields hd]; simp [rawInt]⟩
  refine wpAny_bind (wpAny_holding ?_)
  refine wpAny_bind (wpAny_isOneOf_keyiter (s := { s with heap := s.heap.update it (Obj.mapFields (·.setIfInBounds 1 (rawInt ((i : Int) + 1)))) }) hit'.typeIs ?_)
  show wpAny _ _ (pure e.key) _ _ _
  exact wpAny_pure (wpAny_pure ⟨_, rfl, wpAny_pure (hQ _ hit' (Heap.SameBut.update ..))⟩)
open PySem.F in
theorem pyNext_rawD_end {i : Nat} {Q : Option Value → Shared → Prop} (hh : A.handled = none) (hit : s.heap.IsKeyIter it d i es.size ep) (hm : RawD s.heap d es ep) (hge : es.size ≤ i)
    (hQ : ∀ h', Heap.ExtBut it s.heap h' → Q none { s with heap := h' }) : wpAny (model prog w) A (pyNext (.ref it)) Q E s := by
  refine ea1_3 (id hit) fun o ho hc hd => ?_
  refine ea1_3 (id hm) fun od hod hcd hdd => ?_
  unfold pyNext
  refine wpAny_bind (wpAny_attempt (wpAny_callSpecial?_slot (name := Str.ofString "__next__") hit.typeIs slot_dict_keyiterator_next
    (wpAny_call_entry slot_dict_keyiterator_next hit.typeIs entry_dict_keyiterator_next ?_ (args_dict_keyiterator_next_1 _))))
  refine wpAny_bind (wpAny_pure ?_)
  refine wpAny_bind ?_
  refine wpAny_bind ?_
  first | refine wpAny_bind (wpAny_typeNameOfWhole_keyiter hit.typeIs (wpAny_pure ?_)) | refine wpAny_bind (wpAny_typeNameOf_keyiter hit.typeIs (wpAny_pure ?_))
  refine wpAny_bind (wpAny_fieldsOf ho hd ?_)
  have hown : Builtin.Dict_items.ownsTuple "dict_keyiterator" = false := by decide
  rw [hown, if_neg Bool.false_ne_true]
  show wpAny _ _ (if (Value.ref d == Value.none) = true then _ else _) _ _ s
  rw [if_neg (show ¬ ((Value.ref d == Value.none) = true) from Bool.false_ne_true)]
  refine wpAny_bind (wpAny_pure ?_)
  refine wpAny_bind (wpAny_dictEntries hod hdd ?_)
  rw [if_neg (by simp)]
  refine wpAny_bind (wpAny_pure ?_)
  refine wpAny_bind (wpAny_dictEpoch hod hdd ?_)
  rw [if_neg (by simp)]
  refine wpAny_pure ?_
  dsimp only
  rw [if_neg (Int.not_lt.mpr (Int.natCast_nonneg i)), Int.toNat_natCast, Array.getElem?_eq_none hge]
  dsimp only
  refine wpAny_bind ?_
  first | refine wpAny_bind (wpAny_typeNameOfWhole_keyiter hit.typeIs (wpAny_pure ?_)) | refine wpAny_bind (wpAny_typeNameOf_keyiter hit.typeIs (wpAny_pure ?_))
  show wpAny _ _ (setField (.ref it) 0 .none >>= _) _ _ s
  refine wpAny_bind (wpAny_setField ho hd (by simp) ?_)
  show wpAny _ _ (newExc (.type "StopIteration") [] >>= _) _ _ _
  refine wpAny_bind ?_
  simp only [newExc, newTuple]
  refine wpAny_bind (wpAny_newObj_type ?_ (by size_fits))
  refine wpAny_bind (m := firstArgMember _ _) (wpAny_of_eq (a := Value.none) (by first | rfl | (simp only [firstArgMember]; rfl)) ?_)
  refine wpAny_newObj_type ?_ (by size_fits)
  simp only [raiseNew]
  refine wpAny_bind (wpAny_handled ?_)
  rw [show A.in1.handled = none from hh]
  refine wpAny_bind (wpAny_pure (wpAny_throw ?_))
  refine wpAny_bind (wpAny_isInstance (T := "StopIteration") (b := true) ⟨_, Heap.get?_push_size _ rfl, rfl⟩ isSubtype_stop ?_)
  exact wpAny_pure (hQ _ (((Heap.SameBut.update ..).extBut.push _).push _))
theorem Walks.rawD (hh : A.handled = none) (I d : Addr) (hne : d ≠ I) (es : Array DictEntry) (ep : Nat) :
    Walks prog w A I [I, d] [I] es.size (fun i v => ∃ e, es[i]? = some e ∧ v = e.key) (fun i h => h.IsKeyIter I d i es.size ep ∧ RawD h d es ep) where
  sub := fun b hb => by simp at hb; simp [hb]
  frame := fun _ _ _ st hk => ⟨st.1.at fun o e => hk I (by simp) o e, st.2.at fun o e => hk d (by simp) o e⟩
  item := fun i s Q E hi st hQ => by
    obtain ⟨e, hx⟩ : ∃ e, es[i]? = some e := ⟨es[i], by simp [hi]⟩
    refine pyNext_rawD st.1 st.2 hx fun h' hit' hs' => ?_
    exact hQ e.key h' s.toks ⟨e, hx, rfl⟩ ⟨hit', st.2.at fun o e => hs'.extBut d o hne e⟩ fun b o hb e => hs'.extBut b o (fun h => hb (by simp [h])) e
  done := fun s Q E st hQ => pyNext_rawD_end hh st.1 st.2 (Nat.le_refl _) fun h' he' => hQ h' s.toks fun b o hb e => he' b o (fun h => hb (by simp [h])) e
  self := fun _ _ _ _ st hQ => wpAny_pyIter_keyiter st.1 hQ
theorem rawD_tD {w : World} {xs : List Ent} {n : Nat} {h : Heap} (e : h.get? d = some (tD w xs n)) : RawD h d (xs.map (entryOfKey (tupleKind (intKind PR w)))).toArray n := ⟨_, e, ⟨rfl, rfl, rfl⟩, rfl⟩
theorem letOwned_plain {elts : List PySem.Expr} {x1} {pos : Pos} {I T : Addr} {n : String} {vs : Array Value} {o : Obj} {Q : Unit → Shared → Prop} (ho : s.heap.get? I = some o) (hc : o.cls = .type n) (hd : o.data = .fields vs)
    (hn : ["enumerate", "zip", "dict_itemiterator", "dict_reverseitemiterator", "odict_iterator", "itertools.zip_longest", "itertools.pairwise"].contains n = false) (hQ : Q () s) :
    wpAny (model prog w) A (letOwnedTupleGo (.Tuple elts x1 pos) (.ref I) (.ref T)) Q E s := by
  unfold letOwnedTupleGo
  refine wpAny_bind (wpAny_load ho ?_)
  rw [hc, hd]
  simp only [hn, Bool.false_and, Bool.false_eq_true, if_false]
  exact wpAny_pure hQ
end

open LCg in
section
variable {prog : Program} {w : World} {A : Around} {E : Value → Shared → Prop} {s : Shared} {h₀ : Heap} {L : Addr} {m : Str → Option Value} {env : Env}
theorem asg3 {env : Env} {a b c : Str} {pa pb pc tp : Pos} {kk : Nat} {T : Addr} {x y v : Value} {m : Str → Option Value} {Q : Unit → Shared → Prop} (hh : A.handled = none) (ht : s.heap.IsTuple T #[x, y, v])
    (ha : env.kindOf a = some .local) (hb : env.kindOf b = some .local) (hc : env.kindOf c = some .local) (hp : (env.scope.kind == .class || (env.scope.kind == .module && env.locals != env.globals)) = false) (hn : s.heap.Ns env.locals m)
    (h : ∀ (h' : Heap) (tk : Nat) (m' : Str → Option Value), h'.Ns env.locals m' → m' c = some v → (∀ q o, q ≠ env.locals → s.heap.get? q = some o → h'.get? q = some o) → Q () { s with heap := h', toks := tk }) :
    wpAny (model prog w) A (assign (.Tuple [.Name a pa, .Name b pb, .Name c pc] kk tp) env (.ref T)) Q E s := by
  refine wpAny_assign_Tuple hh ht rfl rfl fun h₁ he₁ => ?_
  have hL : env.locals ≠ s.heap.objs.size := Nat.ne_of_lt hn.lt
  have hn₁ : h₁.Ns env.locals m := hn.at' fun o e => he₁ _ o hL e
  have up₁ : ∀ c o, s.heap.get? c = some o → h₁.get? c = some o := fun c o e => he₁ c o (Nat.ne_of_lt (Heap.lt_size e)) e
  show wpAny _ _ (assignInOrder [assign (.Name a pa) env, assign (.Name b pb) env, assign (.Name c pc) env] [x, y, v]) _ _ _
  refine assignInOrder_cons ?_
  refine wpAny_assign_Name (wpAny_storeName_local ha hn₁ (fun h₂ hn₂ hs₂ => ?_) hp)
  refine assignInOrder_cons ?_
  refine wpAny_assign_Name (wpAny_storeName_local hb hn₂ (fun h₃ hn₃ hs₃ => ?_) hp)
  refine assignInOrder_cons ?_
  refine wpAny_assign_Name (wpAny_storeName_local hc hn₃ (fun h₄ hn₄ hs₄ => ?_) hp)
  refine assignInOrder_nil ?_
  exact h h₄ _ _ hn₄ (by simp) fun c o hc e => hs₄.extBut c o hc (hs₃.extBut c o hc (hs₂.extBut c o hc (up₁ c o e)))

structure Three (prog : Program) (w : World) (A : Around) (h₀ : Heap) (L I : Addr) (m : Str → Option Value) (news : List (Addr × Obj)) (vals : List Int) (h : Heap) : Prop where
  fr : Fr h₀ L h m
  nws : News h₀ L h news
  ne : L ≠ I
  base : h₀.get? I = none
  off : ∀ p ∈ news, p.1 ≠ I
  walks : ∃ (fp : List Addr) (P : Nat → Value → Prop) (St : Nat → Heap → Prop), Walks prog w A I fp [I] vals.length P St ∧ St 0 h ∧ (∀ b ∈ fp, b < h.objs.size) ∧
    (∀ i h, St i h → ∃ o n vs, h.get? I = some o ∧ o.cls = .type n ∧ o.data = .fields vs ∧ ["enumerate", "zip", "dict_itemiterator", "dict_reverseitemiterator", "odict_iterator", "itertools.zip_longest", "itertools.pairwise"].contains n = false) ∧
    (∀ i v, i < vals.length → P i v → ∃ (T : Nat) (x y : Value) (k : Int) (t : Tok), v = .ref T ∧ vals[i]? = some k ∧ ∀ h', (∀ b o, h₀.get? b = some o → h'.get? b = some o) → News h₀ L h' news → h'.IsTuple T #[x, y, .int k t])
theorem block3 {iter : PySem.Expr} {a b c : Str} {pa pb pc pe tp : Pos} {kk : Nat} {scope : Scope} {cl : List (Str × Addr)} {pos : Pos} {s₂ : Shared} {I : Addr} {vals : List Int} {news : List (Addr × Obj)} {RR : Value → Addr → Result → Shared → Prop}
    (hh : A.handled = none) (T3 : Three prog w A h₀ L I m news vals s₂.heap) (hsz : vals.length ≤ sizeLine) (hIlt : I < s₂.heap.objs.size)
    (hcell : ∀ y ∈ scope.names, y.2 ≠ .cell) (hkind : scope.kind = .function) (hxa : scope.names.lookup a = some .local) (hxb : scope.names.lookup b = some .local) (hxc : scope.names.lookup c = some .local) (hdb : (c == ("__debug__" : Str)) = false)
    (hRR : ∀ D C h tk m' ys, Fr h₀ L h m → News h₀ L h ((D, lst ys) :: news) → (∀ p ∈ news, p.1 < D) → h.Ns C m' → h₀.get? C = none → h₀.get? D = none → C ≠ L → D ≠ L → C ≠ D → (∀ p ∈ news, p.1 ≠ C) → IntsAre ys vals → RR (.ref D) C (.ok .next) { s₂ with heap := h, toks := tk }) :
    wpAny (model prog w) A (newList []) (fun acc s₃ => wpAny (model prog w) A (newFunctionEnv scope env.globals cl [] env.qual none .none (some env)) (fun cenv s₄ =>
      codeAny (model prog w) A (.compStart (.ListComp (.Name c pe) [⟨.Tuple [.Name a pa, .Name b pb, .Name c pc] kk tp, iter, [], 0⟩] scope pos) 0 (.ref I) acc { cenv with scope := relabel scope env }) (RR acc cenv.locals) s₄) E s₃) E s₂ := by
  obtain ⟨F, N, hIL, hI₀, off, wz9⟩ := T3
  refine ea3_5 wz9 fun fp P St W hst hfp hIo hP => ?_
  clear wz9
  refine wpAny_newObj_type (wpAny_newFunctionEnv hcell (by intro y hy; simp at hy) (fun h₁ hns₁ hsb₁ => ?_) hkind)
  dsimp only at hns₁ hsb₁ ⊢
  generalize hH2 : s₂.heap.push { cls := .type "list", dict := none, data := .seq ([] : List Value).toArray } = H2 at hns₁ hsb₁ ⊢
  have hC : H2.objs.size = s₂.heap.objs.size + 1 := by rw [← hH2, Heap.size_push]
  have hDC : s₂.heap.objs.size ≠ H2.objs.size := by rw [hC]; exact Nat.ne_of_lt (Nat.lt_succ_self _)
  have below : ∀ b, b < s₂.heap.objs.size → b ≠ H2.objs.size ∧ b ≠ s₂.heap.objs.size := fun b hb => ⟨by rw [hC]; exact Nat.ne_of_lt (Nat.lt_succ_of_lt hb), Nat.ne_of_lt hb⟩
  have old : ∀ b o, s₂.heap.get? b = some o → h₁.get? b = some o := fun b o e => hsb₁.extBut b o (below b (Heap.lt_size e)).1 (Heap.get?_push_of_some _ (hH2 ▸ Heap.get?_push_of_some _ e))
  have hacc : h₁.get? s₂.heap.objs.size = some (lst []) := hsb₁.extBut _ _ hDC (Heap.get?_push_of_some _ (hH2 ▸ Heap.get?_push_size _ rfl))
  have hst₁ : St 0 h₁ := W.frame _ _ _ hst fun b _ o e => old b o e
  have fresh : ∀ a, s₂.heap.objs.size ≤ a → s₂.heap.get? a = none := fun a ha => by
    cases e : s₂.heap.get? a with
    | none => rfl
    | some o' => exact absurd (Heap.lt_size e) (Nat.not_lt.mpr ha)
  have fresh₀ : ∀ a, s₂.heap.objs.size ≤ a → h₀.get? a = none := fun a ha => by
    cases e : h₀.get? a with
    | none => rfl
    | some o' => have := F.keep a o' e; rw [fresh a ha] at this; cases this
  have hD₀ : h₀.get? s₂.heap.objs.size = none := fresh₀ _ (Nat.le_refl _)
  have hC₀ : h₀.get? H2.objs.size = none := fresh₀ _ (by rw [hC]; exact Nat.le_succ _)
  have hLlt : L < s₂.heap.objs.size := F.ns.lt
  have hDL : s₂.heap.objs.size ≠ L := Ne.symm (below L hLlt).2
  have hCL : H2.objs.size ≠ L := Ne.symm (below L hLlt).1
  have hCI : I ≠ H2.objs.size := (below I hIlt).1
  have hDI : I ≠ s₂.heap.objs.size := (below I hIlt).2
  have hDf : s₂.heap.objs.size ∉ fp := fun hm => Nat.lt_irrefl _ (hfp _ hm)
  have hCf : H2.objs.size ∉ fp := fun hm => by have := hfp _ hm; rw [hC] at this; exact Nat.lt_irrefl _ (Nat.lt_of_succ_lt this)
  have hltD : ∀ p ∈ news, p.1 < s₂.heap.objs.size := fun p hp => Heap.lt_size (N p hp).1
  have loop : ∀ s₃ : Shared, s₃ = { s₂ with heap := h₁, toks := s₂.toks + ([] : List (Str × Value)).length } →
      codeAny (model prog w) A (.compLoop (.ListComp (.Name c pe) [⟨.Tuple [.Name a pa, .Name b pb, .Name c pc] kk tp, iter, [], 0⟩] scope pos) 0 (.ref I) (.ref s₂.heap.objs.size) (compEnvC scope cl H2.objs.size env))
        (RR (.ref s₂.heap.objs.size) H2.objs.size) s₃ := by
    rintro s₃ rfl
    refine kcp_loop
      (fun k s' => ∃ h' tk i ys m', s' = { s₂ with heap := h', toks := tk } ∧ i ≤ vals.length ∧ k = vals.length + 1 - i ∧ IntsAre ys (vals.take i) ∧ St i h' ∧ Fr h₀ L h' m ∧ h'.Ns H2.objs.size m' ∧
        News h₀ L h' ((s₂.heap.objs.size, lst ys) :: news)) ?_ (vals.length + 1)
      (mk5_8 h₁ _ 0 [] _ rfl (Nat.zero_le _) rfl .nil hst₁ (F.keeps old) hns₁ fun p hp => ?_)
    · intro k s' iz9
      refine ea5_8 iz9 fun h' tk i ys m' rz5 hi rz7 hys hst' F' hn' N' => ?_
      clear iz9
      subst rz5
      subst rz7
      by_cases hlt : i < vals.length
      · refine W.item i _ _ _ hlt hst' fun v h₂ tk₂ hPv hst₂ hk₂ => ?_
        refine ea5_3 (hP i v hlt hPv) fun T x y kv t rz5 hkv hT => ?_
        subst rz5
        refine ea3_4 (hIo _ _ hst₂) fun oI n vs hoI hoc hod hon => ?_
        refine letOwned_plain hoI hoc hod hon ?_
        have F₂ : Fr h₀ L h₂ m := fr_but F' hk₂ hIL hI₀
        have N₂ : News h₀ L h₂ ((s₂.heap.objs.size, lst ys) :: news) := news_but N' hk₂ fun p hp => by
          rcases List.mem_cons.mp hp with rfl | hp
          · exact Ne.symm hDI
          · exact off p hp
        have hT₂ := hT h₂ F₂.keep fun p hp => N₂ p (.tail _ hp)
        refine asg3 (env := compEnvC scope cl H2.objs.size env) hh hT₂ (lookup_relabel_local hxa) (lookup_relabel_local hxb) (lookup_relabel_local hxc) (by simp [compEnvC, relabel, hkind]) (hn'.at' fun o e => hk₂ _ o (by simpa using Ne.symm hCI) e) fun h₄ tk₄ m₄ hn₄ hm₄ hs₄ => ?_
        refine ldVarK hn₄ hm₄ ?_ (by simp [compEnvC, relabel, hkind]) (lookup_relabel_local hxc) hdb
        have up : ∀ c o, c ≠ I → c ≠ H2.objs.size → h'.get? c = some o → h₄.get? c = some o := fun c o h1 h2 e => hs₄ c o h2 (hk₂ c o (by simpa using h1) e)
        have F₄ : Fr h₀ L h₄ m := ⟨F'.ns.at' fun o e => up _ o hIL (Ne.symm hCL) e, fun c o e => up c o (fun q => by rw [q, hI₀] at e; cases e) (fun q => by rw [q, hC₀] at e; cases e) (F'.keep c o e), F'.above⟩
        have N₄ : News h₀ L h₄ ((s₂.heap.objs.size, lst ys) :: news) := fun p hp => by
          refine ⟨hs₄ _ _ ?_ (N₂ p hp).1, (N₂ p hp).2⟩
          rcases List.mem_cons.mp hp with rfl | hp
          · exact hDC
          · exact (below _ (hltD p hp)).1
        have hst₄ : St (i + 1) h₄ := W.frame _ _ _ hst₂ fun b hb o e => hs₄ b o (fun q => hCf (by have q' : b = H2.objs.size := q; rw [← q']; exact hb)) e
        have hyl := hys.length
        refine append_at (hsz := by show ys.toArray.size ≤ sizeLine; rw [List.size_toArray]; rw [List.length_take] at hyl; omega) (N₄ _ (.head _)).1 fun h₅ hs₅ hD₅ => ?_
        refine mk1_2 (vals.length + 1 - (i + 1)) (kcp_lt hlt) (mk5_8 h₅ _ (i + 1) (ys ++ [.int kv t]) m₄ rfl hlt rfl ?_ (W.frame _ _ _ hst₄ fun b hb o e => hs₅.extBut b o (fun q => hDf (q ▸ hb)) e) (F₄.change hs₅ hDL hD₀) (hn₄.sameBut hs₅ (Ne.symm hDC)) fun p hp => ?_)
        · rw [List.take_add_one, hkv]
          exact IntsAre.append hys (.cons kv t .nil)
        · rcases List.mem_cons.mp hp with rfl | hp
          · exact mk0_3 (hD₅.trans (congrArg some (lst_snoc ys _))) hDL hD₀
          · exact ⟨hs₅.extBut _ _ (Nat.ne_of_lt (hltD p hp)) (N₄ p (.tail _ hp)).1, (N₄ p (.tail _ hp)).2⟩
      · obtain rfl : i = vals.length := Nat.le_antisymm hi (Nat.not_lt.mp hlt)
        rw [List.take_length] at hys
        refine W.done _ _ _ hst' fun h₂ tk₂ hk₂ => ?_
        exact hRR _ _ h₂ tk₂ _ ys (fr_but F' hk₂ hIL hI₀) (news_but N' hk₂ fun p hp => by
          rcases List.mem_cons.mp hp with rfl | hp
          · exact Ne.symm hDI
          · exact off p hp) hltD (hn'.at' fun o e => hk₂ _ o (by simpa using Ne.symm hCI) e) hC₀ hD₀ hCL hDL (Ne.symm hDC) (fun p hp => (below _ (hltD p hp)).1) hys
    · rcases List.mem_cons.mp hp with rfl | hp
      · exact mk0_3 hacc hDL hD₀
      · exact ⟨old _ _ (N p hp).1, (N p hp).2⟩
  exact codeAny_compStart_list (loop _ rfl) (W.self 0 _ _ _ hst₁ (loop _ rfl))
noncomputable def Src3 (prog : Program) (w : World) (A : Around) (h₀ : Heap) (L : Addr) (m : Str → Option Value) (E : Value → Shared → Prop) (Fin : List Value → List Int → List (Addr × Obj) → Addr → Shared → Prop) (xv : Value) (s₁ : Shared) : Prop :=
  ∃ (vals : List Int) (news : List (Addr × Obj)), vals.length ≤ sizeLine ∧ wpAny (model prog w) A (pyIter xv) (fun it s₂ => ∃ I h tk, it = .ref I ∧ s₂ = { s₁ with heap := h, toks := tk } ∧ I < h.objs.size ∧ Three prog w A h₀ L I m news vals h ∧
    ∀ ys D h' tk', IntsAre ys vals → Fr h₀ L h' m → News h₀ L h' ((D, lst ys) :: news) → (∀ p ∈ news, p.1 < D) → Fin ys vals news D { s₁ with heap := h', toks := tk' }) E s₁
theorem ListComp_3 {iter : PySem.Expr} {a b c : Str} {pa pb pc pe tp : Pos} {kk : Nat} {scope : Scope} {cl : List (Str × Addr)} {pos : Pos} {Q : Value → Shared → Prop} (_F₀ : Fr h₀ L s.heap m) (hh : A.handled = none)
    (hclos : closureFor scope env = pure cl) (hcell : ∀ y ∈ scope.names, y.2 ≠ .cell) (hkind : scope.kind = .function)
    (hnames : ∀ y ∈ scope.names, y.2 = .local → scope.names.lookup y.1 = some .local) (hxa : scope.names.lookup a = some .local) (hxb : scope.names.lookup b = some .local) (hxc : scope.names.lookup c = some .local) (hdb : (c == ("__debug__" : Str)) = false)
    (h : wpAny (model prog w) A (eval iter env) (Src3 prog w A h₀ L m E (fun ys vals news D s' => Q (.ref D) s')) E s)
    (hs : ∀ x, foldedSetIterable iter env x = pure x := by intro _; rfl) :
    wpAny (model prog w) A (eval (.ListComp (.Name c pe) [⟨.Tuple [.Name a pa, .Name b pb, .Name c pc] kk tp, iter, [], 0⟩] scope pos) env) Q E s := by
  rw [eval_ListComp]
  refine wpAny_comprehension_free (use := none) rfl hs hclos hkind hnames (wpAny_mono h (fun xv s₁ h₁ => ?_) fun _ _ e => e)
  revert h₁
  intro ez9
  refine ea2_2 (ez9) fun vals news hsz h₁ => ?_
  (try clear ez9)
  refine wpAny_mono h₁ (fun it s₂ h₂ => ?_) fun _ _ e => e
  refine ea3_5 (h₂) fun I hp tk rz3 rz4 hI T3 fin => ?_
  (try clear h₂)
  subst rz3
  subst rz4
  refine block3 hh T3 hsz hI hcell hkind hxa hxb hxc hdb ?_
  intro D C h tk m' ys F' N' hlt hn hC₀ hD₀ hCL hDL hCD offC hys
  refine mk1_2 m' hn (fun h'' hs'' => fin ys D h'' tk hys (F'.change hs'' hCL hC₀) (fun p hp => ?_) hlt)
  refine ⟨hs''.extBut _ _ ?_ (N' p hp).1, (N' p hp).2⟩
  rcases List.mem_cons.mp hp with rfl | hp
  · exact Ne.symm hCD
  · exact offC p hp
end

noncomputable def cnt (k : List Int) : Int := k.getD 2 0
theorem keyObj_tup {w : World} {a b c : Int} {o : Obj} (x : TupKeyObj (intKind PR w) [a, b, c] o) : ∃ (v1 v2 : Value) (t : Tok), ∀ (h : Heap) (T : Addr), h.get? T = some o → h.IsTuple T #[v1, v2, .int c t] := by
  obtain ⟨hc, items, n, hd, hi⟩ := x
  obtain ⟨l⟩ := items
  dsimp only at hi
  cases hi with | cons h1 hi => cases hi with | cons h2 hi => cases hi with | cons h3 hi =>
  cases hi
  obtain ⟨t, rfl⟩ := Value.isInt_shape h3
  exact mk3_1 _ _ t (fun h T e => ⟨o, e, hc, n, hd⟩)
theorem KeyO.tup {w : World} {z : Heap} {own : List (Addr × Obj)} {T : Nat} {k : List Int} (K : KeyO w z own k T) (h3 : ∃ a b c, k = [a, b, c]) : ∃ (v1 v2 : Value) (t : Tok), ∀ (h : Heap), (∀ b o, z.get? b = some o → h.get? b = some o) → (∀ q ∈ own, h.get? q.1 = some q.2) → h.IsTuple T #[v1, v2, .int (cnt k) t] := by
  refine ea3_1 (h3) fun a b c rz3 => ?_
  (try clear h3)
  subst rz3
  rcases K with ⟨o, i, n, e, r1, r2, r3⟩ | ⟨o, m, r⟩
  · refine ea3_1 (keyObj_tup (w := w) (o := o) ⟨r1, i, n, r2, r3⟩) fun v1 v2 t q => ?_
    exact mk3_1 v1 v2 t (fun h hz _ => q h T (hz _ _ e))
  · refine ea3_1 (keyObj_tup r) fun v1 v2 t q => ?_
    exact mk3_1 v1 v2 t (fun h _ ho => q h T (ho _ m))
noncomputable def Key3 (xs : List Ent) : Prop := ∀ e ∈ xs, ∃ a b c, e.1 = [a, b, c]
section
variable {w : World} {A : Around} {E : Value → Shared → Prop} {s : Shared} {z : Heap} {L B D : Nat} {m : Str → Option Value} {news own : List (Addr × Obj)} {xs : List Ent} {n : Nat}
theorem src_dict {Fin : List Value → List Int → List (Addr × Obj) → Addr → Shared → Prop} (hh : A.handled = none) (F : Fr z L s.heap m) (N : News z L s.heap news) (hB : (B, tD w xs n) ∈ news) (hB0 : B ≠ 1) (K : KeysO w z own xs) (ho : ∀ q ∈ own, q ∈ news) (k3 : Key3 xs)
    (fin : ∀ ys D h' tk', IntsAre ys (xs.map fun e => cnt e.1) → Fr z L h' m → News z L h' ((D, LCg.lst ys) :: news) → (∀ p ∈ news, p.1 < D) → Fin ys (xs.map fun e => cnt e.1) news D { s with heap := h', toks := tk' }) :
    Src3 PR w A z L m E Fin (.ref B) s := by
  have hlt : B < s.heap.objs.size := Heap.lt_size (N _ hB).1
  have hne : B ≠ s.heap.objs.size := Nat.ne_of_lt hlt
  refine mk2_2 (xs.map fun e => cnt e.1) news (by rw [List.length_map]; exact Nat.le_trans K.len (by rw [PySem.sizeLine_eq]; decide)) (pyIter_rawD (beq_eq_false_iff_ne.mpr hB0) (rawD_tD (N _ hB).1) ⟨_, _, _, rfl, rfl, by rw [Heap.size_push]; exact Nat.lt_succ_self _, ⟨F.push _, fun p hp => ⟨Heap.get?_push_of_some _ (N p hp).1, (N p hp).2⟩, Nat.ne_of_lt F.ns.lt, next_is_new F, fun p hp => Nat.ne_of_lt (Heap.lt_size (N p hp).1), ?_⟩, fun ys D h' tk' h1 h2 h3 h4 => fin ys D h' tk' h1 h2 h3 h4⟩)
  have W := Walks.rawD (prog := PR) (w := w) hh s.heap.objs.size B hne (xs.map (entryOfKey (tupleKind (intKind PR w)))).toArray n
  have hlen : (xs.map (entryOfKey (tupleKind (intKind PR w)))).toArray.size = (xs.map fun e => cnt e.1).length := by simp
  rw [hlen] at W
  refine mk3_5 _ _ _ W (⟨⟨_, Heap.get?_push_size _ rfl, rfl, by rw [hlen]; rfl⟩, rawD_tD (Heap.get?_push_of_some _ (N _ hB).1)⟩) (fun b hb => ?_) ?_ ?_
  · rw [Heap.size_push]
    rcases List.mem_cons.mp hb with rfl | hb
    · exact Nat.lt_succ_self _
    · rw [List.mem_singleton.mp hb]; exact Nat.lt_succ_of_lt hlt
  · rintro i h ⟨⟨o, e, c, dd⟩, _⟩
    exact mk3_4 o _ _ e c dd (by decide)
  · rintro i v hi ⟨e, he, rfl⟩
    rw [List.length_map] at hi
    have hx : xs[i]? = some xs[i] := List.getElem?_eq_getElem hi
    rw [List.getElem?_toArray, List.getElem?_map, hx] at he
    obtain rfl := Option.some.inj he
    refine ea3_1 ((K.keys _ (List.getElem_mem hi)).tup (k3 _ (List.getElem_mem hi))) fun v1 v2 t q => ?_
    exact mk5_3 (xs[i].2.1) v1 v2 _ t rfl (by rw [List.getElem?_map, hx]; rfl) (fun h' hz hN => q h' hz fun q hq => (hN q (ho q hq)).1)
theorem src_tup {Fin : List Value → List Int → List (Addr × Obj) → Addr → Shared → Prop} {ts : List (List Int × Nat)} {c : Nat} (hh : A.handled = none) (F : Fr z L s.heap m) (N : News z L s.heap news) (hD : z.get? D = some (tupO (ts.map fun t => .ref t.2) c) ∨ (D, tupO (ts.map fun t => .ref t.2) c) ∈ news)
    (K : ∀ t ∈ ts, KeyO w z own t.1 t.2) (ho : ∀ q ∈ own, q ∈ news) (k3 : ∀ t ∈ ts, ∃ a b c, t.1 = [a, b, c]) (hl : ts.length ≤ 1000)
    (fin : ∀ ys D h' tk', IntsAre ys (ts.map fun t => cnt t.1) → Fr z L h' m → News z L h' ((D, LCg.lst ys) :: news) → (∀ p ∈ news, p.1 < D) → Fin ys (ts.map fun t => cnt t.1) news D { s with heap := h', toks := tk' }) :
    Src3 PR w A z L m E Fin (.ref D) s := by
  have hg : s.heap.get? D = some (tupO (ts.map fun t => .ref t.2) c) := by
    rcases hD with h | h
    · exact F.keep _ _ h
    · exact (N _ h).1
  have hT : s.heap.IsTuple D (ts.map fun t => Value.ref t.2).toArray := ⟨_, hg, rfl, c, rfl⟩
  have hlt : D < s.heap.objs.size := Heap.lt_size hg
  have hne : D ≠ s.heap.objs.size := Nat.ne_of_lt hlt
  refine mk2_2 (ts.map fun e => cnt e.1) news (by rw [List.length_map]; exact Nat.le_trans hl (by rw [PySem.sizeLine_eq]; decide)) (wpAny_pyIter_tuple hT ⟨_, _, _, rfl, rfl, by rw [Heap.size_push]; exact Nat.lt_succ_self _, ⟨F.push _, fun p hp => ⟨Heap.get?_push_of_some _ (N p hp).1, (N p hp).2⟩, Nat.ne_of_lt F.ns.lt, next_is_new F, fun p hp => Nat.ne_of_lt (Heap.lt_size (N p hp).1), ?_⟩, fun ys D h' tk' h1 h2 h3 h4 => fin ys D h' tk' h1 h2 h3 h4⟩)
  have W := Walks.tuple (prog := PR) (w := w) hh s.heap.objs.size D hne (ts.map fun t => Value.ref t.2).toArray
  have hlen : (ts.map fun t => Value.ref t.2).toArray.size = (ts.map fun e => cnt e.1).length := by simp
  rw [hlen] at W
  refine mk3_5 _ _ _ W (⟨⟨_, Heap.get?_push_size _ rfl, rfl, rfl⟩, hT.at fun o e => Heap.get?_push_of_some _ e⟩) (fun b hb => ?_) ?_ ?_
  · rw [Heap.size_push]
    rcases List.mem_cons.mp hb with rfl | hb
    · exact Nat.lt_succ_self _
    · rw [List.mem_singleton.mp hb]; exact Nat.lt_succ_of_lt hlt
  · rintro i h ⟨⟨o, e, c, dd⟩, _⟩
    exact mk3_4 o _ _ e c dd (by decide)
  · rintro i v hi he
    rw [List.length_map] at hi
    have hx : ts[i]? = some ts[i] := List.getElem?_eq_getElem hi
    rw [List.getElem?_toArray, List.getElem?_map, hx] at he
    obtain rfl := Option.some.inj he
    refine ea3_1 ((K _ (List.getElem_mem hi)).tup (k3 _ (List.getElem_mem hi))) fun v1 v2 t q => ?_
    exact mk5_3 (ts[i].2) v1 v2 _ t rfl (by rw [List.getElem?_map, hx]; rfl) (fun h' hz hN => q h' hz fun q hq => (hN q (ho q hq)).1)
end
section
variable {w : World} {d u : Nat} {fr : List Env} {R : Result → Shared → Prop} {s : Shared} {z : Heap} {p : Program} {loose : List Str} {mean : ExcName → Option Value} {mg mb : Str → Option Value}
set_option maxHeartbeats 8000000 in
theorem used_ok {hp dh B G n : Nat} {HT : HT} {xs : List Ent} {sec nxt wr : Int} {tn tw : Tok}
    (X : (hd0.heap_1 w.params).In z) (T : Top p loose mean mg mb z) (P : Pre z s.heap [(hp, instObj 190 dh), (dh, hD w.params HT B G sec nxt wr tn tw), (B, tD w xs n)])
    (K : KeysO w z [] xs) (k3 : Key3 xs) (hB : 292 < B) (hd : d ≤ 470) (hu : u ≤ 870)
    (h : ∀ h' tk t, Pre z h' [(hp, instObj 190 dh), (dh, hD w.params HT B G sec nxt wr tn tw), (B, tD w xs n)] → R (.ok (.ret (.int (xs.map fun e => cnt e.1).sum t))) { s with heap := h', toks := tk }) :
    codeAny (model PR w) (mkA d fr u) (.call (.ref 180) ⟨[.ref hp], []⟩) R s := by
  refine enterZ (binds := [("self", .ref hp)]) X T P (by k_is) (by k_is) (by k_room) (BindsTo.of_eq (by rfl)) (locs (by rfl)) (by rfl) (by rfl) (by rfl) (by decide) ?_
  intro L' h' tk' F' N' hL' hst'
  (try dsimp only); k_fold
  walk_at "goL"
  refine ListComp_3 (by assumption) rfl (by with_unfolding_all rfl) (by decide) (by rfl) (by decide) (by rfl) (by rfl) (by rfl) (by decide) ?_
  walk_at "goL"
  refine src_dict rfl (by assumption) (by assumption) (by k_mem) (by refine neN ?_; omega) K (fun _ h => nomatch h) k3 ?_
  intro ys D h'' tk'' hys F'' N'' l1''
  k_lt l1''
  walk_at "goL"
  exact h _ _ _ (leaveZ (by assumption) (by assumption) (by walk_at "subl") (by assumption) P.size)
set_option maxHeartbeats 8000000 in
theorem dsize_ok {pt : Nat} {q : PT} {ts : List (List Int × Nat)}
    (X : (hd0.heap_1 w.params).In z) (T : Top p loose mean mg mb z) (P : Pre z s.heap []) (PA : PtrAt w z pt q ts) (k3 : ∀ t ∈ ts, ∃ a b c, t.1 = [a, b, c]) (hl : ts.length ≤ 1000) (hd : d ≤ 470) (hu : u ≤ 870)
    (h : ∀ h' tk t, Pre z h' [] → R (.ok (.ret (.int (ts.map fun e => cnt e.1).sum t))) { s with heap := h', toks := tk }) :
    codeAny (model PR w) (mkA d fr u) (.call (.ref 126) ⟨[.ref pt], []⟩) R s := by
  refine enterZ (binds := [("pointer", .ref pt)]) X T P (by k_is) (by k_is) (by k_room) (BindsTo.of_eq (by rfl)) (locs (by rfl)) (by rfl) (by rfl) (by rfl) (by decide) ?_
  intro L' h' tk' F' N' hL' hst'
  (try dsimp only); k_fold
  have PA' := PA
  obtain ⟨pa1, pa2, ⟨c, pa3⟩, pa4⟩ := PA'
  walk_at "goL"
  refine ListComp_3 (by assumption) rfl (by with_unfolding_all rfl) (by decide) (by rfl) (by decide) (by rfl) (by rfl) (by rfl) (by decide) ?_
  walk_at "goL"
  refine src_tup (own := []) rfl (by assumption) (by assumption) (.inl pa3) (fun t ht => .inl (pa4 t ht)) (fun _ h => nomatch h) k3 hl ?_
  intro ys D h'' tk'' hys F'' N'' l1''
  k_lt l1''
  walk_at "goL"
  exact h _ _ _ (leaveZ (by assumption) (by assumption) (fun _ h => nomatch h) (by assumption) P.size)
set_option maxHeartbeats 8000000 in
theorem plain_ok {pt : Nat} {q : PT} {ts : List (List Int × Nat)}
    (X : (hd0.heap_1 w.params).In z) (T : Top p loose mean mg mb z) (P : Pre z s.heap []) (PA : PtrAt w z pt q ts) (hd : d ≤ 470) (hu : u ≤ 870)
    (h : ∀ h' tk D t1 t2 t3 t4 t5 t6 t7 t8 t9, Pre z h' [(D, tupO [.ref q.D, .int q.kind t1, .int q.level t2, .int q.size t3, .int q.size t4, .int q.packed t5, .int q.summed t6, .int q.birth t7, .int q.fill t8, .ref q.S, .int q.dedup t9])] → R (.ok (.ret (.ref D))) { s with heap := h', toks := tk }) :
    codeAny (model PR w) (mkA d fr u) (.call (.ref 114) ⟨[.ref pt], []⟩) R s := by
  refine enterZ (binds := [("self", .ref pt)]) X T P (by k_is) (by k_is) (by k_room) (BindsTo.of_eq (by rfl)) (locs (by rfl)) (by rfl) (by rfl) (by rfl) (by decide) ?_
  intro L' h' tk' F' N' hL' hst'
  (try dsimp only); k_fold
  have PA' := PA
  obtain ⟨pa1, pa2, ⟨c, pa3⟩, pa4⟩ := PA'
  walk_at "goL"
  exact h _ _ _ _ _ _ _ _ _ _ _ _ (leaveZ (mt := [(_, tupO _)]) (by assumption) (by assumption) (by walk_at "subl") (by assumption) P.size)
end
section
variable {w : World} {d u : Nat} {fr : List Env} {E : Value → Shared → Prop} {s : Shared} {h₀ : Heap} {L : Addr} {m : Str → Option Value} {news rest : List (Addr × Obj)} {p : Program} {loose : List Str} {mean : ExcName → Option Value} {mg mb : Str → Option Value} {Q : Value → Shared → Prop}
theorem dsize_call {env : Env} {pt : Nat} {q : PT} {ts : List (List Int × Nat)} (F : Fr h₀ L s.heap m) (N : News h₀ L s.heap news) (X : (hd0.heap_1 w.params).In h₀) (T : Top p loose mean mg mb h₀)
    (PA : PtrAt w s.heap pt q ts) (k3 : ∀ t ∈ ts, ∃ a b c, t.1 = [a, b, c]) (hl : ts.length ≤ 1000) (hd : d ≤ 460) (hu : u ≤ 860)
    (h : ∀ h' tk t, Fr h₀ L h' m → News h₀ L h' news → Q (.int (ts.map fun e => cnt e.1).sum t) { s with heap := h', toks := tk }) :
    wpAny (model PR w) ((mkA d fr u).deeper env) (call (.ref 126) [.ref pt]) Q E s := by
  have t0 : Take [] news news := .nil
  refine wpAny_call (dsize_ok (d := d + 1) (u := u + 3) (fr := env :: fr) (front F N t0 X).1 (front_top F N t0 T) (front F N t0 X).2 (PA.keeps fun b o e => hid_of e fun _ h => nomatch h) k3 hl (by omega) (by omega) fun h' tk t P' => ?_)
  obtain ⟨F', N'⟩ := back F N t0 P'
  exact h h' tk t F' N'
theorem plain_call {env : Env} {pt : Nat} {q : PT} {ts : List (List Int × Nat)} (F : Fr h₀ L s.heap m) (N : News h₀ L s.heap news) (X : (hd0.heap_1 w.params).In h₀) (T : Top p loose mean mg mb h₀)
    (PA : PtrAt w s.heap pt q ts) (hd : d ≤ 460) (hu : u ≤ 860)
    (h : ∀ h' tk D t1 t2 t3 t4 t5 t6 t7 t8 t9, Fr h₀ L h' m → News h₀ L h' ((D, tupO [.ref q.D, .int q.kind t1, .int q.level t2, .int q.size t3, .int q.size t4, .int q.packed t5, .int q.summed t6, .int q.birth t7, .int q.fill t8, .ref q.S, .int q.dedup t9]) :: news) → Q (.ref D) { s with heap := h', toks := tk }) :
    wpAny (model PR w) ((mkA d fr u).deeper env) (call (.ref 114) [.ref pt]) Q E s := by
  have t0 : Take [] news news := .nil
  refine wpAny_call (plain_ok (d := d + 1) (u := u + 3) (fr := env :: fr) (front F N t0 X).1 (front_top F N t0 T) (front F N t0 X).2 (PA.keeps fun b o e => hid_of e fun _ h => nomatch h) (by omega) (by omega) fun h' tk D t1 t2 t3 t4 t5 t6 t7 t8 t9 P' => ?_)
  obtain ⟨F', N'⟩ := back F N t0 P'
  exact h h' tk D t1 t2 t3 t4 t5 t6 t7 t8 t9 F' N'
end

noncomputable def evT {α : Type} (lt : Nat → Nat → Bool) : KasT α → α
  | .ret a => a
  | .ask i j k => evT lt (k (lt i j))
noncomputable def InR {α : Type} (n : Nat) (G : α → Prop) : KasT α → Prop
  | .ret a => G a
  | .ask i j k => i < n ∧ j < n ∧ ∀ b, InR n G (k b)
theorem InR.bind {α β : Type} {n : Nat} {G : α → Prop} {G' : β → Prop} {f : α → KasT β} (hf : ∀ a, G a → InR n G' (f a)) : ∀ t : KasT α, InR n G t → InR n G' (t.bind f)
  | .ret a, h => hf a h
  | .ask _ _ k, h => ⟨h.1, h.2.1, fun b => InR.bind hf (k b) (h.2.2 b)⟩
theorem wp_ev {α : Type} {n : Nat} {G : α → Prop} {cmp : Nat → Nat → (Bool → Shared → Prop) → Shared → Prop} {lt : Nat → Nat → Bool} {St : Shared → Prop} {Q : α → Shared → Prop}
    (hc : ∀ i j C s, i < n → j < n → St s → (∀ s', St s' → C (lt i j) s') → cmp i j C s) : ∀ (t : KasT α) (s : Shared), InR n G t → St s → (∀ s', St s' → Q (evT lt t) s') → t.kasWp cmp Q s
  | .ret _, s, _, hs, hq => hq s hs
  | .ask i j k, s, h, hs, hq => hc i j _ s h.1 h.2.1 hs fun s' hs' => wp_ev hc (k (lt i j)) s' (h.2.2 _) hs' hq
noncomputable def Gd (n : Nat) (p : Array Nat) : Prop := ∀ x ∈ p, x < n
theorem Gd.get {n : Nat} {p : Array Nat} (g : Gd n p) (hn : 0 < n) (k : Nat) : p.getD k 0 < n := by
  unfold Array.getD
  split
  · exact g _ (Array.getElem_mem _)
  · exact hn
theorem Gd.perm {n : Nat} {p q : Array Nat} (g : Gd n p) (h : q.Perm p) : Gd n q := fun x hx => g x (h.mem_iff.mp hx)
theorem Gd.rev {n : Nat} {p : Array Nat} (g : Gd n p) (i j : Nat) : Gd n (kas_rev p i j) := g.perm (mirror_perm _ _ _ _)
section
variable {n : Nat} (hn : 0 < n)
include hn
theorem inR_asc {p : Array Nat} (g : Gd n p) : ∀ f k, InR n (fun _ => True) (kas_asc p f k)
  | 0, _ => trivial
  | f + 1, k => ⟨g.get hn _, g.get hn _, fun b => by
    show InR n _ (if b = true then KasT.ret k else kas_asc p f (k + 1))
    cases b
    · exact inR_asc g f (k + 1)
    · trivial⟩
theorem inR_desc : ∀ (f : Nat) (p : Array Nat) (k q : Nat), Gd n p → InR n (fun r => Gd n r.1) (kas_desc f p k q)
  | 0, _, _, _, g => g
  | f + 1, p, k, q, g => ⟨g.get hn _, g.get hn _, fun b => by
    cases b
    · refine mk0_3 (g.get hn _) (g.get hn _) (fun b => ?_)
      cases b
      · exact inR_desc f p _ _ g
      · exact g
    · show InR n _ (if q > 0 then _ else _)
      split
      · exact inR_desc f _ _ _ (g.rev _ _)
      · exact inR_desc f p _ _ g⟩
theorem inR_tail3 {p : Array Nat} (g : Gd n p) (m nrem : Nat) : InR n (fun r => Gd n r.2) (kas_tail3 m nrem p) := by
  refine InR.bind (G := fun _ => True) (fun a _ => ?_) _ (inR_asc hn (g.rev _ _) _ _)
  exact g.rev _ _
theorem inR_descPart {p : Array Nat} (g : Gd n p) (m nrem : Nat) : InR n (fun r => Gd n r.2) (kas_descPart m nrem p) := by
  refine InR.bind (fun r hr => ?_) _ (inR_desc hn _ p _ _ g)
  show InR n _ (if r.2.2 > 0 then _ else _)
  split
  · exact inR_tail3 hn (hr.rev _ _) _ _
  · exact inR_tail3 hn hr _ _
theorem inR_count {p : Array Nat} (g : Gd n p) (nrem : Nat) : InR n (fun r => Gd n r.2) (kas_count nrem p) := by
  refine InR.bind (G := fun _ => True) (fun m _ => ?_) _ (inR_asc hn g _ _)
  show InR n _ (if (m == nrem) = true then _ else if m > 1 then _ else _)
  split
  · exact g
  · split
    · refine mk0_3 (g.get hn _) (g.get hn _) (fun b => ?_)
      cases b
      · exact inR_descPart hn (g.rev _ _) _ _
      · exact g
    · exact inR_descPart hn g _ _
theorem inR_place {p : Array Nat} (g : Gd n p) (k : Nat) : ∀ f l r, InR n (fun _ => True) (kas_place p k f l r)
  | 0, _, _ => trivial
  | f + 1, l, r => by
    show InR n _ (if l ≥ r then _ else _)
    split
    · trivial
    · refine mk0_3 (g.get hn _) (g.get hn _) (fun b => ?_)
      cases b
      · exact inR_place g k f _ _
      · exact inR_place g k f _ _
theorem inR_bin : ∀ (f : Nat) (_p : Array Nat) (_k : Nat), Gd n _p → InR n (Gd n) (kas_bin f _p _k)
  | 0, _, _, g => g
  | f + 1, p, k, g => InR.bind (G := fun _ => True) (fun _ _ => inR_bin f _ _ (g.perm (bubble_perm _ _ _))) _ (inR_place hn g _ _ _ _)
theorem inR_sort : InR n (Gd n) (kas_sort n) := by
  refine InR.bind (fun r hr => ?_) _ (inR_count hn (p := List.toArray (List.range n)) (fun x hx => ?_) n)
  · show InR n _ (if r.1 < n then _ else _)
    split
    · exact inR_bin hn _ _ _ hr
    · exact hr
  · simpa using hx
end
noncomputable def lexLt (k l : List Int) : Bool :=
  if k.getD 0 0 = l.getD 0 0 then (if k.getD 1 0 = l.getD 1 0 then (if k.getD 2 0 = l.getD 2 0 then false else decide (k.getD 2 0 < l.getD 2 0)) else decide (k.getD 1 0 < l.getD 1 0)) else decide (k.getD 0 0 < l.getD 0 0)
noncomputable def sortP (ks : List (List Int)) : List Nat := if ks.length < 2 then List.range ks.length else (evT (fun i j => lexLt (ks.getD i []) (ks.getD j [])) (kas_sort ks.length)).toList
inductive Tups (h : Heap) : List Value → List (List Int) → Prop
  | nil : Tups h [] []
  | cons {T : Addr} {a b c : Int} {t1 t2 t3 : Tok} {vs : List Value} {ks : List (List Int)} : h.IsTuple T #[.int a t1, .int b t2, .int c t3] → Tups h vs ks → Tups h (.ref T :: vs) ([a, b, c] :: ks)
theorem Tups.length {h : Heap} {vs : List Value} {ks : List (List Int)} (x : Tups h vs ks) : vs.length = ks.length := by
  induction x with
  | nil => rfl
  | cons _ _ ih => simp [ih]
theorem Tups.get {h : Heap} {vs : List Value} {ks : List (List Int)} (x : Tups h vs ks) : ∀ {i : Nat}, i < ks.length → ∃ T a b c t1 t2 t3, vs.getD i Value.none = .ref T ∧ ks.getD i [] = [a, b, c] ∧ h.IsTuple T #[.int a t1, .int b t2, .int c t3] := by
  induction x with
  | nil => intro i hi; simp at hi
  | cons h1 h2 ih =>
    intro i hi
    cases i with
    | zero => exact ⟨_, _, _, _, _, _, _, rfl, rfl, h1⟩
    | succ i =>
      simp only [List.length_cons, Nat.add_lt_add_iff_right] at hi
      refine ea7_3 (ih hi) fun T a b c t1 t2 t3 e1 e2 e3 => ?_
      exact mk7_3 T a b c t1 t2 t3 (by simpa using e1) (by simpa using e2) e3
theorem Tups.firsts {h : Heap} {vs : List Value} {ks : List (List Int)} (x : Tups h vs ks) : ∃ fs : List Value, KatTups h vs fs ∧ fs.length = vs.length ∧ ∀ v ∈ fs, ∃ a t, v = .int a t := by
  induction x with
  | nil => exact ⟨[], .nil, rfl, fun _ h => nomatch h⟩
  | cons h1 h2 ih =>
    refine ea1_3 (ih) fun fs f1 f2 f3 => ?_
    (try clear ih)
    obtain ⟨o, e, c, n, d⟩ := h1
    refine mk1_3 (_ :: fs) (.cons e c d rfl f1) (by simp [f2]) (fun v hv => ?_)
    rcases List.mem_cons.mp hv with rfl | hv
    · exact mk2_1 _ _ rfl
    · exact f3 v hv
section
variable {prog : Program} {w : World} {A : Around} {E : Value → Shared → Prop} {s : Shared} {h₀ : Heap} {L a : Addr} {m : Str → Option Value} {news : List (Addr × Obj)} {vs : List Value} {ks : List (List Int)}
theorem lex_int {C : Bool → Shared → Prop} {T U : Addr} {a b c a' b' c' : Int} {t1 t2 t3 u1 u2 u3 : Tok} (hx : s.heap.IsTuple T #[.int a t1, .int b t2, .int c t3]) (hy : s.heap.IsTuple U #[.int a' u1, .int b' u2, .int c' u3])
    (h : ∀ tk, C (lexLt [a, b, c] [a', b', c']) { s with toks := tk }) : wpAny (model prog w) A (keyLt' (tuples' true) (.ref T) (.ref U)) C (fun _ _ => False) s := by
  obtain ⟨o, e, _, n, d⟩ := hx
  obtain ⟨o', e', _, n', d'⟩ := hy
  refine kat_lt e d e' d' ?_
  have h0 : ∀ x : Bool, lexLt [a, b, c] [a', b', c'] = x → C x s := fun x hx => by have := h s.toks; rw [hx] at this; exact this
  have hl : lexLt [a, b, c] [a', b', c'] = if a = a' then (if b = b' then (if c = c' then false else decide (c < c')) else decide (b < b')) else decide (a < a') := rfl
  refine kat_cons (wpAny_eqBool_int (kat_go (fun e1 => kat_yes ?_) (fun e1 => kat_no ?_)))
  · have e1 := of_decide_eq_true e1
    refine kat_cons (wpAny_eqBool_int (kat_go (fun e2 => kat_yes ?_) (fun e2 => kat_no ?_)))
    · have e2 := of_decide_eq_true e2
      refine kat_cons (wpAny_eqBool_int (kat_go (fun e3 => kat_yes ?_) (fun e3 => kat_no ?_)))
      · have e3 := of_decide_eq_true e3
        refine kat_nil (h0 _ ?_)
        rw [hl, if_pos e1, if_pos e2, if_pos e3]
        rfl
      · have e3 := of_decide_eq_false e3
        refine kat_one (E := fun _ _ => False) _ _ (wpAny_lt_int (h0 _ ?_))
        rw [hl, if_pos e1, if_pos e2, if_neg e3]
    · have e2 := of_decide_eq_false e2
      refine kat_one (E := fun _ _ => False) _ _ (wpAny_lt_int (h0 _ ?_))
      rw [hl, if_pos e1, if_neg e2]
  · have e1 := of_decide_eq_false e1
    refine oneLt_int (h0 _ ?_)
    rw [hl, if_neg e1]
noncomputable def sortVs (vs : List Value) (ks : List (List Int)) : List Value := (sortP ks).map fun i => vs.getD i Value.none
theorem sortVs_small (hl : vs.length = ks.length) (h : vs.length < 2) : sortVs vs ks = vs := by
  unfold sortVs sortP
  rw [if_pos (by omega), ← hl]
  cases vs with
  | nil => rfl
  | cons v r =>
    cases r with
    | nil => rfl
    | cons v2 r => exact absurd h (by simp only [List.length_cons]; omega)
theorem list_sort_T {n : Nat} {P : PySem.Fin → Shared → Prop} (F : Fr h₀ L s.heap m) (N : News h₀ L s.heap news) (ho : s.heap.get? a = some (seqObj "list" vs.toArray n)) (haL : a ≠ L) (ha0 : h₀.get? a = none) (hna : ∀ p ∈ news, p.1 ≠ a)
    (h64 : vs.length < 64) (hT : ∀ h' : Heap, (∀ b o, h₀.get? b = some o → h'.get? b = some o) → News h₀ L h' news → Tups h' vs ks)
    (h : ∀ h' c tk, Fr h₀ L h' m → News h₀ L h' ((a, listOf (sortVs vs ks).toArray c) :: news) → P (.done (.ret .none)) { s with heap := h', toks := tk }) :
    wpAny (model prog w) A (Builtin.«list.sort» ⟨[.ref a], []⟩) P E s := by
  have hT0 := hT s.heap F.keep N
  have hl := hT0.length
  by_cases h2 : vs.length < 2
  · have e0 := sortVs_small hl h2
    rw [e0] at h
    have ha : a < s.heap.objs.size := Heap.lt_size ho
    have s1 := Heap.SameBut.update s.heap a (Obj.mapSeq fun _ => (#[] : Array Value))
    obtain ⟨e1, ho1⟩ : ∃ e1, (s.heap.update a (Obj.mapSeq fun _ => (#[] : Array Value))).get? a = some (seqObj "list" #[] e1) := ⟨_, get?_update_seq ho fun _ => #[]⟩
    have F3 : Fr h₀ L (((s.heap.update a (Obj.mapSeq fun _ => (#[] : Array Value))).push (seqObj "tuple" vs.toArray 0)).push (seqObj "list" #[] 0)) m := ((kas_fr F s1 haL ha0).push _).push _
    have N2 : News h₀ L (((s.heap.update a (Obj.mapSeq fun _ => (#[] : Array Value))).push (seqObj "tuple" vs.toArray 0)).push (seqObj "list" #[] 0)) news :=
      (kas_news N s1 hna).grown fun b x e => Heap.get?_push_of_some _ (Heap.get?_push_of_some _ e)
    have ho3 : (((s.heap.update a (Obj.mapSeq fun _ => (#[] : Array Value))).push (seqObj "tuple" vs.toArray 0)).push (seqObj "list" #[] 0)).get? a = some (seqObj "list" #[] e1) := Heap.get?_push_of_some _ (Heap.get?_push_of_some _ ho1)
    rw [list_sort_plain]
    refine wpAny_bind (listItems_at ho rfl ?_)
    refine wpAny_bind (listUpdate_at ho rfl ?_ (by rw [List.size_toArray, sizeLine_eq]; omega) (Nat.zero_le _))
    refine wpAny_bind (seqEpoch_at ho1 rfl ?_)
    refine wpAny_bind (wpAny_newTuple ?_ (by show vs.length ≤ _; rw [sizeLine_eq]; omega))
    refine wpAny_bind (wpAny_newList ?_ (Nat.zero_le _))
    refine wpAny_holding ?_
    show wpAny (model prog w) A _ P E { s with heap := ((s.heap.update a (Obj.mapSeq fun _ => (#[] : Array Value))).push (seqObj "tuple" vs.toArray 0)).push (seqObj "list" #[] 0) }
    dsimp only
    have hn2 : vs.toArray.size < 2 := by rw [List.size_toArray]; omega
    rw [if_pos hn2, if_pos hn2]
    refine wpAny_bind (wpAny_pure ?_)
    rw [StateT.run_pure]
    refine wpAny_bind (wpAny_pure ?_)
    dsimp only
    have hmap : (arrOf (SortSt.mk' general' (vs.toArray.zip vs.toArray) #[] 7 none)).map (·.2) = vs.toArray := by
      show (vs.toArray.zip vs.toArray).map (·.2) = vs.toArray
      apply Array.toList_inj.mp
      have z : ∀ l : List Value, (l.zip l).map (fun x : Value × Value => x.2) = l := fun l => by
        induction l with
        | nil => rfl
        | cons x l ih => rw [List.zip_cons_cons, List.map_cons, ih]
      rw [Array.toList_map, show (vs.toArray.zip vs.toArray).toList = vs.zip vs from pairsOf_toList vs]
      exact z vs
    rw [hmap]
    have s2 := Heap.SameBut.update (((s.heap.update a (Obj.mapSeq fun _ => (#[] : Array Value))).push (seqObj "tuple" vs.toArray 0)).push (seqObj "list" #[] 0)) a (Obj.mapSeq fun _ => vs.toArray)
    obtain ⟨c2, hc2⟩ : ∃ c2, ((((s.heap.update a (Obj.mapSeq fun _ => (#[] : Array Value))).push (seqObj "tuple" vs.toArray 0)).push (seqObj "list" #[] 0)).update a (Obj.mapSeq fun _ => vs.toArray)).get? a = some (seqObj "list" vs.toArray c2) := ⟨_, get?_update_seq ho3 fun _ => vs.toArray⟩
    refine wpAny_bind (seqEpoch_at ho3 rfl ?_)
    refine wpAny_bind (listUpdate_at ho3 rfl ?_ (Nat.zero_le _) (by rw [List.size_toArray, sizeLine_eq]; omega))
    simp only [bne_self_eq_false, Bool.false_eq_true, if_false]
    refine wpAny_pure (h _ c2 _ (kas_fr F3 s2 haL ha0) fun p hp => ?_)
    rcases List.mem_cons.mp hp with rfl | hp
    · exact mk0_3 hc2 haL ha0
    · exact kas_news N2 s2 hna p hp
  · refine kat_list_sort F N ho haL ha0 hna (Nat.not_lt.mp h2) h64 fun e1 h' F' N' => ?_
    have N'' : News h₀ L h' news := fun p hp => N' p (.tail _ hp)
    have T' := hT h' F'.keep N''
    refine ea1_3 (T'.firsts) fun fs f1 f2 f3 => ?_
    refine kat_kind (T := .type "int") f1 (by omega) (fun v hv => ?_) rfl ?_
    · refine ea2_1 (f3 v hv) fun a t rz2 => ?_
      subst rz2
      exact Looks.of_pure rfl
    · show (kas_sort vs.length).kasWp (kas_ask prog w A (tuples' true) vs) _ _
      have hn : 0 < vs.length := by omega
      refine wp_ev (n := vs.length) (lt := fun i j => lexLt (ks.getD i []) (ks.getD j [])) (St := fun s' => ∃ tk, s' = { s with heap := h', toks := tk }) ?_ _ _ (inR_sort hn) ⟨_, rfl⟩ ?_
      · rintro i j C _ hi hj ⟨tk, rfl⟩ hC
        refine ea7_3 (T'.get (i := i) (by omega)) fun T1 a1 b1 c1 t1 t2 t3 x1 x2 x3 => ?_
        refine ea7_3 (T'.get (i := j) (by omega)) fun T2 a2 b2 c2 u1 u2 u3 y1 y2 y3 => ?_
        unfold kas_ask
        rw [x1, y1]
        rw [x2, y2] at hC
        exact lex_int x3 y3 fun tk => hC _ ⟨tk, rfl⟩
      · rintro _ ⟨tk, rfl⟩
        refine KasFin.intro (g := fun o => (a, o) :: news) F' N' (UpdF.head hna) fun h'' c F'' N3 => ?_
        have e0 : sortVs vs ks = (evT (fun i j => lexLt (ks.getD i []) (ks.getD j [])) (kas_sort vs.length)).toList.map fun i => vs.getD i Value.none := by
          unfold sortVs sortP
          rw [if_neg (by omega), hl]
        rw [← e0] at N3
        exact h h'' c tk F'' N3
theorem sorted_by {x : Value} {Q : Value → Shared → Prop}
    (hc : wpAny (model prog w) A.in1 (collect x) (fun l s₁ => l = vs ∧ ∃ h tk, s₁ = { s with heap := h, toks := tk } ∧ Fr h₀ L h m ∧ News h₀ L h news) (fun _ _ => False) s)
    (h64 : vs.length < 64) (hT : ∀ h' : Heap, (∀ b o, h₀.get? b = some o → h'.get? b = some o) → News h₀ L h' news → Tups h' vs ks)
    (h : ∀ (D : Addr) h' c tk, Fr h₀ L h' m → News h₀ L h' ((D, listOf (sortVs vs ks).toArray c) :: news) → (∀ q ∈ news, q.1 < D) → Q (.ref D) { s with heap := h', toks := tk }) :
    wpAny (model prog w) A (call (.builtin "sorted") [x]) Q E s := by
  refine Calls.call_function_entry kind_sorted plain_sorted entry_sorted (args_sorted1 _) ?_
  unfold Builtin.«sorted»
  refine wpAny_bind (m := checkCount "sorted" 1 1 _) (wpAny_pure ?_)
  refine wpAny_bind (wpAny_mono hc (fun l s₁ h₁ => ?_) fun _ _ e => e.elim)
  obtain ⟨rfl, h1, tk1, rfl, F, N⟩ := h₁
  refine wpAny_bind (wpAny_newList ?_ (by rw [sizeLine_eq]; omega))
  have hoL : (h1.push (seqObj "list" l.toArray 0)).get? h1.objs.size = some (seqObj "list" l.toArray 0) := Heap.get?_push_size _ rfl
  have F1 := F.push (seqObj "list" l.toArray 0)
  have N1 : News h₀ L (h1.push (seqObj "list" l.toArray 0)) news := fun p hp => ⟨Heap.get?_push_of_some _ (N p hp).1, (N p hp).2⟩
  have hlt : ∀ p ∈ news, p.1 < h1.objs.size := fun p hp => Heap.lt_size (N p hp).1
  refine wpAny_bind (wpAny_holding (wpAny_call_entry slot_list_sort ⟨_, hoL, rfl⟩ entry_list_sort ?body (args_list_sort _)))
  refine list_sort_T (s := { s with heap := h1.push (seqObj "list" l.toArray 0), toks := tk1 }) F1 N1 hoL (Nat.ne_of_gt F.ns.lt) (next_is_new F) (fun p hp => Nat.ne_of_lt (hlt p hp)) h64 hT fun h' c tk F' N' => ?_
  exact mk1_2 _ rfl (wpAny_pure ⟨_, rfl, h _ h' c tk F' N' hlt⟩)
theorem src_rawD {d : Addr} {es : Array DictEntry} {ep : Nat} (lo : (d == sysModules) = false) : KdlSrc prog w "dict" d d es.size (fun i v => ∃ e, es[i]? = some e ∧ v = e.key) (fun h => RawD h d es ep) where
  type := fun _ hm => hm.typeIs
  there := fun _ hm => ⟨let ⟨_, ho, _⟩ := hm; Heap.lt_size ho, let ⟨_, ho, _⟩ := hm; Heap.lt_size ho⟩
  keep := fun _ _ hm hk => hm.at fun o e => hk d (.inl rfl) o e
  notList := by decide
  notTuple := by decide
  hint := fun _ _ _ _ hm hq => kdl_hint_dict hm.typeIs hq
  iter := fun _ s hh hm => ⟨_, _, (fun _ _ hq => pyIter_rawD lo hm hq), Walks.rawD hh _ d (let ⟨_, ho, _⟩ := hm; Nat.ne_of_lt (Heap.lt_size ho)) es ep, ⟨⟨_, Heap.get?_push_size _ rfl, rfl, rfl⟩, hm.at fun o e => Heap.get?_push_of_some _ e⟩⟩
theorem items_keys {es : Array DictEntry} {acc : Array Value} (x : ItemsOf (fun i v => ∃ e, es[i]? = some e ∧ v = e.key) acc es.size) : acc.toList = es.toList.map (·.key) := by
  apply List.ext_getElem?
  intro i
  rw [List.getElem?_map, Array.getElem?_toList, Array.getElem?_toList]
  by_cases hi : i < acc.size
  · refine ea1_2 (x.2 i acc[i] (by simp [hi])) fun e h1 h2 => ?_
    rw [h1, Array.getElem?_eq_getElem hi, h2]; rfl
  · have hs : acc.size = es.size := x.1
    rw [Array.getElem?_eq_none (Nat.not_lt.mp hi), Array.getElem?_eq_none (by omega)]; rfl
theorem collect_rawD {d : Addr} {es : Array DictEntry} {ep : Nat} {Q : List Value → Shared → Prop} (hh : A.handled = none) (lo : (d == sysModules) = false) (hm : RawD s.heap d es ep) (hn : es.size ≤ sizeLine)
    (h : ∀ h' tk, (∀ b o, s.heap.get? b = some o → h'.get? b = some o) → Q (es.toList.map (·.key)) { s with heap := h', toks := tk }) :
    wpAny (model prog w) A (collect (.ref d)) Q E s := by
  have hlt : d < s.heap.objs.size := let ⟨_, ho, _⟩ := hm; Heap.lt_size ho
  unfold collect
  refine wpAny_bind (wpAny_runValue (codeAny_builtin entry_proto_collect' ?_))
  show wpAny _ _ (do again (.builtin "list.__iadd__" ⟨[← newList [], .ref d], []⟩)) _ _ s
  refine wpAny_bind (wpAny_newList (wpAny_pure ⟨Code.quiet_builtin _ (by decide +kernel), codeAny_builtin entry_list_iadd' ?_⟩))
  show wpAny _ _ (Builtin.List.listExtendWith (.ref s.heap.objs.size) (.ref d) (.ref s.heap.objs.size)) _ _ { s with heap := s.heap.push (seqObj "list" #[] 0) }
  have K := kdl_extend (A := A) (s := { s with heap := s.heap.push (seqObj "list" #[] 0) }) (R := fun r s' => ∃ h' tk c', r = .ok (.ret (.ref s.heap.objs.size)) ∧ s' = { s with heap := h', toks := tk } ∧ (∀ b o, s.heap.get? b = some o → h'.get? b = some o) ∧
      h'.get? s.heap.objs.size = some { cls := .type "list", dict := none, data := .seq (List.toArray (es.toList.map (·.key))) c', slots := #[] }) (src_rawD (prog := prog) (w := w) (ep := ep) lo) hh (hm.at fun o e => Heap.get?_push_of_some _ e) s.heap.objs.size (Nat.ne_of_gt hlt) (Nat.ne_of_gt hlt) (.ref s.heap.objs.size) 0 (Heap.get?_push_size _ rfl) (fun h' tk acc' c' hk hS hacc => ?_) hn
  · have fin : ∀ (r : Result) (s' : Shared), (∃ h' tk c', r = .ok (.ret (.ref s.heap.objs.size)) ∧ s' = { s with heap := h', toks := tk } ∧ (∀ b o, s.heap.get? b = some o → h'.get? b = some o) ∧
        h'.get? s.heap.objs.size = some { cls := .type "list", dict := none, data := .seq (List.toArray (es.toList.map (·.key))) c', slots := #[] }) →
        (match r with | .ok (.ret v) => wpAny (model prog w) A (match v with
          | .ref a => do
            let o ← load a
            match o.data with
            | .seq xs _ => pure xs.toList
            | _ => unsupported "internal:collect"
          | _ => unsupported "internal:collect") Q E s' | .ok _ => False | .error e => E e s') := by
      intro r s' hz9
      refine ea3_4 hz9 fun h' tk c' e1 e2 hk hS => ?_
      clear hz9
      subst e1 e2
      refine wpAny_bind (wpAny_load hS ?_)
      exact wpAny_pure (h h' tk hk)
    refine wpAny_mono K (fun f s' hf => ?_) fun e s' he => ?_
    · cases f with
      | done f => exact fin _ _ hf
      | again c => exact ⟨hf.1, codeAny_mono hf.2 fun r s' hr => fin r s' hr⟩
    · exact fin (.error e) s' he
  · refine mk3_4 h' tk c' rfl rfl (fun b o e => hk b o (Nat.ne_of_lt (Heap.lt_size e)) (Heap.get?_push_of_some _ e)) ?_
    rw [hS, ← items_keys hacc, Array.toArray_toList]
end

theorem tup_head {w : World} {h' : Heap} {x : Ent} {a b c : Int} {o : Obj} {vs : List Value} {ks : List (List Int)} (e : x.1 = [a, b, c]) (ho' : h'.get? x.2.1 = some o) (hk : TupKeyObj (intKind PR w) [a, b, c] o) (r : Tups h' vs ks) : Tups h' (.ref x.2.1 :: vs) (x.1 :: ks) := by
  obtain ⟨hc, items, n, hd, hi⟩ := hk
  obtain ⟨l⟩ := items
  dsimp only at hi
  cases hi with | cons h1 hi => cases hi with | cons h2 hi => cases hi with | cons h3 hi =>
  cases hi
  obtain ⟨t1, rfl⟩ := Value.isInt_shape h1
  obtain ⟨t2, rfl⟩ := Value.isInt_shape h2
  obtain ⟨t3, rfl⟩ := Value.isInt_shape h3
  rw [e]
  exact .cons ⟨o, ho', hc, n, hd⟩ r
theorem tups_of {w : World} {z : Heap} {own news : List (Addr × Obj)} {L : Addr} {xs : List Ent} (K : ∀ x ∈ xs, KeyO w z own x.1 x.2.1) (ho : ∀ q ∈ own, q ∈ news) (k3 : Key3 xs)
    (h' : Heap) (hz : ∀ b o, z.get? b = some o → h'.get? b = some o) (hN : News z L h' news) : Tups h' (xs.map fun x => .ref x.2.1) (xs.map (·.1)) := by
  induction xs with
  | nil => exact .nil
  | cons x xs ih =>
    refine ea3_1 (k3 x (.head _)) fun a b c e => ?_
    have r := ih (fun y hy => K y (.tail _ hy)) (fun y hy => k3 y (.tail _ hy))
    rcases K x (.head _) with ⟨o, i, n, e1, r1, r2, r3⟩ | ⟨o, m, r1⟩
    · rw [e] at r3
      exact tup_head e (hz _ _ e1) ⟨r1, i, n, r2, r3⟩ r
    · rw [e] at r1
      exact tup_head e (hN _ (ho _ m)).1 r1 r
noncomputable abbrev refsOf (xs : List Ent) : List Value := xs.map fun x => .ref x.2.1
noncomputable abbrev keysOf (xs : List Ent) : List (List Int) := xs.map (·.1)
theorem raw_keys {w : World} (xs : List Ent) : ((xs.map (entryOfKey (tupleKind (intKind PR w)))).toArray.toList.map (·.key)) = refsOf xs := by
  simp only [List.toList_toArray, List.map_map]
  rfl
section
variable {w : World} {A : Around} {E : Value → Shared → Prop} {s : Shared} {z : Heap} {L B D : Nat} {m : Str → Option Value} {news own : List (Addr × Obj)} {xs : List Ent} {n c : Nat} {Q : Value → Shared → Prop}
theorem list_tD (hh : A.handled = none) (F : Fr z L s.heap m) (N : News z L s.heap news) (hB : (B, tD w xs n) ∈ news) (hB0 : B ≠ 1) (K : KeysO w z own xs)
    (h : ∀ (D : Nat) c h' tk, Fr z L h' m → News z L h' ((D, listOf (refsOf xs).toArray c) :: news) → (∀ q ∈ news, q.1 < D) → Q (.ref D) { s with heap := h', toks := tk }) :
    wpAny (model PR w) A (call (.type "list") [.ref B]) Q E s := by
  have hm := rawD_tD (N _ hB).1
  refine kdl_N (src_rawD (prog := PR) (w := w) (beq_eq_false_iff_ne.mpr hB0)) hh F N hm (by simp only [List.size_toArray, List.length_map]; exact Nat.le_trans K.len (by rw [PySem.sizeLine_eq]; decide)) fun D c h' tk vs F' N' hlt hvl hv => ?_
  have e : vs = refsOf xs := by
    have := items_keys (es := (xs.map (entryOfKey (tupleKind (intKind PR w)))).toArray) (acc := vs.toArray) ⟨by rw [List.size_toArray]; exact hvl, fun j v hj => hv j v (by simpa using hj)⟩
    rw [raw_keys] at this
    simpa using this
  rw [e] at N'
  exact h D c h' tk F' N' hlt
theorem sorted_tD (hh : A.handled = none) (F : Fr z L s.heap m) (N : News z L s.heap news) (hB : (B, tD w xs n) ∈ news) (hB0 : B ≠ 1) (K : KeysO w z own xs) (ho : ∀ q ∈ own, q ∈ news) (k3 : Key3 xs) (h64 : xs.length < 64)
    (h : ∀ (D : Nat) c h' tk, Fr z L h' m → News z L h' ((D, listOf (sortVs (refsOf xs) (keysOf xs)).toArray c) :: news) → (∀ q ∈ news, q.1 < D) → Q (.ref D) { s with heap := h', toks := tk }) :
    wpAny (model PR w) A (call (.builtin "sorted") [.ref B]) Q E s := by
  refine sorted_by (vs := refsOf xs) (ks := keysOf xs) (news := news) (collect_rawD hh (beq_eq_false_iff_ne.mpr hB0) (rawD_tD (N _ hB).1) (by simp only [List.size_toArray, List.length_map]; exact Nat.le_trans K.len (by rw [PySem.sizeLine_eq]; decide)) fun h' tk hk => ?_) (by rw [List.length_map]; exact h64) (tups_of K.keys ho k3) fun D h' c tk F' N' hlt => h D c h' tk F' N' hlt
  exact ⟨raw_keys xs, h', tk, rfl, F.keeps hk, N.grown hk⟩
theorem sorted_list (hh : A.handled = none) (F : Fr z L s.heap m) (N : News z L s.heap news) (hD : (D, listOf (refsOf xs).toArray c) ∈ news) (K : KeysO w z own xs) (ho : ∀ q ∈ own, q ∈ news) (k3 : Key3 xs) (h64 : xs.length < 64)
    (h : ∀ (D : Nat) c h' tk, Fr z L h' m → News z L h' ((D, listOf (sortVs (refsOf xs) (keysOf xs)).toArray c) :: news) → (∀ q ∈ news, q.1 < D) → Q (.ref D) { s with heap := h', toks := tk }) :
    wpAny (model PR w) A (call (.builtin "sorted") [.ref D]) Q E s := by
  have hl : s.heap.IsList D (refsOf xs).toArray := N.isList hD
  refine sorted_by (vs := refsOf xs) (ks := keysOf xs) (news := news) (collect_list hl ?_ (by rw [List.length_map, PySem.sizeLine_eq]; omega)) (by rw [List.length_map]; exact h64) (tups_of K.keys ho k3) fun D h' c tk F' N' hlt => h D c h' tk F' N' hlt
  have keep : ∀ b o, s.heap.get? b = some o → ((s.heap.push (seqObj "list" #[] 0)).update s.heap.objs.size (Obj.mapSeq (· ++ (refsOf xs).toArray))).get? b = some o := fun b o q => by
    have hlt : b < s.heap.objs.size := Heap.lt_size q
    rw [Heap.get?_update_ne _ _ _ _ (Nat.ne_of_lt hlt)]
    exact Heap.get?_push_of_some _ q
  exact ⟨rfl, _, _, rfl, F.keeps keep, N.grown keep⟩
end
section
variable {w : World} {d u : Nat} {fr : List Env} {R : Result → Shared → Prop} {s : Shared} {z : Heap} {p : Program} {loose : List Str} {mean : ExcName → Option Value} {mg mb : Str → Option Value}
example : True := by
  k_with "call type:list" => ((k_here; (with_reducible show wpAny _ _ (call (Value.type "list") [Value.ref _]) _ _ _); k_dflt (refine' list_tD ?z52hh ?z52F ?z52N ?z52B ?z52q ?z52K ?_; (case z52hh => exact rfl); (case z52F => k_asm); (case z52N => k_asm); (case z52B => k_mem); (case z52q => (refine neN ?_; omega)); (case z52K => assumption)); intro _ _ _ _ _ _; walk_at "iL"; (try k_sweep)))
  k_with "call builtin:sorted" => ((k_here; (with_reducible show wpAny _ _ (call (Value.builtin _) [Value.ref _]) _ _ _); k_dflt (first | (refine' sorted_list ?z53hh ?z53F ?z53N ?z53B ?z53K ?z53o ?z53k ?z53l ?_; (case z53hh => exact rfl); (case z53F => k_asm); (case z53N => k_asm); (case z53B => k_mem); (case z53K => assumption); (case z53o => k_extra "subl"); (case z53k => assumption); (case z53l => assumption)) | (refine' sorted_tD ?z53hh ?z53F ?z53N ?z53B ?z53q ?z53K ?z53o ?z53k ?z53l ?_; (case z53hh => exact rfl); (case z53F => k_asm); (case z53N => k_asm); (case z53B => k_mem); (case z53q => (refine neN ?_; omega)); (case z53K => assumption); (case z53o => k_extra "subl"); (case z53k => assumption); (case z53l => assumption))); intro _ _ _ _ _ _; walk_at "iL"; (try k_sweep)))
  trivial
set_option maxHeartbeats 8000000 in
theorem live_ok {hp dh B G n : Nat} {HT : HT} {xs : List Ent} {sec nxt wr : Int} {tn tw : Tok}
    (X : (hd0.heap_1 w.params).In z) (T : Top p loose mean mg mb z) (P : Pre z s.heap [(hp, instObj 190 dh), (dh, hD w.params HT B G sec nxt wr tn tw), (B, tD w xs n)])
    (K : KeysO w z [] xs) (k3 : Key3 xs) (h64 : xs.length < 64) (hB : 292 < B) (hd : d ≤ 470) (hu : u ≤ 870)
    (h : ∀ h' tk D c, Pre z h' [(D, listOf (sortVs (refsOf xs) (keysOf xs)).toArray c), (hp, instObj 190 dh), (dh, hD w.params HT B G sec nxt wr tn tw), (B, tD w xs n)] → @LT.lt Nat _ hp D → @LT.lt Nat _ dh D → @LT.lt Nat _ B D → R (.ok (.ret (.ref D))) { s with heap := h', toks := tk }) :
    codeAny (model PR w) (mkA d fr u) (.call (.ref 175) ⟨[.ref hp], []⟩) R s := by
  refine enterZ (binds := [("self", .ref hp)]) X T P (by k_is) (by k_is) (by k_room) (BindsTo.of_eq (by rfl)) (locs (by rfl)) (by rfl) (by rfl) (by rfl) (by decide) ?_
  intro L' h' tk' F' N' hL' hst'
  (try dsimp only); k_fold
  walk_at "goL"
  exact h _ _ _ _ (leaveZ (by assumption) (by assumption) (by walk_at "subl") (by assumption) P.size) (by omega) (by omega) (by omega)
end

open PySem.Spec PySem.SeqAt
noncomputable def Nc (k : Nat) (d : PyData) : Prop := PyData.canLay0 d = true ∧ PyData.depth d ≤ k ∧ PyData.eqv d d = true
noncomputable def NcAll (k : Nat) (ds : List PyData) : Prop := PyData.canLayAll0 ds = true ∧ PyData.depthAll ds ≤ k ∧ PyData.eqvAll ds ds = true
theorem Nc.int (k : Nat) (i : Int) : Nc k (.int i) := ⟨rfl, Nat.zero_le _, by simp [PyData.eqv]⟩
theorem Nc.none (k : Nat) : Nc k .none := ⟨rfl, Nat.zero_le _, by simp [PyData.eqv]⟩
theorem NcAll.nil (k : Nat) : NcAll k [] := ⟨rfl, Nat.zero_le _, by simp [PyData.eqvAll]⟩
theorem NcAll.cons {k : Nat} {d : PyData} {ds : List PyData} (h : Nc k d) (hs : NcAll k ds) : NcAll k (d :: ds) :=
  ⟨by simp only [PyData.canLayAll0, h.1, hs.1, Bool.and_true], by simp only [PyData.depthAll]; exact Nat.max_le.mpr ⟨h.2.1, hs.2.1⟩, by simp only [PyData.eqvAll, h.2.2, hs.2.2, Bool.and_true]⟩
theorem NcAll.of {k : Nat} : ∀ {ds : List PyData}, (∀ d ∈ ds, Nc k d) → NcAll k ds
  | [], _ => .nil k
  | _ :: _, h => .cons (h _ (.head _)) (NcAll.of fun d hd => h d (.tail _ hd))
theorem Nc.tuple {k : Nat} {ds : List PyData} (h : NcAll k ds) : Nc (k + 1) (.tuple ds) := ⟨by simp only [PyData.canLay0]; exact h.1, by simp only [PyData.depth]; exact Nat.succ_le_succ h.2.1, by simp only [PyData.eqv]; exact h.2.2⟩
theorem Nc.list {k : Nat} {ds : List PyData} (h : NcAll k ds) : Nc (k + 1) (.list ds) := ⟨by simp only [PyData.canLay0]; exact h.1, by simp only [PyData.depth]; exact Nat.succ_le_succ h.2.1, by simp only [PyData.eqv]; exact h.2.2⟩
theorem Nc.shaped {k : Nat} {d : PyData} (h : Nc k d) (hk : k ≤ 9) : shaped d = true := by
  unfold SeqAt.shaped; rw [h.1, Bool.true_and]; exact decide_eq_true (Nat.le_trans (Nat.le_trans h.2.1 hk) (by decide))
section
variable {prog : Program} {w : World} {A : Around} {E : Value → Shared → Prop} {s : Shared} {Q : Value → Shared → Prop} {a b : Value} {as bs : List Addr} {d : PyData} {k : Nat}
theorem eq_same (ra : Reads s.heap a d as) (rb : Reads s.heap b d bs) (hd : Nc k d) (hk : k ≤ 9) (hu : A.units + 64 < cLine) (h : Q (.bool true) s) : wpAny (model prog w) A (compareOp .Eq a b) Q E s :=
  eq_dataH ra rb (hd.shaped hk) (hd.shaped hk) hu (by rw [hd.2.2]; exact h)
theorem ne_same (ra : Reads s.heap a d as) (rb : Reads s.heap b d bs) (hd : Nc k d) (hk : k ≤ 9) (hu : A.units + 64 < cLine) (h : Q (.bool false) s) : wpAny (model prog w) A (compareOp .NotEq a b) Q E s :=
  ne_dataH ra rb (hd.shaped hk) (hd.shaped hk) hu (by rw [hd.2.2]; exact h)
end
noncomputable def tupData (k : List Int) : PyData := .tuple (k.map .int)
theorem nc_tup (k : List Int) (n : Nat) : Nc (n + 1) (tupData k) := .tuple (.of fun d hd => by
  refine ea1_2 (List.mem_map.mp hd) fun i _ rz2 => ?_
  subst rz2
  exact .int _ _)
noncomputable def datAt (ks : List (List Int)) (i : Nat) : PyData := if i < ks.length then tupData (ks.getD i []) else .none
theorem reads_tup {h : Heap} {T : Addr} {a b c : Int} {t1 t2 t3 : Tok} (x : h.IsTuple T #[.int a t1, .int b t2, .int c t3]) : Reads h (.ref T) (tupData [a, b, c]) ([] ++ ([] ++ ([] ++ []))) := by
  obtain ⟨o, e, c', n, d⟩ := x
  exact .tuple e c' d (.cons (.int _ _) (.cons (.int _ _) (.cons (.int _ _) .nil)))
theorem reads_at {h : Heap} {vs : List Value} {ks : List (List Int)} (x : Tups h vs ks) (i : Nat) : ∃ as, Reads h (vs.getD i Value.none) (datAt ks i) as := by
  unfold datAt
  split
  · rename_i hi
    refine ea7_3 (x.get hi) fun T a b c t1 t2 t3 e1 e2 e3 => ?_
    rw [e1, e2]
    exact ⟨_, reads_tup e3⟩
  · rename_i hi
    have : vs.getD i Value.none = Value.none := by
      have hl := x.length
      simp [List.getElem?_eq_none (show vs.length ≤ i by omega)]
    rw [this]
    exact ⟨_, .none⟩
theorem reads_map {h : Heap} {vs : List Value} {ks : List (List Int)} (x : Tups h vs ks) : ∀ p : List Nat, ∃ as, ReadsAll h (p.map fun i => vs.getD i Value.none) (p.map (datAt ks)) as
  | [] => ⟨_, .nil⟩
  | i :: p => by
    obtain ⟨as, h1⟩ := reads_at x i
    obtain ⟨bs, h2⟩ := reads_map x p
    exact ⟨_, .cons h1 h2⟩
theorem reads_sorted {h : Heap} {vs : List Value} {ks : List (List Int)} {D : Addr} {c : Nat} (x : Tups h vs ks) (hD : h.get? D = some (listOf (sortVs vs ks).toArray c)) : ∃ as, Reads h (.ref D) (.list ((sortP ks).map (datAt ks))) as := by
  obtain ⟨as, h1⟩ := reads_map x (sortP ks)
  exact ⟨_, .list hD rfl rfl (by simpa [sortVs] using h1)⟩
theorem nc_sorted (ks : List (List Int)) : Nc 2 (.list ((sortP ks).map (datAt ks))) := .list (.of fun d hd => by
  refine ea1_2 (List.mem_map.mp hd) fun i _ rz2 => ?_
  subst rz2
  unfold datAt
  split
  · exact nc_tup _ _
  · exact .none _)
section
variable {w : World} {A : Around} {E : Value → Shared → Prop} {s : Shared} {Q : Value → Shared → Prop} {z : Heap} {L D1 D2 : Nat} {m : Str → Option Value} {news own : List (Addr × Obj)} {vs vs' : List Value} {ks : List (List Int)} {c1 c2 : Nat}
theorem ne_sorted (N : News z L s.heap news) (h1 : (D1, listOf (sortVs vs ks).toArray c1) ∈ news) (h2 : (D2, listOf (sortVs vs' ks).toArray c2) ∈ news) (x1 : Tups s.heap vs ks) (x2 : Tups s.heap vs' ks) (hu : A.units + 64 < cLine) (h : Q (.bool false) s) :
    wpAny (model PR w) A (compareOp .NotEq (.ref D1) (.ref D2)) Q E s := by
  obtain ⟨as, r1⟩ := reads_sorted x1 (N _ h1).1
  obtain ⟨bs, r2⟩ := reads_sorted x2 (N _ h2).1
  exact ne_same r1 r2 (nc_sorted ks) (by decide) hu h
end

noncomputable def CodeO (qual : Str) (oc : Obj) : Prop := ∃ vs t, oc.data = .fields vs ∧ vs[1]? = some (.str qual t)
structure TabOk (qual : Str) (cds : List (Addr × Obj)) (ps : Array Value) : Prop where
  tri : TriplesOk ps.toList
  code : ∀ pos cv, codeAmong pos ps.toList = some cv → ∃ c' oc, cv = .ref c' ∧ (c', oc) ∈ cds ∧ CodeO qual oc
theorem tri_snoc {l : List Value} {pos : Pos} {c : Value} (h : TriplesOk l) : TriplesOk (l ++ [rawInt pos.line, rawInt pos.col, c]) := by
  fun_induction TriplesOk l with
  | case1 => exact trivial
  | case2 _ _ _ _ _ rest ih => exact ih h
  | case3 => exact h.elim
theorem among_snoc {l : List Value} {pos pos' : Pos} {c cv : Value} (h : TriplesOk l) (e : codeAmong pos (l ++ [rawInt pos'.line, rawInt pos'.col, c]) = some cv) : codeAmong pos l = some cv ∨ cv = c := by
  fun_induction TriplesOk l with
  | case1 =>
    simp only [List.nil_append, rawInt, codeAmong] at e
    split at e
    · exact .inr (Option.some.inj e).symm
    · simp [codeAmong] at e
  | case2 i1 t1 i2 t2 v rest ih =>
    simp only [List.cons_append, codeAmong] at e ⊢
    split
    · rename_i hc
      rw [if_pos hc] at e
      exact .inl e
    · rename_i hc
      rw [if_neg hc] at e
      exact ih h e
  | case3 => exact h.elim
theorem TabOk.nil {qual : Str} {cds : List (Addr × Obj)} : TabOk qual cds #[] := ⟨trivial, fun pos cv h => by simp [codeAmong] at h⟩
theorem TabOk.mono {qual : Str} {cds cds' : List (Addr × Obj)} {ps : Array Value} (x : TabOk qual cds ps) (h : ∀ q ∈ cds, q ∈ cds') : TabOk qual cds' ps :=
  ⟨x.tri, fun pos cv e => let ⟨c', oc, a, b, c⟩ := x.code pos cv e; ⟨c', oc, a, h _ b, c⟩⟩
section
variable {M : Model} {A : Around} {E : Value → Shared → Prop} {s : Shared} {h₀ : Heap} {L a c P : Addr} {m mg mb : Str → Option Value} {cn : Str} {cs : Scope} {ccd : Value} {cl : List (Str × Addr)} {news cds : List (Addr × Obj)} {g : Obj → List (Addr × Obj)}
  {p : Program} {loose : List Str} {mean : ExcName → Option Value} {name qual : Str} {params : Arguments} {body : PySem.Expr} {scope : Scope} {ps : Array Value} {pos : Pos} {firstLine : Nat} {clos : List (Str × Addr)}
theorem updF_memP {B : Addr} {o : Obj} {gn : Obj → List (Addr × Obj)} (U : UpdF B o news gn) : (B, o) ∈ news := by
  refine ea2_2 (U.split) fun pre post e1 _ => ?_
  rw [e1]; exact List.mem_append_right _ (.head _)
theorem lam_any {x0 : Nat} {o0 : Obj} {Q : Value → Shared → Prop} (F : Fr h₀ L s.heap m) (N : News h₀ L s.heap news) (T : Top p loose mean mg mb h₀) (C : CodeHd h₀ c P) (hcd : ccd = .ref c) (U : UpdF P (tabObj ps) news g) (tb : TabOk qual cds ps) (hc : ∀ q ∈ cds, q ∈ news)
    (hcl : closureFor scope (envX cn cs L a ccd cl) = pure clos) (hx : ∀ q ∈ cds, x0 < q.1) (hx0 : (x0, o0) ∈ news)
    (h : ∀ (f : Nat) (c' : Nat) oc ctv ps' h' tk, Fr h₀ L h' m →
      News h₀ L h' ((f, kla_obj name qual params body scope clos ((mg "__name__").getD .none) c' ctv) :: (c', oc) :: g (tabObj ps')) → CodeO qual oc → TabOk qual ((c', oc) :: cds) ps' → (∀ q ∈ news, q.1 < f) → c' < f → x0 < c' → ((∀ q ∈ news, q.1 < c') ∨ (c', oc) ∈ cds) → Q (.ref f) { s with heap := h', toks := tk }) :
    wpAny M A (makeFunction name qual params (.expr body) scope (envX cn cs L a ccd cl) [] [] [] pos firstLine) Q E s := by
  have hm := updF_memP U
  cases q : codeAmong pos ps.toList with
  | none =>
    refine kla_nest F N T C hcd U tb.tri q hcl fun f c' oc vs t ctv h' tk F' N' hd hv hlt hlt2 => ?_
    refine h f c' oc ctv _ h' tk F' N' ⟨vs, t, hd, hv⟩ ⟨by rw [Array.toList_append]; exact tri_snoc tb.tri, fun pos' cv e => ?_⟩ (fun q hq => Nat.lt_trans (hlt q hq) hlt2) hlt2 (hlt _ hx0) (.inl hlt)
    rw [Array.toList_append] at e
    rcases among_snoc tb.tri e with e | rfl
    · refine ea2_3 (tb.code pos' cv e) fun c1 oc1 e1 e2 e3 => ?_
      exact mk2_3 c1 oc1 e1 (.tail _ e2) e3
    · exact ⟨c', oc, rfl, .head _, vs, t, hd, hv⟩
  | some cv =>
    refine ea2_3 (tb.code pos cv q) fun c' oc rz2 hmem hco => ?_
    subst rz2
    refine kla_hit F N T C hcd hm tb.tri q hcl fun f ctv h' tk F' N' hlt => ?_
    refine h f c' oc ctv ps h' tk F' (fun q hq => ?_) hco (tb.mono fun q hq => .tail _ hq) hlt (hlt _ (hc _ hmem)) (hx _ hmem) (.inr hmem)
    refine ea2_4 (U.split) fun pre post e1 e2 _ _ => ?_
    rcases List.mem_cons.mp hq with rfl | hq
    · exact N' _ (.head _)
    rcases List.mem_cons.mp hq with rfl | hq
    · exact N' _ (.tail _ (hc _ hmem))
    · rw [e2, ← e1] at hq
      exact N' _ (.tail _ hq)
end
section
variable {prog : Program} {w : World} {A : Around} {R : Result → Shared → Prop} {E : Value → Shared → Prop} {s : Shared} {z : Heap} {p : Program} {loose : List Str} {mean : ExcName → Option Value} {mg mb : Str → Option Value} {news : List (Addr × Obj)}
theorem enterL {name qual : Str} {params : Arguments} {body : PySem.Expr} {scope : Scope} {cl : List (Str × Addr)} {pm ctv : Value} {c' : Addr} {oc : Obj} {f : Addr}
    (T : Top p loose mean mg mb z) (P : Pre z s.heap news) (ho : z.get? f = some (kla_obj name qual params body scope cl pm c' ctv)) (hc : z.get? c' = some oc) (hcd : CodeO qual oc) (hroom : A.depth < recursionLimit)
    (hbind : bindArgs (kla_fn name qual params body scope cl pm (.ref c') ctv) ⟨[], []⟩ = pure [])
    (hco : scope.isCoroutine = false) (hgen : scope.isGenerator = false) (hk : scope.kind = .function) (hcell : ∀ x ∈ scope.names, x.2 ≠ .cell)
    (h : ∀ L' h₁ tk, Fr z L' h₁ (fun _ => none) → News z L' h₁ news → s.heap.objs.size = L' → (∀ b o, s.heap.get? b = some o → h₁.get? b = some o) →
      wpAny (model prog w) (A.deeper (envX qual scope L' f (.ref c') cl)) (eval body (envX qual scope L' f (.ref c') cl)) (fun v s' => R (.ok (.ret v)) s')
        (fun e s' => wpAny (model prog w) (A.deeper (envX qual scope L' f (.ref c') cl)) (leaving (envX qual scope L' f (.ref c') cl) e) (fun _ s'' => R (.error e) s'') (fun e' s'' => R (.error e') s'') s')
        { s with heap := h₁, toks := tk }) : codeAny (model prog w) A (.call (.ref f) ⟨[], []⟩) R s := by
  refine ea2_2 (hcd) fun vs t hd hv => ?_
  (try clear hcd)
  have T' := T.keeps P.stays
  refine kla_callFunE hroom (P.stays _ _ ho) rfl hco hgen rfl ⟨c', oc, vs, t, rfl, P.stays _ _ hc, hd, hv⟩ ?_
  rw [hbind]
  refine wpAny_pure (wpAny_newFunctionEnv hcell (by intro y hy; simp at hy) (fun h₁ hns hsb => ⟨(T'.nolimit).fresh _ hsb, ?_⟩) hk)
  show codeAny _ _ (.expr body (envX qual scope s.heap.objs.size f (.ref c') cl)) _ _
  have hk₁ : ∀ b o, s.heap.get? b = some o → h₁.get? b = some o := fun b o e => hsb.extBut b o (Nat.ne_of_lt (Heap.lt_size e)) (Heap.get?_push_of_some _ e)
  exact kla_codeExpr (h s.heap.objs.size h₁ _ ⟨by simpa using hns, fun b o e => hk₁ b o (P.stays b o e), P.size⟩
    (fun q hq => ⟨hk₁ _ _ (P.led q hq).1, Nat.ne_of_lt (Heap.lt_size (P.led q hq).1), (P.led q hq).2⟩) rfl hk₁)
theorem free_base {y : Str} {pos : Pos} {v : Value} {c : Addr} {o : Obj} {env : Env} {L : Addr} {m : Str → Option Value} {Q : Value → Shared → Prop} (F : Fr z L s.heap m) (hc : env.cells.lookup y = some c) (hz : z.get? c = some o) (hd : o.data = .cell (some v)) (h : Q v s)
    (hk : env.scope.kind = .function := by rfl) (hx : env.kindOf y = some .free := by rfl) (hb : (y == ("__debug__" : Str)) = false := by decide) (hn : (y == ("__classdict__" : Str)) = false := by decide) :
    wpAny (model prog w) A (eval (.Name y pos) env) Q E s := wpAny_Name (wpAny_loadName_free hk hx hc ⟨o, F.keep _ _ hz, hd⟩ h hn) hb
end

section
variable {M : Model} {A : Around} {E : Value → Shared → Prop} {s : Shared} {z h : Heap} {l : List Env} {env : Env} {C L : Addr} {why : Str} {P : Params} {m : Str → Option Value} {mt0 mt : List (Addr × Obj)} {Q : Unit → Shared → Prop}
theorem raise_pass0 {v : Value} (hfr : A.frames = some (env :: l)) (hf : env.frame = some L) (F : Fr z L h m) (N : News z L h mt0)
    (R : Raised P (hid h mt0) (env :: l) mt C why v s.heap) (hQ : ∀ h', Raised P z l mt C why v h' → Q () { s with heap := h' }) : wpAny M A (leaving env v) Q E s := by
  refine ea2_6 (R) fun e B rz2 k1 k2 k3 k4 k5 => ?_
  (try clear R)
  subst rz2
  refine leaveFly hfr hf k3 fun h' x1 x2 => hQ h' ⟨e, B, rfl, fun b o q hb => ?_, fun q hq => ?_, x1, ?_, ?_⟩
  · refine k1 b o (hid_base F N b o q) fun hm => ?_
    rcases (frs_cons hf).mp hm with r | hm
    · subst r; exact absurd (Heap.lt_size q) (Nat.not_lt.mpr F.above)
    · exact hb hm
  · exact ⟨(k2 q hq).1, Pre.no_base F N (k2 q hq).2⟩
  · intro b hb o q
    obtain ⟨sl, q1⟩ := k4 b ((frs_cons hf).mpr (.inr hb)) o (hid_base F N b o q)
    obtain ⟨sl', q2⟩ := x2 b ((frs_cons hf).mpr (.inr hb)) _ q1
    exact ⟨sl', q2⟩
  · refine ea3_2 (F.ns) fun oL _ _ hL _ => ?_
    obtain ⟨sl, q1⟩ := k4 L ((frs_cons hf).mpr (.inl rfl)) oL (hid_of hL fun q hq r => (N q hq).2.1 r)
    exact Nat.le_trans F.above (Nat.le_of_lt (x2.size ((frs_cons hf).mpr (.inl rfl)) q1))
end
section
variable {prog : Program} {w : World} {A : Around} {E : Value → Shared → Prop} {s s0 : Shared} {z : Heap} {l : List Env} {env : Env} {L : Addr} {m : Str → Option Value} {mt : List (Addr × Obj)} {Ok : Value → List (Addr × Obj) → Prop} {Er : Addr → Str → List (Addr × Obj) → Prop} {R : Result → Shared → Prop} {f : Value} {args : List Value}
theorem through (hfr : A.frames = some (env :: l)) (hf : env.frame = some L) (F : Fr z L s.heap m) (N : News z L s.heap mt) (hz : z.objs.size ≤ L) (hs0 : ∀ h tk, ({ s with heap := h, toks := tk } : Shared) = { s0 with heap := h, toks := tk })
    (hc : codeAny (model prog w) A (.call f ⟨args, []⟩) (CallEnds w (hid s.heap mt) (env :: l) Ok Er s) s) :
    wpAny (model prog w) A (call f args) (fun v s' => CallEnds w z l Ok Er s0 (.ok (.ret v)) s')
      (fun e s' => wpAny (model prog w) A (leaving env e) (fun _ s'' => CallEnds w z l Ok Er s0 (.error e) s'') (fun e' s'' => CallEnds w z l Ok Er s0 (.error e') s'') s') s := by
  refine wpAny_call (codeAny_mono hc fun r s' hr => ?_)
  rcases hr with hr | hr
  · refine ea4_4 hr fun v h' tk mt' e1 e2 P' hO => ?_
    subst e1 e2
    have F' := Pre.fr F N P'
    have N' := Pre.nws F N P' (rest := []) (fun q hq => nomatch hq) N
    refine .inl (mk4_4 v h' tk mt' rfl (hs0 _ _) ⟨F'.keep, Nat.le_trans hz (Nat.le_of_lt F'.ns.lt), fun q hq => ?_⟩ hO)
    have := N' q (by rw [List.append_nil]; exact hq)
    exact ⟨this.1, this.2.2⟩
  · refine ea6_6 hr fun v h' tk mt' C why e1 e2 hC hw Rz hE => ?_
    subst e1 e2
    refine raise_pass0 hfr hf F N Rz fun h'' Rz' => ?_
    exact .inr (mk6_6 v h'' tk mt' C why rfl (hs0 _ _) hC hw Rz' hE)
end

section
variable {z h : Heap} {mt rest : List (Addr × Obj)}
theorem Pre.wide (P : Pre z h (mt ++ rest)) (hd : ∀ q ∈ rest, ∀ p ∈ mt, p.1 ≠ q.1) :
    (∀ b o, z.get? b = some o → (hid h mt).get? b = some o) ∧ Pre (hid h mt) h mt ∧ (∀ h' mt', Pre (hid h mt) h' mt' → Pre z h' (mt' ++ rest)) ∧
    ∀ (PP : Params) (fr : List Env) (mt' : List (Addr × Obj)) (C : Addr) (why : Str) (v : Value) (h' : Heap), FFr z fr → Raised PP (hid h mt) fr mt' C why v h' → Raised PP z fr (mt' ++ rest) C why v h' := by
  have hz : ∀ b o, z.get? b = some o → (hid h mt).get? b = some o := fun b o e => hid_of (P.stays _ _ e) fun q hq r => by
    have := (P.led q (List.mem_append_left _ hq)).2
    rw [r, e] at this; cases this
  have hn : ∀ b, (hid h mt).get? b = none → z.get? b = none := fun b hb => by
    cases q : z.get? b with
    | none => rfl
    | some o => rw [hz b o q] at hb; cases hb
  have hr : ∀ q ∈ rest, (hid h mt).get? q.1 = some q.2 := fun q hq => hid_of (P.led q (List.mem_append_right _ hq)).1 fun p hp => hd q hq p hp
  refine mk0_4 hz (⟨fun _ _ e => of_hid e, Nat.le_of_eq hid_size, fun q hq => ⟨(P.led q (List.mem_append_left _ hq)).1, hid_no hq⟩⟩) (fun h' mt' P' => ⟨fun b o e => P'.stays b o (hz b o e), Nat.le_trans P.size (by have := P'.size; rw [hid_size] at this; exact this), fun q hq => ?_⟩) (fun PP fr mt' C why v h' FF R => ?_)
  · rcases List.mem_append.mp hq with hq | hq
    · exact ⟨(P'.led q hq).1, hn _ (P'.led q hq).2⟩
    · exact ⟨P'.stays _ _ (hr q hq), (P.led q (List.mem_append_right _ hq)).2⟩
  · refine ea2_6 (R) fun e B rz2 k1 k2 k3 k4 k5 => ?_
    (try clear R)
    subst rz2
    refine mk2_6 e B rfl (fun b o q hb => k1 b o (hz b o q) hb) (fun q hq => ?_) k3 (fun b hb o q => k4 b hb o (hz b o q)) (Nat.le_trans P.size (by rw [hid_size] at k5; exact k5))
    rcases List.mem_append.mp hq with hq | hq
    · exact ⟨(k2 q hq).1, hn _ (k2 q hq).2⟩
    · refine ⟨k1 _ _ (hr q hq) fun hm => ?_, (P.led q (List.mem_append_right _ hq)).2⟩
      obtain ⟨o, ho⟩ := FF.at hm
      rw [(P.led q (List.mem_append_right _ hq)).2] at ho; cases ho
end
theorem goneStr_len (g : Bool) : (goneStr g).length ≤ 100 := by cases g <;> exact Nat.le_of_ble_eq_true rfl
noncomputable def Alive (xs : List Ent) (ts : List (List Int × Nat)) : Prop := ∀ t ∈ ts, (atKey xs t.1).isSome = true
noncomputable abbrev led4 (w : World) (hp dh B G : Nat) (HT : HT) (sec nxt wr : Int) (tn tw : Tok) (xs ys : List Ent) (n n2 : Nat) : List (Addr × Obj) := [(hp, instObj 190 dh), (dh, hD w.params HT B G sec nxt wr tn tw), (B, tD w xs n), (G, tD w ys n2)]
section
variable {w : World} {d u : Nat} {fr : List Env} {s : Shared} {z : Heap} {p : Program} {loose : List Str} {mean : ExcName → Option Value} {mg mb : Str → Option Value}
theorem apart4 {w : World} {hp dh B G : Nat} {HT : HT} {sec nxt wr : Int} {tn tw : Tok} {xs ys : List Ent} {n n2 : Nat} (hO : dh < hp ∧ hp < B ∧ B < G) :
    ∀ q ∈ [((G, tD w ys n2) : Addr × Obj)], ∀ p ∈ [((hp, instObj 190 dh) : Addr × Obj), (dh, hD w.params HT B G sec nxt wr tn tw), (B, tD w xs n)], p.1 ≠ q.1 := by
  intro q hq p hp
  rw [List.mem_singleton.mp hq]
  simp only [List.mem_cons, List.not_mem_nil, or_false] at hp
  rcases hp with rfl | rfl | rfl <;> (refine neN ?_; dsimp only; omega)
theorem read_ends {hp dh B G pt n n2 : Nat} {HT : HT} {q : PT} {t0 : List Int × Nat} {ts : List (List Int × Nat)} {xs ys : List Ent} {sec nxt wr : Int} {tn tw tb : Tok} {b : Array UInt8}
    (X : (hd0.heap_1 w.params).In z) (T : Top p loose mean mg mb z) (P : Pre z s.heap (led4 w hp dh B G HT sec nxt wr tn tw xs ys n n2))
    (PA : PtrAt w z pt q (t0 :: ts)) (K : KeysO w z [] xs) (K2 : KeysO w z [] ys) (hB : 292 < B) (hG : 292 < G) (hd : d ≤ 470) (hu : u ≤ 870) (FF : FFr z fr) (hO : dh < hp ∧ hp < B ∧ B < G)
    (hst : (Alive xs (t0 :: ts) ∧ (atKey xs t0.1).map (·.2) = some (.bytes b tb)) ∨ (atKey xs t0.1).isSome = false) (hsm : b.size ≤ 1000) :
    codeAny (model PR w) (mkA d fr u) (.call (.ref 161) ⟨[.ref hp, .ref pt], []⟩)
      (CallEnds w z fr (fun v mt' => mt' = led4 w hp dh B G HT sec nxt wr tn tw xs ys n n2 ∧ (atKey xs t0.1).isSome = true ∧ (b.size : Int) = q.size ∧ v = .bytes b tb)
        (fun C why mt' => mt' = led4 w hp dh B G HT sec nxt wr tn tw xs ys n n2 ∧ (((atKey xs t0.1).isSome = true ∧ ¬(b.size : Int) = q.size ∧ C = 44 ∧ why = "a block of another size") ∨ ((atKey xs t0.1).isSome = false ∧ C = 56 ∧ why = goneStr (atKey ys t0.1).isSome))) s) s := by
  rcases hst with ⟨hal, hb⟩ | hno
  · have h0 := hal t0 (.head _)
    refine ea0_4 (Pre.wide (mt := [(hp, instObj 190 dh), (dh, hD w.params HT B G sec nxt wr tn tw), (B, tD w xs n)]) (rest := [(G, tD w ys n2)]) P (apart4 hO)) fun hz P3 back rback => ?_
    by_cases hs : (b.size : Int) = q.size
    · refine read_ok (X.keeps hz) (T.keeps hz) P3 (PA.keeps hz) ⟨fun x hx => .inl ?_, K.nodup, K.len⟩ hal hB hd hu ⟨hO.1, hO.2.1⟩ hb hs hsm fun h' tk P' => ?_
      · rcases K.keys x hx with ⟨o, i, n, a, r⟩ | ⟨o, a, _⟩
        · exact mk3_2 o i n (hz _ _ a) r
        · cases a
      · exact CallEnds.ok _ h' tk _ (back _ _ P') ⟨rfl, h0, hs, rfl⟩
    · refine read_bad (X.keeps hz) (T.keeps hz) P3 (PA.keeps hz) ⟨fun x hx => .inl ?_, K.nodup, K.len⟩ hal hB hd hu ⟨hO.1, hO.2.1⟩ hb hs (FF.keeps hz) hsm fun h' tk v R => ?_
      · rcases K.keys x hx with ⟨o, i, n, a, r⟩ | ⟨o, a, _⟩
        · exact mk3_2 o i n (hz _ _ a) r
        · cases a
      · exact CallEnds.err v h' tk _ 44 _ (.inl rfl) (Nat.le_of_ble_eq_true rfl) (rback _ _ _ _ _ _ _ FF R) ⟨rfl, .inl ⟨h0, hs, rfl, rfl⟩⟩
  · refine read_no X T P PA K K2 hno rfl hB hG hd hu FF hO fun h' tk v R => ?_
    exact CallEnds.err v h' tk _ 56 _ (.inr (.inl rfl)) (goneStr_len _) R ⟨rfl, .inr ⟨hno, rfl, rfl⟩⟩
theorem free_ends {hp dh B G pt n n2 : Nat} {HT : HT} {q : PT} {t0 : List Int × Nat} {ts : List (List Int × Nat)} {xs ys : List Ent} {sec nxt wr : Int} {tn tw tt : Tok} {tx : Int}
    (X : (hd0.heap_1 w.params).In z) (T : Top p loose mean mg mb z) (P : Pre z s.heap (led4 w hp dh B G HT sec nxt wr tn tw xs ys n n2))
    (PA : PtrAt w z pt q (t0 :: ts)) (K : KeysO w z [] xs) (K2 : KeysO w z [] ys) (hB : 292 < B) (hG : 292 < G) (hd : d ≤ 470) (hu : u ≤ 870) (FF : FFr z fr) (hO : dh < hp ∧ hp < B ∧ B < G)
    (hst : Alive xs (t0 :: ts) ∨ (atKey xs t0.1).isSome = false) (hnd : ((t0 :: ts).map (·.1)).Nodup) (hlen : ys.length + (t0 :: ts).length < 10000) :
    codeAny (model PR w) (mkA d fr u) (.call (.ref 168) ⟨[.ref hp, .ref pt, .int tx tt], []⟩)
      (CallEnds w z fr (fun v mt' => (∃ n n2, mt' = led4 w hp dh B G HT sec nxt wr tn tw (dropX xs (t0 :: ts)) (putX (.int tx tt) ys (t0 :: ts)) n n2) ∧ (atKey xs t0.1).isSome = true ∧ v = .none)
        (fun C why mt' => mt' = led4 w hp dh B G HT sec nxt wr tn tw xs ys n n2 ∧ (atKey xs t0.1).isSome = false ∧ C = 56 ∧ why = goneStr (atKey ys t0.1).isSome) s) s := by
  rcases hst with hal | hno
  · exact free_ok X T P PA K K2 hal hnd hB hG hd hu hO hlen fun h' tk n' n2' P' => CallEnds.ok _ h' tk _ P' ⟨⟨n', n2', rfl⟩, hal t0 (.head _), rfl⟩
  · refine free_no X T P PA K K2 hno rfl hB hG hd hu FF hO fun h' tk v R => ?_
    exact CallEnds.err v h' tk _ 56 _ (.inr (.inl rfl)) (goneStr_len _) R ⟨rfl, hno, rfl, rfl⟩
theorem harm_ends {hp dh B G pt n n2 : Nat} {HT : HT} {q : PT} {t0 : List Int × Nat} {ts : List (List Int × Nat)} {xs ys : List Ent} {sec nxt wr : Int} {tn tw tb : Tok} {b : Array UInt8}
    (X : (hd0.heap_1 w.params).In z) (T : Top p loose mean mg mb z) (P : Pre z s.heap (led4 w hp dh B G HT sec nxt wr tn tw xs ys n n2))
    (PA : PtrAt w z pt q (t0 :: ts)) (K : KeysO w z [] xs) (K2 : KeysO w z [] ys) (hB : 292 < B) (hG : 292 < G) (hd : d ≤ 470) (hu : u ≤ 870) (FF : FFr z fr) (hO : dh < hp ∧ hp < B ∧ B < G)
    (hst : Alive xs (t0 :: ts) ∨ (atKey xs t0.1).isSome = false) (hnd : ((t0 :: ts).map (·.1)).Nodup) (hlen : xs.length + (t0 :: ts).length < 10000) (hb : b.size ≤ 1000) :
    codeAny (model PR w) (mkA d fr u) (.call (.ref 187) ⟨[.ref hp, .ref pt, .bytes b tb], []⟩)
      (CallEnds w z fr (fun v mt' => (∃ n, mt' = led4 w hp dh B G HT sec nxt wr tn tw (putX (.bytes b tb) xs (t0 :: ts)) ys n n2) ∧ (atKey xs t0.1).isSome = true ∧ v = .none)
        (fun C why mt' => mt' = led4 w hp dh B G HT sec nxt wr tn tw xs ys n n2 ∧ (atKey xs t0.1).isSome = false ∧ C = 56 ∧ why = goneStr (atKey ys t0.1).isSome) s) s := by
  rcases hst with hal | hno
  · refine ea0_4 (Pre.wide (mt := [(hp, instObj 190 dh), (dh, hD w.params HT B G sec nxt wr tn tw), (B, tD w xs n)]) (rest := [(G, tD w ys n2)]) P (apart4 hO)) fun hz P3 back rback => ?_
    refine harm_ok (X.keeps hz) (T.keeps hz) P3 (PA.keeps hz) ⟨fun x hx => .inl ?_, K.nodup, K.len⟩ hal hnd hB hd hu ⟨hO.1, hO.2.1⟩ hlen hb fun h' tk n' P' => ?_
    · rcases K.keys x hx with ⟨o, i, n, a, r⟩ | ⟨o, a, _⟩
      · exact mk3_2 o i n (hz _ _ a) r
      · cases a
    · exact CallEnds.ok _ h' tk _ (back _ _ P') ⟨⟨n', rfl⟩, hal t0 (.head _), rfl⟩
  · refine harm_no X T P PA K K2 hno rfl hB hG hd hu FF hO fun h' tk v R => ?_
    exact CallEnds.err v h' tk _ 56 _ (.inr (.inl rfl)) (goneStr_len _) R ⟨rfl, hno, rfl, rfl⟩
end

noncomputable abbrev wKV (sec nxt : Int) (V U M : Nat) (wr : Int) (t1 t2 t3 : Tok) : List (Str × Value) := [("sector", .int sec t1), ("next", .int nxt t2), ("live", .ref V), ("gone", .ref U), ("made", .ref M), ("written", .int wr t3)]
section
variable {w : World} {sec nxt wr wr' nxt' : Int} {V U M : Nat} {t1 t2 t3 t' : Tok} {o : Obj}
theorem val_sector : valueAt (wKV sec nxt V U M wr t1 t2 t3) "sector" = some (.int sec t1) := rfl
theorem val_next : valueAt (wKV sec nxt V U M wr t1 t2 t3) "next" = some (.int nxt t2) := rfl
theorem val_live : valueAt (wKV sec nxt V U M wr t1 t2 t3) "live" = some (.ref V) := rfl
theorem val_gone : valueAt (wKV sec nxt V U M wr t1 t2 t3) "gone" = some (.ref U) := rfl
theorem val_made : valueAt (wKV sec nxt V U M wr t1 t2 t3) "made" = some (.ref M) := rfl
theorem val_written : valueAt (wKV sec nxt V U M wr t1 t2 t3) "written" = some (.int wr t3) := rfl
theorem wkv_written (h : o.IsDictOf (PySem.strKind PR w) (stored (wKV sec nxt V U M wr t1 t2 t3) "written" (.int wr' t'))) : o.IsDictOf (PySem.strKind PR w) (wKV sec nxt V U M wr' t1 t2 t') := h
theorem wkv_next (h : o.IsDictOf (PySem.strKind PR w) (stored (wKV sec nxt V U M wr t1 t2 t3) "next" (.int nxt' t'))) : o.IsDictOf (PySem.strKind PR w) (wKV sec nxt' V U M wr t1 t' t3) := h
end
theorem goneS_t : toldStr 56 (goneStr true) = ("misused: a block that is gone" : Str) := by kernel_rfl
theorem goneS_f : toldStr 56 (goneStr false) = ("misused: a block that never was" : Str) := by kernel_rfl
section
variable {w : World} {d u : Nat} {fr : List Env} {R : Result → Shared → Prop} {s : Shared} {z : Heap} {p : Program} {loose : List Str} {mean : ExcName → Option Value} {mg mb : Str → Option Value}
set_option maxHeartbeats 8000000 in
theorem gone_alive {W V U M pt n n2 : Nat} {oW : Obj} {q : PT} {ts : List (List Int × Nat)} {xs ys : List Ent} {sec nxt wr : Int} {t1 t2 t3 : Tok}
    (X : (hd0.heap_1 w.params).In z) (T : Top p loose mean mg mb z) (P : Pre z s.heap [(W, oW), (V, tD w xs n), (U, tD w ys n2)]) (hW : oW.IsDictOf (PySem.strKind PR w) (wKV sec nxt V U M wr t1 t2 t3))
    (PA : PtrAt w z pt q ts) (K : KeysO w z [] xs) (K2 : KeysO w z [] ys) (hall : ∀ t ∈ ts, (atKey xs t.1).isSome = true) (hV : 292 < V) (hU : 292 < U) (hd : d ≤ 470) (hu : u ≤ 870)
    (h : ∀ h' tk t, Pre z h' [(W, oW), (V, tD w xs n), (U, tD w ys n2)] → R (.ok (.ret (.str "" t))) { s with heap := h', toks := tk }) :
    codeAny (model PR w) (mkA d fr u) (.call (.ref 270) ⟨[.ref W, .ref pt], []⟩) R s := by
  refine enterZ (binds := [("world", .ref W), ("pointer", .ref pt)]) X T P (by k_is) (by k_is) (by k_room) (BindsTo.of_eq (by rfl)) (locs (by rfl)) (by rfl) (by rfl) (by rfl) (by decide) ?_
  intro L' h' tk' F' N' hL' hst'
  (try dsimp only); k_fold
  obtain ⟨pa1, pa2, ⟨c, pa3⟩, pa4⟩ := PA
  walk_at "go"
  refine For_invV z (by rfl) (by rfl) ?_
  walk_at "go"
  refine iter_tup (J := fun vs news₁ => news₁ = [(W, oW), (V, tD w xs n), (U, tD w ys n2)] ∧ ∀ v ∈ vs, ∃ k a, v = .ref a ∧ KeyO w z [] k a ∧ (atKey xs k).isSome = true) rfl (by assumption) (by assumption) rfl (.inl pa3) ⟨rfl, ?_⟩ ?_ ?_
  · intro v hv
    refine ea1_2 (List.mem_map.mp hv) fun t ht rz2 => ?_
    subst rz2
    exact mk2_3 t.1 t.2 rfl (.inl (pa4 t ht)) (hall t ht)
  · rintro v vs news₁ I it h₁ tk₁ ⟨rfl, hv⟩ hI hic F₁ N₁ hnI
    refine ea2_3 (hv v (.head _)) fun k a rz2 ka hk => ?_
    subst rz2
    walk_at "go"
    exact mk3_6 _ _ _ rfl (by assumption) (by assumption) hnI rfl (fun v hv' => hv v (.tail _ hv'))
  · rintro d h₁ tk₁ news₁ ⟨rfl, _⟩ F₁ N₁
    walk_at "go"
    exact h _ _ _ (leaveZ (by assumption) (by assumption) (by intro q hq; exact hq) (by assumption) P.size)
set_option maxHeartbeats 8000000 in
theorem gone_dead {W V U M pt n n2 : Nat} {oW : Obj} {q : PT} {t0 : List Int × Nat} {ts : List (List Int × Nat)} {xs ys : List Ent} {sec nxt wr : Int} {t1 t2 t3 : Tok} {g : Bool}
    (X : (hd0.heap_1 w.params).In z) (T : Top p loose mean mg mb z) (P : Pre z s.heap [(W, oW), (V, tD w xs n), (U, tD w ys n2)]) (hW : oW.IsDictOf (PySem.strKind PR w) (wKV sec nxt V U M wr t1 t2 t3))
    (PA : PtrAt w z pt q (t0 :: ts)) (K : KeysO w z [] xs) (K2 : KeysO w z [] ys) (hno : (atKey xs t0.1).isSome = false) (hg : (atKey ys t0.1).isSome = g) (hV : 292 < V) (hU : 292 < U) (hd : d ≤ 470) (hu : u ≤ 870)
    (h : ∀ h' tk t, Pre z h' [(W, oW), (V, tD w xs n), (U, tD w ys n2)] → R (.ok (.ret (.str (toldStr 56 (goneStr g)) t))) { s with heap := h', toks := tk }) :
    codeAny (model PR w) (mkA d fr u) (.call (.ref 270) ⟨[.ref W, .ref pt], []⟩) R s := by
  refine enterZ (binds := [("world", .ref W), ("pointer", .ref pt)]) X T P (by k_is) (by k_is) (by k_room) (BindsTo.of_eq (by rfl)) (locs (by rfl)) (by rfl) (by rfl) (by rfl) (by decide) ?_
  intro L' h' tk' F' N' hL' hst'
  (try dsimp only); k_fold
  obtain ⟨pa1, pa2, ⟨c, pa3⟩, pa4⟩ := PA
  walk_at "go"
  refine For_invV z (by rfl) (by rfl) ?_
  walk_at "go"
  refine iter_tup (J := fun vs news₁ => news₁ = [(W, oW), (V, tD w xs n), (U, tD w ys n2)] ∧ vs = ((t0 :: ts).map fun t => .ref t.2)) rfl (by assumption) (by assumption) rfl (.inl pa3) ⟨rfl, rfl⟩ ?_ ?_
  · rintro v vs news₁ I it h₁ tk₁ ⟨rfl, hv⟩ hI hic F₁ N₁ hnI
    rw [List.map_cons] at hv
    injection hv with hv _
    subst hv
    have ka : KeyO w z [] t0.1 t0.2 := .inl (pa4 t0 (.head _))
    cases g
    · rw [goneS_f] at h
      walk_at "go"
      all_goals exact h _ _ _ (leaveZ (by assumption) (by assumption) (by intro q hq; exact .tail _ hq) (by assumption) P.size)
    · rw [goneS_t] at h
      walk_at "go"
      all_goals exact h _ _ _ (leaveZ (by assumption) (by assumption) (by intro q hq; exact .tail _ hq) (by assumption) P.size)
  · rintro d h₁ tk₁ news₁ ⟨rfl, hv⟩ F₁ N₁
    cases hv
end

example : True := by
  k_with "subscriptTail" => ((k_here; (with_reducible show wpAny _ _ (subscriptTail _ _ (Value.ref _) (Value.str _ _)) _ _ _); k_dflt (refine' kda_item (knd := PySem.strKind PR _) ?z40N ?z40m ?z40d (strKind_is _ _ _ _) ?z40l ?_; (case z40N => k_asm); (case z40m => k_mem); (case z40d => assumption); (case z40l => first | exact val_sector | exact val_next | exact val_live | exact val_gone | exact val_made | exact val_written))))
  k_with "setItem ref str" => ((k_here; k_dflt (refine' kda_set (knd := PySem.strKind PR _) ?z41F ?z41N ?z41U ?z41d (strKind_is _ _ _ _) ?z41z ?_; (case z41F => k_asm); (case z41N => k_asm); (case z41U => k_updF); (case z41d => assumption); (case z41z => (rw [sizeLine_eq]; exact Nat.le_of_ble_eq_true (by with_unfolding_all rfl)))); intro _ _ _; walk_at "iN"; walk_at "iW"; (try k_sweep)))
  trivial
noncomputable def hidF (h : Heap) (L : Addr) (mt fl : List (Addr × Obj)) : Heap := hid h (mt ++ ((L, default) :: fl))
theorem told_frame {z h : Heap} {L : Addr} {m : Str → Option Value} {mt rest fl : List (Addr × Obj)} {fr : List Env} {env : Env} (F : Fr z L h m) (N : News z L h (mt ++ (rest ++ fl)))
    (hmr : ∀ q ∈ rest, ∀ p ∈ mt, p.1 ≠ q.1) (hmf : ∀ q ∈ fl, ∀ p ∈ mt, p.1 ≠ q.1) (hrf : ∀ q ∈ rest, ∀ p ∈ fl, p.1 ≠ q.1) (FL : FrL fr fl) (hf : env.frame = some L) (hk : env.scope.kind ≠ .module) :
    ∃ zc oL, zc.objs.size = h.objs.size ∧ (∀ b o, z.get? b = some o → zc.get? b = some o) ∧ Pre zc h (mt ++ ((L, oL) :: fl)) ∧ FrL (env :: fr) ((L, oL) :: fl) ∧ (∀ q ∈ rest, zc.get? q.1 = some q.2) ∧ (∀ q ∈ (L, oL) :: fl, ∀ p ∈ mt, p.1 ≠ q.1) ∧
      ∀ h' mt' fl2, FlS ((L, oL) :: fl) fl2 → (∀ p ∈ (L, oL) :: fl, ∀ q ∈ mt', q.1 ≠ p.1) → Pre zc h' (mt' ++ fl2) → Fr z L h' m ∧ ∃ fl', FlS fl fl' ∧ News z L h' (mt' ++ (rest ++ fl')) := by
  refine ea3_3 (F.ns) fun oL es ep hL hd hr => ?_
  have Nm : ∀ q ∈ mt, _ := fun q hq => N q (List.mem_append_left _ hq)
  have Nr : ∀ q ∈ rest, _ := fun q hq => N q (List.mem_append_right _ (List.mem_append_left _ hq))
  have Nf : ∀ q ∈ fl, _ := fun q hq => N q (List.mem_append_right _ (List.mem_append_right _ hq))
  have hzL : z.get? L = none := Heap.get?_none_of_le F.above
  have zi : ∀ b o, z.get? b = some o → (hid h (mt ++ ((L, oL) :: fl))).get? b = some o := fun b o e => hid_of (F.keep b o e) fun q hq r => by
    rcases List.mem_append.mp hq with hq | hq
    · have := (Nm q hq).2.2; rw [r, e] at this; cases this
    rcases List.mem_cons.mp hq with rfl | hq
    · rw [show L = b from r, e] at hzL; cases hzL
    · have := (Nf q hq).2.2; rw [r, e] at this; cases this
  have zn : ∀ b, (hid h (mt ++ ((L, oL) :: fl))).get? b = none → z.get? b = none := fun b hb => by
    cases q : z.get? b with
    | none => rfl
    | some o => rw [zi b o q] at hb; cases hb
  refine mk2_7 (hid h (mt ++ ((L, oL) :: fl))) oL hid_size zi (⟨fun _ _ e => of_hid e, Nat.le_of_eq hid_size, fun q hq => ⟨?_, hid_no hq⟩⟩) (⟨?_, fun e he => ?_, fun q hq => ?_⟩) (fun q hq => hid_of (Nr q hq).1 fun p hp r => ?_) (fun q hq p hp => ?_) (fun h' mt' fl2 S hoff P => ?_)
  · rcases List.mem_append.mp hq with hq | hq
    · exact (Nm q hq).1
    rcases List.mem_cons.mp hq with rfl | hq
    · exact hL
    · exact (Nf q hq).1
  · show L :: fl.map (·.1) = frs (env :: fr)
    rw [FL.adr]
    show _ = (env :: fr).filterMap (·.frame)
    rw [List.filterMap_cons, hf]
  · rcases List.mem_cons.mp he with rfl | he
    · exact ⟨hk, L, hf⟩
    · exact FL.kind e he
  · rcases List.mem_cons.mp hq with rfl | hq
    · intro vs q
      dsimp only at q
      rw [hd] at q; cases q
    · exact FL.data q hq
  · rcases List.mem_append.mp hp with hp | hp
    · exact hmr q hq p hp r
    rcases List.mem_cons.mp hp with rfl | hp
    · exact (Nr q hq).2.1 r.symm
    · exact hrf q hq p hp r
  · rcases List.mem_cons.mp hq with rfl | hq
    · exact (Nm p hp).2.1
    · exact hmf q hq p hp
  · cases S with
    | cons S =>
      rename_i sl fl'
      have hL' := (P.led (L, { oL with slots := sl }) (List.mem_append_right _ (.head _))).1
      refine ⟨⟨⟨_, es, ep, hL', hd, hr⟩, fun b o e => P.stays b o (zi b o e), F.above⟩, fl', S, fun q hq => ?_⟩
      rcases List.mem_append.mp hq with hq | hq
      · have := P.led q (List.mem_append_left _ hq)
        exact mk0_3 this.1 (hoff _ (.head _) q hq) (zn _ this.2)
      rcases List.mem_append.mp hq with hq | hq
      · exact ⟨P.stays _ _ (hid_of (Nr q hq).1 fun p hp r => by
          rcases List.mem_append.mp hp with hp | hp
          · exact hmr q hq p hp r
          rcases List.mem_cons.mp hp with rfl | hp
          · exact (Nr q hq).2.1 r.symm
          · exact hrf q hq p hp r), (Nr q hq).2⟩
      · refine ea1_2 (S.mem hq) fun q' h1 h2 => ?_
        exact ⟨(P.led q (List.mem_append_right _ (.tail _ hq))).1, h2 ▸ (Nf q' h1).2⟩
theorem subl_of {z h : Heap} {L : Addr} {all mt : List (Addr × Obj)} (N : News z L h all) (sub : ∀ q ∈ mt, q ∈ all) : News z L h mt := fun q hq => N q (sub q hq)
theorem apart_of {mt rest : List (Addr × Obj)} (h : ∀ p ∈ mt, ∀ q ∈ rest, q.1 ≠ p.1) : ∀ q ∈ rest, ∀ p ∈ mt, p.1 ≠ q.1 := fun q hq p hp r => h p hp q hq r.symm
theorem cons_apart {a : Addr × Obj} {l r : List (Addr × Obj)} (h : ∀ q ∈ r, q.1 ≠ a.1) (h2 : ∀ p ∈ l, ∀ q ∈ r, q.1 ≠ p.1) : ∀ p ∈ a :: l, ∀ q ∈ r, q.1 ≠ p.1 := fun p hp => by
  rcases List.mem_cons.mp hp with rfl | hp
  · exact h
  · exact h2 p hp
theorem nil_apart {r : List (Addr × Obj)} : ∀ p ∈ ([] : List (Addr × Obj)), ∀ q ∈ r, q.1 ≠ p.1 := fun _ h => nomatch h
theorem keysB {w : World} {z zc : Heap} {os : List (Addr × Obj)} {xs : List Ent} (K : KeysO w z os xs) (hz : ∀ b o, z.get? b = some o → zc.get? b = some o) (ho : ∀ q ∈ os, zc.get? q.1 = some q.2) : KeysO w zc [] xs := by
  refine ⟨fun x hx => .inl ?_, K.nodup, K.len⟩
  rcases K.keys x hx with ⟨o, i, n, a, r⟩ | ⟨o, a, ⟨r1, i, n, r2, r3⟩⟩
  · exact mk3_2 o i n (hz _ _ a) r
  · exact mk3_4 o i n (ho _ a) r1 r2 r3
noncomputable def TailOk (tl : List (Addr × Obj)) (lo hi lo2 hi2 : Nat) : Prop := ∀ p ∈ tl, @LT.lt Nat _ 292 p.1 ∧ (@LT.lt Nat _ p.1 lo ∨ @LT.lt Nat _ hi p.1) ∧ (@LT.lt Nat _ p.1 lo2 ∨ @LT.lt Nat _ hi2 p.1)
theorem tail_ok {tl : List (Addr × Obj)} {lo hi lo2 hi2 y : Nat} (h : TailOk tl lo hi lo2 hi2) (e : @LE.le Nat _ y 292 ∨ (@LE.le Nat _ lo y ∧ @LE.le Nat _ y hi) ∨ (@LE.le Nat _ lo2 y ∧ @LE.le Nat _ y hi2)) : ∀ p ∈ tl, p.1 ≠ y := fun p hp r => by
  have go : ∀ n : Nat, (292 < n ∧ (n < lo ∨ hi < n) ∧ (n < lo2 ∨ hi2 < n)) → n = y → False := fun n h2 r => (r ▸ e : n ≤ 292 ∨ (lo ≤ n ∧ n ≤ hi) ∨ (lo2 ≤ n ∧ n ≤ hi2)).elim (fun k => absurd h2.1 (Nat.not_lt.mpr k)) fun k => k.elim (fun k => h2.2.1.elim (fun l => absurd l (Nat.not_lt.mpr k.1)) fun l => absurd l (Nat.not_lt.mpr k.2)) fun k => h2.2.2.elim (fun l => absurd l (Nat.not_lt.mpr k.1)) fun l => absurd l (Nat.not_lt.mpr k.2)
  exact go p.1 (h p hp) r
theorem FlS.tailOk {fl fl' : List (Addr × Obj)} {lo hi lo2 hi2 : Nat} (x : FlS fl fl') (h : TailOk fl lo hi lo2 hi2) : TailOk fl' lo hi lo2 hi2 := fun p hp => by
  refine ea1_2 (x.mem hp) fun q h1 h2 => ?_
  rw [← h2]; exact h q h1
theorem TailOk.app {a b : List (Addr × Obj)} {lo hi lo2 hi2 : Nat} (x : TailOk a lo hi lo2 hi2) (y : TailOk b lo hi lo2 hi2) : TailOk (a ++ b) lo hi lo2 hi2 := fun p hp => (List.mem_append.mp hp).elim (x p) (y p)
theorem TailOk.left {a b : List (Addr × Obj)} {lo hi lo2 hi2 : Nat} (x : TailOk (a ++ b) lo hi lo2 hi2) : TailOk a lo hi lo2 hi2 := fun p hp => x p (List.mem_append_left _ hp)
theorem TailOk.right {a b : List (Addr × Obj)} {lo hi lo2 hi2 : Nat} (x : TailOk (a ++ b) lo hi lo2 hi2) : TailOk b lo hi lo2 hi2 := fun p hp => x p (List.mem_append_right _ hp)
theorem TailOk.low {a : List (Addr × Obj)} {lo hi lo2 hi2 L hi3 : Nat} (x : TailOk a lo hi lo2 hi2) (h : ∀ p ∈ a, p.1 < L) : TailOk a lo hi L hi3 := fun p hp => ⟨(x p hp).1, (x p hp).2.1, .inl (h p hp)⟩
theorem TailOk.high {a : List (Addr × Obj)} {lo hi f L : Nat} (h : ∀ p ∈ a, f ≤ p.1) (h1 : 292 < f) (h2 : hi < f) : TailOk a lo hi L (f - 1) := fun p hp => by
  have := h p hp
  have go : ∀ n : Nat, f ≤ n → 292 < n ∧ (n < lo ∨ hi < n) ∧ (n < L ∨ f - 1 < n) := fun n h => ⟨Nat.lt_of_lt_of_le h1 h, .inr (Nat.lt_of_lt_of_le h2 h), .inr (Nat.lt_of_lt_of_le (Nat.sub_lt (Nat.lt_trans (by decide) h1) Nat.one_pos) h)⟩
  exact go p.1 this
theorem news_perm {z h : Heap} {L : Addr} {l4 own restL os fl : List (Addr × Obj)} (N : News z L h ((l4 ++ own) ++ ((restL ++ os) ++ fl))) : News z L h (l4 ++ (restL ++ ((own ++ os) ++ fl))) := fun q hq => N q (by
  rcases List.mem_append.mp hq with hq | hq
  · exact List.mem_append_left _ (List.mem_append_left _ hq)
  rcases List.mem_append.mp hq with hq | hq
  · exact List.mem_append_right _ (List.mem_append_left _ (List.mem_append_left _ hq))
  rcases List.mem_append.mp hq with hq | hq
  · rcases List.mem_append.mp hq with hq | hq
    · exact List.mem_append_left _ (List.mem_append_right _ hq)
    · exact List.mem_append_right _ (List.mem_append_left _ (List.mem_append_right _ hq))
  · exact List.mem_append_right _ (List.mem_append_right _ hq))

local macro_rules | `(tactic| k_all) => `(tactic| walk_at "allL")
example : True := by
  k_with "allL" => (first | exact List.forall_mem_nil _ | (refine' all_cons ?z42a ?z42b; (case z42a => k_ne); (case z42b => k_extra "allL")) | assumption | (refine' tail_ok ?z42a ?z42b; (case z42a => assumption); (case z42b => omega)) | fail "no tail")
  k_with "tailL" => (first | assumption | (refine List.Mem.tail _ ?_; k_extra "tailL") | (refine List.mem_append_left _ ?_; k_extra "tailL") | (refine List.mem_append_right _ ?_; k_extra "tailL") | fail "tailm")
  k_with "tailm" => (k_extra "tailL")
  k_with "callWith ref" => ((k_here; k_dflt (refine' callWith_K ?z45k1 ?z45k2 ?_; (case z45k1 => k_asm); (case z45k2 => k_is); k_whole)))
  k_with "apart" => (first | exact nil_apart | assumption | (refine' cons_apart ?z46a ?z46b; (case z46a => ((try dsimp only); k_all)); (case z46b => k_extra "apart")) | fail "apart")
  k_with "eval Name" => ((k_here; (with_reducible show wpAny _ _ (eval (Expr.Name _ _) (envX _ _ _ _ _ _)) _ _ _); k_dflt (refine' free_base ?z47F ?z47c ?z47z ?z47d ?_ ?z47k ?z47x ?z47b ?z47n; (case z47F => k_asm); (case z47c => exact rfl); (case z47z => assumption); (case z47d => assumption); (case z47k => exact rfl); (case z47x => exact rfl); (case z47b => decide); (case z47n => decide))))
  trivial
theorem mem_led {α : Type} {a b c g x : α} {own : List α} (hx : x ∈ [a, b, c, g] ++ own) : x ∈ (a :: b :: c :: own) ++ [g] := by
  rcases List.mem_append.mp hx with hx | hx
  · rcases List.mem_cons.mp hx with rfl | hx
    · exact List.mem_append_left _ (.head _)
    rcases List.mem_cons.mp hx with rfl | hx
    · exact List.mem_append_left _ (.tail _ (.head _))
    rcases List.mem_cons.mp hx with rfl | hx
    · exact List.mem_append_left _ (.tail _ (.tail _ (.head _)))
    · exact List.mem_append_right _ hx
  · exact List.mem_append_left _ (.tail _ (.tail _ (.tail _ hx)))
theorem Pre.sub {z h : Heap} {mt mt' : List (Addr × Obj)} (P : Pre z h mt) (s : ∀ q ∈ mt', q ∈ mt) : Pre z h mt' := ⟨P.stays, P.size, fun q hq => P.led q (s q hq)⟩
section
variable {w : World} {d u : Nat} {fr : List Env} {s : Shared} {z : Heap} {p : Program} {loose : List Str} {mean : ExcName → Option Value} {mg mb : Str → Option Value}
theorem keysZ {xs : List Ent} {z z' : Heap} (K : KeysO w z [] xs) (hz : ∀ b o, z.get? b = some o → z'.get? b = some o) : KeysO w z' [] xs := by
  refine ⟨fun x hx => .inl ?_, K.nodup, K.len⟩
  rcases K.keys x hx with ⟨o, i, n, a, r⟩ | ⟨o, a, _⟩
  · exact mk3_2 o i n (hz _ _ a) r
  · cases a
noncomputable def WNew (w : World) (hp dh B G : Nat) (HT : HT) (sec nxt wr : Int) (xs ys : List Ent) (lo : Nat) (b : Array UInt8) (tb : Tok) (lv tg fl : Int) (cp : Nat) (v : Value) (mt' : List (Addr × Obj)) : Prop :=
  ∃ (pt : Nat) (q : PT) (ts : List (List Int × Nat)) (own : List (Addr × Obj)) (n n2 : Nat) (tn tw : Tok), v = .ref pt ∧ mt' = led4 w hp dh B G HT sec (nxt + cp * (((b.size : Int) + sec - 1).fdiv sec)) (wr + 1) tn tw (putX (.bytes b tb) xs ts) ys n n2 ++ own ∧
    (∀ z, PtrO w z own pt q ts) ∧ q = ⟨q.dx, q.D, q.S, 8, lv, b.size, 0, 0, tg, fl, 0, q.k, q.v⟩ ∧ ts.map (·.1) = newKeys nxt (((b.size : Int) + sec - 1).fdiv sec) cp ∧ ∀ e ∈ own, lo ≤ e.1
noncomputable def WSame (w : World) (hp dh B G : Nat) (HT : HT) (sec nxt wr : Int) (xs ys : List Ent) (lo : Nat) (b : Array UInt8) (tb : Tok) (lv tg fl : Int) (q0 : PT) (ts : List (List Int × Nat)) (v : Value) (mt' : List (Addr × Obj)) : Prop :=
  ∃ (pt : Nat) (q : PT) (own : List (Addr × Obj)) (n n2 : Nat) (tn tw : Tok), v = .ref pt ∧ mt' = led4 w hp dh B G HT sec nxt (wr + 1) tn tw (putX (.bytes b tb) xs ts) ys n n2 ++ own ∧
    PtrSame w own pt q0 q ts ∧ q.D = q0.D ∧ q = ⟨q.dx, q.D, q.S, 8, lv, b.size, 0, 0, tg, fl, 0, q.k, q.v⟩ ∧ ∀ e ∈ own, lo ≤ e.1
theorem write_new_ends {hp dh B G rr rdx n n2 : Nat} {HT : HT} {xs ys : List Ent} {sec nxt wr lv tg fl : Int} {tn tw tb t1 t2 t3 t4 : Tok} {b : Array UInt8} {rk rv : Nat → Tok} {cp : Nat} {former : Value} {Er : Addr → Str → List (Addr × Obj) → Prop}
    (hf : former = .none ∨ ∃ pt q ts, former = .ref pt ∧ PtrAt w z pt q ts ∧ ¬(q.birth = tg ∧ q.size = (b.size : Int)))
    (X : (hd0.heap_1 w.params).In z) (T : Top p loose mean mg mb z) (P : Pre z s.heap (led4 w hp dh B G HT sec nxt wr tn tw xs ys n n2)) (K : KeysO w z [] xs)
    (hr1 : z.get? rr = some (instObj 88 rdx)) (hr2 : z.get? rdx = some (rD w.params 0 0 (cp : Int) 0 rk rv)) (hcp : cp = 1 ∨ cp = 2 ∨ cp = 3) (hB : 292 < B) (hd : d ≤ 470) (hu : u ≤ 870) (hO : dh < hp ∧ hp < B ∧ B < G)
    (hb : b.size ≤ 1000) (hsec : 4 ≤ sec ∧ sec ≤ 16) (hnx : 1 ≤ nxt ∧ nxt ≤ 100000) (hwr : 0 ≤ wr ∧ wr ≤ 10000) (hlen : xs.length < 9000) :
    codeAny (model PR w) (mkA d fr u) (.call (.ref 147) ⟨[.ref hp, .bytes b tb, .int 8 t1, .int lv t2, .ref rr, .int tg t3, .int fl t4, former], []⟩)
      (CallEnds w z fr (WNew w hp dh B G HT sec nxt wr xs ys s.heap.objs.size b tb lv tg fl cp) Er s) s := by
  refine ea0_4 (Pre.wide (mt := [(hp, instObj 190 dh), (dh, hD w.params HT B G sec nxt wr tn tw), (B, tD w xs n)]) (rest := [(G, tD w ys n2)]) P (apart4 hO)) fun hz P3 back rback => ?_
  have hf' : former = .none ∨ ∃ pt q ts, former = .ref pt ∧ PtrAt w (hid s.heap [(hp, instObj 190 dh), (dh, hD w.params HT B G sec nxt wr tn tw), (B, tD w xs n)]) pt q ts ∧ ¬(q.birth = tg ∧ q.size = (b.size : Int)) :=
    hf.imp id fun hv => ea3_3 hv fun pt q ts e PA hne => mk3_3 pt q ts e (PA.keeps hz) hne
  refine write_fresh hf' (X.keeps hz) (T.keeps hz) P3 (keysZ K hz) (hz _ _ hr1) (hz _ _ hr2) hcp hB hd hu ⟨hO.1, hO.2.1⟩ hb hsec hnx hwr hlen fun h' tk n' pt q ts own tn' tw' P' hp hq ht hs => ?_
  refine CallEnds.ok _ h' tk _ ((back h' _ P').sub ?_) (mk8_6 pt q ts own n' n2 tn' tw' rfl rfl hp hq ht hs)
  intro x hx
  exact mem_led hx
theorem write_in_ends {hp dh B G rr n n2 pt0 : Nat} {q0 : PT} {t0 : List Int × Nat} {ts : List (List Int × Nat)} {HT : HT} {xs ys : List Ent} {sec nxt wr lv tg fl : Int} {tn tw tb t1 t2 t3 t4 : Tok} {b : Array UInt8}
    (X : (hd0.heap_1 w.params).In z) (T : Top p loose mean mg mb z) (P : Pre z s.heap (led4 w hp dh B G HT sec nxt wr tn tw xs ys n n2)) (K : KeysO w z [] xs) (K2 : KeysO w z [] ys)
    (PA : PtrAt w z pt0 q0 (t0 :: ts)) (hbi : q0.birth = tg) (hsz : q0.size = (b.size : Int)) (hst : Alive xs (t0 :: ts) ∨ (atKey xs t0.1).isSome = false) (hB : 292 < B) (hG : 292 < G) (hd : d ≤ 470) (hu : u ≤ 870) (FF : FFr z fr) (hO : dh < hp ∧ hp < B ∧ B < G)
    (hb : b.size ≤ 1000) (hsec : 4 ≤ sec ∧ sec ≤ 16) (hnx : 1 ≤ nxt ∧ nxt ≤ 100000) (hwr : 0 ≤ wr ∧ wr ≤ 10000) (hlen : xs.length + (t0 :: ts).length < 10000) :
    codeAny (model PR w) (mkA d fr u) (.call (.ref 147) ⟨[.ref hp, .bytes b tb, .int 8 t1, .int lv t2, .ref rr, .int tg t3, .int fl t4, .ref pt0], []⟩)
      (CallEnds w z fr (fun v mt' => (atKey xs t0.1).isSome = true ∧ WSame w hp dh B G HT sec nxt wr xs ys s.heap.objs.size b tb lv tg fl q0 (t0 :: ts) v mt')
        (fun C why mt' => (∃ tw', mt' = led4 w hp dh B G HT sec nxt (wr + 1) tn tw' xs ys n n2) ∧ (atKey xs t0.1).isSome = false ∧ C = 56 ∧ why = goneStr (atKey ys t0.1).isSome) s) s := by
  rcases hst with hal | hno
  · refine ea0_4 (Pre.wide (mt := [(hp, instObj 190 dh), (dh, hD w.params HT B G sec nxt wr tn tw), (B, tD w xs n)]) (rest := [(G, tD w ys n2)]) P (apart4 hO)) fun hz P3 back rback => ?_
    refine write_same (X.keeps hz) (T.keeps hz) P3 (keysZ K hz) (PA.keeps hz) hbi hsz hal hB hd hu ⟨hO.1, hO.2.1⟩ hb hsec hnx hwr hlen fun h' tk n' pt' q' own tw' P' hp hD hq hs => ?_
    refine CallEnds.ok _ h' tk _ ((back h' _ P').sub ?_) ⟨hal t0 (.head _), mk7_6 pt' q' own n' n2 tn tw' rfl rfl hp hD hq hs⟩
    intro x hx
    exact mem_led hx
  · refine write_no X T P K K2 PA hbi hsz hno rfl hB hG hd hu FF hO hb hsec hnx hwr fun h' tk v tw' R => ?_
    exact CallEnds.err v h' tk _ 56 _ (.inr (.inl rfl)) (goneStr_len _) R ⟨⟨tw', rfl⟩, hno, rfl, rfl⟩
end

section
variable {w : World} {d u : Nat} {fr : List Env} {E : Value → Shared → Prop} {s : Shared} {z : Heap} {L : Addr} {m : Str → Option Value} {p : Program} {loose : List Str} {mean : ExcName → Option Value} {mg mb : Str → Option Value} {Q : Value → Shared → Prop} {env : Env}
theorem told_call {f : Nat} {mt rest fl : List (Addr × Obj)} {oc : Value} {od : Option Addr} {fd : FuncData} {sl : Array (Option Value)} (Ok : Value → List (Addr × Obj) → Prop) (Er : Addr → Str → List (Addr × Obj) → Prop)
    (X : (hd0.heap_1 w.params).In z) (T : Top p loose mean mg mb z) (F : Fr z L s.heap m) (N : News z L s.heap (mt ++ (rest ++ fl))) (hmr : ∀ q ∈ rest, ∀ p ∈ mt, p.1 ≠ q.1) (hmf : ∀ q ∈ fl, ∀ p ∈ mt, p.1 ≠ q.1) (hrf : ∀ q ∈ rest, ∀ p ∈ fl, p.1 ≠ q.1)
    (FL : FrL fr fl) (hf : env.frame = some L) (hk : env.scope.kind ≠ .module) (hfn : (f, (⟨oc, od, .func fd, sl⟩ : Obj)) ∈ rest) (hd : d ≤ 450) (hu : u ≤ 850)
    (hcall : ∀ (z' : Heap) (env2 : Env) (s' : Shared), (∀ b o, z.get? b = some o → z'.get? b = some o) → (∀ q ∈ rest, z'.get? q.1 = some q.2) → Pre z' s'.heap mt → FFr z' (env2 :: env :: fr) → s.heap.objs.size ≤ s'.heap.objs.size →
      codeAny (model PR w) ((mkA (d + 1) (env :: fr) (u + 3)).deeper env2) (.call (.ref f) ⟨[], []⟩) (CallEnds w z' (env2 :: env :: fr) Ok Er s') s')
    (hok : ∀ h' tk v mt' fl', FlS fl fl' → Ok v mt' → Fr z L h' m → News z L h' (mt' ++ (rest ++ fl')) → Q v { s with heap := h', toks := tk })
    (her : ∀ h' tk C why mt' fl' t, FlS fl fl' → Er C why mt' → Fr z L h' m → News z L h' (mt' ++ (rest ++ fl')) → Q (.str (toldStr C why) t) { s with heap := h', toks := tk }) :
    wpAny (model PR w) ((mkA d fr u).deeper env) (call (.ref 263) [.ref f]) Q E s := by
  refine ea2_7 (told_frame F N hmr hmf hrf FL hf hk) fun zc oL hzs hz P2 FL2 hrest hm2 back => ?_
  refine wpAny_call (told_K (d := d + 1) (u := u + 3) (fr := env :: fr) Ok Er (X.keeps hz) (T.keeps hz) P2 FL2 ⟨oc, od, fd, sl, hrest _ hfn⟩ hm2 (by omega) (by omega) (fun z' env2 s' hz' hzz P' FF => ?_) (fun h' tk v mt' fl2 S hoff hO P' => ?_) fun h' tk C why mt' fl2 t S hoff hE P' => ?_)
  · refine hcall z' env2 s' (fun b o e => hz' b o (hz b o e)) (fun q hq => hz' _ _ (hrest q hq)) P' FF ?_
    exact Nat.le_trans (Nat.le_of_eq hzs.symm) (Nat.le_trans hzz P'.size)
  · obtain ⟨F', fl', S', N'⟩ := back h' mt' fl2 S hoff P'
    exact hok h' tk v mt' fl' S' hO F' N'
  · obtain ⟨F', fl', S', N'⟩ := back h' mt' fl2 S hoff P'
    exact her h' tk C why mt' fl' t S' hE F' N'
end

open PySem.Spec PySem.SeqAt
section
variable {prog : Program} {w : World} {A : Around} {E : Value → Shared → Prop} {s : Shared} {Q : Value → Shared → Prop} {z : Heap} {L : Nat} {m : Str → Option Value} {news : List (Addr × Obj)}
theorem notin_any {a : Value} {D : Addr} {d : PyData} {as : List Addr} {its : Array Value} {k : Nat} (ra : Reads s.heap a d as) (hl : s.heap.IsList D its) (hall : ∀ y ∈ its, ∃ dy bs, Reads s.heap y dy bs ∧ Nc k dy) (hd : Nc k d) (hk : k ≤ 9) (hu : A.in1.units + 64 < cLine)
    (h : ∀ b, Q (.bool b) s) : wpAny (model prog w) A (compareOp .NotIn a (.ref D)) Q E s := by
  classical
  refine notIn_listAt (fun y => if hy : ∃ dy bs, Reads s.heap y dy bs ∧ Nc k dy then PyData.eqv hy.choose d else false) hl (fun y hy => ?_) (h _)
  have hy' := hall y hy
  have hm : ∀ i j : Nat, j ≤ 9 → min i j ≤ 64 := fun i j hj => Nat.le_trans (Nat.min_le_right _ _) (Nat.le_trans hj (by decide))
  rw [dif_pos hy']
  refine ea1_2 (hy'.choose_spec) fun bs rb hn => ?_
  exact eqAt_reads _ _ _ _ _ _ _ _ rb ra hn.1 hd.1 (Nat.lt_of_le_of_lt (Nat.add_le_add_left (hm _ _ (Nat.le_trans hd.2.1 hk)) _) hu)
noncomputable def MapEnd (z : Heap) (L : Nat) (m : Str → Option Value) (s : Shared) (all : List (Addr × Obj)) (v : Value) (y : Value) (s₂ : Shared) : Prop := y = v ∧ ∃ h' tk', s₂ = { s with heap := h', toks := tk' } ∧ Fr z L h' m ∧ News z L h' all
theorem comp_map {env : Env} {elt : PySem.Expr} {x : Str} {scope : Scope} {cl : List (Str × Addr)} {S : List (Addr × Obj) → Prop} {Fin : List Value → List (Addr × Obj) → Prop} {vs : List Value} (g : Value → Value)
    (turn : ∀ v ∈ vs, ∀ I oI C oC D m₂ ys h tk (E' : Value → Shared → Prop), LCg.NsObj oC m₂ → m₂ x = some v → Fr z L h m → News z L h ((I, oI) :: (C, oC) :: (D, LCg.lst ys) :: news) →
      wpAny (model prog w) A (eval elt (compEnvC scope cl C env)) (MapEnd z L m s ((I, oI) :: (C, oC) :: (D, LCg.lst ys) :: news) (g v)) E' { s with heap := h, toks := tk })
    (hS : S news) (fin : Fin (vs.map g) news) :
    LCg.CompRest prog w A z L m env elt x scope cl s S (fun i v => vs.toArray[i]? = some v) Fin vs.length 0 [] news := by
  have key : ∀ j i : Nat, i + j = vs.length → LCg.CompRest prog w A z L m env elt x scope cl s S (fun i v => vs.toArray[i]? = some v) Fin j i ((vs.take i).map g) news := by
    intro j
    induction j with
    | zero =>
      intro i hi
      have e : i = vs.length := by omega
      subst e
      rw [List.take_length]
      exact LCg.CompRest.zero fin
    | succ j ih =>
      intro i hi
      refine LCg.CompRest.succ ?_
      rintro v I oI C oC D m₂ h tk E' hv hC hx F N off ne
      rw [List.getElem?_toArray] at hv
      have hv' := hv
      obtain ⟨hlt, rfl⟩ := List.getElem?_eq_some_iff.mp hv
      refine wpAny_mono (turn _ (List.getElem_mem hlt) I oI C oC D m₂ _ h tk E' hC hx F N) (fun y s₂ hq => ?_) fun _ _ e => e
      obtain ⟨rfl, h', tk', rfl, F', N'⟩ := hq
      refine mk3_6 h' tk' news rfl F' N' off hS ?_
      have := ih (i + 1) (by omega)
      rw [List.take_succ, hv', List.map_append] at this
      exact this
  exact key vs.length 0 (by omega)
end
theorem tups_T {w : World} {z h : Heap} {own : List (Addr × Obj)} {ts : List (List Int × Nat)} (K : ∀ t ∈ ts, KeyO w z own t.1 t.2) (k3 : ∀ t ∈ ts, ∃ a b c, t.1 = [a, b, c]) (hz : ∀ b o, z.get? b = some o → h.get? b = some o) (ho : ∀ q ∈ own, h.get? q.1 = some q.2) :
    Tups h (ts.map fun t => .ref t.2) (ts.map (·.1)) := by
  induction ts with
  | nil => exact .nil
  | cons x ts ih =>
    refine ea3_1 (k3 x (.head _)) fun a b c e => ?_
    have r := ih (fun y hy => K y (.tail _ hy)) (fun y hy => k3 y (.tail _ hy))
    have go : ∀ o : Obj, h.get? x.2 = some o → TupKeyObj (intKind PR w) [a, b, c] o → Tups h ((x :: ts).map fun x => .ref x.2) ((x :: ts).map (·.1)) := by
      intro o ho' hk
      obtain ⟨hc, items, n, hd, hi⟩ := hk
      obtain ⟨l⟩ := items
      dsimp only at hi
      cases hi with | cons h1 hi => cases hi with | cons h2 hi => cases hi with | cons h3 hi =>
      cases hi
      obtain ⟨t1, rfl⟩ := Value.isInt_shape h1
      obtain ⟨t2, rfl⟩ := Value.isInt_shape h2
      obtain ⟨t3, rfl⟩ := Value.isInt_shape h3
      rw [List.map_cons, List.map_cons, e]
      exact .cons ⟨o, ho', hc, n, hd⟩ r
    rcases K x (.head _) with ⟨o, i, n, e1, r1, r2, r3⟩ | ⟨o, m, r1⟩
    · rw [e] at r3
      exact go o (hz _ _ e1) ⟨r1, i, n, r2, r3⟩
    · rw [e] at r1
      exact go o (ho _ m) r1
theorem reads_tups {h : Heap} {vs : List Value} {ks : List (List Int)} (x : Tups h vs ks) : ∃ as, ReadsAll h vs (ks.map tupData) as := by
  induction x with
  | nil => exact ⟨_, .nil⟩
  | cons h1 _ ih =>
    obtain ⟨as, r⟩ := ih
    exact ⟨_, .cons (reads_tup h1) r⟩
noncomputable def dvasData (ks : List (List Int)) : PyData := .tuple (ks.map tupData)
theorem nc_dvas (ks : List (List Int)) : Nc 2 (dvasData ks) := .tuple (.of fun d hd => by
  refine ea1_2 (List.mem_map.mp hd) fun k _ rz2 => ?_
  subst rz2
  exact nc_tup _ _)
theorem reads_dvas {h : Heap} {D c : Nat} {vs : List Value} {ks : List (List Int)} (x : Tups h vs ks) (hD : h.get? D = some (tupO vs c)) : ∃ as, Reads h (.ref D) (dvasData ks) as := by
  obtain ⟨as, r⟩ := reads_tups x
  exact ⟨_, .tuple hD rfl rfl (by simpa using r)⟩
theorem PtrO.reads {w : World} {z h : Heap} {own : List (Addr × Obj)} {pt : Nat} {q : PT} {ts : List (List Int × Nat)} (x : PtrO w z own pt q ts) (k3 : ∀ t ∈ ts, ∃ a b c, t.1 = [a, b, c]) (hz : ∀ b o, z.get? b = some o → h.get? b = some o) (ho : ∀ q ∈ own, h.get? q.1 = some q.2) :
    ∃ as, Reads h (.ref q.D) (dvasData (ts.map (·.1))) as := by
  obtain ⟨c, hc⟩ := x.tup
  exact reads_dvas (tups_T x.keys k3 hz ho) (hc.elim (hz _ _) (ho _))
noncomputable def zeros : PyData := .tuple [.int 0, .int 0, .int 0, .int 0]
theorem reads_zeros {h : Heap} {S e : Nat} {t1 t2 t3 t4 : Tok} (hS : h.get? S = some (tupO [.int 0 t1, .int 0 t2, .int 0 t3, .int 0 t4] e)) : ∃ as, Reads h (.ref S) zeros as :=
  ⟨_, .tuple hS rfl rfl (.cons (.int _ _) (.cons (.int _ _) (.cons (.int _ _) (.cons (.int _ _) .nil))))⟩
noncomputable def plainData (ks : List (List Int)) (lv sz tg fl : Int) : PyData := .tuple [dvasData ks, .int 8, .int lv, .int sz, .int sz, .int 0, .int 0, .int tg, .int fl, zeros, .int 0]
theorem nc_plain (ks : List (List Int)) (lv sz tg fl : Int) : Nc 4 (plainData ks lv sz tg fl) := by
  have up : ∀ d, Nc 2 d → Nc 3 d := fun d h => ⟨h.1, Nat.le_succ_of_le h.2.1, h.2.2⟩
  have hz : Nc 3 zeros := .tuple (.cons (.int _ _) (.cons (.int _ _) (.cons (.int _ _) (.cons (.int _ _) (.nil _)))))
  exact .tuple (.cons (up _ (nc_dvas ks)) (.cons (.int _ _) (.cons (.int _ _) (.cons (.int _ _) (.cons (.int _ _) (.cons (.int _ _) (.cons (.int _ _) (.cons (.int _ _) (.cons (.int _ _) (.cons hz (.cons (.int _ _) (.nil _))))))))))))
theorem reads_plain {h : Heap} {P D S c e f : Nat} {vs : List Value} {ks : List (List Int)} {lv sz tg fl : Int} {t1 t2 t3 t4 u1 u2 u3 u4 u5 u6 u7 u8 u9 : Tok} (x : Tups h vs ks) (hD : h.get? D = some (tupO vs c)) (hS : h.get? S = some (tupO [.int 0 t1, .int 0 t2, .int 0 t3, .int 0 t4] e))
    (hP : h.get? P = some (tupO [.ref D, .int 8 u1, .int lv u2, .int sz u3, .int sz u4, .int 0 u5, .int 0 u6, .int tg u7, .int fl u8, .ref S, .int 0 u9] f)) : ∃ as, Reads h (.ref P) (plainData ks lv sz tg fl) as := by
  obtain ⟨as, r1⟩ := reads_dvas x hD
  obtain ⟨bs, r2⟩ := reads_zeros hS
  exact ⟨_, .tuple hP rfl rfl (.cons r1 (.cons (.int _ _) (.cons (.int _ _) (.cons (.int _ _) (.cons (.int _ _) (.cons (.int _ _) (.cons (.int _ _) (.cons (.int _ _) (.cons (.int _ _) (.cons r2 (.cons (.int _ _) .nil)))))))))))⟩

noncomputable def PtrL (w : World) (os : List (Addr × Obj)) (p : Nat) (q : PT) (ts : List (List Int × Nat)) : Prop := ∀ z, PtrO w z os p q ts
theorem PtrO.mono {w : World} {z : Heap} {os os' : List (Addr × Obj)} {p : Nat} {q : PT} {ts : List (List Int × Nat)} (x : PtrO w z os p q ts) (h : ∀ e ∈ os, e ∈ os') : PtrO w z os' p q ts := by
  obtain ⟨h1, h2, ⟨c, h3⟩, h4, ⟨a, b, c', d, e, h5⟩⟩ := x
  exact ⟨h _ h1, h _ h2, ⟨c, h3.imp id (h _)⟩, fun t ht => (h4 t ht).mono h, ⟨a, b, c', d, e, h _ h5⟩⟩
theorem PtrL.mono {w : World} {os os' : List (Addr × Obj)} {p : Nat} {q : PT} {ts : List (List Int × Nat)} (x : PtrL w os p q ts) (h : ∀ e ∈ os, e ∈ os') : PtrL w os' p q ts := fun z => (x z).mono h
theorem PtrL.tup {w : World} {os : List (Addr × Obj)} {p : Nat} {q : PT} {ts : List (List Int × Nat)} (x : PtrL w os p q ts) : ∃ c, (q.D, tupO (ts.map fun t => .ref t.2) c) ∈ os := by
  obtain ⟨c, hc⟩ := (x { objs := #[] }).tup
  rcases hc with h | h
  · exact absurd (Heap.lt_size h) (Nat.not_lt_zero _)
  · exact ⟨c, h⟩
theorem PtrO.at {w : World} {z h : Heap} {os : List (Addr × Obj)} {p : Nat} {q : PT} {ts : List (List Int × Nat)} (x : PtrO w z os p q ts) (hz : ∀ b o, z.get? b = some o → h.get? b = some o) (ho : ∀ e ∈ os, h.get? e.1 = some e.2) : PtrAt w h p q ts := by
  obtain ⟨h1, h2, ⟨c, h3⟩, h4, _⟩ := x
  refine ⟨ho _ h1, ho _ h2, ⟨c, h3.elim (hz _ _) (ho _)⟩, fun t ht => ?_⟩
  rcases h4 t ht with ⟨o, i, n, a, r⟩ | ⟨o, a, r1, i, n, r2, r3⟩
  · exact mk3_2 o i n (hz _ _ a) r
  · exact mk3_4 o i n (ho _ a) r1 r2 r3
inductive Fo (w : World) (os : List (Addr × Obj)) (xs xv yg yu : List Ent) (tg sz nxt cnt : Int) (cp : Nat) : Value → Int → List (List Int) → Bool → Prop
  | none : Fo w os xs xv yg yu tg sz nxt cnt cp .none (nxt + cp * cnt) (newKeys nxt cnt cp) false
  | other {pa : Nat} {q0 : PT} {ts0 : List (List Int × Nat)} : PtrL w os pa q0 ts0 → ¬(q0.birth = tg ∧ q0.size = sz) → Fo w os xs xv yg yu tg sz nxt cnt cp (.ref pa) (nxt + cp * cnt) (newKeys nxt cnt cp) false
  | here {pa : Nat} {q0 : PT} {t0 : List Int × Nat} {ts0 : List (List Int × Nat)} : PtrL w os pa q0 (t0 :: ts0) → q0.birth = tg → q0.size = sz → Alive xs (t0 :: ts0) → Alive xv (t0 :: ts0) → (∀ t ∈ t0 :: ts0, atKey yu t.1 = none) → (∀ t ∈ t0 :: ts0, ∃ a b c, t.1 = [a, b, c]) →
      (t0 :: ts0).length ≤ 3 → Fo w os xs xv yg yu tg sz nxt cnt cp (.ref pa) nxt ((t0 :: ts0).map (·.1)) false
  | dead {pa : Nat} {q0 : PT} {t0 : List Int × Nat} {ts0 : List (List Int × Nat)} {g : Bool} {nxt' : Int} {ks : List (List Int)} : PtrL w os pa q0 (t0 :: ts0) → q0.birth = tg → q0.size = sz → (atKey xs t0.1).isSome = false → (atKey xv t0.1).isSome = false →
      (atKey yg t0.1).isSome = g → (atKey yu t0.1).isSome = g → (t0 :: ts0).length ≤ 3 → Fo w os xs xv yg yu tg sz nxt cnt cp (.ref pa) nxt' ks true
noncomputable def DeadAt (w : World) (os : List (Addr × Obj)) (xv yu : List Ent) (tg sz : Int) (former : Value) (g : Bool) : Prop :=
  ∃ pa q0 t0 ts0, former = .ref pa ∧ PtrL w os pa q0 (t0 :: ts0) ∧ q0.birth = tg ∧ q0.size = sz ∧ (atKey xv t0.1).isSome = false ∧ (atKey yu t0.1).isSome = g
noncomputable def WAny (w : World) (os : List (Addr × Obj)) (hp dh B G : Nat) (HT : HT) (sec nxt' wr : Int) (xs ys : List Ent) (lo : Nat) (b : Array UInt8) (tb : Tok) (lv tg fl : Int) (ks : List (List Int)) (v : Value) (mt' : List (Addr × Obj)) : Prop :=
  ∃ (pt : Nat) (q : PT) (ts : List (List Int × Nat)) (own : List (Addr × Obj)) (n n2 : Nat) (tn tw : Tok), v = .ref pt ∧ mt' = led4 w hp dh B G HT sec nxt' (wr + 1) tn tw (putX (.bytes b tb) xs ts) ys n n2 ++ own ∧
    PtrL w (own ++ os) pt q ts ∧ q = ⟨q.dx, q.D, q.S, 8, lv, b.size, 0, 0, tg, fl, 0, q.k, q.v⟩ ∧ ts.map (·.1) = ks ∧ (∀ e ∈ own, lo ≤ e.1)
@[elab_as_elim]
theorem WAny.use {motive : Value → List (Addr × Obj) → Prop} {w : World} {os : List (Addr × Obj)} {hp dh B G : Nat} {HT : HT} {sec nxt' wr : Int} {xs ys : List Ent} {lo : Nat} {b : Array UInt8} {tb : Tok} {lv tg fl : Int} {ks : List (List Int)} {v : Value} {mt' : List (Addr × Obj)}
    (h : WAny w os hp dh B G HT sec nxt' wr xs ys lo b tb lv tg fl ks v mt')
    (k : ∀ (pt : Nat) (q : PT) (ts : List (List Int × Nat)) (own : List (Addr × Obj)) (n n2 : Nat) (tn tw : Tok), PtrL w (own ++ os) pt q ts → q = ⟨q.dx, q.D, q.S, 8, lv, b.size, 0, 0, tg, fl, 0, q.k, q.v⟩ → ts.map (·.1) = ks → (∀ e ∈ own, lo ≤ e.1) →
      motive (.ref pt) (led4 w hp dh B G HT sec nxt' (wr + 1) tn tw (putX (.bytes b tb) xs ts) ys n n2 ++ own)) : motive v mt' := by
  refine ea8_6 (h) fun pt q ts own n n2 tn tw rz8 rz9 a b c d => ?_
  (try clear h)
  subst rz8
  subst rz9
  exact k pt q ts own n n2 tn tw a b c d
theorem WNew.any {w : World} {os : List (Addr × Obj)} {hp dh B G : Nat} {HT : HT} {sec nxt wr : Int} {xs ys : List Ent} {lo lo' : Nat} {b : Array UInt8} {tb : Tok} {lv tg fl : Int} {cp : Nat} {v : Value} {mt' : List (Addr × Obj)}
    (h : WNew w hp dh B G HT sec nxt wr xs ys lo b tb lv tg fl cp v mt') (hl : lo' ≤ lo) : WAny w os hp dh B G HT sec (nxt + cp * (((b.size : Int) + sec - 1).fdiv sec)) wr xs ys lo' b tb lv tg fl (newKeys nxt (((b.size : Int) + sec - 1).fdiv sec) cp) v mt' := by
  refine ea8_6 (h) fun pt q ts own n n2 tn tw a b c d e f => ?_
  (try clear h)
  exact mk8_6 pt q ts own n n2 tn tw a b (fun z => (c z).mono fun _ h => List.mem_append_left _ h) d e (fun e he => Nat.le_trans hl (f e he))
theorem WSame.any {w : World} {os : List (Addr × Obj)} {hp dh B G : Nat} {HT : HT} {sec nxt wr : Int} {xs ys : List Ent} {lo lo' : Nat} {b : Array UInt8} {tb : Tok} {lv tg fl : Int} {q0 : PT} {ts : List (List Int × Nat)} {p0 : Nat} {v : Value} {mt' : List (Addr × Obj)}
    (h : WSame w hp dh B G HT sec nxt wr xs ys lo b tb lv tg fl q0 ts v mt') (hp0 : PtrL w os p0 q0 ts) (hl : lo' ≤ lo) : WAny w os hp dh B G HT sec nxt wr xs ys lo' b tb lv tg fl (ts.map (·.1)) v mt' := by
  refine ea7_6 (h) fun pt q own n n2 tn tw a b c d e f => ?_
  (try clear h)
  have hc : ∀ z, PtrO w z (own ++ os) pt q ts := fun z => c z os (hp0.tup.imp fun _ h => .inr h) (hp0 z).keys
  exact mk8_6 pt q ts own n n2 tn tw a b hc e rfl (fun e he => Nat.le_trans hl (f e he))
theorem dvas_3 {ks : List (List Int)} {ts : List (List Int × Nat)} (h : ts.map (·.1) = ks) (hk : ∀ k ∈ ks, ∃ a b c : Int, k = [a, b, c]) : ∀ t ∈ ts, ∃ a b c, t.1 = [a, b, c] := fun t ht => hk _ (h ▸ List.mem_map_of_mem ht)
theorem newKeys_3 {nxt cnt : Int} {cp : Nat} : ∀ k ∈ newKeys nxt cnt cp, ∃ a b c : Int, k = [a, b, c] := fun k hk => by
  refine ea1_2 (List.mem_map.mp hk) fun i _ rz2 => ?_
  subst rz2
  exact mk3_1 _ _ _ rfl
theorem Fo.keys3 {w : World} {os : List (Addr × Obj)} {xs xv yg yu : List Ent} {tg sz nxt cnt nxt' : Int} {cp : Nat} {v : Value} {ks : List (List Int)} (h : Fo w os xs xv yg yu tg sz nxt cnt cp v nxt' ks false) : ∀ k ∈ ks, ∃ a b c : Int, k = [a, b, c] := by
  cases h with
  | none => exact newKeys_3
  | other _ _ => exact newKeys_3
  | here _ _ _ _ _ _ h3 _ =>
    intro k hk
    refine ea1_2 (List.mem_map.mp hk) fun t ht rz2 => ?_
    subst rz2
    exact h3 t ht
theorem Fo.split {w : World} {os : List (Addr × Obj)} {xs xv yg yu : List Ent} {tg sz nxt cnt nxt' : Int} {cp : Nat} {v : Value} {ks : List (List Int)} (h : Fo w os xs xv yg yu tg sz nxt cnt cp v nxt' ks false) :
    (nxt' = nxt + cp * cnt ∧ ks = newKeys nxt cnt cp ∧ (v = .none ∨ ∃ pa q0 ts0, v = .ref pa ∧ PtrL w os pa q0 ts0 ∧ ¬(q0.birth = tg ∧ q0.size = sz))) ∨
    (nxt' = nxt ∧ ∃ pa q0 ts0, v = .ref pa ∧ PtrL w os pa q0 ts0 ∧ q0.birth = tg ∧ q0.size = sz ∧ Alive xv ts0 ∧ (∀ t ∈ ts0, atKey yu t.1 = Option.none) ∧ ts0.length ≤ 3 ∧ ks = ts0.map (·.1)) := by
  cases h with
  | none => exact .inl ⟨rfl, rfl, .inl rfl⟩
  | other a b => exact .inl ⟨rfl, rfl, .inr ⟨_, _, _, rfl, a, b⟩⟩
  | here a b c _ d e _ f => exact .inr ⟨rfl, _, _, _, rfl, a, b, c, d, e, f, rfl⟩

theorem ptr_news {w : World} {z h : Heap} {L : Nat} {m : Str → Option Value} {news os : List (Addr × Obj)} {p : Nat} {q : PT} {ts : List (List Int × Nat)} (F : Fr z L h m) (N : News z L h news) (x : PtrL w os p q ts) (ho : ∀ e ∈ os, e ∈ news) : PtrAt w h p q ts :=
  (x z).at F.keep fun e he => (N e (ho e he)).1
section
variable {w : World} {d u : Nat} {fr : List Env} {E : Value → Shared → Prop} {s : Shared} {z : Heap} {L : Nat} {m : Str → Option Value} {news rest : List (Addr × Obj)} {p : Program} {loose : List Str} {mean : ExcName → Option Value} {mg mb : Str → Option Value} {Q : Value → Shared → Prop} {env : Env}
theorem gone_call_alive {W V U pt n n2 : Nat} {oW : Obj} {q : PT} {ts : List (List Int × Nat)} {xs ys : List Ent} {os os' : List (Addr × Obj)} {sec nxt wr : Int} {M : Nat} {t1 t2 t3 : Tok}
    (F : Fr z L s.heap m) (N : News z L s.heap news) (X : (hd0.heap_1 w.params).In z) (T : Top p loose mean mg mb z) (t0 : Take [(W, oW), (V, tD w xs n), (U, tD w ys n2)] news rest) (hW : oW.IsDictOf (PySem.strKind PR w) (wKV sec nxt V U M wr t1 t2 t3))
    (PA : PtrL w os pt q ts) (ho : ∀ e ∈ os, e ∈ rest) (K : KeysO w z os' xs) (K2 : KeysO w z os' ys) (ho' : ∀ e ∈ os', e ∈ rest) (hall : Alive xs ts) (hV : 292 < V) (hU : 292 < U) (hd : d ≤ 460) (hu : u ≤ 860)
    (h : ∀ h' tk t, Fr z L h' m → News z L h' ((W, oW) :: (V, tD w xs n) :: (U, tD w ys n2) :: rest) → Q (.str "" t) { s with heap := h', toks := tk }) :
    wpAny (model PR w) ((mkA d fr u).deeper env) (call (.ref 270) [.ref W, .ref pt]) Q E s := by
  have hz := fun b o e => front_get (b := b) (o := o) F N t0 e
  refine wpAny_call (gone_alive (d := d + 1) (u := u + 3) (fr := env :: fr) (front F N t0 X).1 (front_top F N t0 T) (front F N t0 X).2 hW ((PA z).at hz fun e he => front_led N t0 (ho e he)) (keysB K hz fun e he => front_led N t0 (ho' e he)) (keysB K2 hz fun e he => front_led N t0 (ho' e he)) hall hV hU (by omega) (by omega) fun h' tk t P' => ?_)
  obtain ⟨F', N'⟩ := back F N t0 P'
  exact h h' tk t F' N'
theorem gone_call_dead {W V U pt n n2 : Nat} {oW : Obj} {q : PT} {t0' : List Int × Nat} {ts : List (List Int × Nat)} {xs ys : List Ent} {os os' : List (Addr × Obj)} {sec nxt wr : Int} {M : Nat} {t1 t2 t3 : Tok} {g : Bool} {gs : Str}
    (F : Fr z L s.heap m) (N : News z L s.heap news) (X : (hd0.heap_1 w.params).In z) (T : Top p loose mean mg mb z) (t0 : Take [(W, oW), (V, tD w xs n), (U, tD w ys n2)] news rest) (hW : oW.IsDictOf (PySem.strKind PR w) (wKV sec nxt V U M wr t1 t2 t3))
    (PA : PtrL w os pt q (t0' :: ts)) (ho : ∀ e ∈ os, e ∈ rest) (K : KeysO w z os' xs) (K2 : KeysO w z os' ys) (ho' : ∀ e ∈ os', e ∈ rest) (hno : (atKey xs t0'.1).isSome = false) (hg : (atKey ys t0'.1).isSome = g) (hgs : toldStr 56 (goneStr g) = gs) (hV : 292 < V) (hU : 292 < U) (hd : d ≤ 460) (hu : u ≤ 860)
    (h : ∀ h' tk t, Fr z L h' m → News z L h' ((W, oW) :: (V, tD w xs n) :: (U, tD w ys n2) :: rest) → Q (.str gs t) { s with heap := h', toks := tk }) :
    wpAny (model PR w) ((mkA d fr u).deeper env) (call (.ref 270) [.ref W, .ref pt]) Q E s := by
  have hz := fun b o e => front_get (b := b) (o := o) F N t0 e
  refine wpAny_call (gone_dead (d := d + 1) (u := u + 3) (fr := env :: fr) (front F N t0 X).1 (front_top F N t0 T) (front F N t0 X).2 hW ((PA z).at hz fun e he => front_led N t0 (ho e he)) (keysB K hz fun e he => front_led N t0 (ho' e he)) (keysB K2 hz fun e he => front_led N t0 (ho' e he)) hno hg hV hU (by omega) (by omega) fun h' tk t P' => ?_)
  obtain ⟨F', N'⟩ := back F N t0 P'
  rw [hgs]
  exact h h' tk t F' N'
end

example : True := by
  k_with "call ref" => ((k_here; (with_reducible show wpAny _ _ (PySem.call (Value.ref 270) _) _ _ _); k_dflt (first | (refine' gone_call_alive ?z48F ?z48N ?z48X ?z48T ?z48t ?z48W ?z48P ?z48o ?z48K ?z48K2 ?z48o' ?z48al ?z48V ?z48U ?z48d ?z48u ?_; (case z48F => k_asm); (case z48N => k_asm); (case z48X => k_asm); (case z48T => k_asm); (case z48W => assumption); (case z48t => k_extra "take"); (case z48P => assumption); (case z48al => assumption); (case z48o => k_extra "subl"); (case z48K => assumption); (case z48K2 => assumption); (case z48o' => k_extra "subl"); (case z48V => omega); (case z48U => omega); (case z48d => omega); (case z48u => omega)) | (refine' gone_call_dead ?z48F ?z48N ?z48X ?z48T ?z48t ?z48W ?z48P ?z48o ?z48K ?z48K2 ?z48o' ?z48no ?z48g ?z48gs ?z48V ?z48U ?z48d ?z48u ?_; (case z48F => k_asm); (case z48N => k_asm); (case z48X => k_asm); (case z48T => k_asm); (case z48W => assumption); (case z48t => k_extra "take"); (case z48P => assumption); (case z48no => assumption); (case z48g => assumption); (case z48gs => first | exact goneS_t | exact goneS_f); (case z48o => k_extra "subl"); (case z48K => assumption); (case z48K2 => assumption); (case z48o' => k_extra "subl"); (case z48V => omega); (case z48U => omega); (case z48d => omega); (case z48u => omega)) | fail "gone"); intro _ _ _ _ _; (try k_sweep)))
  k_with "call ref" => ((k_here; (with_reducible show wpAny _ _ (PySem.call (Value.ref 114) _) _ _ _); k_dflt (refine' plain_call ?z49F ?z49N ?z49X ?z49T ?z49P ?z49d ?z49u ?_; (case z49F => k_asm); (case z49N => k_asm); (case z49X => k_asm); (case z49T => k_asm); (case z49P => refine ptr_news (by assumption) (by assumption) (by assumption) (by first | k_extra "subl" | (intro q hq; rename ∀ e ∈ _, e ∈ _ => htp; have hq := htp q hq; k_extra "tailm"))); (case z49d => omega); (case z49u => omega)); intro _ _ _ _ _ _ _ _ _ _ _ _ _ _; (try k_sweep)))
  trivial
noncomputable def octX (x : Int) : Array UInt8 := byteArr (List.map (fun k => 1 + (x + 7 * k).fmod 255) (rangeKs 0 (x.fmod 41 - 0).toNat))
theorem oct_size {x : Int} : (octX x).size ≤ 40 := by
  unfold octX
  rw [byteArr_size, List.length_map, rangeKs_length]
  have h1 := fmod_lo x (n := 41) (by decide)
  have h2 := fmod_hi x (n := 41) (by decide)
  omega
theorem oct_size' {x : Int} : ((octX x).size : Int) = x.fmod 41 := by
  unfold octX
  rw [byteArr_size, List.length_map, rangeKs_length]
  have h1 := fmod_lo x (n := 41) (by decide)
  omega
theorem CallEnds.mono {w : World} {z : Heap} {l : List Env} {Ok Ok' : Value → List (Addr × Obj) → Prop} {Er Er' : Addr → Str → List (Addr × Obj) → Prop} {s s' : Shared} {r : Result} (h : CallEnds w z l Ok Er s r s') (h1 : ∀ v mt, Ok v mt → Ok' v mt) (h2 : ∀ C why mt, Er C why mt → Er' C why mt) : CallEnds w z l Ok' Er' s r s' := by
  rcases h with ⟨v, h', tk, mt', a, b, c, hO⟩ | ⟨v, h', tk, mt', C, why, a, b, c, e, f, hE⟩
  · exact .inl ⟨v, h', tk, mt', a, b, c, h1 _ _ hO⟩
  · exact .inr ⟨v, h', tk, mt', C, why, a, b, c, e, f, h2 _ _ _ hE⟩
theorem new_not {yu : List Ent} {nxt c : Int} {cp : Nat} {ts : List (List Int × Nat)} (hU : ∀ e ∈ yu, ∃ s k, e.1 = [0, s, k] ∧ 0 < k ∧ s + k ≤ nxt) (hk : ts.map (·.1) = (rangeKs 0 cp).map fun k => [0, nxt + k * c, c]) (hc : 0 ≤ c) : ∀ t ∈ ts, atKey yu t.1 = none := by
  intro t ht
  have hm : t.1 ∈ (rangeKs 0 cp).map fun k => [0, nxt + k * c, c] := by rw [← hk]; exact List.mem_map_of_mem ht
  refine ea1_2 (List.mem_map.mp hm) fun k hk1 hk2 => ?_
  have h0 := (mem_rangeKs hk1).1
  unfold atKey
  rw [Option.map_eq_none_iff, List.find?_eq_none]
  intro e he hq
  have hq := of_decide_eq_true hq
  refine ea2_3 (hU e he) fun s k' e1 e2 e3 => ?_
  rw [e1, ← hk2] at hq
  injection hq with _ hq
  injection hq with h1 hq
  injection hq with h2 _
  have := Int.mul_nonneg h0 hc
  omega
theorem ffr_hidN {z h : Heap} {l : List Env} {env : Env} {L : Addr} {m : Str → Option Value} {mt : List (Addr × Obj)} (x : FFr z l) (F : Fr z L h m) (N : News z L h mt) (hf : env.frame = some L) (hk : env.scope.kind ≠ .module) : FFr (hid h mt) (env :: l) := fun e he => by
  rcases List.mem_cons.mp he with rfl | he
  · refine ea3_3 (F.ns) fun oL es ep hL hd _ => ?_
    exact ⟨hk, L, oL, hf, hid_of hL fun q hq r => (N q hq).2.1 r, fun vs q => by rw [hd] at q; cases q⟩
  · exact x.keeps (hid_base F N) e he
noncomputable def Mid (w : World) (z : Heap) (L : Nat) (m : Str → Option Value) (s : Shared) (W : Nat) (sec nxt' wr : Int) (V U M : Nat) (yu : List Ent) (ks : List (List Int)) (x tg : Int) (tx tO : Tok) (b : Array UInt8) (rest own kos : List (Addr × Obj)) (lo hi : Nat) (fl : Flow) (s' : Shared) : Prop :=
  ∀ C : Flow → Shared → Prop, (∀ (h' : Heap) (tk T c : Nat) (tsx : List (List Int × Nat)) (own3 : List (Addr × Obj)) (oW cw cx co ct : Obj) (t1 t2 t3 t4 : Tok) (wv : Option Value),
      Fr z L h' (fun y : Str => if y = "dvas" then some (.ref T) else if y = "why" then wv else m y) →
      News z L h' ((T, tupO (tsx.map fun t => .ref t.2) c) :: (W, oW) :: (L + 1 + 1, cw) :: (L + 1 + 1 + 1, cx) :: (L + 1 + 1 + 1 + 1 + 1 + 1 + 1, co) :: (L + 1 + 1 + 1 + 1 + 1 + 1 + 1 + 1, ct) :: (rest ++ (own ++ own3))) →
      oW.IsDictOf (PySem.strKind PR w) (wKV sec nxt' V U M wr t1 t2 t3) → cw.data = .cell (some (.ref W)) → cx.data = .cell (some (.int x tx)) → co.data = .cell (some (.bytes b tO)) → ct.data = .cell (some (.int tg t4)) →
      tsx.map (·.1) = ks → (∀ zz, ∀ t ∈ tsx, KeyO w zz (kos ++ own3) t.1 t.2) → (∀ t ∈ tsx, atKey yu t.1 = none) → TailOk (own ++ own3) lo M L hi → tsx.length ≤ 3 → @LT.lt Nat _ M T → (∀ q ∈ own3, @LT.lt Nat _ (L + 8) q.1) → C .next { s with heap := h', toks := tk }) → C fl s'
theorem mid_mk {w : World} {z : Heap} {L : Nat} {m : Str → Option Value} {s : Shared} {W : Nat} {sec nxt' wr : Int} {V U M : Nat} {yu : List Ent} {ks : List (List Int)} {x tg : Int} {tx tO : Tok} {b : Array UInt8} {rest own kos : List (Addr × Obj)} {lo hi : Nat} {s' : Shared}
    {h' : Heap} {tk T c : Nat} (tsx : List (List Int × Nat)) (own3 : List (Addr × Obj)) {oW cw cx co ct : Obj} {t1 t2 t3 t4 : Tok} (wv : Option Value) (e : s' = { s with heap := h', toks := tk })
    (F : Fr z L h' (fun y : Str => if y = "dvas" then some (.ref T) else if y = "why" then wv else m y))
    (N : News z L h' ((T, tupO (tsx.map fun t => .ref t.2) c) :: (W, oW) :: (L + 1 + 1, cw) :: (L + 1 + 1 + 1, cx) :: (L + 1 + 1 + 1 + 1 + 1 + 1 + 1, co) :: (L + 1 + 1 + 1 + 1 + 1 + 1 + 1 + 1, ct) :: (rest ++ (own ++ own3))))
    (a1 : oW.IsDictOf (PySem.strKind PR w) (wKV sec nxt' V U M wr t1 t2 t3)) (a2 : cw.data = .cell (some (.ref W))) (a3 : cx.data = .cell (some (.int x tx))) (a4 : co.data = .cell (some (.bytes b tO))) (a5 : ct.data = .cell (some (.int tg t4)))
    (a6 : tsx.map (·.1) = ks) (a7 : ∀ zz, ∀ t ∈ tsx, KeyO w zz (kos ++ own3) t.1 t.2) (a8 : ∀ t ∈ tsx, atKey yu t.1 = none) (a9 : TailOk (own ++ own3) lo M L hi) (b1 : tsx.length ≤ 3) (b2 : @LT.lt Nat _ M T) (b3 : ∀ q ∈ own3, @LT.lt Nat _ (L + 8) q.1) :
    Mid w z L m s W sec nxt' wr V U M yu ks x tg tx tO b rest own kos lo hi .next s' :=
  by subst e; exact fun C k => k h' tk T c tsx own3 oW cw cx co ct t1 t2 t3 t4 wv F N a1 a2 a3 a4 a5 a6 a7 a8 a9 b1 b2 b3
theorem mid_of {w : World} {z : Heap} {L : Nat} {h : Heap} {m : Str → Option Value} (_ : Fr z L h m) {A : Around} {s : Shared} {W : Nat} {sec nxt' wr : Int} {V U M : Nat} {yu : List Ent} {ks : List (List Int)} {x tg : Int} {tx tO : Tok} {b : Array UInt8} {lo hi : Nat} {e : Sem Flow} {Q : Flow → Shared → Prop} {E : Value → Shared → Prop} (rest own kos : List (Addr × Obj))
    (hb : wpAny (model PR w) A e (Mid w z L m s W sec nxt' wr V U M yu ks x tg tx tO b rest own kos lo hi) E s) (hr : ∀ (h' : Heap) (tk T c : Nat) (tsx : List (List Int × Nat)) (own3 : List (Addr × Obj)) (oW cw cx co ct : Obj) (t1 t2 t3 t4 : Tok) (wv : Option Value),
      Fr z L h' (fun y : Str => if y = "dvas" then some (.ref T) else if y = "why" then wv else m y) →
      News z L h' ((T, tupO (tsx.map fun t => .ref t.2) c) :: (W, oW) :: (L + 1 + 1, cw) :: (L + 1 + 1 + 1, cx) :: (L + 1 + 1 + 1 + 1 + 1 + 1 + 1, co) :: (L + 1 + 1 + 1 + 1 + 1 + 1 + 1 + 1, ct) :: (rest ++ (own ++ own3))) →
      oW.IsDictOf (PySem.strKind PR w) (wKV sec nxt' V U M wr t1 t2 t3) → cw.data = .cell (some (.ref W)) → cx.data = .cell (some (.int x tx)) → co.data = .cell (some (.bytes b tO)) → ct.data = .cell (some (.int tg t4)) →
      tsx.map (·.1) = ks → (∀ zz, ∀ t ∈ tsx, KeyO w zz (kos ++ own3) t.1 t.2) → (∀ t ∈ tsx, atKey yu t.1 = none) → TailOk (own ++ own3) lo M L hi → tsx.length ≤ 3 → @LT.lt Nat _ M T → (∀ q ∈ own3, @LT.lt Nat _ (L + 8) q.1) → Q .next { s with heap := h', toks := tk }) : wpAny (model PR w) A e Q E s :=
  wpAny_mono hb (fun _ _ hm => hm Q hr) fun _ _ e => e
theorem Fr.why {z : Heap} {L : Nat} {h : Heap} {m : Str → Option Value} {v : Option Value} (F : Fr z L h (fun y : Str => if y = "dvas" then v else m y)) (hm : m "why" = none) : Fr z L h (fun y : Str => if y = "dvas" then v else if y = "why" then none else m y) := by
  have e : (fun y : Str => if y = "dvas" then v else if y = "why" then none else m y) = fun y : Str => if y = "dvas" then v else m y := by
    funext y
    by_cases h1 : y = "dvas"
    · rw [if_pos h1, if_pos h1]
    · rw [if_neg h1, if_neg h1]
      by_cases h2 : y = "why"
      · rw [if_pos h2, h2, hm]
      · rw [if_neg h2]
  rw [e]; exact F
theorem news_cons {z h : Heap} {L : Addr} {q : Addr × Obj} {l : List (Addr × Obj)} (hq : h.get? q.1 = some q.2 ∧ q.1 ≠ L ∧ z.get? q.1 = none) (N : News z L h l) : News z L h (q :: l) := fun p hp => by
  rcases List.mem_cons.mp hp with rfl | hp
  · exact hq
  · exact N p hp

set_option genSizeOf false in
set_option genInjectivity false in
structure FnLit where
  (qual : Str) (scope : Scope) (body : List Stmt)
noncomputable def LitAt (P : Params) (f : Addr) (cdv : Value) (x : FnLit) : Prop := ∃ name params dV kV doc pm an ct oc od osl, (hd0.heap_1 P).lookup f = some ⟨oc, od, .func (fnOf name x.qual params x.body x.scope dV kV doc pm an cdv ct), osl⟩
theorem LitAt.mk' {P : Params} {f : Addr} {name qual : Str} {params : Arguments} {body : List Stmt} {scope : Scope} {dV kV doc pm cdv ct oc : Value} {an od : Option Addr} {osl : Array (Option Value)} (h : (hd0.heap_1 P).lookup f = some ⟨oc, od, .func (fnOf name qual params body scope dV kV doc pm an cdv ct), osl⟩) : LitAt P f cdv ⟨qual, scope, body⟩ :=
  ⟨_, _, _, _, _, _, _, _, _, _, _, h⟩
noncomputable def litMk {f : Addr} {cdv : Value} {qual : Str} {scope : Scope} {body : List Stmt} (h : ∀ (w : World) (z : Heap), (hd0.heap_1 w.params).In z → LitAt w.params f cdv ⟨qual, scope, body⟩) : {x : FnLit // ∀ (w : World) (z : Heap), (hd0.heap_1 w.params).In z → LitAt w.params f cdv x} := ⟨⟨qual, scope, body⟩, h⟩
noncomputable def lit275 : {x : FnLit // ∀ (w : World) (z : Heap), (hd0.heap_1 w.params).In z → LitAt w.params 275 (.ref 274) x} := by
  refine' litMk ?h
  case h =>
    intro w z X
    refine' LitAt.mk' ?o
    case o => k_is
noncomputable def lit282 : {x : FnLit // ∀ (w : World) (z : Heap), (hd0.heap_1 w.params).In z → LitAt w.params 282 (.ref 281) x} := by
  refine' litMk ?h
  case h =>
    intro w z X
    refine' LitAt.mk' ?o
    case o => k_is
noncomputable def lit292 : {x : FnLit // ∀ (w : World) (z : Heap), (hd0.heap_1 w.params).In z → LitAt w.params 292 (.ref 291) x} := by
  refine' litMk ?h
  case h =>
    intro w z X
    refine' LitAt.mk' ?o
    case o => k_is
noncomputable abbrev env292 (L : Addr) : Env := envOfC lit292.1.qual lit292.1.scope L 292 (.ref 291)
noncomputable abbrev env275 (L : Addr) : Env := envOfC lit275.1.qual lit275.1.scope L 275 (.ref 274)
noncomputable abbrev env282 (L : Addr) : Env := envOfC lit282.1.qual lit282.1.scope L 282 (.ref 281)
noncomputable def stmtAt : List Stmt → Nat → Stmt
  | [], _ => .Pass default
  | s :: _, 0 => s
  | _ :: r, n + 1 => stmtAt r n
noncomputable def thenOf (s : Stmt) : List Stmt := by
  cases s with
  | If _ body _ _ => exact body
  | _ => exact []
noncomputable def bodyOf (s : Stmt) : List Stmt := by
  cases s with
  | For _ _ body _ _ => exact body
  | _ => exact []

section
variable {w : World} {d u : Nat} {fr : List Env} {Q : Flow → Shared → Prop} {E : Value → Shared → Prop} {s : Shared} {z : Heap} {p : Program} {loose : List Str} {mean : ExcName → Option Value} {mg mb : Str → Option Value}
set_option maxHeartbeats 800000 in
theorem write_if {hp dh B G W V U M L c' n n2 n3 n4 nM cp : Nat} {HT : HT} {xs xs0 yg xv yu : List Ent} {sec nxt nxt' wr x : Int} {tn tw tx tO t1 t2 t3 ta tg tz : Tok} {oW oc cw cx cf cn cc co ct : Obj} {made : List Nat} {ps : Array Value} {os own fl : List (Addr × Obj)} {former : Value} {ks : List (List Int)} {m : Str → Option Value} {m0 : Str → Option Value}
    (X : (hd0.heap_1 w.params).In z) (T : Top p loose mean mg mb z) (hmm : m = fun y : Str => if y = "told" then m0 y else if y = "size" then some (.int (x.fmod 41) tz) else none) (F9 : Fr z L s.heap m)
    (N9 : News z L s.heap ((hp, instObj 190 dh) :: (dh, hD w.params HT B G sec nxt' wr tn tw) :: (B, tD w xs n) :: (G, tD w yg n2) :: (W, oW) :: (V, tD w xv n3) :: (U, tD w yu n4) :: (M, listOf (made.map fun a => Value.ref a).toArray nM) :: (272, tabObj ps) :: (c', oc) :: (L + 1 + 1, cw) :: (L + 1 + 1 + 1, cx) :: (L + 1 + 1 + 1 + 1, cf) :: (L + 1 + 1 + 1 + 1 + 1, cn) :: (L + 1 + 1 + 1 + 1 + 1 + 1, cc) :: (L + 1 + 1 + 1 + 1 + 1 + 1 + 1, co) :: (L + 1 + 1 + 1 + 1 + 1 + 1 + 1 + 1, ct) :: (own ++ os ++ fl)))
    (hW : oW.IsDictOf (PySem.strKind PR w) (wKV sec nxt V U M wr t1 t2 t3)) (d1 : cw.data = .cell (some (.ref W))) (d2 : cx.data = .cell (some (.int x tx))) (d3 : cf.data = .cell (some former)) (d4 : cn.data = .cell none) (d5 : cc.data = .cell (some (.int (1 + (x.fdiv 41).fmod 3) ta))) (d6 : co.data = .cell (some (.bytes (octX x) tO))) (d7 : ct.data = .cell (some (.int (1 + (x.fdiv 123).fmod 3) tg)))
    (KV : KeysO w z os xv) (KU : KeysO w z os yu) (ho : 292 < dh ∧ dh < hp ∧ hp < B ∧ B < G ∧ G < W ∧ W < V ∧ V < U ∧ U < M ∧ M < L) (hc : M < c' ∧ (c' < L ∨ L + 8 < c')) (T6 : TailOk (own ++ os ++ fl) dh M L (L + 8)) (hos : ∀ q ∈ os, M < q.1) (hd : d ≤ 440) (hu : u ≤ 840) (hx : 0 ≤ x ∧ x < 2 ^ 40)
    (hfo : Fo w os xs0 xv yg yu (1 + (x.fdiv 123).fmod 3) (octX x).size nxt ((((octX x).size : Int) + sec - 1).fdiv sec) cp former nxt' ks false) (hU : ∀ e ∈ yu, ∃ s k, e.1 = [0, s, k] ∧ 0 < k ∧ s + k ≤ nxt) (hsec : 4 ≤ sec ∧ sec ≤ 16) (hnx : 1 ≤ nxt ∧ nxt ≤ 100000) (hcp : 1 + (x.fdiv 41).fmod 3 = (cp : Int)) (hcp3 : cp = 1 ∨ cp = 2 ∨ cp = 3) :
    wpAny (model PR w) ((mkA d fr u).deeper (env275 L)) (exec (stmtAt lit275.1.body 4) (env275 L)) (Mid w z L m s W sec nxt' wr V U M yu ks x (1 + (x.fdiv 123).fmod 3) tx tO (octX x) [(V, tD w xv n3), (U, tD w yu n4), (hp, instObj 190 dh), (dh, hD w.params HT B G sec nxt' wr tn tw), (B, tD w xs n), (G, tD w yg n2), (M, listOf (made.map fun a => Value.ref a).toArray nM), (272, tabObj ps), (c', oc)] (own ++ os ++ fl) os dh (L + 8)) E s := by
  refine use_w ho fun P9 U9 q100 q101 q102 q103 q104 q105 q106 q107 q108 q109 q110 q111 q112 q113 q114 q115 q116 q117 q118 q119 q120 q121 => ?_
  have hc1 := hc.1
  have cp3 := cp_le hcp3
  subst hmm
  dsimp only [env275, lit275, litMk, stmtAt]
  rcases hfo.split with hz9 | hz9
  · refine ea0_3 hz9 fun hnx' hks hne => ?_
    clear hz9
    refine if_F ?_ fun tk7 => ?_
    focus
      rcases hne with rfl | ⟨pa, q0, ts0, rfl, hp0, hne⟩
      · walk_at "goL"
        exact ⟨rfl, _, rfl⟩
      · have i1 := (hp0 z).inst
        have i2 := (hp0 z).dict
        have w1 := ltN (hos _ i1)
        have w2 := ltN (hos _ i2)
        dsimp only at w1 w2
        have No : ∀ q ∈ os, _ := fun q hq => N9 q (by repeat (first | exact List.mem_append_left _ (List.mem_append_right _ hq) | apply List.mem_cons_of_mem))
        have N10 := news_cons (No _ i1) (news_cons (No _ i2) N9)
        clear N9 No
        rw [oct_size'] at hne
        walk_at "goL"
        all_goals first | (exfalso; omega) | exact ⟨rfl, _, rfl⟩
    walk_at "goL"
    refine LCg.ListComp_U (F₀ := by assumption) (by with_unfolding_all rfl) (by decide) (by rfl) (by decide) (by rfl) ?_
    walk_at "goL"
    refine LCg.CompSrc.range (n := cp) (by rfl) (by assumption) (by assumption) (by assumption) (by rw [hcp]; rcases hcp3 with h | h | h <;> rw [h] <;> decide) (by rw [hcp]; exact rangeSize_nat _ _) (by rw [PySem.sizeLine_eq]; omega) fun g => ?_
    refine comp_tup (fun k => [0, nxt + k * ((x.fmod 41 + sec - 1).fdiv sec), ((x.fmod 41 + sec - 1).fdiv sec)]) ?_ ?_
    · intro k t I oI C oC D m₂ ys h₁ tk₁ E₁ own hk0 hk1 hC hx F₁ N₁
      simp only [List.cons_append] at N₁
      walk_at "goL"
      exact mk4_6 _ _ _ _ rfl rfl (by assumption) (by assumption) (by assumption) keyObj3
    · intro ts3 own3 hT3
      simp only [List.cons_append]
      have hlt3 := congrArg List.length hT3.keys
      simp only [List.length_map, rangeKs_length] at hlt3
      have hf3 : ∀ q ∈ own3, @LT.lt Nat _ (L + 8) q.1 := fun q hq => hT3.above q hq (L + 1 + 1 + 1 + 1 + 1 + 1 + 1 + 1, _) (by k_mem)
      have T7 : TailOk (((own ++ os) ++ fl) ++ own3) dh M L (L + 8) := T6.app (TailOk.high (f := L + 8 + 1) (fun q hq => hf3 q hq) (lt_9 (ord_9 ho).1) (lt_9 (ord_9 ho).2))
      walk_at "goL"
      have hk3 : ts3.map (·.1) = ks := hT3.keys.trans (by rw [hks, oct_size']; rfl)
      refine mid_mk ts3 own3 none rfl (Fr.why (by assumption) (by rfl)) (subl_of (by assumption) (by walk_at "subl")) (by rw [hnx', ← hcp, oct_size']; assumption) d1 d2 d6 d7 hk3 ?_ ?_ T7 (by omega) (by omega) hf3
      · intro zz t ht
        refine ea1_2 (hT3.objs t ht) fun o a b => ?_
        exact .inr ⟨o, List.mem_append_right _ a, b⟩
      · have := new_not hU (hk3.trans hks) (by
          rw [oct_size']
          have := fmod_lo x (n := 41) (by decide)
          exact Int.fdiv_nonneg (by omega) (by omega))
        exact this
  · refine ea0_2 hz9 fun hnx' hz8 => ?_
    refine ea3_8 hz8 fun pa q0 ts0 rz9 hp0 hb0 hs0 hav hnu hl3 hks => ?_
    clear hz9 hz8
    subst rz9
    obtain ⟨c0, i3⟩ := hp0.tup
    have i1 := (hp0 z).inst
    have i2 := (hp0 z).dict
    have w1 := ltN (hos _ i1)
    have w2 := ltN (hos _ i2)
    have w3 := ltN (hos _ i3)
    dsimp only at w1 w2 w3
    have No : ∀ q ∈ os, _ := fun q hq => N9 q (by repeat (first | exact List.mem_append_left _ (List.mem_append_right _ hq) | apply List.mem_cons_of_mem))
    have N10 := news_cons (No _ i1) (news_cons (No _ i2) (news_cons (No _ i3) N9))
    clear N9 No
    rw [oct_size'] at hs0
    refine if_T ?_ fun tk7 => ?_
    focus
      walk_at "goL"
      all_goals first | (exfalso; omega) | exact ⟨rfl, _, rfl⟩
    walk_at "goL"
    refine mid_mk ts0 [] _ rfl (by assumption) (by rw [List.append_nil]; simp only [List.cons_append, List.nil_append]; exact subl_of (by assumption) (by walk_at "subl")) (by rw [hnx']; exact hW) d1 d2 d6 d7 (hks.symm) (fun zz t ht => ((hp0 zz).keys t ht).mono fun e he => List.mem_append_left _ he) hnu (by rw [List.append_nil]; exact T6) hl3 w3 (fun _ h => nomatch h)
set_option maxHeartbeats 8000000 in
theorem write_dead {hp dh B G W V U M L c' n n2 n3 n4 nM : Nat} {HT : HT} {xs yg xv yu : List Ent} {sec nxt nxt' wr x : Int} {tn tw tx tO t1 t2 t3 ta tg tz : Tok} {oW oc cw cx cf cn cc co ct : Obj} {made : List Nat} {ps : Array Value} {os own fl : List (Addr × Obj)} {former : Value} {g : Bool} {t6 : Tok}
    (X : (hd0.heap_1 w.params).In z) (T : Top p loose mean mg mb z) (F9 : Fr z L s.heap (fun y : Str => if y = "told" then some (.str (toldStr 56 (goneStr g)) t6) else if y = "size" then some (.int (x.fmod 41) tz) else none))
    (N9 : News z L s.heap ((hp, instObj 190 dh) :: (dh, hD w.params HT B G sec nxt' wr tn tw) :: (B, tD w xs n) :: (G, tD w yg n2) :: (W, oW) :: (V, tD w xv n3) :: (U, tD w yu n4) :: (M, listOf (made.map fun a => Value.ref a).toArray nM) :: (272, tabObj ps) :: (c', oc) :: (L + 1 + 1, cw) :: (L + 1 + 1 + 1, cx) :: (L + 1 + 1 + 1 + 1, cf) :: (L + 1 + 1 + 1 + 1 + 1, cn) :: (L + 1 + 1 + 1 + 1 + 1 + 1, cc) :: (L + 1 + 1 + 1 + 1 + 1 + 1 + 1, co) :: (L + 1 + 1 + 1 + 1 + 1 + 1 + 1 + 1, ct) :: (own ++ os ++ fl)))
    (hW : oW.IsDictOf (PySem.strKind PR w) (wKV sec nxt V U M wr t1 t2 t3)) (d1 : cw.data = .cell (some (.ref W))) (d2 : cx.data = .cell (some (.int x tx))) (d3 : cf.data = .cell (some former)) (d4 : cn.data = .cell none) (d5 : cc.data = .cell (some (.int (1 + (x.fdiv 41).fmod 3) ta))) (d6 : co.data = .cell (some (.bytes (octX x) tO))) (d7 : ct.data = .cell (some (.int (1 + (x.fdiv 123).fmod 3) tg)))
    (KV : KeysO w z os xv) (KU : KeysO w z os yu) (ho : 292 < dh ∧ dh < hp ∧ hp < B ∧ B < G ∧ G < W ∧ W < V ∧ V < U ∧ U < M ∧ M < L) (hc : M < c' ∧ (c' < L ∨ L + 8 < c')) (T6 : TailOk (own ++ os ++ fl) dh M L (L + 8)) (hos : ∀ q ∈ os, M < q.1) (hd : d ≤ 440) (hu : u ≤ 840) (hx : 0 ≤ x ∧ x < 2 ^ 40)
    (hdead : DeadAt w os xv yu (1 + (x.fdiv 123).fmod 3) (octX x).size former g)
    (h : ∀ h' tk m', Fr z L h' m' → News z L h' ((hp, instObj 190 dh) :: (dh, hD w.params HT B G sec nxt' wr tn tw) :: (B, tD w xs n) :: (G, tD w yg n2) :: (W, oW) :: (V, tD w xv n3) :: (U, tD w yu n4) :: (M, listOf (made.map fun a => Value.ref a).toArray nM) :: (272, tabObj ps) :: (c', oc) :: (L + 1 + 1, cw) :: (L + 1 + 1 + 1, cx) :: (L + 1 + 1 + 1 + 1, cf) :: (L + 1 + 1 + 1 + 1 + 1, cn) :: (L + 1 + 1 + 1 + 1 + 1 + 1, cc) :: (L + 1 + 1 + 1 + 1 + 1 + 1 + 1, co) :: (L + 1 + 1 + 1 + 1 + 1 + 1 + 1 + 1, ct) :: (own ++ os ++ fl)) → Q (.ret (.bool true)) { s with heap := h', toks := tk }) :
    wpAny (model PR w) ((mkA d fr u).deeper (env275 L)) (exec (stmtAt lit275.1.body 4) (env275 L)) Q E s := by
  refine use_w ho fun P9 U9 q100 q101 q102 q103 q104 q105 q106 q107 q108 q109 q110 q111 q112 q113 q114 q115 q116 q117 q118 q119 q120 q121 => ?_
  have hc1 := hc.1
  dsimp only [env275, lit275, litMk, stmtAt]
  refine ea4_6 (hdead) fun pa q0 t0 ts0 rz4 hp0 hb0 hs0 hxv0 hg0 => ?_
  (try clear hdead)
  subst rz4
  have i1 := (hp0 z).inst
  have i2 := (hp0 z).dict
  have w1 := ltN (hos _ i1)
  have w2 := ltN (hos _ i2)
  dsimp only at w1 w2
  have No : ∀ q ∈ os, _ := fun q hq => N9 q (by repeat (first | exact List.mem_append_left _ (List.mem_append_right _ hq) | apply List.mem_cons_of_mem))
  have N10 := news_cons (No _ i1) (news_cons (No _ i2) N9)
  clear N9 No
  rw [oct_size'] at hs0
  cases g
  all_goals (first | rw [goneS_f] at F9 | rw [goneS_t] at F9)
  all_goals
    refine if_T ?_ fun tk7 => ?_
    focus
      walk_at "goL"
      all_goals first | (exfalso; omega) | exact ⟨rfl, _, rfl⟩
    walk_at "goL"
    exact h _ _ _ (by assumption) (subl_of (by assumption) (by walk_at "subl"))
end

noncomputable abbrev mapW (T pt : Nat) (wv : Option Value) (sz : Int) (tz : Tok) : Str → Option Value := fun y : Str => if y = "dvas" then some (.ref T) else if y = "why" then wv else if y = "told" then some (.ref pt) else if y = "size" then some (.int sz tz) else none
section
variable {w : World} {d u : Nat} {fr : List Env} {Q : Flow → Shared → Prop} {E : Value → Shared → Prop} {s : Shared} {z : Heap} {p : Program} {loose : List Str} {mean : ExcName → Option Value} {mg mb : Str → Option Value}
set_option maxHeartbeats 2000000 in
theorem write_for {hp dh B G W V U M L T c' c n n2 n3 n4 nM pt : Nat} {HT : HT} {xs yg xv yu : List Ent} {sec nxt wr x tgv : Int} {tn tw tx tO t1 t2 t3 tg tz : Tok} {oW oc cw cx co ct : Obj} {made : List Nat} {ps : Array Value} {tl : List (Addr × Obj)} {wv : Option Value} {ts : List (List Int × Nat)} {b : Array UInt8}
    (X : (hd0.heap_1 w.params).In z) (Tp : Top p loose mean mg mb z) (F9 : Fr z L s.heap (mapW T pt wv (x.fmod 41) tz))
    (N9 : News z L s.heap ((T, tupO (ts.map fun t => .ref t.2) c) :: (W, oW) :: (L + 1 + 1, cw) :: (L + 1 + 1 + 1, cx) :: (L + 1 + 1 + 1 + 1 + 1 + 1 + 1, co) :: (L + 1 + 1 + 1 + 1 + 1 + 1 + 1 + 1, ct) :: (V, tD w xv n3) :: (U, tD w yu n4) :: (hp, instObj 190 dh) :: (dh, hD w.params HT B G sec nxt wr tn tw) :: (B, tD w xs n) :: (G, tD w yg n2) :: (M, listOf (made.map fun a => Value.ref a).toArray nM) :: (272, tabObj ps) :: (c', oc) :: tl))
    (hW : oW.IsDictOf (PySem.strKind PR w) (wKV sec nxt V U M wr t1 t2 t3)) (d1 : cw.data = .cell (some (.ref W))) (d2 : cx.data = .cell (some (.int x tx))) (d6 : co.data = .cell (some (.bytes b tO))) (d7 : ct.data = .cell (some (.int tgv tg)))
    (KV : KeysO w z tl xv) (KU : KeysO w z tl yu) (kt : ∀ t ∈ ts, KeyO w z tl t.1 t.2) (hno : ∀ t ∈ ts, atKey yu t.1 = none) (hl3 : ts.length ≤ 3) (hlv : xv.length < 9000) (ho : 292 < dh ∧ dh < hp ∧ hp < B ∧ B < G ∧ G < W ∧ W < V ∧ V < U ∧ U < M ∧ M < L) (hc : M < c' ∧ (c' < L ∨ L + 8 < c')) (hWT : M < T) (T6 : TailOk tl dh M L (L + 8)) (hd : d ≤ 440) (hu : u ≤ 840)
    (h : ∀ h' tk n3' d, Fr z L h' (putM (mapW T pt wv (x.fmod 41) tz) "dva" d) → News z L h' ((T, tupO (ts.map fun t => .ref t.2) c) :: (W, oW) :: (L + 1 + 1, cw) :: (L + 1 + 1 + 1, cx) :: (L + 1 + 1 + 1 + 1 + 1 + 1 + 1, co) :: (L + 1 + 1 + 1 + 1 + 1 + 1 + 1 + 1, ct) :: (V, tD w (putX (.bytes b tO) xv ts) n3') :: (U, tD w yu n4) :: (hp, instObj 190 dh) :: (dh, hD w.params HT B G sec nxt wr tn tw) :: (B, tD w xs n) :: (G, tD w yg n2) :: (M, listOf (made.map fun a => Value.ref a).toArray nM) :: (272, tabObj ps) :: (c', oc) :: tl) →
      KeysO w z tl (putX (.bytes b tO) xv ts) → Q .next { s with heap := h', toks := tk }) :
    wpAny (model PR w) ((mkA d fr u).deeper (env275 L)) (exec (stmtAt lit275.1.body 5) (env275 L)) Q E s := by
  refine use_w ho fun P9 U9 q100 q101 q102 q103 q104 q105 q106 q107 q108 q109 q110 q111 q112 q113 q114 q115 q116 q117 q118 q119 q120 q121 => ?_
  have hc1 := hc.1
  dsimp only [env275, lit275, litMk, stmtAt]
  refine wpAny_mono (Q := Q) (E := fun _ _ => False) ?_ (fun _ _ q => q) (fun _ _ f => f.elim)
  refine For_invV z (by rfl) (by rfl) ?_
  walk_at "goL"
  refine iter_dva (σ := List Ent × Nat) (f := fun t : List Int × Nat => Value.ref t.2) (fun y => (T, tupO (ts.map fun t => .ref t.2) c) :: (W, oW) :: (L + 1 + 1, cw) :: (L + 1 + 1 + 1, cx) :: (L + 1 + 1 + 1 + 1 + 1 + 1 + 1, co) :: (L + 1 + 1 + 1 + 1 + 1 + 1 + 1 + 1, ct) :: (V, tD w y.1 y.2) :: (U, tD w yu n4) :: (hp, instObj 190 dh) :: (dh, hD w.params HT B G sec nxt wr tn tw) :: (B, tD w xs n) :: (G, tD w yg n2) :: (M, listOf (made.map fun a => Value.ref a).toArray nM) :: (272, tabObj ps) :: (c', oc) :: tl)
    (fun y rem => KeysO w z tl y.1 ∧ putX (.bytes b tO) y.1 rem = putX (.bytes b tO) xv ts ∧ y.1.length + rem.length < 10000 ∧ (∀ t ∈ rem, KeyO w z tl t.1 t.2) ∧ (∀ t ∈ rem, atKey yu t.1 = none)) (xv, _) rfl (by assumption) (by assumption) (.inr fun _ => .head _) ⟨KV, rfl, by dsimp only; omega, kt, hno⟩ ?_ ?_
  · intro t rem' y I it h₁ tk₁ hy hI hic F₁ N₁ hnI
    refine and5 hy fun K' e1' hlen' hkt hrem => ?_
    clear hy
    have ka := hkt t (.head _)
    have hnot := hrem t (.head _)
    have hIo : AllLt I tl := allLt_of fun p hp => hI p (by repeat (first | exact hp | apply List.mem_cons_of_mem))
    have hIM := ltN (hI (L + 1 + 1 + 1 + 1 + 1 + 1 + 1 + 1, _) (by k_mem))
    have hIT := ltN (hI (T, _) (by k_mem))
    have hIc := ltN (hI (c', _) (by k_mem))
    dsimp only at hIM hIT hIc N₁ hnI
    clear hI
    simp only [List.length_cons] at hlen'
    walk_at "goL"
    refine dva_end (storedH y.1 t.1 t.2 (.bytes b tO), _) (by assumption) (by assumption) ?_ ⟨by assumption, e1', ?_, fun t' h => hkt t' (.tail _ h), fun t' h => hrem t' (.tail _ h)⟩
    · k_all
    · have := storedH_len y.1 t.1 t.2 (.bytes b tO)
      dsimp only
      omega
  · intro d h₁ tk₁ y hy F₁ N₁
    have e1' : y.1 = putX (.bytes b tO) xv ts := hy.2.1
    have K' := hy.1
    rw [e1'] at N₁ K'
    exact h _ _ _ _ F₁ N₁ K'
set_option maxHeartbeats 2000000 in
theorem write_app {hp dh B G W V U M L T c' c n n2 n3 n4 nM pt : Nat} {HT : HT} {xs yg xv yu : List Ent} {sec nxt wr x tgv : Int} {tn tw tx tO t1 t2 t3 tg tz : Tok} {oW oc cw cx co ct : Obj} {made : List Nat} {ps : Array Value} {tl tp : List (Addr × Obj)} {wv dv : Option Value} {ts tq : List (List Int × Nat)} {b : Array UInt8} {q : PT}
    (X : (hd0.heap_1 w.params).In z) (Tp : Top p loose mean mg mb z) (F9 : Fr z L s.heap (putM (mapW T pt wv (x.fmod 41) tz) "dva" dv))
    (N9 : News z L s.heap ((T, tupO (ts.map fun t => .ref t.2) c) :: (W, oW) :: (L + 1 + 1, cw) :: (L + 1 + 1 + 1, cx) :: (L + 1 + 1 + 1 + 1 + 1 + 1 + 1, co) :: (L + 1 + 1 + 1 + 1 + 1 + 1 + 1 + 1, ct) :: (V, tD w xv n3) :: (U, tD w yu n4) :: (hp, instObj 190 dh) :: (dh, hD w.params HT B G sec nxt wr tn tw) :: (B, tD w xs n) :: (G, tD w yg n2) :: (M, listOf (made.map fun a => Value.ref a).toArray nM) :: (272, tabObj ps) :: (c', oc) :: tl))
    (hW : oW.IsDictOf (PySem.strKind PR w) (wKV sec nxt V U M wr t1 t2 t3)) (d1 : cw.data = .cell (some (.ref W))) (d2 : cx.data = .cell (some (.int x tx))) (d6 : co.data = .cell (some (.bytes b tO))) (d7 : ct.data = .cell (some (.int tgv tg)))
    (hm : ∀ a ∈ made, ∃ q ts, PtrL w tp a q ts ∧ ∀ t ∈ ts, ∃ a b c, t.1 = [a, b, c]) (hml : made.length ≤ 1000) (hpt : PtrL w tp pt q tq) (k3 : ∀ t ∈ tq, ∃ a b c, t.1 = [a, b, c]) (htp : ∀ e ∈ tp, e ∈ tl) (htl : ∀ e ∈ tp, M < e.1) (ho : 292 < dh ∧ dh < hp ∧ hp < B ∧ B < G ∧ G < W ∧ W < V ∧ V < U ∧ U < M ∧ M < L) (hc : M < c' ∧ (c' < L ∨ L + 8 < c')) (hWT : M < T) (T6 : TailOk tl dh M L (L + 8)) (hd : d ≤ 440) (hu : u ≤ 840)
    (h : ∀ h' tk nM' made', (made' = made ∨ (made' = made ++ [pt] ∧ 0 < x.fmod 41)) → Fr z L h' (putM (mapW T pt wv (x.fmod 41) tz) "dva" dv) → News z L h' ((T, tupO (ts.map fun t => .ref t.2) c) :: (W, oW) :: (L + 1 + 1, cw) :: (L + 1 + 1 + 1, cx) :: (L + 1 + 1 + 1 + 1 + 1 + 1 + 1, co) :: (L + 1 + 1 + 1 + 1 + 1 + 1 + 1 + 1, ct) :: (V, tD w xv n3) :: (U, tD w yu n4) :: (hp, instObj 190 dh) :: (dh, hD w.params HT B G sec nxt wr tn tw) :: (B, tD w xs n) :: (G, tD w yg n2) :: (M, listOf (made'.map fun a => Value.ref a).toArray nM') :: (272, tabObj ps) :: (c', oc) :: tl) →
      Q .next { s with heap := h', toks := tk }) :
    wpAny (model PR w) ((mkA d fr u).deeper (env275 L)) (exec (stmtAt lit275.1.body 6) (env275 L)) Q E s := by
  refine use_w ho fun P9 U9 q100 q101 q102 q103 q104 q105 q106 q107 q108 q109 q110 q111 q112 q113 q114 q115 q116 q117 q118 q119 q120 q121 => ?_
  have hc1 := hc.1
  dsimp only [env275, lit275, litMk, stmtAt]
  have i1 := (hpt z).inst
  have i2 := (hpt z).dict
  have w1 := ltN (htl _ i1)
  have w2 := ltN (htl _ i2)
  dsimp only at w1 w2
  have No : ∀ q ∈ tl, _ := fun q hq => N9 q (by repeat (first | exact hq | apply List.mem_cons_of_mem))
  have N10 := news_cons (No _ (htp _ i1)) (news_cons (No _ (htp _ i2)) N9)
  clear N9 No
  walk_at "goL"
  · refine LCg.ListComp_U (F₀ := by assumption) (by with_unfolding_all rfl) (by decide) (by rfl) (by decide) (by rfl) ?_
    walk_at "goL"
    obtain ⟨qf, hqf⟩ := Classical.axiomOfChoice (r := fun (a : Nat) (q : PT) => a ∈ made → ∃ ts, PtrL w tp a q ts ∧ ∀ t ∈ ts, ∃ a b c, t.1 = [a, b, c]) fun a => by
      by_cases ha : a ∈ made
      · refine ea2_2 (hm a ha) fun q' ts' h1 h2 => ?_
        exact ⟨q', fun _ => ⟨ts', h1, h2⟩⟩
      · exact ⟨q, fun h => absurd h ha⟩
    refine LCg.CompSrc.ledger rfl (by assumption) (by assumption) (show (M, PySem.W.listOf _ _) ∈ _ by k_mem) (by rw [List.size_toArray, List.length_map, PySem.sizeLine_eq]; omega) fun g => ?_
    refine comp_map (vs := made.map fun a => Value.ref a) (fun v => match v with | .ref a => .ref (qf a).D | _ => .none) ?turn ?hS ?fin
    case hS => exact .inr ⟨_, (show (M, PySem.W.listOf _ _) ∈ _ by k_mem), rfl, nM, rfl⟩
    case turn =>
      intro v hv I oI C oC D m₂ ys h₁ tk₁ E₁ hC hx F₁ N₁
      refine ea1_2 (List.mem_map.mp hv) fun a ha rz2 => ?_
      subst rz2
      refine ea1_2 (hqf a ha) fun tsa hpa _ => ?_
      have j1 := (hpa z).inst
      have j2 := (hpa z).dict
      have v1 := ltN (htl _ j1)
      have v2 := ltN (htl _ j2)
      dsimp only at v1 v2
      have No : ∀ q ∈ tl, _ := fun q hq => N₁ q (by repeat (first | exact hq | apply List.mem_cons_of_mem))
      have N12 := news_cons (No _ (htp _ j1)) (news_cons (No _ (htp _ j2)) N₁)
      clear N10 No
      walk_at "goL"
      exact ⟨rfl, _, _, rfl, by assumption, N₁⟩
    case fin =>
      intro D h₂ tk₂ F₂ N₂ o1
      simp only [LCg.Off1] at o1
      have No : ∀ q ∈ tl, h₂.get? q.1 = some q.2 := fun q hq => (N₂ q (by repeat (first | exact hq | apply List.mem_cons_of_mem))).1
      obtain ⟨as, ra⟩ := (hpt z).reads k3 F₂.keep fun e he => No e (htp e he)
      refine notin_any ra (N₂.isList (.head _)) (fun y hy => ?_) (nc_dvas _) (by decide) ?_ fun b => ?_
      · rw [List.mem_toArray] at hy
        refine ea1_2 (List.mem_map.mp hy) fun v hv rz2 => ?_
        subst rz2
        refine ea1_2 (List.mem_map.mp hv) fun a ha rz2 => ?_
        subst rz2
        refine ea1_2 (hqf a ha) fun tsa hpa h3 => ?_
        obtain ⟨bs, rb⟩ := (hpa z).reads h3 F₂.keep fun e he => No e (htp e he)
        exact mk2_2 _ _ rb (nc_dvas _)
      · show u + 3 + 1 + 64 < 9900
        omega
      · cases b
        · walk_at "goL"
          exact h _ _ _ made (.inl rfl) (by assumption) (subl_of (by assumption) (by walk_at "subl"))
        · walk_at "goL"
          have e : (made.map fun a => Value.ref a).toArray.push (.ref pt) = ((made ++ [pt]).map fun a => Value.ref a).toArray := by simp
          rename News _ _ _ _ => N'
          rw [e] at N'
          exact h _ _ _ (made ++ [pt]) (.inr ⟨rfl, by assumption⟩) (by assumption) (subl_of (by assumption) (by walk_at "subl"))
  · exact h _ _ _ made (.inl rfl) (by assumption) (subl_of (by assumption) (by walk_at "subl"))
set_option maxHeartbeats 2000000 in
theorem write_ret {hp dh B G W V U M L T c' c n n2 n3 n4 nM pt : Nat} {HT : HT} {xs yg xv yu : List Ent} {sec nxt wr x tgv : Int} {tn tw tx tO t1 t2 t3 tg tz : Tok} {oW oc cw cx co ct : Obj} {made : List Nat} {ps : Array Value} {tl tp : List (Addr × Obj)} {wv dv : Option Value} {ts tq : List (List Int × Nat)} {b : Array UInt8} {q : PT}
    (X : (hd0.heap_1 w.params).In z) (Tp : Top p loose mean mg mb z) (F9 : Fr z L s.heap (putM (mapW T pt wv (x.fmod 41) tz) "dva" dv))
    (N9 : News z L s.heap ((T, tupO (ts.map fun t => .ref t.2) c) :: (W, oW) :: (L + 1 + 1, cw) :: (L + 1 + 1 + 1, cx) :: (L + 1 + 1 + 1 + 1 + 1 + 1 + 1, co) :: (L + 1 + 1 + 1 + 1 + 1 + 1 + 1 + 1, ct) :: (V, tD w xv n3) :: (U, tD w yu n4) :: (hp, instObj 190 dh) :: (dh, hD w.params HT B G sec nxt wr tn tw) :: (B, tD w xs n) :: (G, tD w yg n2) :: (M, listOf (made.map fun a => Value.ref a).toArray nM) :: (272, tabObj ps) :: (c', oc) :: tl))
    (hW : oW.IsDictOf (PySem.strKind PR w) (wKV sec nxt V U M wr t1 t2 t3)) (d1 : cw.data = .cell (some (.ref W))) (d2 : cx.data = .cell (some (.int x tx))) (d6 : co.data = .cell (some (.bytes b tO))) (d7 : ct.data = .cell (some (.int tgv tg)))
    (hpt : PtrL w tp pt q tq) (hq : q = ⟨q.dx, q.D, q.S, 8, x.fmod 3, x.fmod 41, 0, 0, tgv, x.fmod 9, 0, q.k, q.v⟩) (k3 : ∀ t ∈ tq, ∃ a b c, t.1 = [a, b, c]) (htq : tq.map (·.1) = ts.map (·.1)) (kt : ∀ t ∈ ts, KeyO w z tl t.1 t.2) (htp : ∀ e ∈ tp, e ∈ tl) (htl : ∀ e ∈ tp, M < e.1) (ho : 292 < dh ∧ dh < hp ∧ hp < B ∧ B < G ∧ G < W ∧ W < V ∧ V < U ∧ U < M ∧ M < L) (hc : M < c' ∧ (c' < L ∨ L + 8 < c')) (hWT : M < T) (T6 : TailOk tl dh M L (L + 8)) (hd : d ≤ 440) (hu : u ≤ 840)
    (h : ∀ h' tk m', Fr z L h' m' → News z L h' ((T, tupO (ts.map fun t => .ref t.2) c) :: (W, oW) :: (L + 1 + 1, cw) :: (L + 1 + 1 + 1, cx) :: (L + 1 + 1 + 1 + 1 + 1 + 1 + 1, co) :: (L + 1 + 1 + 1 + 1 + 1 + 1 + 1 + 1, ct) :: (V, tD w xv n3) :: (U, tD w yu n4) :: (hp, instObj 190 dh) :: (dh, hD w.params HT B G sec nxt wr tn tw) :: (B, tD w xs n) :: (G, tD w yg n2) :: (M, listOf (made.map fun a => Value.ref a).toArray nM) :: (272, tabObj ps) :: (c', oc) :: tl) →
      Q (.ret (.bool true)) { s with heap := h', toks := tk }) :
    wpAny (model PR w) ((mkA d fr u).deeper (env275 L)) (exec (stmtAt lit275.1.body 7) (env275 L)) Q E s := by
  refine use_w ho fun P9 U9 q100 q101 q102 q103 q104 q105 q106 q107 q108 q109 q110 q111 q112 q113 q114 q115 q116 q117 q118 q119 q120 q121 => ?_
  have hc1 := hc.1
  dsimp only [env275, lit275, litMk, stmtAt]
  have hpt2 : PtrL w tp pt ⟨q.dx, q.D, q.S, 8, x.fmod 3, x.fmod 41, 0, 0, tgv, x.fmod 9, 0, q.k, q.v⟩ tq := by
    rw [← hq]
    exact hpt
  clear hpt hq
  have hpt := hpt2
  clear hpt2
  have i1 := (hpt z).inst
  have i2 := (hpt z).dict
  have w1 := ltN (htl _ i1)
  have w2 := ltN (htl _ i2)
  dsimp only at w1 w2
  have No : ∀ q ∈ tl, _ := fun q hq => N9 q (by repeat (first | exact hq | apply List.mem_cons_of_mem))
  have N10 := news_cons (No _ (htp _ i1)) (news_cons (No _ (htp _ i2)) N9)
  clear N9 No
  walk_at "goL"
  rename News _ _ _ _ => N9
  rename Fr _ _ _ _ => F8
  have No : ∀ q ∈ tl, _ := fun q hq => (N9 q (by repeat (first | exact hq | apply List.mem_cons_of_mem))).1
  obtain ⟨cD, hcD⟩ := (hpt z).tup
  refine ea5_1 ((hpt z).sum) fun v1 v2 v3 v4 v5 i5 => ?_
  have hk3 : ∀ t ∈ ts, ∃ a b c, t.1 = [a, b, c] := dvas_3 htq.symm fun k hk => by
    refine ea1_2 (List.mem_map.mp hk) fun t ht rz2 => ?_
    subst rz2
    exact k3 t ht
  have tu1 := tups_T (hpt z).keys k3 F8.keep fun e he => No e (htp e he)
  have tu2 := tups_T kt hk3 F8.keep No
  rw [htq] at tu1
  dsimp only at i5 hcD
  obtain ⟨as, r1⟩ := reads_plain tu1 (hcD.elim (F8.keep _ _) fun h => No _ (htp _ h)) (No _ (htp _ i5)) (N9 (_, _) (.tail _ (.tail _ (.head _)))).1
  obtain ⟨bs, r2⟩ := reads_plain tu2 (N9 (T, _) (by k_mem)).1 (N9 (_, _) (.tail _ (.head _))).1 (N9 (_, _) (.head _)).1
  refine eq_same r1 r2 (nc_plain _ _ _ _ _) (by decide) ?_ ?_
  · show u + 3 + 64 < 9900
    omega
  · exact h _ _ _ F8 (subl_of N9 (by walk_at "subl"))
end

noncomputable def LwPost (w : World) (os' : List (Addr × Obj)) (x nxt nx' nxt' : Int) (ks : List (List Int)) (dd : Bool) (xs xs' xv xv' : List Ent) (made made' : List Nat) : Prop :=
  (dd = true ∧ nx' = nxt ∧ xs' = xs ∧ xv' = xv ∧ made' = made) ∨
  (dd = false ∧ nx' = nxt' ∧ ∃ tb tb' ts ts' pt q, xs' = putX (.bytes (octX x) tb) xs ts ∧ xv' = putX (.bytes (octX x) tb') xv ts' ∧ ts.map (·.1) = ks ∧ ts'.map (·.1) = ks ∧ (∀ zz, ∀ t ∈ ts', KeyO w zz os' t.1 t.2) ∧ PtrL w os' pt q ts ∧ q.size = ((octX x).size : Int) ∧ q.birth = 1 + (x.fdiv 123).fmod 3 ∧
    (made' = made ∨ (made' = made ++ [pt] ∧ 0 < (octX x).size)))
noncomputable abbrev tokOf {c : Obj} {v : Array UInt8} {t : Tok} (_ : c.data = Data.cell (some (Value.bytes v t))) : Tok := t
section
variable {w : World} {d u : Nat} {fr : List Env} {R : Result → Shared → Prop} {s : Shared} {z : Heap} {p : Program} {loose : List Str} {mean : ExcName → Option Value} {mg mb : Str → Option Value}
theorem write_former {hp dh B G n n2 rr rdx cp lo : Nat} {HT : HT} {xs yg xv yu : List Ent} {sec nxt wr lv tg fl nxt' : Int} {tn tw tb t1 t2 t3 t4 : Tok} {b : Array UInt8} {rk rv : Nat → Tok} {former : Value} {ks : List (List Int)} {dd : Bool} {os : List (Addr × Obj)}
    (hfo : Fo w os xs xv yg yu tg b.size nxt (((b.size : Int) + sec - 1).fdiv sec) cp former nxt' ks dd)
    (X : (hd0.heap_1 w.params).In z) (T : Top p loose mean mg mb z) (P : Pre z s.heap (led4 w hp dh B G HT sec nxt wr tn tw xs yg n n2)) (K : KeysO w z [] xs) (KG : KeysO w z [] yg) (eo : ∀ q ∈ os, z.get? q.1 = some q.2)
    (hr1 : z.get? rr = some (instObj 88 rdx)) (hr2 : z.get? rdx = some (rD w.params 0 0 (cp : Int) 0 rk rv)) (hcp : cp = 1 ∨ cp = 2 ∨ cp = 3) (hB : 292 < B) (hd : d ≤ 470) (hu : u ≤ 870) (hO : dh < hp ∧ hp < B ∧ B < G)
    (hb : b.size ≤ 40) (hsec : 4 ≤ sec ∧ sec ≤ 16) (hnx : 1 ≤ nxt ∧ nxt ≤ 100000) (hwr : 0 ≤ wr ∧ wr ≤ 10000) (hlen : xs.length < 9000) (FF : FFr z fr) (hlo : lo ≤ s.heap.objs.size) :
    codeAny (model PR w) (mkA d fr u) (.call (.ref 147) ⟨[.ref hp, .bytes b tb, .int 8 t1, .int lv t2, .ref rr, .int tg t3, .int fl t4, former], []⟩)
      (CallEnds w z fr (fun v mt' => dd = false ∧ ∃ tb, WAny w os hp dh B G HT sec nxt' wr xs yg lo b tb lv tg fl ks v mt') (fun C why mt' => dd = true ∧ (∃ tw', mt' = led4 w hp dh B G HT sec nxt (wr + 1) tn tw' xs yg n n2) ∧ C = 56 ∧ ∃ g, why = goneStr g ∧ DeadAt w os xv yu tg b.size former g) s) s := by
  have hb' : b.size ≤ 1000 := Nat.le_trans hb (by decide)
  induction hfo with
  | none => exact codeAny_mono (write_new_ends (Er := fun _ _ _ => False) (.inl rfl) X T P K hr1 hr2 hcp hB hd hu hO hb' hsec hnx hwr hlen) fun r s'' hr => hr.mono (fun v mt hO => ⟨rfl, _, hO.any hlo⟩) fun _ _ _ h => h.elim
  | other hp0 hne => exact codeAny_mono (write_new_ends (Er := fun _ _ _ => False) (.inr ⟨_, _, _, rfl, (hp0 z).at (fun _ _ e => e) eo, hne⟩) X T P K hr1 hr2 hcp hB hd hu hO hb' hsec hnx hwr hlen) fun r s'' hr => hr.mono (fun v mt hO => ⟨rfl, _, hO.any hlo⟩) fun _ _ _ h => h.elim
  | here hp0 hb1 hs hal hav hnu h3 hl3 =>
    exact codeAny_mono (write_in_ends X T P K KG ((hp0 z).at (fun _ _ e => e) eo) hb1 hs (.inl hal) hB (Nat.lt_trans hB hO.2.2) hd hu FF hO hb' hsec hnx hwr (add_lt3' hlen hl3))
      fun r s'' hr => hr.mono (fun v mt hO => ⟨rfl, _, hO.2.any hp0 hlo⟩) fun _ _ _ h => by rw [hal _ (.head _)] at h; cases h.2.1
  | dead hp0 hb1 hs hno hnv hg1 hg2 hl3 =>
    exact codeAny_mono (write_in_ends X T P K KG ((hp0 z).at (fun _ _ e => e) eo) hb1 hs (.inr hno) hB (Nat.lt_trans hB hO.2.2) hd hu FF hO hb' hsec hnx hwr (add_lt3' hlen hl3))
      fun r s'' hr => hr.mono (fun v mt hO => by rw [hno] at hO; cases hO.1) fun _ _ _ h => ⟨rfl, h.1, h.2.2.1, _, h.2.2.2.trans (by rw [hg1]), _, _, _, _, rfl, hp0, hb1, hs, hnv, hg2⟩
set_option maxHeartbeats 8000000 in
theorem law_write_ok {hp dh B G W V U M n n2 n3 n4 nM : Nat} {HT : HT} {xs yg xv yu : List Ent} {sec nxt wr x : Int} {tn tw tx t1 t2 t3 : Tok} {oW : Obj} {made : List Nat} {ps : Array Value} {os fl : List (Addr × Obj)} {former : Value} {nxt' : Int} {ks : List (List Int)} {dd : Bool}
    (X : (hd0.heap_1 w.params).In z) (T : Top p loose mean mg mb z) (C : CodeHd z 274 272) (P : Pre z s.heap (led4 w hp dh B G HT sec nxt wr tn tw xs yg n n2 ++ ((W, oW) :: (V, tD w xv n3) :: (U, tD w yu n4) :: (M, listOf (made.map fun a => Value.ref a).toArray nM) :: (272, tabObj ps) :: (os ++ fl))))
    (hW : oW.IsDictOf (PySem.strKind PR w) (wKV sec nxt V U M wr t1 t2 t3)) (tb : TabOk (("_law_write" ++ ".<locals>." : Str) ++ ("<lambda>" : Str)) os ps) (hos : ∀ q ∈ os, @LT.lt Nat _ M q.1) (FL : FrL fr fl) (K : KeysO w z os xs) (KG : KeysO w z os yg) (KV : KeysO w z os xv) (KU : KeysO w z os yu) (hU : ∀ e ∈ yu, ∃ s k, e.1 = [0, s, k] ∧ 0 < k ∧ s + k ≤ nxt) (hlv : xv.length < 9000) (hsec : 4 ≤ sec ∧ sec ≤ 16) (hnx : 1 ≤ nxt ∧ nxt ≤ 100000) (hwr : 0 ≤ wr ∧ wr ≤ 10000) (hlen : xs.length < 9000) (hof : ∀ q ∈ os, ∀ p ∈ fl, p.1 ≠ q.1)
    (ho : 292 < dh ∧ dh < hp ∧ hp < B ∧ B < G ∧ G < W ∧ W < V ∧ V < U ∧ U < M) (htl : TailOk (os ++ fl) dh M dh M)
    (hfo : Fo w os xs xv yg yu (1 + (x.fdiv 123).fmod 3) (octX x).size nxt ((((octX x).size : Int) + sec - 1).fdiv sec) (1 + (x.fdiv 41).fmod 3).toNat former nxt' ks dd) (hm : ∀ a ∈ made, ∃ q ts, PtrL w os a q ts ∧ ∀ t ∈ ts, ∃ a b c, t.1 = [a, b, c]) (hml : made.length ≤ 1000) (hd : d ≤ 440) (hu : u ≤ 840) (hx : 0 ≤ x ∧ x < 2 ^ 40)
    (h : ∀ h' tk oW' n' n2' n3' nM' tn' tw' u1 u2 u3 made' ps' os' fl' xs' xv' nx', Pre z h' (led4 w hp dh B G HT sec nx' (wr + 1) tn' tw' xs' yg n' n2' ++ ((W, oW') :: (V, tD w xv' n3') :: (U, tD w yu n4) :: (M, listOf (made'.map fun a => Value.ref a).toArray nM') :: (272, tabObj ps') :: (os' ++ fl'))) →
      oW'.IsDictOf (PySem.strKind PR w) (wKV sec nx' V U M (wr + 1) u1 u2 u3) → TabOk (("_law_write" ++ ".<locals>." : Str) ++ ("<lambda>" : Str)) os' ps' → FlS fl fl' → (∀ q ∈ os, q ∈ os') → (∀ q ∈ os', M < q.1) → (∀ q ∈ os', ∀ p ∈ fl', p.1 ≠ q.1) →
      LwPost w os' x nxt nx' nxt' ks dd xs xs' xv xv' made made' → R (.ok (.ret (.bool true))) { s with heap := h', toks := tk }) :
    codeAny (model PR w) (mkA d fr u) (.call (.ref 275) ⟨[.ref hp, .ref W, .int x tx, former], []⟩) R s := by
  refine enterZC X T P (by k_is) (by k_is) (by k_room) (BindsTo.of_eq (by rfl)) (by rfl) (by decide +kernel) (by rfl) (by rfl) (by rfl) ?_
  intro L' h' tk' cells' F' N' Y' hL' hst'
  (try dsimp only); k_fold
  replace F' : Fr z L' h' (fun _ => none) := F'
  simp only [List.cons_append, List.nil_append] at N'
  have l1' := allLt_of (d := L') (l := _) fun q hq => hL' ▸ Heap.lt_size (P.led q hq).1
  simp only [AllLt, List.cons_append, List.nil_append] at l1'
  have hML : @LT.lt Nat _ M L' := by omega
  refine use_upL ho hML fun P9 U9 q100 q101 q102 q103 q104 q105 q106 q107 q108 q109 q110 q111 q112 q113 q114 q115 q116 q117 q118 q119 q120 q121 => ?_
  walk_at "cellsIn"
  rename_i c8 c7 c6 c5 c4 c3 c2 c1 e8 e7 e6 e5 e4 e3 e2 e1 _
  walk_at "goM"
  rename Fr _ _ _ _ => F9
  rename News _ _ _ _ => N9
  rename Obj.data _ = Data.cell (some (Value.bytes _ _)) => dO
  rename Obj.IsDictOf _ _ _ => hW1
  refine kla_eval (by rfl) ?_
  refine' lam_any (x0 := M) F9 N9 T C ?cd ?U tb ?hc ?cl ?hx ?h0 ?_
  case cd => exact rfl
  case U => k_updF
  case hc => walk_at "subl"
  case cl => with_unfolding_all rfl
  case hx => exact hos
  case h0 => k_mem
  intro f c' oc ctv ps' h3 tk3 F3 N3 hco tb' hlf hlc hxc hcn
  (try dsimp only at N3)
  have hcf : ∀ p ∈ fl, p.1 ≠ c' := fun p hp => by
    rcases hcn with h | h
    · exact Nat.ne_of_lt (h p (by repeat (first | exact List.mem_append_right _ hp | apply List.mem_cons_of_mem)))
    · exact hof _ h p hp
  have hcL : @LT.lt Nat _ c' L' ∨ @LT.lt Nat _ (L' + 8) c' := by
    rcases hcn with h | h
    · exact .inr (h (L' + 1 + 1 + 1 + 1 + 1 + 1 + 1 + 1, _) (by k_mem))
    · exact .inl (hL' ▸ Heap.lt_size (P.led _ (List.mem_append_right _ (.tail _ (.tail _ (.tail _ (.tail _ (.tail _ (List.mem_append_left _ h)))))))).1)
  k_lt hlf; k_lt2 hlc; k_lt2 hxc
  have hMf := ltN (Nat.lt_trans hxc hlc)
  clear N9 F9
  walk_at "goM"
  refine' (fun N10 => ?main) (subl_of (mt := led4 w hp dh B G HT sec nxt wr tn tw xs yg n n2 ++ (((W, ?oW) :: (V, tD w xv n3) :: (U, tD w yu n4) :: (M, listOf (made.map fun a => Value.ref a).toArray nM) :: (272, tabObj ps') :: (f, ?fo) :: (c', oc) :: (L' + 1, ?o1) :: (L' + 1 + 1, ?o2) :: (L' + 1 + 1 + 1, ?o3) :: (L' + 1 + 1 + 1 + 1, ?o4) :: (L' + 1 + 1 + 1 + 1 + 1, ?o5) :: (L' + 1 + 1 + 1 + 1 + 1 + 1, ?o6) :: (L' + 1 + 1 + 1 + 1 + 1 + 1 + 1, ?o7) :: (L' + 1 + 1 + 1 + 1 + 1 + 1 + 1 + 1, ?o8) :: os) ++ fl)) N3 ?sub)
  case sub =>
    simp only [led4, List.cons_append, List.nil_append]
    walk_at "subl"
  case main =>
    have hfl : TailOk fl dh M dh M := htl.right
    have hflL : AllLt L' fl := allLt_of fun p hp => hL' ▸ Heap.lt_size (P.led p (by repeat (first | exact List.mem_append_right _ hp | apply List.mem_cons_of_mem | apply List.mem_append_right))).1
    obtain ⟨cp, hcpN, hcp⟩ : ∃ cp : Nat, (1 + (x.fdiv 41).fmod 3).toNat = cp ∧ 1 + (x.fdiv 41).fmod 3 = (cp : Int) := ⟨_, rfl, (Int.toNat_of_nonneg (Int.add_nonneg (by decide) (fmod_lo (x.fdiv 41) (n := 3) (by decide)))).symm⟩
    rw [hcpN] at hfo
    have hcp3 : cp = 1 ∨ cp = 2 ∨ cp = 3 := by
      have h1 := fmod_lo (x.fdiv 41) (n := 3) (by decide)
      have h2 := fmod_hi (x.fdiv 41) (n := 3) (by decide)
      exact cp_of h1 h2 hcp
    refine' told_call (mt := led4 w hp dh B G HT sec nxt wr tn tw xs yg n n2) (fl := fl) (fun v mt' => dd = false ∧ ∃ tb, WAny w os hp dh B G HT sec nxt' wr xs yg f (octX x) tb (x.fmod 3) (1 + (x.fdiv 123).fmod 3) (x.fmod 9) ks v mt') (fun C why mt' => dd = true ∧ (∃ tw', mt' = led4 w hp dh B G HT sec nxt (wr + 1) tn tw' xs yg n n2) ∧ C = 56 ∧ ∃ g, why = goneStr g ∧ DeadAt w os xv yu (1 + (x.fdiv 123).fmod 3) (octX x).size former g) X T F3 N10 (apart_of (by walk_at "apart")) (apart_of (by walk_at "apart")) (by walk_at "apart") FL rfl kind_ne ?hfn (by omega) (by omega) ?hcall ?hok ?her
    case hfn => k_dflt k_mem
    case hcall =>
      clear h
      intro z' env2 s' hz' hr' P' FF hsz
      have X' := X.keeps hz'
      have T' := T.keeps hz'
      simp only [List.forall_mem_cons] at hr'
      refine and16 hr' fun eW eV eU eM eT ef ec e1 e2 e3 e4 e5 e6 e7 e8 eo => ?_
      clear hr'
      have hfs : @LT.lt Nat _ f h3.objs.size := Heap.lt_size (N3 _ (.head _)).1
      clear F3 N3 N10
      refine enterL T' P' ef ec hco (by k_room) (by rfl) rfl rfl rfl (by decide) ?_
      intro L2 h4 tk4 F4 N4 hL4 hst4
      walk_at "goM"
      rename News z' _ _ _ => N5
      rename Fr z' _ _ _ => F5
      have Nm : News z' L2 _ (led4 w hp dh B G HT sec nxt wr tn tw xs yg n n2) := subl_of N5 (fun q hq => .tail _ (.tail _ hq))
      have r1 := hid_of (mt := led4 w hp dh B G HT sec nxt wr tn tw xs yg n n2) (N5 _ (.head _)).1 (by k_all)
      have r2 := hid_of (mt := led4 w hp dh B G HT sec nxt wr tn tw xs yg n n2) (N5 _ (.tail _ (.head _))).1 (by k_all)
      rw [hcp] at r2
      have hb0 := hid_base F5 Nm
      have hlo := Nat.le_of_lt (Nat.lt_of_lt_of_le hfs (Nat.le_trans hsz (Nat.le_trans (Nat.le_of_eq hL4) (Nat.le_of_lt F5.ns.lt))))
      refine through rfl rfl F5 Nm F5.above (fun _ _ => rfl) ?_
      exact write_former (d := d + 3) (u := u + 9) hfo (X'.keeps hb0) (T'.keeps hb0) (Pre.of Nm) (keysZ (keysB K hz' eo) hb0) (keysZ (keysB KG hz' eo) hb0) (fun q hq => hb0 _ _ (eo q hq)) r1 r2 hcp3 (by omega) (by omega) (by omega) ⟨ho.2.1, ho.2.2.1, ho.2.2.2.1⟩ oct_size hsec hnx hwr hlen (ffr_hidN FF F5 Nm rfl kind_ne) hlo
    case her =>
      intro h6 tk6 C why mt' fl' t6 S6 hE F6 N6
      refine ea0_4 hE fun hdd hmt hCC hgg => ?_
      clear hE
      obtain ⟨tw6, rfl⟩ := hmt
      subst hCC
      obtain ⟨g, rfl, hdead⟩ := hgg
      have osL : ∀ p ∈ os ++ fl, p.1 < L' := fun p hp => hL' ▸ Heap.lt_size (P.led p (List.mem_append_right _ (.tail _ (.tail _ (.tail _ (.tail _ (.tail _ hp))))))).1
      have T6 : TailOk (([] ++ os) ++ fl') dh M L' (L' + 8) := (htl.left.low fun p hp => osL p (List.mem_append_left _ hp)).app (S6.tailOk (htl.right.low fun p hp => osL p (List.mem_append_right _ hp)))
      simp only [led4, List.cons_append, List.nil_append] at N6
      clear N10 N3 F3
      walk_at "goI"
      rename News _ _ _ _ => N9
      rename Fr _ _ _ _ => F9
      refine write_dead (own := []) (hp := hp) (dh := dh) (B := B) (G := G) (W := W) (c' := c') X T F9 (subl_of N9 (by simp only [List.nil_append]; walk_at "subl")) hW1 e2 e3 e4 e5 (by assumption) dO (by assumption) KV KU (ord_L ho hML) ⟨hxc, hcL⟩ T6 hos hd hu hx hdead fun h7 tk7 m7 F7 N7 => ?_
      refine h h7 tk7 _ n n2 n3 nM tn tw6 _ _ _ made ps' ((c', oc) :: os) fl' xs xv nxt (leaveZ F7 N7 (by simp only [led4, List.cons_append, List.nil_append]; walk_at "subl") hL' P.size) hW1 tb' S6 (fun _ h => .tail _ h) ?_ ?_ (.inl ⟨hdd, rfl, rfl, rfl, rfl⟩)
      · exact List.forall_mem_cons.mpr ⟨hxc, hos⟩
      · refine List.forall_mem_cons.mpr ⟨fun p hp => ?_, fun q hq p hp => ?_⟩
        · refine ea1_2 (S6.mem hp) fun p' hp' e => ?_
          rw [← e]
          exact hcf p' hp'
        · refine ea1_2 (S6.mem hp) fun p' hp' e => ?_
          rw [← e]
          exact hof q hq p' hp'
    case hok =>
      intro h6 tk6 v mt' fl' S6 hO F6 N6
      refine ea0_2 hO fun hdd cz9 => ?_
      clear hO
      obtain ⟨tb6, hO⟩ := cz9
      rw [hdd] at hfo
      revert N6
      refine hO.use fun pt q ts own n' n2' tn' tw' hpt hq hts hown => ?_
      clear hO
      intro N6
      have osL : ∀ p ∈ os ++ fl, p.1 < L' := fun p hp => hL' ▸ Heap.lt_size (P.led p (List.mem_append_right _ (.tail _ (.tail _ (.tail _ (.tail _ (.tail _ hp))))))).1
      have hlf8 : @LE.le Nat _ (L' + 8 + 1) f := by omega
      have T6 : TailOk ((own ++ os) ++ fl') dh M L' (L' + 8) := ((TailOk.high (f := L' + 8 + 1) (fun e he => Nat.le_trans hlf8 (hown e he)) (lt_9 (Nat.lt_trans (ord_M ho).1 hML)) (lt_9 hML)).app (htl.left.low fun p hp => osL p (List.mem_append_left _ hp))).app (S6.tailOk (htl.right.low fun p hp => osL p (List.mem_append_right _ hp)))
      have N7 := news_perm (l4 := led4 w hp dh B G HT sec nxt' (wr + 1) tn' tw' (putX (.bytes (octX x) tb6) xs ts) yg n' n2') (own := own) (restL := [(W, _), (V, _), (U, _), (M, _), (272, _), (f, _), (c', _), (L' + 1, _), (L' + 1 + 1, _), (L' + 1 + 1 + 1, _), (L' + 1 + 1 + 1 + 1, _), (L' + 1 + 1 + 1 + 1 + 1, _), (L' + 1 + 1 + 1 + 1 + 1 + 1, _), (L' + 1 + 1 + 1 + 1 + 1 + 1 + 1, _), (L' + 1 + 1 + 1 + 1 + 1 + 1 + 1 + 1, _)]) (os := os) (fl := fl') N6
      clear N6 N10 N3 F3
      simp only [led4, List.cons_append, List.nil_append] at N7
      walk_at "goI"
      rename Fr _ _ _ _ => F9
      rename News _ _ _ _ => N9
      refine mid_of F9 [(V, tD w xv n3), (U, tD w yu n4), (hp, instObj 190 dh), (dh, hD w.params HT B G sec nxt' (wr + 1) tn' tw'), (B, tD w (putX (.bytes (octX x) tb6) xs ts) n'), (G, tD w yg n2'), (M, listOf (made.map fun a => Value.ref a).toArray nM), (272, tabObj ps'), (c', oc)] (own ++ os ++ fl') os (write_if (hp := hp) (dh := dh) (B := B) (G := G) (W := W) (c' := c') (m0 := fun _ => some (.ref pt)) X T rfl F9 (subl_of N9 (by walk_at "subl")) hW1 e2 e3 e4 e5 (by assumption) dO (by assumption) KV KU (ord_L ho hML) ⟨hxc, hcL⟩ T6 hos hd hu hx hfo hU hsec hnx hcp hcp3) ?rs
      intro h8 tk8 T8 cT ts3 own3 oW8 cw cx co ct u1 u2 u3 u4 wv F8 N8 hW8 d1 d2 d3 d4 hk3 ho3 hno3 T7 hl3 hWT hf3
      simp only [List.cons_append, List.nil_append] at N8
      clear N9 F9 e1 e2 e3 e4 e5 e6 e7 e8
      have k3 := hfo.keys3
      have up : ∀ e ∈ os, e ∈ own ++ os ++ fl' ++ own3 := fun e he => List.mem_append_left _ (List.mem_append_left _ (List.mem_append_right _ he))
      have hflL' : ∀ p ∈ fl', @LT.lt Nat _ p.1 L' := fun p hp => by
        refine ea1_2 (S6.mem hp) fun p' hp' e => ?_
        rw [← e]
        exact osL p' (List.mem_append_right _ hp')
      have hownW : ∀ e ∈ own, @LT.lt Nat _ (L' + 8) e.1 := fun e he => Nat.lt_of_lt_of_le hlf8 (hown e he)
      have htW : ∀ e ∈ own ++ os, M < e.1 := fun e he => by
        rcases List.mem_append.mp he with he | he
        · exact Nat.lt_trans (by omega) (hownW e he)
        · exact hos e he
      have htp : ∀ e ∈ own ++ os, e ∈ own ++ os ++ fl' ++ own3 := fun e he => List.mem_append_left _ (List.mem_append_left _ he)
      have ho3' : ∀ t ∈ ts3, KeyO w z (own ++ os ++ fl' ++ own3) t.1 t.2 := fun t ht => (ho3 z t ht).mono fun e he => (List.mem_append.mp he).elim (up e) fun h => List.mem_append_right _ h
      walk_at "goI"
      refine write_for X T F8 N8 hW8 d1 d2 d3 d4 (KV.mono up) (KU.mono up) ho3' hno3 hl3 hlv (ord_L ho hML) ⟨hxc, hcL⟩ hWT T7 hd hu fun h9 tk9 n9 dv F9 N9 K9 => ?_
      walk_at "goI"
      refine write_app X T F9 N9 hW8 d1 d2 d3 d4 (fun a ha => (hm a ha).imp fun q h => h.imp fun t h => ⟨h.1.mono fun _ h => List.mem_append_right _ h, h.2⟩) hml hpt (dvas_3 hts k3) htp htW (ord_L ho hML) ⟨hxc, hcL⟩ hWT T7 hd hu fun h10 tk10 nM' made' hmade F10 N10 => ?_
      walk_at "goI"
      refine write_ret X T F10 N10 hW8 d1 d2 d3 d4 hpt (hq.trans (by rw [oct_size'])) (dvas_3 hts k3) (hts.trans hk3.symm) ho3' htp htW (ord_L ho hML) ⟨hxc, hcL⟩ hWT T7 hd hu fun h11 tk11 m11 F11 N11 => ?_
      have hperm : ∀ q ∈ own ++ os ++ own3 ++ fl', q ∈ own ++ os ++ fl' ++ own3 := fun q hq => by
        rcases List.mem_append.mp hq with hq | hq
        · rcases List.mem_append.mp hq with hq | hq
          · exact List.mem_append_left _ (List.mem_append_left _ hq)
          · exact List.mem_append_right _ hq
        · exact List.mem_append_left _ (List.mem_append_right _ hq)
      refine h h11 tk11 oW8 n' n2' n9 nM' tn' tw' _ _ _ made' ps' ((c', oc) :: (own ++ os ++ own3)) fl' (putX (.bytes (octX x) tb6) xs ts) (putX (.bytes (octX x) (tokOf d3)) xv ts3) nxt' (leaveZ F11 N11 ?_ hL' P.size) hW8 (tb'.mono ?_) S6 ?_ ?_ ?_ (.inr ⟨hdd, rfl, _, _, ts, ts3, pt, q, rfl, rfl, hts, hk3, ?_, ?_, ?_, ?_, ?_⟩)
      · simp only [led4, List.cons_append, List.nil_append]
        refine all_cons mem8 (all_cons mem9 (all_cons mem10 (all_cons mem11 (all_cons mem1 (all_cons mem6 (all_cons mem7 (all_cons mem12 (all_cons mem13 (all_cons mem14 fun q hq => ?_)))))))))
        have hq := hperm q hq
        walk_at "tailm"
      · refine List.forall_mem_cons.mpr ⟨.head _, fun q hq => .tail _ (List.mem_append_left _ (List.mem_append_right _ hq))⟩
      · exact fun q hq => .tail _ (List.mem_append_left _ (List.mem_append_right _ hq))
      · refine List.forall_mem_cons.mpr ⟨hxc, fun q hq => ?_⟩
        rcases List.mem_append.mp hq with hq | hq
        · exact htW q hq
        · exact Nat.lt_trans (by omega) (hf3 q hq)
      · refine List.forall_mem_cons.mpr ⟨fun p hp => ?_, fun q hq p hp => ?_⟩
        · refine ea1_2 (S6.mem hp) fun p' hp' e => ?_
          rw [← e]
          exact hcf p' hp'
        · rcases List.mem_append.mp hq with hq | hq
          · rcases List.mem_append.mp hq with hq | hq
            · exact Nat.ne_of_lt (Nat.lt_trans (hflL' p hp) (Nat.lt_of_le_of_lt (Nat.le_add_right _ _) (hownW q hq)))
            · refine ea1_2 (S6.mem hp) fun p' hp' e => ?_
              rw [← e]
              exact hof q hq p' hp'
          · exact Nat.ne_of_lt (Nat.lt_trans (hflL' p hp) (Nat.lt_of_le_of_lt (Nat.le_add_right _ _) (hf3 q hq)))
      · exact fun zz t ht => (ho3 zz t ht).mono fun e he => .tail _ ((List.mem_append.mp he).elim (fun h => List.mem_append_left _ (List.mem_append_right _ h)) fun h => List.mem_append_right _ h)
      · exact hpt.mono fun e he => .tail _ (List.mem_append_left _ he)
      · exact congrArg PT.size hq
      · exact congrArg PT.birth hq
      · refine hmade.imp id fun h => ⟨h.1, ?_⟩
        have := oct_size' (x := x)
        omega
end

theorem isSome_at {xs : List Ent} {k : List Int} : (atKey xs k).isSome = true ↔ k ∈ keysOf xs := by
  unfold atKey keysOf
  rw [Option.isSome_map, List.find?_isSome, List.mem_map]
  constructor
  · rintro ⟨e, he, h⟩
    exact mk1_2 e he (of_decide_eq_true h)
  · rintro ⟨e, he, rfl⟩
    exact mk1_2 e he (decide_eq_true rfl)
theorem at_none {xs : List Ent} {k : List Int} : atKey xs k = none ↔ k ∉ keysOf xs := by
  rw [← isSome_at]
  cases atKey xs k <;> simp
theorem at_false {xs : List Ent} {k : List Int} : (atKey xs k).isSome = false ↔ k ∉ keysOf xs := by
  rw [← isSome_at]
  cases atKey xs k <;> simp
noncomputable def putKey (ks : List (List Int)) (k : List Int) : List (List Int) := if k ∈ ks then ks else ks ++ [k]
noncomputable def putKeys (ks l : List (List Int)) : List (List Int) := l.foldl putKey ks
theorem keys_storedH {xs : List Ent} {k : List Int} {a : Addr} {v : Value} : keysOf (storedH xs k a v) = putKey (keysOf xs) k := by
  unfold storedH putKey
  by_cases h : (atKey xs k).isSome = true
  · rw [if_pos h, if_pos (isSome_at.mp h)]
    exact keys_map_putAt _ _ _
  · rw [if_neg h, if_neg fun hm => h (isSome_at.mpr hm)]
    exact List.map_append
theorem keys_putX {v : Value} : ∀ {ts : List (List Int × Nat)} {xs : List Ent}, keysOf (putX v xs ts) = putKeys (keysOf xs) (ts.map (·.1))
  | [], _ => rfl
  | t :: ts, xs => by
    show keysOf (putX v (storedH xs t.1 t.2 v) ts) = putKeys (putKey (keysOf xs) t.1) (ts.map (·.1))
    rw [keys_putX, keys_storedH]
theorem mem_putKey {ks : List (List Int)} {k k' : List Int} : k' ∈ putKey ks k ↔ k' ∈ ks ∨ k' = k := by
  unfold putKey
  split
  · rename_i h
    exact ⟨.inl, fun h' => h'.elim id fun e => e ▸ h⟩
  · rw [List.mem_append, List.mem_singleton]
theorem mem_putKeys : ∀ {l ks : List (List Int)} {k' : List Int}, k' ∈ putKeys ks l ↔ k' ∈ ks ∨ k' ∈ l
  | [], ks, k' => by simp [putKeys]
  | k :: l, ks, k' => by
    show k' ∈ putKeys (putKey ks k) l ↔ _
    rw [mem_putKeys, mem_putKey, List.mem_cons, or_assoc]
theorem len_putX {v : Value} : ∀ {ts : List (List Int × Nat)} {xs : List Ent}, (putX v xs ts).length ≤ xs.length + ts.length
  | [], _ => Nat.le_refl _
  | t :: ts, xs => by
    have h1 := len_putX (v := v) (ts := ts) (xs := storedH xs t.1 t.2 v)
    have h2 := storedH_len xs t.1 t.2 v
    show (putX v (storedH xs t.1 t.2 v) ts).length ≤ _
    rw [List.length_cons]
    omega
theorem keys_dropK {xs : List Ent} {k : List Int} : keysOf (dropK xs k) = (keysOf xs).filter fun k' => decide (k' ≠ k) := by
  unfold dropK keysOf
  induction xs with
  | nil => rfl
  | cons x xs ih =>
    by_cases h : x.1 ≠ k
    · rw [List.filter_cons_of_pos (by simpa using h), List.map_cons, List.map_cons, List.filter_cons_of_pos (by simpa using h), ih]
    · rw [List.filter_cons_of_neg (by simpa using h), List.map_cons, List.filter_cons_of_neg (by simpa using h), ih]
theorem mem_dropX : ∀ {ts : List (List Int × Nat)} {xs : List Ent} {k' : List Int}, k' ∈ keysOf (dropX xs ts) ↔ k' ∈ keysOf xs ∧ k' ∉ ts.map (·.1)
  | [], xs, k' => by simp [dropX]
  | t :: ts, xs, k' => by
    show k' ∈ keysOf (dropX (dropK xs t.1) ts) ↔ _
    rw [mem_dropX, keys_dropK, List.mem_filter, List.map_cons, List.mem_cons, not_or, decide_eq_true_eq, and_assoc]
theorem len_dropX : ∀ {ts : List (List Int × Nat)} {xs : List Ent}, (dropX xs ts).length ≤ xs.length
  | [], _ => Nat.le_refl _
  | t :: ts, xs => Nat.le_trans (len_dropX (ts := ts) (xs := dropK xs t.1)) (List.length_filter_le _ _)
noncomputable def SE (e e' : Ent) : Prop := e.1 = e'.1 ∧ ∃ b t t', e.2.2 = .bytes b t ∧ e'.2.2 = .bytes b t' ∧ b.size ≤ 40
inductive SV : List Ent → List Ent → Prop
  | nil : SV [] []
  | cons {e e' : Ent} {xs ys : List Ent} : SE e e' → SV xs ys → SV (e :: xs) (e' :: ys)
theorem SV.keys {xs ys : List Ent} (h : SV xs ys) : keysOf xs = keysOf ys := by
  induction h with
  | nil => rfl
  | @cons e e' xs ys h _ ih =>
    show e.1 :: keysOf xs = e'.1 :: keysOf ys
    rw [h.1, ih]
theorem SV.snoc {xs ys : List Ent} {e e' : Ent} (h : SV xs ys) (he : SE e e') : SV (xs ++ [e]) (ys ++ [e']) := by
  induction h with
  | nil => exact .cons he .nil
  | cons h _ ih => exact .cons h ih
theorem SV.at {xs ys : List Ent} (h : SV xs ys) {k : List Int} (hk : k ∈ keysOf xs) : ∃ b t t', (atKey xs k).map (·.2) = some (.bytes b t) ∧ (atKey ys k).map (·.2) = some (.bytes b t') ∧ b.size ≤ 40 := by
  induction h with
  | nil => cases hk
  | @cons e e' xs ys he _ ih =>
    obtain ⟨e1, b, t, t', e2, e3, e4⟩ := he
    unfold atKey at ih ⊢
    by_cases h1 : e.1 = k
    · rw [List.find?_cons_of_pos (by simpa using h1), List.find?_cons_of_pos (by simpa using e1 ▸ h1)]
      exact mk3_3 b t t' (congrArg some e2) (congrArg some e3) e4
    · rw [List.find?_cons_of_neg (by simpa using h1), List.find?_cons_of_neg (by simpa using e1 ▸ h1)]
      exact ih ((List.mem_cons.mp hk).resolve_left fun h => h1 h.symm)
theorem SV.store {xs ys : List Ent} (h : SV xs ys) {k : List Int} {a a' : Addr} {b : Array UInt8} {t t' : Tok} (hb : b.size ≤ 40) : SV (storedH xs k a (.bytes b t)) (storedH ys k a' (.bytes b t')) := by
  have hm : (atKey xs k).isSome = (atKey ys k).isSome := by
    rw [Bool.eq_iff_iff, isSome_at, isSome_at, h.keys]
  have go : ∀ {xs ys : List Ent}, SV xs ys → SV (xs.map (putAt k (.bytes b t))) (ys.map (putAt k (.bytes b t'))) := by
    intro xs ys h
    induction h with
    | nil => exact .nil
    | @cons e e' xs ys he _ ih =>
      refine .cons ?_ ih
      unfold putAt
      by_cases h1 : e.1 = k
      · rw [if_pos h1, if_pos (he.1 ▸ h1)]
        exact ⟨he.1, b, t, t', rfl, rfl, hb⟩
      · rw [if_neg h1, if_neg (he.1 ▸ h1)]
        exact he
  unfold storedH
  rw [← hm]
  split
  · exact go h
  · exact h.snoc ⟨rfl, b, t, t', rfl, rfl, hb⟩
theorem SV.put {b : Array UInt8} {t t' : Tok} (hb : b.size ≤ 40) : ∀ {ts ts' : List (List Int × Nat)} {xs ys : List Ent}, SV xs ys → ts.map (·.1) = ts'.map (·.1) → SV (putX (.bytes b t) xs ts) (putX (.bytes b t') ys ts')
  | [], [], _, _, h, _ => h
  | [], _ :: _, _, _, _, e => nomatch e
  | _ :: _, [], _, _, _, e => nomatch e
  | k :: ts, k' :: ts', xs, ys, h, e => by
    rw [List.map_cons, List.map_cons] at e
    injection e with e1 e2
    show SV (putX _ (storedH xs k.1 k.2 _) ts) (putX _ (storedH ys k'.1 k'.2 _) ts')
    rw [← e1]
    exact SV.put hb (h.store hb) e2
theorem SV.dropK {k : List Int} {xs ys : List Ent} (h : SV xs ys) : SV (dropK xs k) (Mine.dropK ys k) := by
  unfold Mine.dropK
  induction h with
  | nil => exact .nil
  | @cons e e' xs ys he _ ih =>
    have he1 := he.1
    by_cases h1 : e.1 = k
    · have h2 : e'.1 = k := he1 ▸ h1
      rw [List.filter_cons_of_neg (by simpa using h1), List.filter_cons_of_neg (by simpa using h2)]
      exact ih
    · have h2 : ¬e'.1 = k := he1 ▸ h1
      rw [List.filter_cons_of_pos (by simpa using h1), List.filter_cons_of_pos (by simpa using h2)]
      exact .cons he ih
theorem SV.drop : ∀ {ts : List (List Int × Nat)} {xs ys : List Ent}, SV xs ys → SV (dropX xs ts) (dropX ys ts)
  | [], _, _, h => h
  | t :: ts, _, _, h => SV.drop (ts := ts) (SV.dropK (k := t.1) h)
structure MadeOK (xs yg : List Ent) (nxt : Int) (q : PT) (ts : List (List Int × Nat)) : Prop where
  ne : ts ≠ []
  len : ts.length ≤ 3
  nodup : (ts.map (·.1)).Nodup
  size : 0 < q.size ∧ q.size ≤ 40
  form : ∀ k ∈ ts.map (·.1), ∃ s c, k = [0, s, c] ∧ 0 < c ∧ s + c ≤ nxt
  live : (∀ k ∈ ts.map (·.1), k ∈ keysOf xs) ∨ (∀ k ∈ ts.map (·.1), k ∉ keysOf xs ∧ k ∈ keysOf yg)
noncomputable abbrev Made := Nat × PT × List (List Int × Nat)
noncomputable abbrev Made.ks (e : Made) : List (List Int) := e.2.2.map (·.1)
structure LInv (nxt : Int) (xs yg xv yu : List Ent) (made : List Made) : Prop where
  sv : SV xs xv
  sk : keysOf yg = keysOf yu
  kx : ∀ k ∈ keysOf xs, ∃ s c, k = [0, s, c] ∧ 0 ≤ c ∧ s + c ≤ nxt
  ky : ∀ k ∈ keysOf yg, ∃ s c, k = [0, s, c] ∧ 0 < c ∧ s + c ≤ nxt
  dis : ∀ k ∈ keysOf xs, k ∉ keysOf yg
  ok : ∀ e ∈ made, MadeOK xs yg nxt e.2.1 e.2.2
  pairs : ∀ e ∈ made, ∀ e' ∈ made, e.ks = e'.ks ∨ ∀ k ∈ e.ks, k ∉ e'.ks
theorem LInv.start {nxt : Int} : LInv nxt [] [] [] [] [] :=
  ⟨.nil, rfl, (fun _ h => nomatch h), (fun _ h => nomatch h), (fun _ h => nomatch h), (fun _ h => nomatch h), (fun _ h => nomatch h)⟩
section
variable {nxt : Int} {xs yg xv yu : List Ent} {made : List Made}
theorem LInv.fresh (I : LInv nxt xs yg xv yu made) {c : Int} {cp : Nat} {b : Array UInt8} {t t' : Tok} {ts ts' : List (List Int × Nat)} (hc : 0 ≤ c) (hb : b.size ≤ 40) (h1 : ts.map (·.1) = newKeys nxt c cp) (h2 : ts'.map (·.1) = newKeys nxt c cp) :
    LInv (nxt + cp * c) (putX (.bytes b t) xs ts) yg (putX (.bytes b t') xv ts') yu made := by
  have hcp : 0 ≤ (cp : Int) * c := Int.mul_nonneg (Int.natCast_nonneg _) hc
  have hnew : ∀ k ∈ newKeys nxt c cp, ∃ s, k = [0, s, c] ∧ nxt ≤ s ∧ s + c ≤ nxt + cp * c := fun k hk => by
    refine ea1_2 (List.mem_map.mp hk) fun i hi rz2 => ?_
    subst rz2
    have hi' := mem_rangeKs hi
    refine mk1_3 _ rfl (by have := Int.mul_nonneg hi'.1 hc; omega) ?_
    have h3 : (i + 1) * c ≤ (cp : Int) * c := Int.mul_le_mul_of_nonneg_right (by have := hi'.2; omega) hc
    rw [Int.add_mul, Int.one_mul] at h3
    omega
  have hk : keysOf (putX (.bytes b t) xs ts) = putKeys (keysOf xs) (newKeys nxt c cp) := by rw [keys_putX, h1]
  refine ⟨I.sv.put hb (h1.trans h2.symm), I.sk, fun k h => ?_, fun k h => ?_, fun k h hy => ?_, fun e he => ?_, I.pairs⟩
  · rw [hk, mem_putKeys] at h
    rcases h with h | h
    · refine ea2_3 (I.kx k h) fun s c' e a1 a2 => ?_
      exact mk2_3 s c' e a1 (by omega)
    · refine ea1_3 (hnew k h) fun s e _ a2 => ?_
      exact mk2_3 s c e hc a2
  · refine ea2_3 (I.ky k h) fun s c' e a1 a2 => ?_
    exact mk2_3 s c' e a1 (by omega)
  · rw [hk, mem_putKeys] at h
    rcases h with h | h
    · exact I.dis k h hy
    · refine ea1_3 (hnew k h) fun s e a1 _ => ?_
      refine ea2_3 (I.ky k hy) fun s' c' e' b1 b2 => ?_
      rw [e] at e'
      injection e' with _ e'
      injection e' with e1 e'
      injection e' with e2 _
      omega
  · obtain ⟨m1, m2, m3, m4, m5, m6⟩ := I.ok e he
    refine ⟨m1, m2, m3, m4, fun k h => ?_, ?_⟩
    · refine ea2_3 (m5 k h) fun s c' e a1 a2 => ?_
      exact mk2_3 s c' e a1 (by omega)
    · rcases m6 with m6 | m6
      · exact .inl fun k h => by rw [hk, mem_putKeys]; exact .inl (m6 k h)
      · refine .inr fun k h => ⟨fun hm => ?_, (m6 k h).2⟩
        rw [hk, mem_putKeys] at hm
        rcases hm with hm | hm
        · exact (m6 k h).1 hm
        · refine ea1_3 (hnew k hm) fun s e a1 _ => ?_
          refine ea2_3 (m5 k h) fun s' c' e' b1 b2 => ?_
          rw [e] at e'
          injection e' with _ e'
          injection e' with e1 e'
          injection e' with e2 _
          omega
theorem LInv.join (I : LInv nxt xs yg xv yu made) {c : Int} {cp : Nat} {b : Array UInt8} {t t' : Tok} {ts ts' : List (List Int × Nat)} {pt : Nat} {q : PT} (hc : 0 < c) (hb : b.size ≤ 40) (h1 : ts.map (·.1) = newKeys nxt c cp) (h2 : ts'.map (·.1) = newKeys nxt c cp) (hcp : cp = 1 ∨ cp = 2 ∨ cp = 3)
    (hq : 0 < q.size ∧ q.size ≤ 40) : LInv (nxt + cp * c) (putX (.bytes b t) xs ts) yg (putX (.bytes b t') xv ts') yu (made ++ [(pt, q, ts)]) := by
  have J := I.fresh (t := t) (t' := t') (Int.le_of_lt hc) hb h1 h2
  have hnew : ∀ k ∈ newKeys nxt c cp, ∃ s, k = [0, s, c] ∧ nxt ≤ s := fun k hk => by
    refine ea1_2 (List.mem_map.mp hk) fun i hi rz2 => ?_
    subst rz2
    exact mk1_2 _ rfl (by have := Int.mul_nonneg (mem_rangeKs hi).1 (Int.le_of_lt hc); omega)
  have far : ∀ e ∈ made, ∀ k ∈ e.ks, k ∉ newKeys nxt c cp := fun e he k hk hm => by
    refine ea1_2 (hnew k hm) fun s e1 a1 => ?_
    refine ea2_3 ((I.ok e he).form k hk) fun s' c' e' b1 b2 => ?_
    rw [e1] at e'
    injection e' with _ e'
    injection e' with e1 e'
    injection e' with e2 _
    omega
  have hlen : ts.length = cp := by
    have := congrArg List.length h1
    simpa [newKeys, rangeKs_length] using this
  refine ⟨J.sv, J.sk, J.kx, J.ky, J.dis, fun e he => ?_, fun e he e' he' => ?_⟩
  · rcases List.mem_append.mp he with he | he
    · exact J.ok e he
    · rw [List.mem_singleton.mp he]
      refine ⟨fun h => ?_, by show ts.length ≤ 3; omega, ?_, hq, fun k hk => ?_, .inl fun k hk => ?_⟩
      · have : ts = [] := h
        rw [this] at hlen
        simp only [List.length_nil] at hlen
        omega
      · show (ts.map (·.1)).Nodup
        rw [h1]
        unfold newKeys
        rcases hcp with rfl | rfl | rfl <;> simp [rangeKs, List.range_succ] <;> omega
      · have hk : k ∈ ts.map (·.1) := hk
        have hm : k ∈ keysOf (putX (.bytes b t) xs ts) := by
          rw [keys_putX, mem_putKeys]
          exact .inr hk
        refine ea2_3 (J.kx k hm) fun s c' e1 a1 a2 => ?_
        rw [h1] at hk
        refine ea1_2 (hnew k hk) fun s' e2 _ => ?_
        rw [e1] at e2
        injection e2 with _ e2
        injection e2 with e3 e2
        injection e2 with e4 _
        exact mk2_3 s c' e1 (by omega) a2
      · rw [keys_putX, mem_putKeys]
        exact .inr hk
  · rcases List.mem_append.mp he with he | he
    · rcases List.mem_append.mp he' with he' | he'
      · exact I.pairs e he e' he'
      · rw [List.mem_singleton.mp he']
        refine .inr fun k hk hm => far e he k hk ?_
        rw [← h1]; exact hm
    · rw [List.mem_singleton.mp he]
      rcases List.mem_append.mp he' with he' | he'
      · refine .inr fun k hk hm => far e' he' k hm ?_
        rw [← h1]; exact hk
      · rw [List.mem_singleton.mp he']
        exact .inl rfl
theorem LInv.same (I : LInv nxt xs yg xv yu made) {e0 : Made} (h0 : e0 ∈ made) (hal : ∀ k ∈ e0.ks, k ∈ keysOf xs) {b : Array UInt8} {t t' : Tok} {ts ts' : List (List Int × Nat)} (hb : b.size ≤ 40) (h1 : ts.map (·.1) = e0.ks) (h2 : ts'.map (·.1) = e0.ks) :
    LInv nxt (putX (.bytes b t) xs ts) yg (putX (.bytes b t') xv ts') yu made := by
  have hk : ∀ k, k ∈ keysOf (putX (.bytes b t) xs ts) ↔ k ∈ keysOf xs := fun k => by
    rw [keys_putX, mem_putKeys, h1]
    exact ⟨fun h => h.elim id (hal k), .inl⟩
  refine ⟨I.sv.put hb (h1.trans h2.symm), I.sk, fun k h => I.kx k ((hk k).mp h), I.ky, fun k h => I.dis k ((hk k).mp h), fun e he => ?_, I.pairs⟩
  obtain ⟨m1, m2, m3, m4, m5, m6⟩ := I.ok e he
  exact ⟨m1, m2, m3, m4, m5, m6.imp (fun h k hk' => (hk k).mpr (h k hk')) fun h k hk' => ⟨fun hm => (h k hk').1 ((hk k).mp hm), (h k hk').2⟩⟩
theorem LInv.again (I : LInv nxt xs yg xv yu made) {e0 : Made} (h0 : e0 ∈ made) {pt : Nat} {q : PT} {ts : List (List Int × Nat)} (hq : 0 < q.size ∧ q.size ≤ 40) (h1 : ts.map (·.1) = e0.ks) : LInv nxt xs yg xv yu (made ++ [(pt, q, ts)]) := by
  have hlen : ts.length = e0.2.2.length := by
    have := congrArg List.length h1
    simpa using this
  have O := I.ok e0 h0
  refine ⟨I.sv, I.sk, I.kx, I.ky, I.dis, fun e he => ?_, fun e he e' he' => ?_⟩
  · rcases List.mem_append.mp he with he | he
    · exact I.ok e he
    · rw [List.mem_singleton.mp he]
      refine ⟨fun h => ?_, by have := O.len; show ts.length ≤ 3; omega, h1 ▸ O.nodup, hq, h1 ▸ O.form, h1 ▸ O.live⟩
      have : ts = [] := h
      rw [this] at hlen
      exact O.ne (List.length_eq_zero_iff.mp hlen.symm)
  · have key : ∀ e ∈ made ++ [(pt, q, ts)], ∃ e' ∈ made, e.ks = e'.ks := fun e he => by
      rcases List.mem_append.mp he with he | he
      · exact mk1_2 e he rfl
      · rw [List.mem_singleton.mp he]
        exact mk1_2 e0 h0 h1
    refine ea1_2 (key e he) fun f hf ef => ?_
    refine ea1_2 (key e' he') fun f' hf' ef' => ?_
    rw [ef, ef']
    exact I.pairs f hf f' hf'
theorem LInv.free (I : LInv nxt xs yg xv yu made) {e0 : Made} (h0 : e0 ∈ made) (hal : ∀ k ∈ e0.ks, k ∈ keysOf xs) {v v' : Value} : LInv nxt (dropX xs e0.2.2) (putX v yg e0.2.2) (dropX xv e0.2.2) (putX v' yu e0.2.2) made := by
  refine ⟨I.sv.drop, by rw [keys_putX, keys_putX, I.sk], fun k h => I.kx k (mem_dropX.mp h).1, fun k h => ?_, fun k h hy => ?_, fun e he => ?_, I.pairs⟩
  · rw [keys_putX, mem_putKeys] at h
    exact h.elim (I.ky k) ((I.ok e0 h0).form k)
  · rw [mem_dropX] at h
    rw [keys_putX, mem_putKeys] at hy
    exact hy.elim (I.dis k h.1) h.2
  · obtain ⟨m1, m2, m3, m4, m5, m6⟩ := I.ok e he
    refine ⟨m1, m2, m3, m4, m5, ?_⟩
    rcases I.pairs e he e0 h0 with hp | hp
    · refine .inr fun k hk => ?_
      have hk' : k ∈ e.ks := hk
      rw [hp] at hk'
      refine ⟨fun hm => (mem_dropX.mp hm).2 hk', ?_⟩
      rw [keys_putX, mem_putKeys]
      exact .inr hk'
    · rcases m6 with m6 | m6
      · exact .inl fun k hk => mem_dropX.mpr ⟨m6 k hk, hp k hk⟩
      · refine .inr fun k hk => ⟨fun hm => (m6 k hk).1 (mem_dropX.mp hm).1, ?_⟩
        rw [keys_putX, mem_putKeys]
        exact .inl (m6 k hk).2
end

set_option genSizeOf false in
set_option genInjectivity false in
structure LG where
  (hp dh B G V U M W : Nat) (HT : HT) (sec : Int)
set_option genSizeOf false in
set_option genInjectivity false in
structure LS where
  (nxt wr : Int) (tn tw u1 u2 u3 : Tok) (xs yg xv yu : List Ent) (n n2 n3 n4 nM : Nat) (oW : Obj) (made : List Made) (pw ps : Array Value) (os : List (Addr × Obj))
noncomputable def LG.Ord (g : LG) : Prop := (292 < g.dh ∧ g.dh < g.hp ∧ g.hp < g.B ∧ g.B < g.G ∧ g.G < g.W ∧ g.W < g.V ∧ g.V < g.U ∧ g.U < g.M) ∧ 4 ≤ g.sec ∧ g.sec ≤ 16
noncomputable def ledW (w : World) (g : LG) (a : LS) : List (Addr × Obj) :=
  led4 w g.hp g.dh g.B g.G g.HT g.sec a.nxt a.wr a.tn a.tw a.xs a.yg a.n a.n2 ++ ((g.W, a.oW) :: (g.V, tD w a.xv a.n3) :: (g.U, tD w a.yu a.n4) :: (g.M, listOf ((a.made.map (·.1)).map fun a => Value.ref a).toArray a.nM) :: (272, tabObj a.pw) :: a.os)
noncomputable def LG.basics (g : LG) : List Nat := [g.hp, g.dh, g.B, g.G, g.W, g.V, g.U, g.M, 272]
theorem ledW_addr {w : World} {g : LG} {a : LS} {q : Addr × Obj} (h : q ∈ ledW w g a) : q.1 ∈ g.basics ∨ q ∈ a.os := by
  unfold ledW led4 at h
  simp only [List.cons_append, List.nil_append, List.mem_cons] at h
  unfold LG.basics
  simp only [List.mem_cons, List.not_mem_nil, or_false]
  rcases h with rfl | rfl | rfl | rfl | rfl | rfl | rfl | rfl | rfl | h
  · exact .inl (.inl rfl)
  · exact .inl (.inr (.inl rfl))
  · exact .inl (.inr (.inr (.inl rfl)))
  · exact .inl (.inr (.inr (.inr (.inl rfl))))
  · exact .inl (.inr (.inr (.inr (.inr (.inl rfl)))))
  · exact .inl (.inr (.inr (.inr (.inr (.inr (.inl rfl))))))
  · exact .inl (.inr (.inr (.inr (.inr (.inr (.inr (.inl rfl)))))))
  · exact .inl (.inr (.inr (.inr (.inr (.inr (.inr (.inr (.inl rfl))))))))
  · exact .inl (.inr (.inr (.inr (.inr (.inr (.inr (.inr (.inr rfl))))))))
  · exact .inr h
theorem basics_led (w : World) (g : LG) (a : LS) {b : Nat} (h : b ∈ g.basics) : ∃ o, (b, o) ∈ ledW w g a := by
  unfold LG.basics at h
  simp only [List.mem_cons, List.not_mem_nil, or_false] at h
  unfold ledW led4
  simp only [List.cons_append, List.nil_append]
  rcases h with rfl | rfl | rfl | rfl | rfl | rfl | rfl | rfl | rfl
  all_goals exact ⟨_, by k_mem⟩
theorem basics_in {g : LG} (hg : g.Ord) {b : Nat} (h : b ∈ g.basics) : (g.dh ≤ b ∧ b ≤ g.M) ∨ b = 272 := by
  refine use_upL hg.1 (Nat.lt_succ_self g.M) fun P9 U9 q100 q101 q102 q103 q104 q105 q106 q107 q108 q109 q110 q111 q112 q113 q114 q115 q116 q117 q118 q119 q120 q121 => ?_
  unfold LG.basics at h
  simp only [List.mem_cons, List.not_mem_nil, or_false] at h
  rcases h with rfl | rfl | rfl | rfl | rfl | rfl | rfl | rfl | rfl
  iterate 8 exact .inl ⟨by omega, by omega⟩
  exact .inr rfl
theorem basics_le {g : LG} (hg : g.Ord) {b : Nat} (h : b ∈ g.basics) : b ≤ g.M := by
  have go := hg.1
  rcases basics_in hg h with h | h
  · exact h.2
  · exact h ▸ Nat.le_of_lt (Nat.lt_trans (by decide) (ord_M go).1)
structure LawOK (w : World) (g : LG) (k : Nat) (a : LS) : Prop where
  hW : a.oW.IsDictOf (PySem.strKind PR w) (wKV g.sec a.nxt g.V g.U g.M a.wr a.u1 a.u2 a.u3)
  tw : TabOk (("_law_write" ++ ".<locals>." : Str) ++ ("<lambda>" : Str)) a.os a.pw
  ts : TabOk (("_law_step" ++ ".<locals>." : Str) ++ ("<lambda>" : Str)) a.os a.ps
  K : ∀ z, KeysO w z a.os a.xs
  KG : ∀ z, KeysO w z a.os a.yg
  KV : ∀ z, KeysO w z a.os a.xv
  KU : ∀ z, KeysO w z a.os a.yu
  inv : LInv a.nxt a.xs a.yg a.xv a.yu a.made
  ptr : ∀ e ∈ a.made, PtrL w a.os e.1 e.2.1 e.2.2
  hos : ∀ q ∈ a.os, g.M < q.1
  nx : 1 ≤ a.nxt ∧ a.nxt ≤ 1 + 30 * (k : Int)
  wr : 0 ≤ a.wr ∧ a.wr ≤ k
  lx : a.xs.length ≤ 3 * k
  ly : a.yg.length ≤ 3 * k
  lm : a.made.length ≤ k
theorem LInv.lens {nxt : Int} {xs yg xv yu : List Ent} {made : List Made} (I : LInv nxt xs yg xv yu made) : xv.length = xs.length ∧ yu.length = yg.length := by
  have h1 := congrArg List.length I.sv.keys
  have h2 := congrArg List.length I.sk
  simp only [keysOf, List.length_map] at h1 h2
  exact ⟨h1.symm, h2.symm⟩
theorem LInv.form3 {nxt : Int} {xs yg xv yu : List Ent} {made : List Made} (I : LInv nxt xs yg xv yu made) {e : Made} (he : e ∈ made) : ∀ t ∈ e.2.2, ∃ a b c, t.1 = [a, b, c] := fun t ht => by
  refine ea2_2 ((I.ok e he).form t.1 (List.mem_map_of_mem ht)) fun s c h _ => ?_
  exact mk3_1 _ _ _ h
theorem LInv.former {w : World} {os : List (Addr × Obj)} {nxt : Int} {xs yg xv yu : List Ent} {made : List Made} (I : LInv nxt xs yg xv yu made) {tg sz cnt : Int} {cp : Nat} {former : Value} (hf : former = .none ∨ ∃ e ∈ made, former = .ref e.1) (hp : ∀ e ∈ made, PtrL w os e.1 e.2.1 e.2.2) :
    ∃ nxt' ks dd, Fo w os xs xv yg yu tg sz nxt cnt cp former nxt' ks dd ∧ (dd = false → (nxt' = nxt + cp * cnt ∧ ks = newKeys nxt cnt cp) ∨ (nxt' = nxt ∧ ∃ e ∈ made, ks = e.ks ∧ (∀ k ∈ e.ks, k ∈ keysOf xs))) := by
  rcases hf with rfl | ⟨⟨pa, q0, ts0⟩, he, rfl⟩
  · exact mk3_2 _ _ _ (.none) (fun _ => .inl ⟨rfl, rfl⟩)
  · by_cases hin : q0.birth = tg ∧ q0.size = sz
    · have O := I.ok _ he
      have P := hp _ he
      have h3 := I.form3 he
      dsimp only at P h3
      obtain ⟨m1, m2, m3, m4, m5, m6⟩ := O
      dsimp only at m1 m2 m3 m4 m5 m6
      cases ts0 with
      | nil => exact absurd rfl m1
      | cons t0 ts0 =>
        rcases m6 with m6 | m6
        · refine mk3_2 _ _ _ (.here P hin.1 hin.2 (fun t ht => isSome_at.mpr (m6 _ (List.mem_map_of_mem ht))) (fun t ht => isSome_at.mpr (I.sv.keys ▸ m6 _ (List.mem_map_of_mem ht))) (fun t ht => at_none.mpr (I.sk ▸ I.dis _ (m6 _ (List.mem_map_of_mem ht)))) h3 m2) (fun _ => .inr ⟨rfl, _, he, rfl, m6⟩)
        · have h0 := m6 t0.1 (.head _)
          exact mk3_2 nxt ([]) true (.dead P hin.1 hin.2 (at_false.mpr h0.1) (at_false.mpr (I.sv.keys ▸ h0.1)) rfl (by rw [Bool.eq_iff_iff, isSome_at, isSome_at, I.sk]) m2) (fun h => nomatch h)
    · exact mk3_2 _ _ _ (.other (hp _ he) hin) (fun _ => .inl ⟨rfl, rfl⟩)
theorem LawOK.wrote {w : World} {g : LG} {k : Nat} {a : LS} (O : LawOK w g k a) (hg : g.Ord) {x nx' nxt' : Int} {ks : List (List Int)} {dd : Bool} {os' : List (Addr × Obj)} {xs' xv' : List Ent} {made' : List Nat} {oW' : Obj} {n' n2' n3' nM' : Nat} {tn' tw' u1 u2 u3 : Tok} {pw' : Array Value} (hk : k ≤ 20) (hx : 0 ≤ x)
    (hks : dd = false → (nxt' = a.nxt + (1 + (x.fdiv 41).fmod 3).toNat * ((((octX x).size : Int) + g.sec - 1).fdiv g.sec) ∧ ks = newKeys a.nxt ((((octX x).size : Int) + g.sec - 1).fdiv g.sec) (1 + (x.fdiv 41).fmod 3).toNat) ∨ (nxt' = a.nxt ∧ ∃ e ∈ a.made, ks = e.ks ∧ (∀ k ∈ e.ks, k ∈ keysOf a.xs)))
    (hW : oW'.IsDictOf (PySem.strKind PR w) (wKV g.sec nx' g.V g.U g.M (a.wr + 1) u1 u2 u3)) (tw : TabOk (("_law_write" ++ ".<locals>." : Str) ++ ("<lambda>" : Str)) os' pw') (up : ∀ q ∈ a.os, q ∈ os') (hos : ∀ q ∈ os', g.M < q.1)
    (hP : LwPost w os' x a.nxt nx' nxt' ks dd a.xs xs' a.xv xv' (a.made.map (·.1)) made') :
    ∃ m' : List Made, m'.map (·.1) = made' ∧ LawOK w g (k + 1) ⟨nx', a.wr + 1, tn', tw', u1, u2, u3, xs', a.yg, xv', a.yu, n', n2', n3', a.n4, nM', oW', m', pw', a.ps, os'⟩ := by
  obtain ⟨oW1, tw1, ts1, K1, KG1, KV1, KU1, I, ptr, hos1, nx1, wr1, lx, ly, lm⟩ := O
  have hlen := I.lens
  rcases hP with hP | hP
  · refine ea0_5 hP fun e0 e1 e2 e3 e4 => ?_
    subst e0 e1 e2 e3 e4
    exact ⟨a.made, rfl, hW, tw, ts1.mono up, fun z => (K1 z).mono up, fun z => (KG1 z).mono up, fun z => (KV1 z).mono up, fun z => (KU1 z).mono up, I, fun e he => (ptr e he).mono up, hos, ⟨nx1.1, by push_cast; omega⟩, ⟨by dsimp only; omega, by dsimp only; push_cast; omega⟩, by dsimp only; omega, by dsimp only; omega, by dsimp only; omega⟩
  · refine ea0_3 hP fun e0 e1 hz => ?_
    refine ea6_9 hz fun tb tb' ts ts' pt q e2 e3 h1 h2 hko hpt hqs hqb hmd => ?_
    clear hP hz
    subst e0 e1 e2 e3
    have hb : (octX x).size ≤ 40 := oct_size
    have hq : q.size ≤ 40 := by omega
    have hl3 : ts.length ≤ 3 ∧ ts'.length ≤ 3 := by
      have e1 := congrArg List.length h1
      have e2 := congrArg List.length h2
      simp only [List.length_map] at e1 e2
      have : ks.length ≤ 3 := by
        rcases hks rfl with ⟨_, rfl⟩ | ⟨_, e, he, rfl, _⟩
        · have a1 := fmod_hi (x.fdiv 41) (n := 3) (by decide)
          simp only [newKeys, List.length_map, rangeKs_length]
          omega
        · have := (I.ok e he).len
          simpa using this
      omega
    refine ea0_3 (cnt_arith hb hg.2) fun hc0 hc10 hcpos => ?_
    have hcp : (1 + (x.fdiv 41).fmod 3).toNat = 1 ∨ (1 + (x.fdiv 41).fmod 3).toNat = 2 ∨ (1 + (x.fdiv 41).fmod 3).toNat = 3 := by
      have a1 := fmod_lo (x.fdiv 41) (n := 3) (by decide)
      have a2 := fmod_hi (x.fdiv 41) (n := 3) (by decide)
      exact cp_nat a1 a2
    have hnx' : 1 ≤ nx' ∧ nx' ≤ 1 + 30 * ((k + 1 : Nat) : Int) := by
      rcases hks rfl with ⟨rfl, _⟩ | ⟨rfl, _⟩
      · exact nx_add nx1 hc0 hc10 (cp_le hcp)
      · exact ⟨nx1.1, by push_cast; exact nx_s nx1⟩
    have J : ∃ m' : List Made, m'.map (·.1) = made' ∧ m'.length ≤ k + 1 ∧ (∀ e ∈ m', PtrL w os' e.1 e.2.1 e.2.2) ∧ LInv nx' (putX (.bytes (octX x) tb) a.xs ts) a.yg (putX (.bytes (octX x) tb') a.xv ts') a.yu m' := by
      have ptr' : ∀ e ∈ a.made, PtrL w os' e.1 e.2.1 e.2.2 := fun e he => (ptr e he).mono up
      have ptr2 : ∀ e ∈ a.made ++ [(pt, q, ts)], PtrL w os' e.1 e.2.1 e.2.2 := fun e he => by
        rcases List.mem_append.mp he with he | he
        · exact ptr' e he
        · rw [List.mem_singleton.mp he]; exact hpt
      rcases hks rfl with ⟨rfl, rfl⟩ | ⟨rfl, e0, he0, rfl, hal⟩
      · rcases hmd with rfl | ⟨rfl, hpos⟩
        · exact mk1_4 a.made rfl (by omega) ptr' (I.fresh hc0 hb h1 h2)
        · exact mk1_4 (a.made ++ [(pt, q, ts)]) (by rw [List.map_append]; rfl) (by rw [List.length_append]; show a.made.length + 1 ≤ _; omega) ptr2 (I.join (hcpos hpos) hb h1 h2 hcp ⟨by omega, hq⟩)
      · have J0 := I.same (t := tb) (t' := tb') he0 hal hb h1 h2
        rcases hmd with rfl | ⟨rfl, hpos⟩
        · exact mk1_4 a.made rfl (by omega) ptr' J0
        · exact mk1_4 (a.made ++ [(pt, q, ts)]) (by rw [List.map_append]; rfl) (by rw [List.length_append]; show a.made.length + 1 ≤ _; omega) ptr2 (J0.again he0 ⟨by omega, hq⟩ h1)
    refine ea1_4 (J) fun m' e1 e2 e3 e4 => ?_
    (try clear J)
    refine ⟨m', e1, hW, tw, ts1.mono up, fun z => KeysO.putX' ((K1 z).mono up) (hpt z).keys (by omega), fun z => (KG1 z).mono up, fun z => KeysO.putX' ((KV1 z).mono up) (hko z) (by omega), fun z => (KU1 z).mono up, e4, e3, hos, hnx', ⟨by dsimp only; omega, by dsimp only; push_cast; omega⟩, ?_, by dsimp only; omega, e2⟩
    exact put_len (len_putX (v := .bytes (octX x) tb) (ts := ts) (xs := a.xs)) lx hl3.1
section
variable {w : World} {d u : Nat} {fr : List Env} {E : Value → Shared → Prop} {s : Shared} {z : Heap} {L : Nat} {m : Str → Option Value} {p : Program} {loose : List Str} {mean : ExcName → Option Value} {mg mb : Str → Option Value} {Q : Value → Shared → Prop} {env : Env}
theorem write_call {g : LG} {k : Nat} {a : LS} {x : Int} {tx : Tok} {former : Value} {rest fl : List (Addr × Obj)}
    (X : (hd0.heap_1 w.params).In z) (T : Top p loose mean mg mb z) (C : CodeHd z 274 272) (F : Fr z L s.heap m) (N : News z L s.heap (ledW w g a ++ (rest ++ fl))) (hmr : ∀ q ∈ rest, ∀ p ∈ ledW w g a, p.1 ≠ q.1) (hmf : ∀ q ∈ fl, ∀ p ∈ ledW w g a, p.1 ≠ q.1) (hrf : ∀ q ∈ rest, ∀ p ∈ fl, p.1 ≠ q.1)
    (FL : FrL fr fl) (hf : env.frame = some L) (hkd : env.scope.kind ≠ .module) (O : LawOK w g k a) (hg : g.Ord) (hk : k ≤ 20) (hLW : g.M < L) (htl : TailOk fl g.dh g.M g.dh g.M) (hfo : former = .none ∨ ∃ e ∈ a.made, former = .ref e.1) (hx : 0 ≤ x ∧ x < 2 ^ 40) (hd : d ≤ 430) (hu : u ≤ 830)
    (h : ∀ h' tk a' fl', FlS fl fl' → LawOK w g (k + 1) a' → (∀ q ∈ a'.os, ∀ p ∈ fl', p.1 ≠ q.1) → a'.ps = a.ps → Fr z L h' m → News z L h' (ledW w g a' ++ (rest ++ fl')) → Q (.bool true) { s with heap := h', toks := tk }) :
    wpAny (model PR w) ((mkA d fr u).deeper env) (call (.ref 275) [.ref g.hp, .ref g.W, .int x tx, former]) Q E s := by
  refine ea2_7 (told_frame F N hmr hmf hrf FL hf hkd) fun zc oL hzs hz P2 FL2 hrest hm2 back => ?_
  have I := O.inv
  have hlens := I.lens
  have ly := O.ly
  have lx := O.lx
  have lm := O.lm
  have nx := O.nx
  have wr := O.wr
  have hos : ∀ q ∈ a.os, q ∈ ledW w g a := fun q hq => List.mem_append_right _ (.tail _ (.tail _ (.tail _ (.tail _ (.tail _ hq)))))
  refine ea3_2 (I.former (tg := 1 + (x.fdiv 123).fmod 3) (sz := ((octX x).size : Int)) (cnt := (((octX x).size : Int) + g.sec - 1).fdiv g.sec) (cp := (1 + (x.fdiv 41).fmod 3).toNat) hfo O.ptr) fun nxt' ks dd hF hks => ?_
  have FrTail : TailOk ((L, oL) :: fl) g.dh g.M g.dh g.M := fun q hq => by
    rcases List.mem_cons.mp hq with rfl | hq
    · exact ⟨Nat.lt_trans (ord_M hg.1).1 hLW, .inr hLW, .inr hLW⟩
    · exact htl q hq
  have OsTail : TailOk a.os g.dh g.M g.dh g.M := fun q hq => by
    have h1 := O.hos q hq
    exact mk0_3 (lt_M hg.1 h1) (.inr h1) (.inr h1)
  refine wpAny_call (law_write_ok (d := d + 1) (u := u + 3) (fr := env :: fr) (hp := g.hp) (dh := g.dh) (B := g.B) (G := g.G) (W := g.W) (V := g.V) (U := g.U) (M := g.M) (HT := g.HT) (sec := g.sec) (nxt := a.nxt) (wr := a.wr) (xs := a.xs) (yg := a.yg) (xv := a.xv) (yu := a.yu) (made := a.made.map (fun e : Made => e.1)) (n := a.n) (n2 := a.n2) (n3 := a.n3) (n4 := a.n4) (nM := a.nM) (tn := a.tn) (tw := a.tw) (oW := a.oW) (ps := a.pw) (os := a.os) (fl := (L, oL) :: fl) (X.keeps hz) (T.keeps hz) (C.keeps hz) P2 O.hW O.tw O.hos FL2 (O.K zc) (O.KG zc) (O.KV zc) (O.KU zc)
    (fun e he => ?_) (by omega) hg.2 (by omega) (by omega) (by omega) (fun q hq p hp => ?_) hg.1 (OsTail.app FrTail) hF (fun b hb => ?_) (by rw [List.length_map]; omega) (by omega) (by omega) hx
    fun h' tk oW' n' n2' n3' nM' tn' tw' u1 u2 u3 made' ps' os' fl2 xs' xv' nx' P' hW' tw'' S2 up hos' hof' hP => ?_)
  · have : e.1 ∈ keysOf a.yg := I.sk ▸ List.mem_map_of_mem he
    refine ea2_3 (I.ky _ this) fun s' c e1 h1 h2 => ?_
    exact mk2_3 s' c e1 h1 h2
  · rcases List.mem_cons.mp hp with rfl | hp
    · exact fun r => (N q (List.mem_append_left _ (hos q hq))).2.1 r.symm
    · exact fun r => hmf p hp q (hos q hq) r.symm
  · refine ea1_2 (List.mem_map.mp hb) fun e he rz2 => ?_
    subst rz2
    exact mk2_2 _ _ (O.ptr e he) (I.form3 he)
  · refine ea1_2 (O.wrote hg (n' := n') (n2' := n2') (n3' := n3') (nM' := nM') (tn' := tn') (tw' := tw') hk hx.1 hks hW' tw'' up hos' hP) fun m' e1 O' => ?_
    subst e1
    have adr : ∀ p ∈ (L, oL) :: fl, ∃ p' ∈ fl2, p'.1 = p.1 := fun p hp => by
      have : p.1 ∈ fl2.map (·.1) := by rw [S2.adr]; exact List.mem_map_of_mem hp
      refine ea1_2 (List.mem_map.mp this) fun p' h1 h2 => ?_
      exact mk1_2 p' h1 h2
    have hoff : ∀ q ∈ os', ∀ p ∈ (L, oL) :: fl, p.1 ≠ q.1 := fun q hq p hp => by
      refine ea1_2 (adr p hp) fun p' h1 h2 => ?_
      rw [← h2]
      exact hof' q hq p' h1
    obtain ⟨F', fl', S', N'⟩ := back h' (ledW w g ⟨nx', a.wr + 1, tn', tw', u1, u2, u3, xs', a.yg, xv', a.yu, n', n2', n3', a.n4, nM', oW', m', ps', a.ps, os'⟩) fl2 S2 (fun p hp q hq => by
      rcases ledW_addr hq with hb | ho'
      · rcases List.mem_cons.mp hp with rfl | hp
        · exact Nat.ne_of_lt (Nat.lt_of_le_of_lt (basics_le hg hb) hLW)
        · obtain ⟨o, ho'⟩ := basics_led w g a hb
          exact hmf p hp (_, o) ho'
      · exact (hoff q ho' p hp).symm) P'
    refine h h' tk _ fl' S' O' (fun q hq p hp => ?_) rfl F' N'
    refine ea1_2 (S'.mem hp) fun p' h1 h2 => ?_
    rw [← h2]
    exact hoff q hq p' (.tail _ h1)
end

open PySem.SeqAt
noncomputable abbrev newsS (w : World) (g : LG) (a : LS) (L : Nat) (ch co cp : Obj) (fl : List (Addr × Obj)) : List (Addr × Obj) :=
  (L + 1, ch) :: (L + 1 + 1, co) :: (L + 1 + 1 + 1, cp) :: (g.hp, instObj 190 g.dh) :: (g.dh, hD w.params g.HT g.B g.G g.sec a.nxt a.wr a.tn a.tw) :: (g.B, tD w a.xs a.n) :: (g.G, tD w a.yg a.n2) :: (g.W, a.oW) :: (g.V, tD w a.xv a.n3) :: (g.U, tD w a.yu a.n4) :: (g.M, listOf ((a.made.map (·.1)).map fun a => Value.ref a).toArray a.nM) :: (272, tabObj a.pw) :: (277, tabObj a.ps) :: (a.os ++ fl)
theorem rest_apart {w : World} {g : LG} {a : LS} {L : Nat} {c1 c2 c3 c4 : Obj} {fl : List (Addr × Obj)} (hg : g.Ord) (hLW : g.M < L) (hT : TailOk (a.os ++ fl) g.dh g.M L (L + 3)) : ∀ q ∈ [(L + 1, c1), (L + 1 + 1, c2), (L + 1 + 1 + 1, c3), ((277 : Nat), c4)], ∀ p ∈ ledW w g a, p.1 ≠ q.1 := by
  refine use_upL hg.1 hLW fun P9 U9 q100 q101 q102 q103 q104 q105 q106 q107 q108 q109 q110 q111 q112 q113 q114 q115 q116 q117 q118 q119 q120 q121 => ?_
  intro q hq p hp
  have hg1 := hg.1
  have key : ∀ n : Nat, (n ≤ g.M ∧ n ≠ 277) ∨ (292 < n ∧ (n < L ∨ L + 3 < n)) → n ≠ L + 1 ∧ n ≠ L + 1 + 1 ∧ n ≠ L + 1 + 1 + 1 ∧ n ≠ 277 := fun n h =>
    h.elim (fun h => have o := off3 (.inl (Nat.lt_of_le_of_lt h.1 hLW)); ⟨o.1, o.2.1, o.2.2, h.2⟩) fun h => have o := off3 h.2; ⟨o.1, o.2.1, o.2.2, Nat.ne_of_gt (Nat.lt_trans (by decide) h.1)⟩
  have hp' : (@LE.le Nat _ p.1 g.M ∧ p.1 ≠ (277 : Nat)) ∨ (@LT.lt Nat _ 292 p.1 ∧ (@LT.lt Nat _ p.1 L ∨ @LT.lt Nat _ (L + 3) p.1)) := by
    rcases ledW_addr hp with h | h
    · refine .inl ⟨basics_le hg h, ?_⟩
      have h3 : @LT.lt Nat _ 292 g.dh := hg1.1
      rcases basics_in hg h with h | h
      · exact Nat.ne_of_gt (Nat.lt_of_lt_of_le (Nat.lt_trans (show (277 : Nat) < 292 by decide) h3) h.1)
      · rw [h]
        decide
    · exact .inr ⟨(hT p (List.mem_append_left _ h)).1, (hT p (List.mem_append_left _ h)).2.2⟩
  have := key p.1 hp'
  simp only [List.mem_cons, List.not_mem_nil, or_false] at hq
  rcases hq with rfl | rfl | rfl | rfl
  · exact this.1
  · exact this.2.1
  · exact this.2.2.1
  · exact this.2.2.2
theorem fl_apart {w : World} {g : LG} {a : LS} {L : Nat} {fl : List (Addr × Obj)} (hg : g.Ord) (hT : TailOk (a.os ++ fl) g.dh g.M L (L + 3)) (hof : ∀ q ∈ a.os, ∀ p ∈ fl, p.1 ≠ q.1) : ∀ q ∈ fl, ∀ p ∈ ledW w g a, p.1 ≠ q.1 := by
  intro q hq p hp
  have hg1 := hg.1
  rcases ledW_addr hp with h | h
  · have h2 := hT q (List.mem_append_right _ hq)
    have key : ∀ n m : Nat, ((g.dh ≤ n ∧ n ≤ g.M) ∨ n = 272) → (292 < m ∧ (m < g.dh ∨ g.M < m)) → n ≠ m := fun n m h h2 => by omega
    exact key p.1 q.1 (basics_in hg h) ⟨h2.1, h2.2.1⟩
  · exact (hof p h q hq).symm
theorem restfl_apart {g : LG} {L : Nat} {c1 c2 c3 c4 : Obj} {os fl : List (Addr × Obj)} (hT : TailOk (os ++ fl) g.dh g.M L (L + 3)) : ∀ q ∈ [(L + 1, c1), (L + 1 + 1, c2), (L + 1 + 1 + 1, c3), ((277 : Nat), c4)], ∀ p ∈ fl, p.1 ≠ q.1 := by
  intro q hq p hp
  have h2 := hT p (List.mem_append_right _ hp)
  have key : ∀ n : Nat, (292 < n ∧ (n < L ∨ L + 3 < n)) → n ≠ L + 1 ∧ n ≠ L + 1 + 1 ∧ n ≠ L + 1 + 1 + 1 ∧ n ≠ 277 := fun n h =>
    have o := off3 h.2; ⟨o.1, o.2.1, o.2.2, Nat.ne_of_gt (Nat.lt_trans (by decide) h.1)⟩
  have := key p.1 ⟨h2.1, h2.2.2⟩
  simp only [List.mem_cons, List.not_mem_nil, or_false] at hq
  rcases hq with rfl | rfl | rfl | rfl
  · exact this.1
  · exact this.2.1
  · exact this.2.2.1
  · exact this.2.2.2
theorem newsS_mem {w : World} {g : LG} {a : LS} {L : Nat} {ch co cp : Obj} {fl : List (Addr × Obj)} : ∀ q ∈ ledW w g a ++ ([(L + 1, ch), (L + 1 + 1, co), (L + 1 + 1 + 1, cp), (277, tabObj a.ps)] ++ fl), q ∈ newsS w g a L ch co cp fl := pm_Sm
noncomputable abbrev mapS (W M : Nat) (op x : Int) (t1 t2 : Tok) : Str → Option Value := fun y : Str => if y = "made" then some (.ref M) else if y = "x" then some (.int x t2) else if y = "op" then some (.int op t1) else if y = "world" then some (.ref W) else none
noncomputable def StepEnd (w : World) (z : Heap) (L : Nat) (g : LG) (k : Nat) (fl : List (Addr × Obj)) (s : Shared) (Q : Flow → Shared → Prop) : Prop :=
  ∀ h' tk a' fl' m', FlS fl fl' → LawOK w g (k + 1) a' → (∀ q ∈ a'.os, ∀ p ∈ fl', p.1 ≠ q.1) → Fr z L h' m' → News z L h' (ledW w g a' ++ ((277, tabObj a'.ps) :: fl')) → Q (.ret (.bool true)) { s with heap := h', toks := tk }
section
variable {w : World} {d u : Nat} {fr : List Env} {Q : Flow → Shared → Prop} {E : Value → Shared → Prop} {s : Shared} {z : Heap} {p : Program} {loose : List Str} {mean : ExcName → Option Value} {mg mb : Str → Option Value}
theorem end_write {g : LG} {k : Nat} {a' : LS} {L : Nat} {c1 c2 c3 : Obj} {ps : Array Value} {fl fl' : List (Addr × Obj)} {h' : Heap} {tk : Nat} {m : Str → Option Value} (h : StepEnd w z L g k fl s Q) (S : FlS fl fl') (O : LawOK w g (k + 1) a') (hof : ∀ q ∈ a'.os, ∀ p ∈ fl', p.1 ≠ q.1) (hp : a'.ps = ps) (F : Fr z L h' m)
    (N : News z L h' (ledW w g a' ++ ([(L + 1, c1), (L + 1 + 1, c2), (L + 1 + 1 + 1, c3), (277, tabObj ps)] ++ fl'))) : Q (.ret (.bool true)) { s with heap := h', toks := tk } := by
  subst hp
  refine h h' tk a' fl' m S O hof F (subl_of N fun q hq => ?_)
  rcases List.mem_append.mp hq with hq | hq
  · exact List.mem_append_left _ hq
  · exact List.mem_append_right _ (.tail _ (.tail _ (.tail _ hq)))
set_option maxHeartbeats 2000000 in
theorem st1 {g : LG} {k : Nat} {a : LS} {L : Nat} {op x : Int} {t1 t2 : Tok} {ch co cp : Obj} {fl : List (Addr × Obj)}
    (X : (hd0.heap_1 w.params).In z) (T : Top p loose mean mg mb z) (C : CodeHd z 274 272) (F : Fr z L s.heap (mapS g.W g.M op x t1 t2)) (N : News z L s.heap (newsS w g a L ch co cp fl)) (d1 : ch.data = .cell (some (.ref g.hp)))
    (FL : FrL fr fl) (O : LawOK w g k a) (hg : g.Ord) (hk : k ≤ 20) (hLW : g.M < L) (hT : TailOk (a.os ++ fl) g.dh g.M L (L + 3)) (hof : ∀ q ∈ a.os, ∀ p ∈ fl, p.1 ≠ q.1) (htl : TailOk fl g.dh g.M g.dh g.M) (hx : 0 ≤ x ∧ x < 2 ^ 40) (hd : d ≤ 420) (hu : u ≤ 820)
    (hE : StepEnd w z L g k fl s Q) (hF : ¬(op < 3 ∨ a.made = []) → ∀ h' tk, Fr z L h' (mapS g.W g.M op x t1 t2) → News z L h' (newsS w g a L ch co cp fl) → Q .next { s with heap := h', toks := tk }) :
    wpAny (model PR w) ((mkA d fr u).deeper (env282 L)) (exec (stmtAt lit282.1.body 1) (env282 L)) Q E s := by
  refine use_upL hg.1 hLW fun P9 U9 q100 q101 q102 q103 q104 q105 q106 q107 q108 q109 q110 q111 q112 q113 q114 q115 q116 q117 q118 q119 q120 q121 => ?_
  dsimp only [env282, lit282, litMk, stmtAt]
  have go := hg.1
  by_cases h3 : op < 3
  · walk_at "goL"
    all_goals (try (exfalso; omega))
    refine write_call (rest := [(L + 1, ch), (L + 1 + 1, co), (L + 1 + 1 + 1, cp), (277, tabObj a.ps)]) X T C (by assumption) (subl_of (by assumption) newsS_mem) (rest_apart hg hLW hT) (fl_apart hg hT hof) (restfl_apart hT) FL rfl kind_ne O hg hk hLW htl (.inl rfl) hx (by omega) (by omega) fun h' tk a' fl' S O' hof' hp F' N' => ?_
    exact end_write hE S O' hof' hp F' N'
  · walk_at "goL"
    rename News _ _ _ _ => N1
    rename Fr _ _ _ _ => F1
    have hM : (g.M, listOf ((a.made.map (·.1)).map fun a => Value.ref a).toArray a.nM) ∈ newsS w g a L ch co cp fl := by k_mem
    have lM := N1.isList (.tail _ hM)
    by_cases hm : a.made = []
    · rw [hm] at lM
      refine eq_listAt (e := fun _ => true) lM (N1.isList (.head _)) rfl (by k_units) (fun j h1 => absurd h1 (Nat.not_lt_zero _)) ?_
      walk_at "goL"
      refine write_call (rest := [(L + 1, ch), (L + 1 + 1, co), (L + 1 + 1 + 1, cp), (277, tabObj a.ps)]) X T C (by assumption) (subl_of N1 fun q hq => .tail _ (newsS_mem q hq)) (rest_apart hg hLW hT) (fl_apart hg hT hof) (restfl_apart hT) FL rfl kind_ne O hg hk hLW htl (.inl rfl) hx (by omega) (by omega) fun h' tk a' fl' S O' hof' hp F' N' => ?_
      exact end_write hE S O' hof' hp F' N'
    · refine eq_list_lengthsAt lM (N1.isList (.head _)) ?_ (by k_units) ?_
      · simpa using hm
      walk_at "goL"
      exact hF (fun h => h.elim h3 hm) _ _ F1 (subl_of N1 fun q hq => .tail _ hq)
end

section
variable {w : World} {d u : Nat} {fr : List Env} {Q : Flow → Shared → Prop} {E : Value → Shared → Prop} {s : Shared} {z : Heap} {p : Program} {loose : List Str} {mean : ExcName → Option Value} {mg mb : Str → Option Value}
set_option maxHeartbeats 2000000 in
theorem st2 {g : LG} {k : Nat} {a : LS} {L : Nat} {op x : Int} {t1 t2 : Tok} {ch co cp : Obj} {fl : List (Addr × Obj)}
    (X : (hd0.heap_1 w.params).In z) (T : Top p loose mean mg mb z) (F : Fr z L s.heap (mapS g.W g.M op x t1 t2)) (N : News z L s.heap (newsS w g a L ch co cp fl)) (d3 : cp.data = .cell none)
    (O : LawOK w g k a) (hg : g.Ord) (hk : k ≤ 20) (hLW : g.M < L) (hT : TailOk (a.os ++ fl) g.dh g.M L (L + 3)) (hx : 0 ≤ x ∧ x < 2 ^ 40) (hd : d ≤ 420) (hu : u ≤ 820) (hne : a.made ≠ [])
    (h : ∀ h' tk cp' e, e ∈ a.made → cp'.data = .cell (some (.ref e.1)) → Fr z L h' (mapS g.W g.M op x t1 t2) → News z L h' (newsS w g a L ch co cp' fl) → Q .next { s with heap := h', toks := tk }) :
    wpAny (model PR w) ((mkA d fr u).deeper (env282 L)) (exec (stmtAt lit282.1.body 2) (env282 L)) Q E s := by
  refine use_upL hg.1 hLW fun P9 U9 q100 q101 q102 q103 q104 q105 q106 q107 q108 q109 q110 q111 q112 q113 q114 q115 q116 q117 q118 q119 q120 q121 => ?_
  dsimp only [env282, lit282, litMk, stmtAt]
  have go := hg.1
  have hM : (g.M, listOf ((a.made.map (·.1)).map fun a => Value.ref a).toArray a.nM) ∈ newsS w g a L ch co cp fl := by k_mem
  have hpos : 0 < a.made.length := List.length_pos_iff.mpr hne
  have hpos' : (a.made.length : Int) ≠ 0 := by omega
  have lm := O.lm
  walk_at "goL"
  refine KM.len_K (n := a.made.length) N hM (by simp) (by omega) ?_
  walk_at "goL"
  have h0 := fmod_lo x (n := (a.made.length : Int)) (by omega)
  have h1 := fmod_hi x (n := (a.made.length : Int)) (by omega)
  have hj : (x.fmod (a.made.length : Int)).toNat < a.made.length := by omega
  refine tail_any (N.isList hM).typeIs slot_list_getitem.lookup (wpAny_getItem_list (N.isList hM) h0 (by omega) (x := .ref (a.made[(x.fmod (a.made.length : Int)).toNat]'hj).1) (by simp [hj]) ?_) (by with_unfolding_all rfl)
  walk_at "goL"
  trace_state
  exact h _ _ _ _ (List.getElem_mem hj) (by assumption) (by assumption) (subl_of (by assumption) (by walk_at "subl"))
set_option maxHeartbeats 2000000 in
theorem st3 {g : LG} {k : Nat} {a : LS} {L : Nat} {op x : Int} {t1 t2 : Tok} {ch co cp : Obj} {fl : List (Addr × Obj)} {e : Made}
    (X : (hd0.heap_1 w.params).In z) (T : Top p loose mean mg mb z) (C : CodeHd z 274 272) (F : Fr z L s.heap (mapS g.W g.M op x t1 t2)) (N : News z L s.heap (newsS w g a L ch co cp fl)) (d1 : ch.data = .cell (some (.ref g.hp))) (d3 : cp.data = .cell (some (.ref e.1))) (he : e ∈ a.made)
    (FL : FrL fr fl) (O : LawOK w g k a) (hg : g.Ord) (hk : k ≤ 20) (hLW : g.M < L) (hT : TailOk (a.os ++ fl) g.dh g.M L (L + 3)) (hof : ∀ q ∈ a.os, ∀ p ∈ fl, p.1 ≠ q.1) (htl : TailOk fl g.dh g.M g.dh g.M) (hx : 0 ≤ x ∧ x < 2 ^ 40) (hd : d ≤ 420) (hu : u ≤ 820)
    (hE : StepEnd w z L g k fl s Q) (hF : ¬(op = 3 ∨ op = 4) → ∀ h' tk, Fr z L h' (mapS g.W g.M op x t1 t2) → News z L h' (newsS w g a L ch co cp fl) → Q .next { s with heap := h', toks := tk }) :
    wpAny (model PR w) ((mkA d fr u).deeper (env282 L)) (exec (stmtAt lit282.1.body 3) (env282 L)) Q E s := by
  refine use_upL hg.1 hLW fun P9 U9 q100 q101 q102 q103 q104 q105 q106 q107 q108 q109 q110 q111 q112 q113 q114 q115 q116 q117 q118 q119 q120 q121 => ?_
  dsimp only [env282, lit282, litMk, stmtAt]
  have go := hg.1
  have hx16 : 0 ≤ x.fdiv 16 ∧ x.fdiv 16 < 2 ^ 40 := by
    rw [Int.fdiv_eq_ediv_of_nonneg _ (by decide)]
    exact div_40 hx (by decide)
  walk_at "goL"
  all_goals (try (exfalso; omega))
  · refine write_call (rest := [(L + 1, ch), (L + 1 + 1, co), (L + 1 + 1 + 1, cp), (277, tabObj a.ps)]) X T C (by assumption) (subl_of (by assumption) newsS_mem) (rest_apart hg hLW hT) (fl_apart hg hT hof) (restfl_apart hT) FL rfl kind_ne O hg hk hLW htl (.inr ⟨e, he, rfl⟩) hx16 (by omega) (by omega) fun h' tk a' fl' S O' hof' hp F' N' => ?_
    exact end_write hE S O' hof' hp F' N'
  · refine write_call (rest := [(L + 1, ch), (L + 1 + 1, co), (L + 1 + 1 + 1, cp), (277, tabObj a.ps)]) X T C (by assumption) (subl_of (by assumption) newsS_mem) (rest_apart hg hLW hT) (fl_apart hg hT hof) (restfl_apart hT) FL rfl kind_ne O hg hk hLW htl (.inr ⟨e, he, rfl⟩) hx16 (by omega) (by omega) fun h' tk a' fl' S O' hof' hp F' N' => ?_
    exact end_write hE S O' hof' hp F' N'
  · exact hF (by omega) _ _ (by assumption) (by assumption)
end

noncomputable abbrev mapY (W M : Nat) (op x : Int) (t1 t2 : Tok) (ws : Str) (t3 : Tok) : Str → Option Value := fun y : Str => if y = "why" then some (.str ws t3) else if y = "made" then some (.ref M) else if y = "x" then some (.int x t2) else if y = "op" then some (.int op t1) else if y = "world" then some (.ref W) else none
section
variable {w : World} {d u : Nat} {fr : List Env} {Q : Flow → Shared → Prop} {E : Value → Shared → Prop} {s : Shared} {z : Heap} {p : Program} {loose : List Str} {mean : ExcName → Option Value} {mg mb : Str → Option Value}
set_option maxHeartbeats 2000000 in
theorem st4 {g : LG} {k : Nat} {a : LS} {L : Nat} {op x : Int} {t1 t2 : Tok} {ch co cp : Obj} {fl : List (Addr × Obj)} {e : Made}
    (X : (hd0.heap_1 w.params).In z) (T : Top p loose mean mg mb z) (F : Fr z L s.heap (mapS g.W g.M op x t1 t2)) (N : News z L s.heap (newsS w g a L ch co cp fl)) (d3 : cp.data = .cell (some (.ref e.1))) (he : e ∈ a.made)
    (O : LawOK w g k a) (hg : g.Ord) (hLW : g.M < L) (hT : TailOk (a.os ++ fl) g.dh g.M L (L + 3)) (hd : d ≤ 420) (hu : u ≤ 820)
    (h1 : (∀ k ∈ e.ks, k ∈ keysOf a.xs) → ∀ h' tk t, Fr z L h' (mapY g.W g.M op x t1 t2 "" t) → News z L h' (newsS w g a L ch co cp fl) → Q .next { s with heap := h', toks := tk })
    (h2 : (∀ k ∈ e.ks, k ∉ keysOf a.xs ∧ k ∈ keysOf a.yg) → ∀ h' tk t, Fr z L h' (mapY g.W g.M op x t1 t2 "misused: a block that is gone" t) → News z L h' (newsS w g a L ch co cp fl) → Q .next { s with heap := h', toks := tk }) :
    wpAny (model PR w) ((mkA d fr u).deeper (env282 L)) (exec (stmtAt lit282.1.body 4) (env282 L)) Q E s := by
  refine use_upL hg.1 hLW fun P9 U9 q100 q101 q102 q103 q104 q105 q106 q107 q108 q109 q110 q111 q112 q113 q114 q115 q116 q117 q118 q119 q120 q121 => ?_
  dsimp only [env282, lit282, litMk, stmtAt]
  have go := hg.1
  have M := O.inv.ok e he
  have sk := O.inv.sk
  have sx := O.inv.sv.keys
  have PA := O.ptr e he
  have KV := O.KV z
  have KU := O.KU z
  have hW := O.hW
  obtain ⟨pa, q0, ts⟩ := e
  dsimp only at PA d3
  rcases M.live with hl | hl
  · have hal : Alive a.xv ts := fun t ht => isSome_at.mpr (sx ▸ hl _ (List.mem_map_of_mem ht))
    walk_at "goL"
    exact h1 hl _ _ _ (by assumption) (subl_of (by assumption) (by walk_at "subl"))
  · cases ts with
    | nil => exact absurd rfl M.ne
    | cons t0 ts =>
      have hl0 := hl t0.1 (.head _)
      have hno : (atKey a.xv t0.1).isSome = false := at_false.mpr (sx ▸ hl0.1)
      have hgo : (atKey a.yu t0.1).isSome = true := isSome_at.mpr (sk ▸ hl0.2)
      walk_at "goL"
      exact h2 hl _ _ _ (by assumption) (subl_of (by assumption) (by walk_at "subl"))
end

theorem LawOK.kept {w : World} {g : LG} {k : Nat} {a : LS} (O : LawOK w g k a) {ps' : Array Value} {os' : List (Addr × Obj)} (ts : TabOk (("_law_step" ++ ".<locals>." : Str) ++ ("<lambda>" : Str)) os' ps') (up : ∀ q ∈ a.os, q ∈ os') (hos : ∀ q ∈ os', g.M < q.1) :
    LawOK w g (k + 1) { a with ps := ps', os := os' } := by
  obtain ⟨oW1, tw1, ts1, K1, KG1, KV1, KU1, I, ptr, hos1, nx1, wr1, lx, ly, lm⟩ := O
  exact ⟨oW1, tw1.mono up, ts, fun z => (K1 z).mono up, fun z => (KG1 z).mono up, fun z => (KV1 z).mono up, fun z => (KU1 z).mono up, I, fun e he => (ptr e he).mono up, hos, ⟨nx1.1, by push_cast; omega⟩, ⟨wr1.1, by push_cast; omega⟩, by dsimp only; omega, by dsimp only; omega, by dsimp only; omega⟩
noncomputable abbrev listK (w : World) (g : LG) (a : LS) (L f c' : Nat) (fo oc ch co cp : Obj) (os fl : List (Addr × Obj)) : List (Addr × Obj) :=
  (g.hp, instObj 190 g.dh) :: (g.dh, hD w.params g.HT g.B g.G g.sec a.nxt a.wr a.tn a.tw) :: (g.B, tD w a.xs a.n) :: (g.G, tD w a.yg a.n2) :: (g.W, a.oW) :: (g.V, tD w a.xv a.n3) :: (g.U, tD w a.yu a.n4) :: (g.M, listOf ((a.made.map (·.1)).map fun a => Value.ref a).toArray a.nM) :: (272, tabObj a.pw) :: (277, tabObj a.ps) :: (f, fo) :: (c', oc) :: (L + 1, ch) :: (L + 1 + 1, co) :: (L + 1 + 1 + 1, cp) :: (os ++ fl)
theorem listK_mem {w : World} {g : LG} {a : LS} {L f c' : Nat} {fo oc ch co cp : Obj} {os fl : List (Addr × Obj)} (h : a.os = (c', oc) :: os) : ∀ q ∈ ledW w g a ++ ((277, tabObj a.ps) :: fl), q ∈ listK w g a L f c' fo oc ch co cp os fl := by
  intro q hq
  rcases List.mem_append.mp hq with hq | hq
  · unfold ledW led4 at hq
    rw [h] at hq
    simp only [List.cons_append, List.nil_append, List.mem_cons] at hq
    rcases hq with rfl | rfl | rfl | rfl | rfl | rfl | rfl | rfl | rfl | rfl | hq
    all_goals first | k_mem | walk_at "tailm"
  · rcases List.mem_cons.mp hq with rfl | hq
    · k_mem
    · walk_at "tailm"
theorem off_os {c' : Nat} {oc : Obj} {os fl fl' : List (Addr × Obj)} (S : FlS fl fl') (hcf : ∀ p ∈ fl, p.1 ≠ c') (hof : ∀ q ∈ os, ∀ p ∈ fl, p.1 ≠ q.1) : ∀ q ∈ (c', oc) :: os, ∀ p ∈ fl', p.1 ≠ q.1 := by
  refine List.forall_mem_cons.mpr ⟨fun p hp => ?_, fun q hq p hp => ?_⟩
  · refine ea1_2 (S.mem hp) fun p' hp' e => ?_
    rw [← e]
    exact hcf p' hp'
  · refine ea1_2 (S.mem hp) fun p' hp' e => ?_
    rw [← e]
    exact hof q hq p' hp'
theorem corr_lit : toldStr 44 "a block of another size" = ("corrupt: a block of another size" : Str) := by kernel_rfl
noncomputable def ReadQ (a : LS) (e : Made) (ws : Str) (dv : Value) (kind : Nat) (b : Array UInt8) (tb : Tok) : Prop :=
  (kind = 1 ∧ ws = "" ∧ Alive a.xs e.2.2 ∧ (b.size : Int) = e.2.1.size ∧ ∃ t, dv = .bytes b t) ∨
  (kind = 2 ∧ ws = "" ∧ Alive a.xs e.2.2 ∧ ¬(b.size : Int) = e.2.1.size ∧ ∃ t, dv = .str "corrupt: a block of another size" t) ∨
  (kind = 3 ∧ ws = "misused: a block that is gone" ∧ (∀ t ∈ e.2.2, (atKey a.xs t.1).isSome = false ∧ (atKey a.yg t.1).isSome = true))
section
variable {w : World} {d u : Nat} {fr : List Env} {Q : Flow → Shared → Prop} {E : Value → Shared → Prop} {s : Shared} {z : Heap} {p : Program} {loose : List Str} {mean : ExcName → Option Value} {mg mb : Str → Option Value}
set_option maxHeartbeats 4000000 in
theorem st5b {g : LG} {k : Nat} {a : LS} {L : Nat} {op x : Int} {t1 t2 t3 : Tok} {ws : Str} {dv : Value} {ch co cp : Obj} {fl : List (Addr × Obj)} {e : Made} {t0 : List Int × Nat} {ts0 : List (List Int × Nat)} {kind : Nat} {b : Array UInt8} {tb : Tok}
    (X : (hd0.heap_1 w.params).In z) (T : Top p loose mean mg mb z) (C : CodeHd z 281 277) (F : Fr z L s.heap (fun y : Str => if y = "due" then some dv else mapY g.W g.M op x t1 t2 ws t3 y)) (N : News z L s.heap (newsS w g a L ch co cp fl)) (d1 : ch.data = .cell (some (.ref g.hp))) (d3 : cp.data = .cell (some (.ref e.1))) (he : e ∈ a.made) (hts : e.2.2 = t0 :: ts0)
    (FL : FrL fr fl) (O : LawOK w g k a) (hg : g.Ord) (hLW : g.M < L) (hT : TailOk (a.os ++ fl) g.dh g.M L (L + 3)) (hof : ∀ q ∈ a.os, ∀ p ∈ fl, p.1 ≠ q.1) (hflL : AllLt L fl) (hd : d ≤ 420) (hu : u ≤ 820)
    (hk : ReadQ a e ws dv kind b tb) (hat : (atKey a.xs t0.1).isSome = true → (atKey a.xs t0.1).map (·.2) = some (.bytes b tb)) (hb : b.size ≤ 40)
    (hE0 : StepEnd w z L g k fl s Q) :
    wpAny (model PR w) ((mkA d fr u).deeper (env282 L)) (exec (stmtAt (thenOf (stmtAt lit282.1.body 5)) 2) (env282 L)) Q E s := by
  refine use_upL hg.1 hLW fun P9 U9 q100 q101 q102 q103 q104 q105 q106 q107 q108 q109 q110 q111 q112 q113 q114 q115 q116 q117 q118 q119 q120 q121 => ?_
  dsimp only [env282, lit282, litMk, stmtAt, thenOf]
  have go := hg.1
  have tb0 := O.ts
  have hos := O.hos
  have PA := O.ptr e he
  obtain ⟨pa, q0, ts⟩ := e
  dsimp only at PA d3 hts
  subst hts
  walk_at "goM"
  rename Fr _ _ _ _ => F9
  rename News _ _ _ _ => N9
  refine kla_eval (by rfl) ?_
  refine' lam_any (x0 := g.M) F9 N9 T C ?cd ?U tb0 ?hc ?cl ?hx ?h0 ?_
  case cd => exact rfl
  case U => k_updF
  case hc => walk_at "subl"
  case cl => with_unfolding_all rfl
  case hx => exact hos
  case h0 => k_mem
  intro f c' oc ctv ps' h3 tk3 F3 N3 hco tb' hlf hlc hxc hcn
  (try dsimp only at N3)
  have hosT : TailOk a.os g.dh g.M L (L + 3) := hT.left
  have hfT : TailOk fl g.dh g.M L (L + 3) := hT.right
  have hcf : ∀ p ∈ fl, p.1 ≠ c' := fun p hp => by
    rcases hcn with h | h
    · exact Nat.ne_of_lt (h p (by walk_at "tailm"))
    · exact hof _ h p hp
  have hcL : @LT.lt Nat _ c' L ∨ @LT.lt Nat _ (L + 3) c' := by
    rcases hcn with h | h
    · exact .inr (h (L + 1 + 1 + 1, _) (by k_mem))
    · exact (hT _ (List.mem_append_left _ h)).2.2
  k_lt hlf; k_lt2 hlc; k_lt2 hxc
  have hMf := ltN (Nat.lt_trans hxc hlc)
  have hflf : @LT.lt Nat _ (L + 3) f := by omega
  clear N9 F9
  walk_at "goM"
  refine' (fun N10 => ?main) (subl_of (mt := led4 w g.hp g.dh g.B g.G g.HT g.sec a.nxt a.wr a.tn a.tw a.xs a.yg a.n a.n2 ++ (((g.W, a.oW) :: (g.V, tD w a.xv a.n3) :: (g.U, tD w a.yu a.n4) :: (g.M, listOf ((a.made.map (·.1)).map fun a => Value.ref a).toArray a.nM) :: (272, tabObj a.pw) :: (277, tabObj ps') :: (f, ?fo) :: (c', oc) :: (L + 1, ch) :: (L + 1 + 1, co) :: (L + 1 + 1 + 1, cp) :: a.os) ++ fl)) N3 ?sub)
  case sub =>
    simp only [led4, List.cons_append, List.nil_append]
    walk_at "subl"
  case main =>
    refine' told_call (mt := led4 w g.hp g.dh g.B g.G g.HT g.sec a.nxt a.wr a.tn a.tw a.xs a.yg a.n a.n2) (fl := fl) (fun v mt' => mt' = led4 w g.hp g.dh g.B g.G g.HT g.sec a.nxt a.wr a.tn a.tw a.xs a.yg a.n a.n2 ∧ (atKey a.xs t0.1).isSome = true ∧ (b.size : Int) = q0.size ∧ v = .bytes b tb) (fun C why mt' => mt' = led4 w g.hp g.dh g.B g.G g.HT g.sec a.nxt a.wr a.tn a.tw a.xs a.yg a.n a.n2 ∧ (((atKey a.xs t0.1).isSome = true ∧ ¬(b.size : Int) = q0.size ∧ C = 44 ∧ why = "a block of another size") ∨ ((atKey a.xs t0.1).isSome = false ∧ C = 56 ∧ why = goneStr (atKey a.yg t0.1).isSome))) X T F3 N10 (apart_of (by walk_at "apart")) (apart_of (by walk_at "apart")) (by walk_at "apart") FL rfl kind_ne ?hfn (by omega) (by omega) ?hcall ?hok ?her
    case hfn => k_dflt k_mem
    case hcall =>
      intro z' env2 s' hz' hr' P' FF hsz
      have X' := X.keeps hz'
      have T' := T.keeps hz'
      simp only [List.forall_mem_cons] at hr'
      refine and12 hr' fun eW eV eU eM eT eS ef ec e1 e2 e3 eo => ?_
      clear hr'
      clear F3 N3 N10
      refine enterL T' P' ef ec hco (by k_room) (by rfl) rfl rfl rfl (by decide) ?_
      intro L2 h4 tk4 F4 N4 hL4 hst4
      walk_at "goM"
      rename News z' _ _ _ => N5
      rename Fr z' _ _ _ => F5
      have Nm : News z' L2 _ (led4 w g.hp g.dh g.B g.G g.HT g.sec a.nxt a.wr a.tn a.tw a.xs a.yg a.n a.n2) := subl_of N5 (by walk_at "subl")
      have hb0 := hid_base F5 Nm
      refine through rfl rfl F5 Nm F5.above (fun _ _ => rfl) ?_
      refine read_ends (d := d + 3) (u := u + 9) (X'.keeps hb0) (T'.keeps hb0) (Pre.of Nm) (((PA z').at (fun _ _ e => e) eo).keeps hb0) (keysZ (keysB (O.K z) hz' eo) hb0) (keysZ (keysB (O.KG z) hz' eo) hb0) (by omega) (by omega) (by omega) (by omega) (ffr_hidN FF F5 Nm rfl kind_ne) ⟨go.2.1, go.2.2.1, go.2.2.2.1⟩ ?_ (Nat.le_trans hb (by decide))
      rcases hk with ⟨_, _, h, _⟩ | ⟨_, _, h, _⟩ | ⟨_, _, h⟩
      · exact .inl ⟨h, hat (h t0 (.head _))⟩
      · exact .inl ⟨h, hat (h t0 (.head _))⟩
      · exact .inr (h t0 (.head _)).1
    case hok =>
      intro h6 tk6 v mt' fl' S6 hO F6 N6
      refine ea0_4 (hO) fun rz0 hs hz rz3 => ?_
      (try clear hO)
      subst rz0
      subst rz3
      rcases hk with hk | hk | hk
      · refine ea0_5 hk fun _ e2 hal hsz ht => ?_
        obtain ⟨t', rfl⟩ := ht
        subst e2
        simp only [led4, List.cons_append, List.nil_append] at N6
        walk_at "goL"
        rename News _ _ _ _ => N7
        first | rw [show (b.toList == b.toList) = true from beq_self_eq_true _] | rw [show (("corrupt: a block of another size" : Str) == "corrupt: a block of another size") = true from by rfl] | rw [show (("misused: a block that is gone" : Str) == "misused: a block that is gone") = true from by rfl]
        exact hE0 _ _ { a with ps := ps', os := (c', oc) :: a.os } fl' _ S6 (O.kept tb' (fun q hq => .tail _ hq) (List.forall_mem_cons.mpr ⟨hxc, hos⟩)) (off_os S6 hcf hof) (by assumption) (subl_of N7 (listK_mem rfl))
      · exact absurd hz hk.2.2.2.1
      · exact absurd hs (by rw [(hk.2.2 t0 (.head _)).1]; exact Bool.false_ne_true)
    case her =>
      intro h6 tk6 C why mt' fl' t6 S6 hE F6 N6
      obtain ⟨rfl, hE⟩ := hE
      rcases hk with hk | hk | hk
      · rcases hE with h | h
        · exact absurd hk.2.2.2.1 h.2.1
        · exact absurd (hk.2.2.1 t0 (.head _)) (by rw [h.1]; exact Bool.false_ne_true)
      · rcases hE with h | h
        · refine ea0_5 hk fun _ e2 hal hsz ht => ?_
          obtain ⟨t', rfl⟩ := ht
          refine ea0_4 h fun _ _ e3 e4 => ?_
          subst e2 e3 e4
          rw [corr_lit]
          simp only [led4, List.cons_append, List.nil_append] at N6
          walk_at "goL"
          rename News _ _ _ _ => N7
          first | rw [show (b.toList == b.toList) = true from beq_self_eq_true _] | rw [show (("corrupt: a block of another size" : Str) == "corrupt: a block of another size") = true from by rfl] | rw [show (("misused: a block that is gone" : Str) == "misused: a block that is gone") = true from by rfl]
          exact hE0 _ _ { a with ps := ps', os := (c', oc) :: a.os } fl' _ S6 (O.kept tb' (fun q hq => .tail _ hq) (List.forall_mem_cons.mpr ⟨hxc, hos⟩)) (off_os S6 hcf hof) (by assumption) (subl_of N7 (listK_mem rfl))
        · exact absurd (hk.2.2.1 t0 (.head _)) (by rw [h.1]; exact Bool.false_ne_true)
      · rcases hE with h | h
        · exact absurd h.1 (by rw [(hk.2.2 t0 (.head _)).1]; exact Bool.false_ne_true)
        · refine ea0_3 hk fun _ e2 hal => ?_
          refine ea0_3 h fun _ e3 e4 => ?_
          subst e2 e3 e4
          rw [(hal t0 (.head _)).2, goneS_t]
          simp only [led4, List.cons_append, List.nil_append] at N6
          walk_at "goL"
          rename News _ _ _ _ => N7
          first | rw [show (b.toList == b.toList) = true from beq_self_eq_true _] | rw [show (("corrupt: a block of another size" : Str) == "corrupt: a block of another size") = true from by rfl] | rw [show (("misused: a block that is gone" : Str) == "misused: a block that is gone") = true from by rfl]
          exact hE0 _ _ { a with ps := ps', os := (c', oc) :: a.os } fl' _ S6 (O.kept tb' (fun q hq => .tail _ hq) (List.forall_mem_cons.mpr ⟨hxc, hos⟩)) (off_os S6 hcf hof) (by assumption) (subl_of N7 (listK_mem rfl))
end

section
variable {w : World} {A : Around} {E : Value → Shared → Prop} {s : Shared} {z : Heap} {L B a : Addr} {m : Str → Option Value} {news own : List (Addr × Obj)} {xs : List Ent} {n : Nat} {k : List Int}
theorem get_S {dflt v : Value} {Q : Value → Shared → Prop} (hu : A.in1.units < cLine) (hB0 : B ≠ 1) (F : Fr z L s.heap m) (N : News z L s.heap news) (hB : (B, tD w xs n) ∈ news) (K : KeysO w z own xs) (ho : ∀ q ∈ own, q ∈ news) (ka : KeyO w z own k a) (hv : (atKey xs k).map (·.2) = some v)
    (h : ∀ tk, Q v { s with toks := tk }) : wpAny (model PR w) A (call (.builtin "dict.get") [.ref B, .ref a, dflt]) Q E s := get_T hu hB0 F N hB K ho ka fun tk => by rw [hv]; exact h tk
theorem get_N {dflt : Value} {Q : Value → Shared → Prop} (hu : A.in1.units < cLine) (hB0 : B ≠ 1) (F : Fr z L s.heap m) (N : News z L s.heap news) (hB : (B, tD w xs n) ∈ news) (K : KeysO w z own xs) (ho : ∀ q ∈ own, q ∈ news) (ka : KeyO w z own k a) (hv : atKey xs k = none)
    (h : ∀ tk, Q dflt { s with toks := tk }) : wpAny (model PR w) A (call (.builtin "dict.get") [.ref B, .ref a, dflt]) Q E s := get_T hu hB0 F N hB K ho ka fun tk => by rw [hv]; exact h tk
theorem item0_N {D : Nat} {v : Value} {vs : List Value} {c : Nat} {u : Tok} {value slice : PySem.Expr} {Q : Value → Shared → Prop} (N : News z L s.heap news) (hm : (D, tupO (v :: vs) c) ∈ news) (h : Q v s)
    (hs : subscripted slice false (.ref D) (.int 0 u) = operate [.ref D, .int 0 u] (getItem (.ref D) (.int 0 u)) := by with_unfolding_all rfl) : wpAny (model PR w) A (subscriptTail value slice (.ref D) (.int 0 u)) Q E s :=
  item_tupleT (l := v :: vs) (j := 0) ⟨_, (N _ hm).1, rfl, c, rfl⟩ (by decide) (by decide) (by simp [seqIndex?]) (by simp) h hs
end

example : True := by
  k_with "call builtin:dict.get" => ((k_here; (with_reducible show wpAny _ _ (PySem.call _ [Value.ref _, Value.ref _, _]) _ _ _); k_dflt (first | (refine' get_S ?z50u ?z50q ?z50F ?z50N ?z50B ?z50K ?z50o ?z50ka ?z50hv ?_; (case z50q => (refine neN ?_; omega)); (case z50u => k_units); (case z50F => k_asm); (case z50N => k_asm); (case z50B => k_mem); (case z50K => assumption); (case z50hv => assumption); (case z50o => k_extra "subl"); (case z50ka => assumption)) | (refine' get_N ?z50u ?z50q ?z50F ?z50N ?z50B ?z50K ?z50o ?z50ka ?z50hv ?_; (case z50q => (refine neN ?_; omega)); (case z50u => k_units); (case z50F => k_asm); (case z50N => k_asm); (case z50B => k_mem); (case z50K => assumption); (case z50hv => assumption); (case z50o => k_extra "subl"); (case z50ka => assumption))); intro _))
  k_with "subscriptTail" => ((k_here; (with_reducible show wpAny _ _ (subscriptTail _ _ (Value.ref _) (Value.int 0 _)) _ _ _); k_dflt (refine' item0_N ?z51N ?z51m ?_; (case z51N => k_asm); (case z51m => k_mem))))
  trivial
section
variable {w : World} {d u : Nat} {fr : List Env} {Q : Flow → Shared → Prop} {E : Value → Shared → Prop} {s : Shared} {z : Heap} {p : Program} {loose : List Str} {mean : ExcName → Option Value} {mg mb : Str → Option Value}
set_option maxHeartbeats 4000000 in
theorem st5 {g : LG} {k : Nat} {a : LS} {L : Nat} {op x : Int} {t1 t2 t3 : Tok} {ws : Str} {ch co cp : Obj} {fl : List (Addr × Obj)} {e : Made}
    (X : (hd0.heap_1 w.params).In z) (T : Top p loose mean mg mb z) (C : CodeHd z 281 277) (F : Fr z L s.heap (mapY g.W g.M op x t1 t2 ws t3)) (N : News z L s.heap (newsS w g a L ch co cp fl)) (d1 : ch.data = .cell (some (.ref g.hp))) (d2 : co.data = .cell none) (d3 : cp.data = .cell (some (.ref e.1))) (he : e ∈ a.made)
    (FL : FrL fr fl) (O : LawOK w g k a) (hg : g.Ord) (hLW : g.M < L) (hT : TailOk (a.os ++ fl) g.dh g.M L (L + 3)) (hof : ∀ q ∈ a.os, ∀ p ∈ fl, p.1 ≠ q.1) (hflL : AllLt L fl) (hd : d ≤ 420) (hu : u ≤ 820)
    (hk : ((∀ k ∈ e.ks, k ∈ keysOf a.xs) ∧ ws = "") ∨ ((∀ k ∈ e.ks, k ∉ keysOf a.xs ∧ k ∈ keysOf a.yg) ∧ ws = "misused: a block that is gone")) (hE0 : StepEnd w z L g k fl s Q)
    (hF : ¬op < 7 → ∀ h' tk, Fr z L h' (mapY g.W g.M op x t1 t2 ws t3) → News z L h' (newsS w g a L ch co cp fl) → Q .next { s with heap := h', toks := tk }) :
    wpAny (model PR w) ((mkA d fr u).deeper (env282 L)) (exec (stmtAt lit282.1.body 5) (env282 L)) Q E s := by
  refine use_upL hg.1 hLW fun P9 U9 q100 q101 q102 q103 q104 q105 q106 q107 q108 q109 q110 q111 q112 q113 q114 q115 q116 q117 q118 q119 q120 q121 => ?_
  have sx := O.inv.sv
  have M := O.inv.ok e he
  have PA := O.ptr e he
  have KV := O.KV z
  have hW := O.hW
  have hos := O.hos
  have go := hg.1
  have d3' := d3
  have he' := he
  by_cases ho : op < 7
  · obtain ⟨pa, q0, ts⟩ := e
    cases ts with
    | nil => exact absurd rfl M.ne
    | cons t0 ts0 =>
      dsimp only at PA d3' M
      obtain ⟨c0, i3⟩ := PA.tup
      have i1 := (PA z).inst
      have i2 := (PA z).dict
      have i4 := (PA z).keys t0 (.head _)
      have w1 := ltN (hos _ i1)
      have w2 := ltN (hos _ i2)
      have w3 := ltN (hos _ i3)
      have y1 := (hT _ (List.mem_append_left _ i1)).2.2
      have y2 := (hT _ (List.mem_append_left _ i2)).2.2
      have y3 := (hT _ (List.mem_append_left _ i3)).2.2
      dsimp only at w1 w2 w3 y1 y2 y3
      rw [List.map_cons] at i3
      have No : ∀ q ∈ a.os, _ := fun q hq => N q (by walk_at "tailm")
      have N1 := news_cons (No _ i1) (news_cons (No _ i2) (news_cons (No _ i3) N))
      have hsz := M.size
      rcases hk with ⟨hal, rfl⟩ | ⟨hde, rfl⟩
      · refine ea3_3 (sx.at (hal t0.1 (.head _))) fun b tb tb' v1 v2 hb => ?_
        have hAl : Alive a.xs (t0 :: ts0) := fun t ht => isSome_at.mpr (hal _ (List.mem_map_of_mem ht))
        by_cases hs : (b.size : Int) = q0.size
        · dsimp only [env282, lit282, litMk, stmtAt]
          clear N No
          refine if_T ?_ fun tk7 => ?_
          focus
            walk_at "goL"
            all_goals first | exact ⟨decide_eq_true ho, _, rfl⟩ | (exfalso; omega) | exact ⟨rfl, _, rfl⟩
          walk_at "goI"
          all_goals (try (exfalso; omega))
          refine st5b (e := (pa, q0, t0 :: ts0)) (t0 := t0) (ts0 := ts0) (kind := 1) (b := b) (tb := tb) X T C (by assumption) (subl_of (by assumption) (by walk_at "subl")) d1 d3 he rfl FL O hg hLW hT hof hflL hd hu (.inl ⟨rfl, rfl, hAl, hs, _, rfl⟩) (fun _ => v1) hb ?_
          exact hE0
        · dsimp only [env282, lit282, litMk, stmtAt]
          clear N No
          refine if_T ?_ fun tk7 => ?_
          focus
            walk_at "goL"
            all_goals first | exact ⟨decide_eq_true ho, _, rfl⟩ | (exfalso; omega) | exact ⟨rfl, _, rfl⟩
          walk_at "goI"
          all_goals (try (exfalso; omega))
          refine st5b (e := (pa, q0, t0 :: ts0)) (t0 := t0) (ts0 := ts0) (kind := 2) (b := b) (tb := tb) X T C (by assumption) (subl_of (by assumption) (by walk_at "subl")) d1 d3 he rfl FL O hg hLW hT hof hflL hd hu (.inr (.inl ⟨rfl, rfl, hAl, hs, _, rfl⟩)) (fun _ => v1) hb ?_
          exact hE0
      · have h0 := hde t0.1 (.head _)
        have hv0 : atKey a.xv t0.1 = none := at_none.mpr (sx.keys ▸ h0.1)
        dsimp only [env282, lit282, litMk, stmtAt]
        clear N No
        refine if_T ?_ fun tk7 => ?_
        focus
          walk_at "goL"
          all_goals first | exact ⟨decide_eq_true ho, _, rfl⟩ | (exfalso; omega) | exact ⟨rfl, _, rfl⟩
        walk_at "goI"
        all_goals (try (exfalso; omega))
        all_goals (
          refine st5b (e := (pa, q0, t0 :: ts0)) (t0 := t0) (ts0 := ts0) (kind := 3) (b := #[]) (tb := t3) X T C (by assumption) (subl_of (by assumption) (by walk_at "subl")) d1 d3 he rfl FL O hg hLW hT hof hflL hd hu (.inr (.inr ⟨rfl, rfl, fun t ht => ⟨at_false.mpr (hde t.1 (List.mem_map_of_mem ht)).1, isSome_at.mpr (hde t.1 (List.mem_map_of_mem ht)).2⟩⟩)) (fun h => by rw [at_false.mpr h0.1] at h; cases h) (by decide) ?_
          exact hE0)
  · dsimp only [env282, lit282, litMk, stmtAt]
    walk_at "goL"
    all_goals (try (exfalso; omega))
    exact hF ho _ _ (by assumption) (by assumption)
end

section
variable {prog : Program} {w : World} {A : Around} {E : Value → Shared → Prop} {s : Shared} {env : Env} {h₀ : Heap} {x : Str} {body : List Stmt} {Q : Flow → Shared → Prop}
theorem iter_nil {D : Addr} {m₀ : Str → Option Value} {news : List (Addr × Obj)} (hh : A.handled = none) (F : Fr h₀ env.locals s.heap m₀) (N : News h₀ env.locals s.heap news) (hls : s.heap.IsList D #[]) (hDL : D ≠ env.locals)
    (done : ∀ d h tk, Fr h₀ env.locals h (putM m₀ x d) → News h₀ env.locals h news → Q .next { s with heap := h, toks := tk }) :
    wpAny (model prog w) A (pyIter (.ref D)) (fun it s₂ => LoopAtV prog w A h₀ env x body Q E it s₂) E s := by
  have hlt : D < s.heap.objs.size := by
    refine ea1_2 (hls) fun o ho _ => ?_
    (try clear hls)
    exact Heap.lt_size ho
  have hne : D ≠ s.heap.objs.size := Nat.ne_of_lt hlt
  have hnew := next_is_new F
  refine wpAny_pyIter_list hls ?_
  have W := Walks.list (prog := prog) (w := w) hh s.heap.objs.size D hne #[]
  let J' : Nat → (Str → Option Value) → List (Addr × Obj) → Prop := fun i m₁ news₁ => (∃ d, m₁ = putM m₀ x d) ∧ news₁ = news
  refine mk9_11 s.heap.objs.size ([s.heap.objs.size, D]) ([s.heap.objs.size]) 0 _ _ m₀ news J' rfl W ?_ ?_ ?_ (⟨⟨_, Heap.get?_push_size _ rfl, rfl, rfl⟩, hls.at fun o e => Heap.get?_push_of_some _ e⟩) (F.push _) (fun p hp => ⟨Heap.get?_push_of_some _ (N p hp).1, (N p hp).2⟩) (⟨⟨m₀ x, (putM_self _ _).symm⟩, rfl⟩) ?_ ?_
  · intro hm
    rcases List.mem_cons.mp hm with e | hm
    · exact absurd F.ns.lt (e ▸ Nat.lt_irrefl _)
    · exact hDL (List.mem_singleton.mp hm).symm
  · intro b hb
    rw [List.mem_singleton.mp hb]
    exact hnew
  · intro p hp hI
    exact absurd (Heap.lt_size (N p hp).1) ((List.mem_singleton.mp hI) ▸ Nat.lt_irrefl _)
  · rintro i v m₁ news₁ s₁ own _ hin
    exact absurd hin (Nat.not_lt_zero _)
  · rintro h' tk m' news' F' N' _ ⟨⟨d, rfl⟩, rfl⟩
    exact done d h' tk F' N'
end

section
variable {w : World} {d u : Nat} {fr : List Env} {Q : Flow → Shared → Prop} {E : Value → Shared → Prop} {s : Shared} {z : Heap} {p : Program} {loose : List Str} {mean : ExcName → Option Value} {mg mb : Str → Option Value}
set_option maxHeartbeats 4000000 in
theorem st6a {g : LG} {k : Nat} {a : LS} {L : Nat} {op x : Int} {t1 t2 t3 : Tok} {ch co cp : Obj} {fl : List (Addr × Obj)} {e : Made}
    (X : (hd0.heap_1 w.params).In z) (T : Top p loose mean mg mb z) (F : Fr z L s.heap (mapY g.W g.M op x t1 t2 "" t3)) (N : News z L s.heap (newsS w g a L ch co cp fl)) (d1 : ch.data = .cell (some (.ref g.hp))) (d3 : cp.data = .cell (some (.ref e.1))) (he : e ∈ a.made)
    (O : LawOK w g k a) (hg : g.Ord) (hk : k ≤ 20) (hLW : g.M < L) (hT : TailOk (a.os ++ fl) g.dh g.M L (L + 3)) (hd : d ≤ 420) (hu : u ≤ 820) (hal : ∀ k ∈ e.ks, k ∈ keysOf a.xs)
    (h : ∀ h' tk d n3' n4', Fr z L h' (putM (mapY g.W g.M op x t1 t2 "" t3) "dva" d) → News z L h' (newsS w g { a with xv := dropX a.xv e.2.2, yu := putX (.bool true) a.yu e.2.2, n3 := n3', n4 := n4' } L ch co cp fl) → Q .next { s with heap := h', toks := tk }) :
    wpAny (model PR w) ((mkA d fr u).deeper (env282 L)) (exec (stmtAt (thenOf (stmtAt lit282.1.body 6)) 0) (env282 L)) Q E s := by
  refine use_upL hg.1 hLW fun P9 U9 q100 q101 q102 q103 q104 q105 q106 q107 q108 q109 q110 q111 q112 q113 q114 q115 q116 q117 q118 q119 q120 q121 => ?_
  dsimp only [env282, lit282, litMk, stmtAt, thenOf]
  refine wpAny_mono (Q := Q) (E := fun _ _ => False) ?_ (fun _ _ q => q) (fun _ _ f => f.elim)
  have sx := O.inv.sv
  have M := O.inv.ok e he
  have PA := O.ptr e he
  have KV := O.KV z
  have KU := O.KU z
  have hW := O.hW
  have hos := O.hos
  have go := hg.1
  have lens := O.inv.lens
  have lx := O.lx
  have ly := O.ly
  obtain ⟨pa, q0, ts⟩ := e
  dsimp only at PA d3 M
  have hall : ∀ t ∈ ts, (atKey a.xv t.1).isSome = true := fun t ht => isSome_at.mpr (sx.keys ▸ hal _ (List.mem_map_of_mem ht))
  have hnd := M.nodup
  have hl3 := M.len
  obtain ⟨c0, i3⟩ := PA.tup
  have i1 := (PA z).inst
  have i2 := (PA z).dict
  have i4 := (PA z).keys
  have w1 := ltN (hos _ i1)
  have w2 := ltN (hos _ i2)
  have w3 := ltN (hos _ i3)
  have y1 := (hT _ (List.mem_append_left _ i1)).2.2
  have y2 := (hT _ (List.mem_append_left _ i2)).2.2
  have y3 := (hT _ (List.mem_append_left _ i3)).2.2
  dsimp only at w1 w2 w3 y1 y2 y3
  have No : ∀ q ∈ a.os, _ := fun q hq => N q (by walk_at "tailm")
  have N1 := news_cons (No _ i1) (news_cons (No _ i2) (news_cons (No _ i3) N))
  clear N No
  refine For_invV z (by rfl) (by rfl) ?_
  walk_at "goL"
  refine iter_dva (σ := (List Ent × Nat) × (List Ent × Nat)) (f := fun t : List Int × Nat => Value.ref t.2) (fun y => (q0.D, tupO (ts.map fun t => .ref t.2) c0) :: newsS w g { a with xv := y.1.1, yu := y.2.1, n3 := y.1.2, n4 := y.2.2 } L ch co cp fl)
    (fun y rem => KeysO w z a.os y.1.1 ∧ KeysO w z a.os y.2.1 ∧ dropX y.1.1 rem = dropX a.xv ts ∧ putX (.bool true) y.2.1 rem = putX (.bool true) a.yu ts ∧ (∀ t ∈ rem, (atKey y.1.1 t.1).isSome = true) ∧ y.2.1.length + rem.length < 10000 ∧ (∀ t ∈ rem, KeyO w z a.os t.1 t.2) ∧ (rem.map (·.1)).Nodup)
    ((a.xv, a.n3), (a.yu, a.n4)) rfl (by assumption) (subl_of N1 fun q hq => .tail _ (.tail _ hq)) (.inr fun _ => .head _) ⟨KV, KU, rfl, rfl, hall, by dsimp only; omega, i4, hnd⟩ ?_ ?_
  · clear hall
    intro t rem' y I it h₁ tk₁ hy hI hic F₁ N₁ hnI
    refine and8 hy fun K' K2' e1 e2 hall hlen hkt hnd' => ?_
    clear hy
    have ka := hkt t (.head _)
    have hn2 := List.nodup_cons.mp (show (t.1 :: rem'.map (·.1)).Nodup from hnd')
    have hne : ∀ t' ∈ rem', t'.1 ≠ t.1 := fun t' ht' r => hn2.1 (r ▸ List.mem_map_of_mem (f := fun x : List Int × Nat => x.1) ht')
    have hk := hall t (.head _)
    have hIo : AllLt I (a.os ++ fl) := allLt_of fun p hp => hI p (by repeat (first | exact hp | apply List.mem_cons_of_mem))
    have hIM := ltN (hI (L + 1 + 1 + 1, _) (by k_mem))
    have hIT := ltN (hI (q0.D, _) (by k_mem))
    dsimp only at hIM hIT N₁ hnI
    clear hI
    simp only [List.length_cons] at hlen
    dsimp only [newsS] at N₁
    walk_at "goL"
    refine dva_end ((dropK y.1.1 t.1, _), (storedH y.2.1 t.1 t.2 (.bool true), _)) (by assumption) (by assumption) ?_ ⟨by assumption, by assumption, e1, e2, fun t' ht' => ?_, ?_, fun t' h => hkt t' (.tail _ h), hn2.2⟩
    · k_all
    · rw [atKey_dropK_ne (hne t' ht')]; exact hall t' (.tail _ ht')
    · have := storedH_len y.2.1 t.1 t.2 (.bool true)
      dsimp only
      omega
  · intro d h₁ tk₁ y hy F₁ N₁
    have e1 : y.1.1 = dropX a.xv ts := hy.2.2.1
    have e2 : y.2.1 = putX (.bool true) a.yu ts := hy.2.2.2.1
    rw [e1, e2] at N₁
    exact h _ _ _ _ _ F₁ (subl_of N₁ fun q hq => .tail _ hq)
set_option maxHeartbeats 4000000 in
theorem st6n {g : LG} {a : LS} {L : Nat} {op x : Int} {t1 t2 t3 : Tok} {ch co cp : Obj} {fl : List (Addr × Obj)}
    (X : (hd0.heap_1 w.params).In z) (T : Top p loose mean mg mb z) (F : Fr z L s.heap (mapY g.W g.M op x t1 t2 "misused: a block that is gone" t3)) (N : News z L s.heap (newsS w g a L ch co cp fl)) (hd : d ≤ 420) (hu : u ≤ 820)
    (h : ∀ h' tk d, Fr z L h' (putM (mapY g.W g.M op x t1 t2 "misused: a block that is gone" t3) "dva" d) → News z L h' (newsS w g a L ch co cp fl) → Q .next { s with heap := h', toks := tk }) :
    wpAny (model PR w) ((mkA d fr u).deeper (env282 L)) (exec (stmtAt (thenOf (stmtAt lit282.1.body 6)) 0) (env282 L)) Q E s := by
  dsimp only [env282, lit282, litMk, stmtAt, thenOf]
  refine wpAny_mono (Q := Q) (E := fun _ _ => False) ?_ (fun _ _ q => q) (fun _ _ f => f.elim)
  refine For_invV z (by rfl) (by rfl) ?_
  walk_at "goL"
  rename News _ _ _ _ => N1
  refine iter_nil rfl (by assumption) N1 (N1.isList (.head _)) (N1 _ (.head _)).2.1 fun d h' tk F' N' => ?_
  exact h _ _ _ F' (subl_of N' fun q hq => .tail _ hq)
end

theorem LawOK.kept' {w : World} {g : LG} {k : Nat} {a : LS} (O : LawOK w g k a) {ps' : Array Value} {os' : List (Addr × Obj)} {n3 n4 : Nat} (ts : TabOk (("_law_step" ++ ".<locals>." : Str) ++ ("<lambda>" : Str)) os' ps') (up : ∀ q ∈ a.os, q ∈ os') (hos : ∀ q ∈ os', g.M < q.1) :
    LawOK w g (k + 1) { a with n3 := n3, n4 := n4, ps := ps', os := os' } := by
  obtain ⟨oW1, tw1, ts1, K1, KG1, KV1, KU1, I, ptr, hos1, nx1, wr1, lx, ly, lm⟩ := O
  exact ⟨oW1, tw1.mono up, ts, fun z => (K1 z).mono up, fun z => (KG1 z).mono up, fun z => (KV1 z).mono up, fun z => (KU1 z).mono up, I, fun e he => (ptr e he).mono up, hos, ⟨nx1.1, by push_cast; omega⟩, ⟨wr1.1, by push_cast; omega⟩, by dsimp only; omega, by dsimp only; omega, by dsimp only; omega⟩
theorem LawOK.freed {w : World} {g : LG} {k : Nat} {a : LS} (O : LawOK w g k a) {ps' : Array Value} {os' : List (Addr × Obj)} (ts : TabOk (("_law_step" ++ ".<locals>." : Str) ++ ("<lambda>" : Str)) os' ps') (up : ∀ q ∈ a.os, q ∈ os') (hos : ∀ q ∈ os', g.M < q.1) (hk : k ≤ 20)
    {e : Made} (he : e ∈ a.made) (hal : ∀ k ∈ e.ks, k ∈ keysOf a.xs) {v v' : Value} {n n2 n3 n4 : Nat} :
    LawOK w g (k + 1) { a with xs := dropX a.xs e.2.2, yg := putX v a.yg e.2.2, xv := dropX a.xv e.2.2, yu := putX v' a.yu e.2.2, n := n, n2 := n2, n3 := n3, n4 := n4, ps := ps', os := os' } := by
  obtain ⟨oW1, tw1, ts1, K1, KG1, KV1, KU1, I, ptr, hos1, nx1, wr1, lx, ly, lm⟩ := O
  have hl := (I.ok e he).len
  have hlens := I.lens
  have kt : ∀ z, ∀ t ∈ e.2.2, KeyO w z os' t.1 t.2 := fun z t ht => ((ptr e he z).keys t ht).mono up
  have l1 := len_dropX (ts := e.2.2) (xs := a.xs)
  have l2 := len_putX (v := v) (ts := e.2.2) (xs := a.yg)
  exact ⟨oW1, tw1.mono up, ts, fun z => ((K1 z).mono up).dropX', fun z => KeysO.putX' ((KG1 z).mono up) (kt z) (by omega), fun z => ((KV1 z).mono up).dropX', fun z => KeysO.putX' ((KU1 z).mono up) (kt z) (by omega), I.free he hal, fun e he => (ptr e he).mono up, hos, ⟨nx1.1, by push_cast; omega⟩, ⟨wr1.1, by push_cast; omega⟩, by dsimp only; omega, by dsimp only; omega, by dsimp only; omega⟩
section
variable {w : World} {d u : Nat} {fr : List Env} {Q : Flow → Shared → Prop} {E : Value → Shared → Prop} {s : Shared} {z : Heap} {p : Program} {loose : List Str} {mean : ExcName → Option Value} {mg mb : Str → Option Value}
set_option maxHeartbeats 4000000 in
theorem st6b {g : LG} {k : Nat} {a : LS} {L : Nat} {op x : Int} {t1 t2 t3 : Tok} {ws : Str} {dv : Option Value} {ch co cp : Obj} {fl : List (Addr × Obj)} {e : Made} {t0 : List Int × Nat} {ts0 : List (List Int × Nat)} {xv1 yu1 : List Ent} {n31 n41 : Nat}
    (X : (hd0.heap_1 w.params).In z) (T : Top p loose mean mg mb z) (C : CodeHd z 281 277) (F : Fr z L s.heap (putM (mapY g.W g.M op x t1 t2 ws t3) "dva" dv)) (N : News z L s.heap (newsS w g { a with xv := xv1, yu := yu1, n3 := n31, n4 := n41 } L ch co cp fl)) (d1 : ch.data = .cell (some (.ref g.hp))) (d3 : cp.data = .cell (some (.ref e.1))) (he : e ∈ a.made) (hts : e.2.2 = t0 :: ts0)
    (FL : FrL fr fl) (O : LawOK w g k a) (hg : g.Ord) (hLW : g.M < L) (hT : TailOk (a.os ++ fl) g.dh g.M L (L + 3)) (hof : ∀ q ∈ a.os, ∀ p ∈ fl, p.1 ≠ q.1) (hflL : AllLt L fl) (hd : d ≤ 420) (hu : u ≤ 820)
    (hkk : k ≤ 20) (hk : ((∀ k ∈ e.ks, k ∈ keysOf a.xs) ∧ ws = "" ∧ xv1 = dropX a.xv e.2.2 ∧ yu1 = putX (.bool true) a.yu e.2.2) ∨ ((∀ k ∈ e.ks, k ∉ keysOf a.xs ∧ k ∈ keysOf a.yg) ∧ ws = "misused: a block that is gone" ∧ xv1 = a.xv ∧ yu1 = a.yu))
    (hE0 : StepEnd w z L g k fl s Q) :
    wpAny (model PR w) ((mkA d fr u).deeper (env282 L)) (exec (stmtAt (thenOf (stmtAt lit282.1.body 6)) 1) (env282 L)) Q E s := by
  refine use_upL hg.1 hLW fun P9 U9 q100 q101 q102 q103 q104 q105 q106 q107 q108 q109 q110 q111 q112 q113 q114 q115 q116 q117 q118 q119 q120 q121 => ?_
  dsimp only [env282, lit282, litMk, stmtAt, thenOf]
  have go := hg.1
  have tb0 := O.ts
  have hos := O.hos
  have PA := O.ptr e he
  have M := O.inv.ok e he
  have lens := O.inv.lens
  have ly := O.ly
  have hEnd1 := fun ps' os' ts up hos hal (v v' : Value) n n2 n3 n4 => O.freed (ps' := ps') (os' := os') ts up hos hkk he hal (v := v) (v' := v') (n := n) (n2 := n2) (n3 := n3) (n4 := n4)
  obtain ⟨pa, q0, ts⟩ := e
  dsimp only at PA d3 hts M
  subst hts
  have hl3 := M.len
  simp only [List.length_cons] at hl3
  dsimp only [newsS] at N
  walk_at "goM"
  rename Fr _ _ _ _ => F9
  rename News _ _ _ _ => N9
  refine kla_eval (by rfl) ?_
  refine' lam_any (x0 := g.M) F9 N9 T C ?cd ?U tb0 ?hc ?cl ?hx ?h0 ?_
  case cd => exact rfl
  case U => k_updF
  case hc => walk_at "subl"
  case cl => with_unfolding_all rfl
  case hx => exact hos
  case h0 => k_mem
  intro f c' oc ctv ps' h3 tk3 F3 N3 hco tb' hlf hlc hxc hcn
  (try dsimp only at N3)
  have hosT : TailOk a.os g.dh g.M L (L + 3) := hT.left
  have hfT : TailOk fl g.dh g.M L (L + 3) := hT.right
  have hcf : ∀ p ∈ fl, p.1 ≠ c' := fun p hp => by
    rcases hcn with h | h
    · exact Nat.ne_of_lt (h p (by walk_at "tailm"))
    · exact hof _ h p hp
  have hcL : @LT.lt Nat _ c' L ∨ @LT.lt Nat _ (L + 3) c' := by
    rcases hcn with h | h
    · exact .inr (h (L + 1 + 1 + 1, _) (by k_mem))
    · exact (hT _ (List.mem_append_left _ h)).2.2
  k_lt hlf; k_lt2 hlc; k_lt2 hxc
  have hMf := ltN (Nat.lt_trans hxc hlc)
  have hflf : @LT.lt Nat _ (L + 3) f := by omega
  clear N9 F9
  walk_at "goM"
  refine' (fun N10 => ?main) (subl_of (mt := led4 w g.hp g.dh g.B g.G g.HT g.sec a.nxt a.wr a.tn a.tw a.xs a.yg a.n a.n2 ++ (((g.W, a.oW) :: (g.V, tD w xv1 n31) :: (g.U, tD w yu1 n41) :: (g.M, listOf ((a.made.map (·.1)).map fun a => Value.ref a).toArray a.nM) :: (272, tabObj a.pw) :: (277, tabObj ps') :: (f, ?fo) :: (c', oc) :: (L + 1, ch) :: (L + 1 + 1, co) :: (L + 1 + 1 + 1, cp) :: a.os) ++ fl)) N3 ?sub)
  case sub =>
    simp only [led4, List.cons_append, List.nil_append]
    walk_at "subl"
  case main =>
    refine' told_call (mt := led4 w g.hp g.dh g.B g.G g.HT g.sec a.nxt a.wr a.tn a.tw a.xs a.yg a.n a.n2) (fl := fl) (fun v mt' => (∃ tt n n2, mt' = led4 w g.hp g.dh g.B g.G g.HT g.sec a.nxt a.wr a.tn a.tw (dropX a.xs (t0 :: ts0)) (putX (.int 4 tt) a.yg (t0 :: ts0)) n n2) ∧ (atKey a.xs t0.1).isSome = true ∧ v = .none) (fun C why mt' => mt' = led4 w g.hp g.dh g.B g.G g.HT g.sec a.nxt a.wr a.tn a.tw a.xs a.yg a.n a.n2 ∧ (atKey a.xs t0.1).isSome = false ∧ C = 56 ∧ why = goneStr (atKey a.yg t0.1).isSome) X T F3 N10 (apart_of (by walk_at "apart")) (apart_of (by walk_at "apart")) (by walk_at "apart") FL rfl kind_ne ?hfn (by omega) (by omega) ?hcall ?hok ?her
    case hfn => k_dflt k_mem
    case hcall =>
      intro z' env2 s' hz' hr' P' FF hsz
      have X' := X.keeps hz'
      have T' := T.keeps hz'
      simp only [List.forall_mem_cons] at hr'
      refine and12 hr' fun eW eV eU eM eT eS ef ec e1 e2 e3 eo => ?_
      clear hr'
      clear F3 N3 N10
      refine enterL T' P' ef ec hco (by k_room) (by rfl) rfl rfl rfl (by decide) ?_
      intro L2 h4 tk4 F4 N4 hL4 hst4
      walk_at "goM"
      rename News z' _ _ _ => N5
      rename Fr z' _ _ _ => F5
      have Nm : News z' L2 _ (led4 w g.hp g.dh g.B g.G g.HT g.sec a.nxt a.wr a.tn a.tw a.xs a.yg a.n a.n2) := subl_of N5 (by walk_at "subl")
      have hb0 := hid_base F5 Nm
      refine through rfl rfl F5 Nm F5.above (fun _ _ => rfl) ?_
      refine codeAny_mono (free_ends (d := d + 3) (u := u + 9) (X'.keeps hb0) (T'.keeps hb0) (Pre.of Nm) (((PA z').at (fun _ _ e => e) eo).keeps hb0) (keysZ (keysB (O.K z) hz' eo) hb0) (keysZ (keysB (O.KG z) hz' eo) hb0) (by omega) (by omega) (by omega) (by omega) (ffr_hidN FF F5 Nm rfl kind_ne) ⟨go.2.1, go.2.2.1, go.2.2.2.1⟩ ?_ M.nodup (by simp only [List.length_cons]; omega)) fun r s'' hr => hr.mono (fun v mt hO => ⟨?_, hO.2⟩) fun _ _ _ h => h
      · rcases hk with ⟨h, _⟩ | ⟨h, _⟩
        · exact .inl fun t ht => isSome_at.mpr (h _ (List.mem_map_of_mem ht))
        · exact .inr (at_false.mpr (h t0.1 (.head _)).1)
      · obtain ⟨⟨n, n2, h⟩, _⟩ := hO
        exact mk3_1 _ n n2 h
    case hok =>
      intro h6 tk6 v mt' fl' S6 hO F6 N6
      refine ea0_3 (hO) fun sz0 hs rz2 => ?_
      (try clear hO)
      obtain ⟨tt, n', n2', rfl⟩ := sz0
      subst rz2
      rcases hk with hk | hk
      · refine ea0_4 hk fun hal e1 e2 e3 => ?_
        clear hk
        subst e1 e2 e3
        simp only [led4, List.cons_append, List.nil_append] at N6
        walk_at "goL"
        rename News _ _ _ _ => N7
        exact hE0 _ _ { a with xs := dropX a.xs (t0 :: ts0), yg := putX (.int 4 tt) a.yg (t0 :: ts0), xv := dropX a.xv (t0 :: ts0), yu := putX (.bool true) a.yu (t0 :: ts0), n := n', n2 := n2', n3 := n31, n4 := n41, ps := ps', os := (c', oc) :: a.os } fl' _ S6 (hEnd1 _ _ tb' (fun q hq => .tail _ hq) (List.forall_mem_cons.mpr ⟨hxc, hos⟩) hal _ _ _ _ _ _) (off_os S6 hcf hof) (by assumption) (subl_of N7 (listK_mem rfl))
      · exact absurd hs (by rw [at_false.mpr (hk.1 t0.1 (.head _)).1]; decide)
    case her =>
      intro h6 tk6 C why mt' fl' t6 S6 hE F6 N6
      refine ea0_4 (hE) fun rz0 hs rz2 rz3 => ?_
      (try clear hE)
      subst rz0
      subst rz2
      subst rz3
      rcases hk with hk | hk
      · exact absurd hs (by rw [isSome_at.mpr (hk.1 t0.1 (.head _))]; decide)
      · refine ea0_4 hk fun hde e1 e2 e3 => ?_
        clear hk
        subst e1 e2 e3
        rw [isSome_at.mpr (hde t0.1 (.head _)).2, goneS_t]
        simp only [led4, List.cons_append, List.nil_append] at N6
        walk_at "goL"
        rename News _ _ _ _ => N7
        rw [show (("misused: a block that is gone" : Str) == "misused: a block that is gone") = true from by rfl]
        exact hE0 _ _ { a with n3 := n31, n4 := n41, ps := ps', os := (c', oc) :: a.os } fl' _ S6 (O.kept' tb' (fun q hq => .tail _ hq) (List.forall_mem_cons.mpr ⟨hxc, hos⟩)) (off_os S6 hcf hof) (by assumption) (subl_of N7 (listK_mem rfl))
end

section
variable {w : World} {d u : Nat} {fr : List Env} {Q : Flow → Shared → Prop} {E : Value → Shared → Prop} {s : Shared} {z : Heap} {p : Program} {loose : List Str} {mean : ExcName → Option Value} {mg mb : Str → Option Value}
set_option maxHeartbeats 4000000 in
theorem st6 {g : LG} {k : Nat} {a : LS} {L : Nat} {op x : Int} {t1 t2 t3 : Tok} {ws : Str} {ch co cp : Obj} {fl : List (Addr × Obj)} {e : Made}
    (X : (hd0.heap_1 w.params).In z) (T : Top p loose mean mg mb z) (C : CodeHd z 281 277) (F : Fr z L s.heap (mapY g.W g.M op x t1 t2 ws t3)) (N : News z L s.heap (newsS w g a L ch co cp fl)) (d1 : ch.data = .cell (some (.ref g.hp))) (d3 : cp.data = .cell (some (.ref e.1))) (he : e ∈ a.made)
    (FL : FrL fr fl) (O : LawOK w g k a) (hg : g.Ord) (hkk : k ≤ 20) (hLW : g.M < L) (hT : TailOk (a.os ++ fl) g.dh g.M L (L + 3)) (hof : ∀ q ∈ a.os, ∀ p ∈ fl, p.1 ≠ q.1) (hflL : AllLt L fl) (hd : d ≤ 420) (hu : u ≤ 820)
    (hk : ((∀ k ∈ e.ks, k ∈ keysOf a.xs) ∧ ws = "") ∨ ((∀ k ∈ e.ks, k ∉ keysOf a.xs ∧ k ∈ keysOf a.yg) ∧ ws = "misused: a block that is gone")) (hE0 : StepEnd w z L g k fl s Q)
    (hF : ¬(op = 7 ∨ op = 8) → ∀ h' tk, Fr z L h' (mapY g.W g.M op x t1 t2 ws t3) → News z L h' (newsS w g a L ch co cp fl) → Q .next { s with heap := h', toks := tk }) :
    wpAny (model PR w) ((mkA d fr u).deeper (env282 L)) (exec (stmtAt lit282.1.body 6) (env282 L)) Q E s := by
  obtain ⟨t0, ts0, hts⟩ : ∃ t0 ts0, e.2.2 = t0 :: ts0 := by
    have := (O.inv.ok e he).ne
    cases h : e.2.2 with
    | nil => exact absurd h this
    | cons t0 ts0 => exact ⟨t0, ts0, rfl⟩
  have go := hg.1
  dsimp only [env282, lit282, litMk, stmtAt, thenOf]
  by_cases ho : op = 7 ∨ op = 8
  · refine if_T ?_ fun tk7 => ?_
    focus
      walk_at "goL"
      all_goals first | (exfalso; omega) | exact ⟨rfl, _, rfl⟩ | exact ⟨decide_eq_true (by omega), _, rfl⟩
    rcases hk with ⟨hal, rfl⟩ | ⟨hde, rfl⟩
    · walk_at "goI"
      refine st6a (e := e) X T (by assumption) (by assumption) d1 d3 he O hg hkk hLW hT hd hu hal fun h' tk dv n3' n4' F' N' => ?_
      walk_at "goI"
      refine st6b (e := e) (t0 := t0) (ts0 := ts0) X T C F' N' d1 d3 he hts FL O hg hLW hT hof hflL hd hu hkk (.inl ⟨hal, rfl, rfl, rfl⟩) ?_
      exact hE0
    · walk_at "goI"
      refine st6n X T (by assumption) (by assumption) hd hu fun h' tk dv F' N' => ?_
      walk_at "goI"
      refine st6b (e := e) (t0 := t0) (ts0 := ts0) (xv1 := a.xv) (yu1 := a.yu) (n31 := a.n3) (n41 := a.n4) X T C F' N' d1 d3 he hts FL O hg hLW hT hof hflL hd hu hkk (.inr ⟨hde, rfl, rfl, rfl⟩) ?_
      exact hE0
  · walk_at "goL"
    all_goals (try (exfalso; omega))
    exact hF ho _ _ (by assumption) (by assumption)
set_option maxHeartbeats 4000000 in
theorem st7 {g : LG} {a : LS} {L : Nat} {op x : Int} {t1 t2 t3 : Tok} {ws : Str} {ch co cp : Obj} {fl : List (Addr × Obj)}
    (X : (hd0.heap_1 w.params).In z) (T : Top p loose mean mg mb z) (F : Fr z L s.heap (mapY g.W g.M op x t1 t2 ws t3)) (N : News z L s.heap (newsS w g a L ch co cp fl)) (d2 : co.data = .cell none)
    (hg : g.Ord) (hLW : g.M < L) (hT : TailOk (a.os ++ fl) g.dh g.M L (L + 3)) (hx : 0 ≤ x ∧ x < 2 ^ 40) (hd : d ≤ 420) (hu : u ≤ 820)
    (h : ∀ h' tk co' b tO, co'.data = .cell (some (.bytes b tO)) → b.size ≤ 40 → Fr z L h' (mapY g.W g.M op x t1 t2 ws t3) → News z L h' (newsS w g a L ch co' cp fl) → Q .next { s with heap := h', toks := tk }) :
    wpAny (model PR w) ((mkA d fr u).deeper (env282 L)) (exec (stmtAt lit282.1.body 7) (env282 L)) Q E s := by
  refine use_upL hg.1 hLW fun P9 U9 q100 q101 q102 q103 q104 q105 q106 q107 q108 q109 q110 q111 q112 q113 q114 q115 q116 q117 q118 q119 q120 q121 => ?_
  have go := hg.1
  dsimp only [env282, lit282, litMk, stmtAt, thenOf]
  walk_at "goL"
  rename News _ _ _ _ => N1
  rename IntsAre _ _ => i1
  have hn : ((x.fdiv 16).fmod 41).toNat ≤ 40 := by
    have h1 := fmod_hi (x.fdiv 16) (n := 41) (by decide)
    omega
  have e : (List.replicate ((x.fdiv 16).fmod 41).toNat [(3 : Int)]).flatten = List.replicate ((x.fdiv 16).fmod 41).toNat 3 := List.flatten_replicate_singleton
  rw [e] at i1
  refine KBa.make_K (by assumption) N1 rfl (N1.isList (.head _)) i1 (fun n hn => by rw [List.eq_of_mem_replicate hn]; decide) (by rw [List.length_replicate]; omega) fun h' t' k' F' N' hi => ?_
  clear N1
  walk_at "goL"
  exact h _ _ _ _ _ (by assumption) (by rw [byteArr_size, List.length_replicate]; exact hn) (by assumption) (subl_of (by assumption) (by walk_at "subl"))
end

theorem LawOK.harmed {w : World} {g : LG} {k : Nat} {a : LS} (O : LawOK w g k a) {ps' : Array Value} {os' : List (Addr × Obj)} (ts : TabOk (("_law_step" ++ ".<locals>." : Str) ++ ("<lambda>" : Str)) os' ps') (up : ∀ q ∈ a.os, q ∈ os') (hos : ∀ q ∈ os', g.M < q.1) (hk : k ≤ 20)
    {e : Made} (he : e ∈ a.made) (hal : ∀ k ∈ e.ks, k ∈ keysOf a.xs) {b : Array UInt8} (hb : b.size ≤ 40) {t : Tok} {n n3 : Nat} :
    LawOK w g (k + 1) { a with xs := putX (.bytes b t) a.xs e.2.2, xv := putX (.bytes b t) a.xv e.2.2, n := n, n3 := n3, ps := ps', os := os' } := by
  obtain ⟨oW1, tw1, ts1, K1, KG1, KV1, KU1, I, ptr, hos1, nx1, wr1, lx, ly, lm⟩ := O
  have hl := (I.ok e he).len
  have hlens := I.lens
  have kt : ∀ z, ∀ t ∈ e.2.2, KeyO w z os' t.1 t.2 := fun z t ht => ((ptr e he z).keys t ht).mono up
  have l1 := len_putX (v := .bytes b t) (ts := e.2.2) (xs := a.xs)
  exact ⟨oW1, tw1.mono up, ts, fun z => KeysO.putX' ((K1 z).mono up) (kt z) (by omega), fun z => (KG1 z).mono up, fun z => KeysO.putX' ((KV1 z).mono up) (kt z) (by omega), fun z => (KU1 z).mono up, I.same he hal hb rfl rfl, fun e he => (ptr e he).mono up, hos, ⟨nx1.1, by push_cast; omega⟩, ⟨wr1.1, by push_cast; omega⟩, by dsimp only; omega, by dsimp only; omega, by dsimp only; omega⟩
section
variable {w : World} {d u : Nat} {fr : List Env} {Q : Flow → Shared → Prop} {E : Value → Shared → Prop} {s : Shared} {z : Heap} {p : Program} {loose : List Str} {mean : ExcName → Option Value} {mg mb : Str → Option Value}
set_option maxHeartbeats 4000000 in
theorem st8a {g : LG} {k : Nat} {a : LS} {L : Nat} {op x : Int} {t1 t2 t3 : Tok} {ch co cp : Obj} {fl : List (Addr × Obj)} {e : Made} {b : Array UInt8} {tO : Tok}
    (X : (hd0.heap_1 w.params).In z) (T : Top p loose mean mg mb z) (F : Fr z L s.heap (mapY g.W g.M op x t1 t2 "" t3)) (N : News z L s.heap (newsS w g a L ch co cp fl)) (d2 : co.data = .cell (some (.bytes b tO))) (d1 : ch.data = .cell (some (.ref g.hp))) (d3 : cp.data = .cell (some (.ref e.1))) (he : e ∈ a.made)
    (O : LawOK w g k a) (hg : g.Ord) (hk : k ≤ 20) (hLW : g.M < L) (hT : TailOk (a.os ++ fl) g.dh g.M L (L + 3)) (hd : d ≤ 420) (hu : u ≤ 820) (hal : ∀ k ∈ e.ks, k ∈ keysOf a.xs)
    (h : ∀ h' tk d n3', Fr z L h' (putM (mapY g.W g.M op x t1 t2 "" t3) "dva" d) → News z L h' (newsS w g { a with xv := putX (.bytes b tO) a.xv e.2.2, n3 := n3' } L ch co cp fl) → Q .next { s with heap := h', toks := tk }) :
    wpAny (model PR w) ((mkA d fr u).deeper (env282 L)) (exec (stmtAt lit282.1.body 8) (env282 L)) Q E s := by
  refine use_upL hg.1 hLW fun P9 U9 q100 q101 q102 q103 q104 q105 q106 q107 q108 q109 q110 q111 q112 q113 q114 q115 q116 q117 q118 q119 q120 q121 => ?_
  dsimp only [env282, lit282, litMk, stmtAt, thenOf]
  refine wpAny_mono (Q := Q) (E := fun _ _ => False) ?_ (fun _ _ q => q) (fun _ _ f => f.elim)
  have sx := O.inv.sv
  have M := O.inv.ok e he
  have PA := O.ptr e he
  have KV := O.KV z
  have KU := O.KU z
  have hW := O.hW
  have hos := O.hos
  have go := hg.1
  have lens := O.inv.lens
  have lx := O.lx
  have ly := O.ly
  obtain ⟨pa, q0, ts⟩ := e
  dsimp only at PA d3 M
  have hnd := M.nodup
  have hl3 := M.len
  obtain ⟨c0, i3⟩ := PA.tup
  have i1 := (PA z).inst
  have i2 := (PA z).dict
  have i4 := (PA z).keys
  have w1 := ltN (hos _ i1)
  have w2 := ltN (hos _ i2)
  have w3 := ltN (hos _ i3)
  have y1 := (hT _ (List.mem_append_left _ i1)).2.2
  have y2 := (hT _ (List.mem_append_left _ i2)).2.2
  have y3 := (hT _ (List.mem_append_left _ i3)).2.2
  dsimp only at w1 w2 w3 y1 y2 y3
  have No : ∀ q ∈ a.os, _ := fun q hq => N q (by walk_at "tailm")
  have N1 := news_cons (No _ i1) (news_cons (No _ i2) (news_cons (No _ i3) N))
  clear N No
  refine For_invV z (by rfl) (by rfl) ?_
  walk_at "goL"
  refine iter_dva (σ := List Ent × Nat) (f := fun t : List Int × Nat => Value.ref t.2) (fun y => (q0.D, tupO (ts.map fun t => .ref t.2) c0) :: newsS w g { a with xv := y.1, n3 := y.2 } L ch co cp fl)
    (fun y rem => KeysO w z a.os y.1 ∧ putX (.bytes b tO) y.1 rem = putX (.bytes b tO) a.xv ts ∧ y.1.length + rem.length < 10000 ∧ (∀ t ∈ rem, KeyO w z a.os t.1 t.2)) (a.xv, a.n3) rfl (by assumption) (subl_of N1 fun q hq => .tail _ (.tail _ hq)) (.inr fun _ => .head _) ⟨KV, rfl, by dsimp only; omega, i4⟩ ?_ ?_
  · intro t rem' y I it h₁ tk₁ hy hI hic F₁ N₁ hnI
    refine and4 hy fun K' e1 hlen hkt => ?_
    clear hy
    have ka := hkt t (.head _)
    have hIo : AllLt I (a.os ++ fl) := allLt_of fun p hp => hI p (by repeat (first | exact hp | apply List.mem_cons_of_mem))
    have hIM := ltN (hI (L + 1 + 1 + 1, _) (by k_mem))
    have hIT := ltN (hI (q0.D, _) (by k_mem))
    dsimp only at hIM hIT N₁ hnI
    clear hI
    simp only [List.length_cons] at hlen
    dsimp only [newsS] at N₁
    walk_at "goL"
    refine dva_end (storedH y.1 t.1 t.2 (.bytes b tO), _) (by assumption) (by assumption) ?_ ⟨by assumption, e1, ?_, fun t' h => hkt t' (.tail _ h)⟩
    · k_all
    · have := storedH_len y.1 t.1 t.2 (.bytes b tO)
      dsimp only
      omega
  · intro d h₁ tk₁ y hy F₁ N₁
    have e1 : y.1 = putX (.bytes b tO) a.xv ts := hy.2.1
    rw [e1] at N₁
    exact h _ _ _ _ F₁ (subl_of N₁ fun q hq => .tail _ hq)
set_option maxHeartbeats 4000000 in
theorem st8n {g : LG} {a : LS} {L : Nat} {op x : Int} {t1 t2 t3 : Tok} {ch co cp : Obj} {fl : List (Addr × Obj)}
    (X : (hd0.heap_1 w.params).In z) (T : Top p loose mean mg mb z) (F : Fr z L s.heap (mapY g.W g.M op x t1 t2 "misused: a block that is gone" t3)) (N : News z L s.heap (newsS w g a L ch co cp fl)) (hd : d ≤ 420) (hu : u ≤ 820)
    (h : ∀ h' tk d, Fr z L h' (putM (mapY g.W g.M op x t1 t2 "misused: a block that is gone" t3) "dva" d) → News z L h' (newsS w g a L ch co cp fl) → Q .next { s with heap := h', toks := tk }) :
    wpAny (model PR w) ((mkA d fr u).deeper (env282 L)) (exec (stmtAt lit282.1.body 8) (env282 L)) Q E s := by
  dsimp only [env282, lit282, litMk, stmtAt, thenOf]
  refine wpAny_mono (Q := Q) (E := fun _ _ => False) ?_ (fun _ _ q => q) (fun _ _ f => f.elim)
  refine For_invV z (by rfl) (by rfl) ?_
  walk_at "goL"
  rename News _ _ _ _ => N1
  refine iter_nil rfl (by assumption) N1 (N1.isList (.head _)) (N1 _ (.head _)).2.1 fun d h' tk F' N' => ?_
  exact h _ _ _ F' (subl_of N' fun q hq => .tail _ hq)
set_option maxHeartbeats 4000000 in
theorem st9 {g : LG} {k : Nat} {a : LS} {L : Nat} {op x : Int} {t1 t2 t3 : Tok} {ws : Str} {dv : Option Value} {ch co cp : Obj} {fl : List (Addr × Obj)} {e : Made} {t0 : List Int × Nat} {ts0 : List (List Int × Nat)} {xv1 : List Ent} {n31 : Nat} {b : Array UInt8} {tO : Tok}
    (X : (hd0.heap_1 w.params).In z) (T : Top p loose mean mg mb z) (C : CodeHd z 281 277) (F : Fr z L s.heap (putM (mapY g.W g.M op x t1 t2 ws t3) "dva" dv)) (N : News z L s.heap (newsS w g { a with xv := xv1, n3 := n31 } L ch co cp fl)) (d2 : co.data = .cell (some (.bytes b tO))) (hb : b.size ≤ 40) (d1 : ch.data = .cell (some (.ref g.hp))) (d3 : cp.data = .cell (some (.ref e.1))) (he : e ∈ a.made) (hts : e.2.2 = t0 :: ts0)
    (FL : FrL fr fl) (O : LawOK w g k a) (hg : g.Ord) (hLW : g.M < L) (hT : TailOk (a.os ++ fl) g.dh g.M L (L + 3)) (hof : ∀ q ∈ a.os, ∀ p ∈ fl, p.1 ≠ q.1) (hflL : AllLt L fl) (hd : d ≤ 420) (hu : u ≤ 820)
    (hkk : k ≤ 20) (hk : ((∀ k ∈ e.ks, k ∈ keysOf a.xs) ∧ ws = "" ∧ xv1 = putX (.bytes b tO) a.xv e.2.2) ∨ ((∀ k ∈ e.ks, k ∉ keysOf a.xs ∧ k ∈ keysOf a.yg) ∧ ws = "misused: a block that is gone" ∧ xv1 = a.xv))
    (hE0 : StepEnd w z L g k fl s Q) :
    wpAny (model PR w) ((mkA d fr u).deeper (env282 L)) (exec (stmtAt lit282.1.body 9) (env282 L)) Q E s := by
  refine use_upL hg.1 hLW fun P9 U9 q100 q101 q102 q103 q104 q105 q106 q107 q108 q109 q110 q111 q112 q113 q114 q115 q116 q117 q118 q119 q120 q121 => ?_
  dsimp only [env282, lit282, litMk, stmtAt, thenOf]
  have go := hg.1
  have tb0 := O.ts
  have hos := O.hos
  have PA := O.ptr e he
  have M := O.inv.ok e he
  have lens := O.inv.lens
  have lx := O.lx
  have hEnd1 := fun ps' os' ts up hos hal n n3 => O.harmed (ps' := ps') (os' := os') ts up hos hkk he hal hb (t := tO) (n := n) (n3 := n3)
  obtain ⟨pa, q0, ts⟩ := e
  dsimp only at PA d3 hts M
  subst hts
  have hl3 := M.len
  simp only [List.length_cons] at hl3
  dsimp only [newsS] at N
  walk_at "goM"
  rename Fr _ _ _ _ => F9
  rename News _ _ _ _ => N9
  refine kla_eval (by rfl) ?_
  refine' lam_any (x0 := g.M) F9 N9 T C ?cd ?U tb0 ?hc ?cl ?hx ?h0 ?_
  case cd => exact rfl
  case U => k_updF
  case hc => walk_at "subl"
  case cl => with_unfolding_all rfl
  case hx => exact hos
  case h0 => k_mem
  intro f c' oc ctv ps' h3 tk3 F3 N3 hco tb' hlf hlc hxc hcn
  (try dsimp only at N3)
  have hosT : TailOk a.os g.dh g.M L (L + 3) := hT.left
  have hfT : TailOk fl g.dh g.M L (L + 3) := hT.right
  have hcf : ∀ p ∈ fl, p.1 ≠ c' := fun p hp => by
    rcases hcn with h | h
    · exact Nat.ne_of_lt (h p (by walk_at "tailm"))
    · exact hof _ h p hp
  have hcL : @LT.lt Nat _ c' L ∨ @LT.lt Nat _ (L + 3) c' := by
    rcases hcn with h | h
    · exact .inr (h (L + 1 + 1 + 1, _) (by k_mem))
    · exact (hT _ (List.mem_append_left _ h)).2.2
  k_lt hlf; k_lt2 hlc; k_lt2 hxc
  have hMf := ltN (Nat.lt_trans hxc hlc)
  have hflf : @LT.lt Nat _ (L + 3) f := by omega
  clear N9 F9
  walk_at "goM"
  refine' (fun N10 => ?main) (subl_of (mt := led4 w g.hp g.dh g.B g.G g.HT g.sec a.nxt a.wr a.tn a.tw a.xs a.yg a.n a.n2 ++ (((g.W, a.oW) :: (g.V, tD w xv1 n31) :: (g.U, tD w a.yu a.n4) :: (g.M, listOf ((a.made.map (·.1)).map fun a => Value.ref a).toArray a.nM) :: (272, tabObj a.pw) :: (277, tabObj ps') :: (f, ?fo) :: (c', oc) :: (L + 1, ch) :: (L + 1 + 1, co) :: (L + 1 + 1 + 1, cp) :: a.os) ++ fl)) N3 ?sub)
  case sub =>
    simp only [led4, List.cons_append, List.nil_append]
    walk_at "subl"
  case main =>
    refine' told_call (mt := led4 w g.hp g.dh g.B g.G g.HT g.sec a.nxt a.wr a.tn a.tw a.xs a.yg a.n a.n2) (fl := fl) (fun v mt' => (∃ n, mt' = led4 w g.hp g.dh g.B g.G g.HT g.sec a.nxt a.wr a.tn a.tw (putX (.bytes b tO) a.xs (t0 :: ts0)) a.yg n a.n2) ∧ (atKey a.xs t0.1).isSome = true ∧ v = .none) (fun C why mt' => mt' = led4 w g.hp g.dh g.B g.G g.HT g.sec a.nxt a.wr a.tn a.tw a.xs a.yg a.n a.n2 ∧ (atKey a.xs t0.1).isSome = false ∧ C = 56 ∧ why = goneStr (atKey a.yg t0.1).isSome) X T F3 N10 (apart_of (by walk_at "apart")) (apart_of (by walk_at "apart")) (by walk_at "apart") FL rfl kind_ne ?hfn (by omega) (by omega) ?hcall ?hok ?her
    case hfn => k_dflt k_mem
    case hcall =>
      intro z' env2 s' hz' hr' P' FF hsz
      have X' := X.keeps hz'
      have T' := T.keeps hz'
      simp only [List.forall_mem_cons] at hr'
      refine and12 hr' fun eW eV eU eM eT eS ef ec e1 e2 e3 eo => ?_
      clear hr'
      clear F3 N3 N10
      refine enterL T' P' ef ec hco (by k_room) (by rfl) rfl rfl rfl (by decide) ?_
      intro L2 h4 tk4 F4 N4 hL4 hst4
      walk_at "goM"
      rename News z' _ _ _ => N5
      rename Fr z' _ _ _ => F5
      have Nm : News z' L2 _ (led4 w g.hp g.dh g.B g.G g.HT g.sec a.nxt a.wr a.tn a.tw a.xs a.yg a.n a.n2) := subl_of N5 (by walk_at "subl")
      have hb0 := hid_base F5 Nm
      refine through rfl rfl F5 Nm F5.above (fun _ _ => rfl) ?_
      refine harm_ends (d := d + 3) (u := u + 9) (X'.keeps hb0) (T'.keeps hb0) (Pre.of Nm) (((PA z').at (fun _ _ e => e) eo).keeps hb0) (keysZ (keysB (O.K z) hz' eo) hb0) (keysZ (keysB (O.KG z) hz' eo) hb0) (by omega) (by omega) (by omega) (by omega) (ffr_hidN FF F5 Nm rfl kind_ne) ⟨go.2.1, go.2.2.1, go.2.2.2.1⟩ ?_ M.nodup (by simp only [List.length_cons]; omega) (Nat.le_trans hb (by decide))
      rcases hk with ⟨h, _⟩ | ⟨h, _⟩
      · exact .inl fun t ht => isSome_at.mpr (h _ (List.mem_map_of_mem ht))
      · exact .inr (at_false.mpr (h t0.1 (.head _)).1)
    case hok =>
      intro h6 tk6 v mt' fl' S6 hO F6 N6
      refine ea0_3 (hO) fun sz0 hs rz2 => ?_
      (try clear hO)
      obtain ⟨n', rfl⟩ := sz0
      subst rz2
      rcases hk with hk | hk
      · refine ea0_3 hk fun hal e1 e2 => ?_
        clear hk
        subst e1 e2
        simp only [led4, List.cons_append, List.nil_append] at N6
        walk_at "goL"
        rename News _ _ _ _ => N7
        exact hE0 _ _ { a with xs := putX (.bytes b tO) a.xs (t0 :: ts0), xv := putX (.bytes b tO) a.xv (t0 :: ts0), n := n', n3 := n31, ps := ps', os := (c', oc) :: a.os } fl' _ S6 (hEnd1 _ _ tb' (fun q hq => .tail _ hq) (List.forall_mem_cons.mpr ⟨hxc, hos⟩) hal _ _) (off_os S6 hcf hof) (by assumption) (subl_of N7 (listK_mem rfl))
      · exact absurd hs (by rw [at_false.mpr (hk.1 t0.1 (.head _)).1]; decide)
    case her =>
      intro h6 tk6 C why mt' fl' t6 S6 hE F6 N6
      refine ea0_4 (hE) fun rz0 hs rz2 rz3 => ?_
      (try clear hE)
      subst rz0
      subst rz2
      subst rz3
      rcases hk with hk | hk
      · exact absurd hs (by rw [isSome_at.mpr (hk.1 t0.1 (.head _))]; decide)
      · refine ea0_3 hk fun hde e1 e2 => ?_
        clear hk
        subst e1 e2
        rw [isSome_at.mpr (hde t0.1 (.head _)).2, goneS_t]
        simp only [led4, List.cons_append, List.nil_append] at N6
        walk_at "goL"
        rename News _ _ _ _ => N7
        rw [show (("misused: a block that is gone" : Str) == "misused: a block that is gone") = true from by rfl]
        exact hE0 _ _ { a with n3 := n31, ps := ps', os := (c', oc) :: a.os } fl' _ S6 (O.kept' tb' (fun q hq => .tail _ hq) (List.forall_mem_cons.mpr ⟨hxc, hos⟩)) (off_os S6 hcf hof) (by assumption) (subl_of N7 (listK_mem rfl))
end

theorem newsS_of {w : World} {g : LG} {a : LS} {L : Nat} {ch co cp : Obj} {fl : List (Addr × Obj)} : ∀ q ∈ newsS w g a L ch co cp fl, q ∈ (L + 1, ch) :: (L + 1 + 1, co) :: (L + 1 + 1 + 1, cp) :: (ledW w g a ++ ((277, tabObj a.ps) :: fl)) := pm_S
section
variable {w : World} {d u : Nat} {fr : List Env} {R : Result → Shared → Prop} {s : Shared} {z : Heap} {p : Program} {loose : List Str} {mean : ExcName → Option Value} {mg mb : Str → Option Value}
set_option maxHeartbeats 4000000 in
theorem step_ok {g : LG} {k : Nat} {a : LS} {op x : Int} {t1 t2 : Tok} {fl : List (Addr × Obj)}
    (X : (hd0.heap_1 w.params).In z) (T : Top p loose mean mg mb z) (C1 : CodeHd z 274 272) (C2 : CodeHd z 281 277) (P : Pre z s.heap (ledW w g a ++ ((277, tabObj a.ps) :: fl)))
    (FL : FrL fr fl) (O : LawOK w g k a) (hg : g.Ord) (hk : k ≤ 20) (hof : ∀ q ∈ a.os, ∀ p ∈ fl, p.1 ≠ q.1) (htl : TailOk fl g.dh g.M g.dh g.M) (hx : 0 ≤ x ∧ x < 2 ^ 40) (hd : d ≤ 410) (hu : u ≤ 810)
    (h : ∀ h' tk a' fl', FlS fl fl' → LawOK w g (k + 1) a' → (∀ q ∈ a'.os, ∀ p ∈ fl', p.1 ≠ q.1) → Pre z h' (ledW w g a' ++ ((277, tabObj a'.ps) :: fl')) → R (.ok (.ret (.bool true))) { s with heap := h', toks := tk }) :
    codeAny (model PR w) (mkA d fr u) (.call (.ref 282) ⟨[.ref g.hp, .ref g.W, .int op t1, .int x t2], []⟩) R s := by
  refine enterZC X T P (by k_is) (by k_is) (by k_room) (BindsTo.of_eq (by rfl)) (by rfl) (by decide +kernel) (by rfl) (by rfl) (by rfl) ?_
  intro L' h' tk' cells' F' N' Y' hL' hst'
  (try dsimp only); k_fold
  replace F' : Fr z L' h' (fun y : Str => if y = "x" then some (.int x t2) else if y = "op" then some (.int op t1) else if y = "world" then some (.ref g.W) else none) := F'
  have lt : ∀ q ∈ ledW w g a ++ ((277, tabObj a.ps) :: fl), @LT.lt Nat _ q.1 L' := fun q hq => hL' ▸ Heap.lt_size (P.led q hq).1
  have hLW : @LT.lt Nat _ g.M L' := by
    obtain ⟨o, ho⟩ := basics_led w g a (b := g.M) (by unfold LG.basics; simp)
    exact lt _ (List.mem_append_left _ ho)
  have hflL : AllLt L' fl := allLt_of fun q hq => lt q (List.mem_append_right _ (.tail _ hq))
  have go := hg.1
  have hT : TailOk (a.os ++ fl) g.dh g.M L' (L' + 3) := fun q hq => by
    rcases List.mem_append.mp hq with hq | hq
    · have h1 := O.hos q hq
      refine mk0_3 (by omega) (.inr h1) (.inl (lt q (List.mem_append_left _ ?_)))
      exact List.mem_append_right _ (.tail _ (.tail _ (.tail _ (.tail _ (.tail _ hq)))))
    · have h1 := htl q hq
      exact mk0_3 h1.1 h1.2.1 (.inl (lt q (List.mem_append_right _ (.tail _ hq))))
  have hW := O.hW
  walk_at "cellsIn"
  rename_i c1 c2 c3 e1 e2 e3 _
  rename News _ _ _ _ => N2
  have N1 : News z L' h' (newsS w g a L' c3 c2 c1 fl) := subl_of N2 fun q hq => by
    have := newsS_of q hq
    simp only [List.mem_cons] at this ⊢
    rcases this with h | h | h | h
    · exact .inr (.inr (.inl h))
    · exact .inr (.inl h)
    · exact .inl h
    · exact .inr (.inr (.inr h))
  clear N2
  have d1 : c3.data = .cell (some (.ref g.hp)) := e3
  have d2 : c2.data = .cell none := e2
  have d3 : c1.data = .cell none := e1
  clear e1 e2 e3
  walk_at "goI"
  refine st1 X T C1 (by assumption) (by assumption) d1 FL O hg hk hLW hT hof htl hx (by omega) (by omega) (fun h' tk a' fl' m' S O' hof' F' N' => h h' tk a' fl' S O' hof' (leaveZ F' N' (fun _ h => h) hL' P.size)) fun h1 h2 tk2 F2 N2 => ?_
  dsimp only
  refine wpAny_execs_cons ?_
  refine st2 X T F2 N2 d3 O hg hk hLW hT hx (by omega) (by omega) (fun h => h1 (.inr h)) fun h3 tk3 cp e he d3 F3 N3 => ?_
  dsimp only
  refine wpAny_execs_cons ?_
  refine st3 X T C1 F3 N3 d1 d3 he FL O hg hk hLW hT hof htl hx (by omega) (by omega) (fun h' tk a' fl' m' S O' hof' F' N' => h h' tk a' fl' S O' hof' (leaveZ F' N' (fun _ h => h) hL' P.size)) fun h4 h5 tk5 F5 N5 => ?_
  dsimp only
  refine wpAny_execs_cons ?_
  have rest : ∀ (ws : Str) (h6 : Heap) (tk6 : Nat) (t6 : Tok), (((∀ k ∈ e.ks, k ∈ keysOf a.xs) ∧ ws = "") ∨ ((∀ k ∈ e.ks, k ∉ keysOf a.xs ∧ k ∈ keysOf a.yg) ∧ ws = "misused: a block that is gone")) → Fr z L' h6 (mapY g.W g.M op x t1 t2 ws t6) → News z L' h6 (newsS w g a L' c3 c2 cp fl) →
      wpAny (model PR w) ((mkA d fr u).deeper (env282 L')) (execs (lit282.1.body.drop 5) (env282 L')) (fun fl s' => R (.ok (.ret (match fl with | .ret v => v | _ => .none))) s') (fun e s' => wpAny (model PR w) ((mkA d fr u).deeper (env282 L')) (leaving (env282 L') e) (fun _ s'' => R (.error e) s'') (fun e' s'' => R (.error e') s'') s') { s with heap := h6, toks := tk6 } := by
    intro ws h6 tk6 t6 hkk F6 N6
    dsimp only [lit282, litMk, List.drop]
    refine wpAny_execs_cons ?_
    refine st5 X T C2 F6 N6 d1 d2 d3 he FL O hg hLW hT hof hflL (by omega) (by omega) hkk (fun h' tk a' fl' m' S O' hof' F' N' => h h' tk a' fl' S O' hof' (leaveZ F' N' (fun _ h => h) hL' P.size)) fun h7 h8 tk8 F8 N8 => ?_
    dsimp only
    refine wpAny_execs_cons ?_
    refine st6 X T C2 F8 N8 d1 d3 he FL O hg hk hLW hT hof hflL (by omega) (by omega) hkk (fun h' tk a' fl' m' S O' hof' F' N' => h h' tk a' fl' S O' hof' (leaveZ F' N' (fun _ h => h) hL' P.size)) fun h9 h10 tk10 F10 N10 => ?_
    dsimp only
    refine wpAny_execs_cons ?_
    refine st7 X T F10 N10 d2 hg hLW hT hx (by omega) (by omega) fun h11 tk11 co b tO d2' hb F11 N11 => ?_
    dsimp only
    refine wpAny_execs_cons ?_
    obtain ⟨t0, ts0, hts⟩ : ∃ t0 ts0, e.2.2 = t0 :: ts0 := by
      have := (O.inv.ok e he).ne
      cases h : e.2.2 with
      | nil => exact absurd h this
      | cons t0 ts0 => exact ⟨t0, ts0, rfl⟩
    rcases hkk with ⟨hal, rfl⟩ | ⟨hde, rfl⟩
    · refine st8a (e := e) X T F11 N11 d2' d1 d3 he O hg hk hLW hT (by omega) (by omega) hal fun h12 tk12 dv n3' F12 N12 => ?_
      dsimp only
      refine wpAny_execs_cons ?_
      exact st9 (e := e) (t0 := t0) (ts0 := ts0) X T C2 F12 N12 d2' hb d1 d3 he hts FL O hg hLW hT hof hflL (by omega) (by omega) hk (.inl ⟨hal, rfl, rfl⟩) (fun h' tk a' fl' m' S O' hof' F' N' => h h' tk a' fl' S O' hof' (leaveZ F' N' (fun _ h => h) hL' P.size))
    · refine st8n X T F11 N11 (by omega) (by omega) fun h12 tk12 dv F12 N12 => ?_
      dsimp only
      refine wpAny_execs_cons ?_
      exact st9 (e := e) (t0 := t0) (ts0 := ts0) (xv1 := a.xv) (n31 := a.n3) X T C2 F12 N12 d2' hb d1 d3 he hts FL O hg hLW hT hof hflL (by omega) (by omega) hk (.inr ⟨hde, rfl, rfl⟩) (fun h' tk a' fl' m' S O' hof' F' N' => h h' tk a' fl' S O' hof' (leaveZ F' N' (fun _ h => h) hL' P.size))
  refine st4 X T F5 N5 d3 he O hg hLW hT (by omega) (by omega) (fun hal h6 tk6 t6 F6 N6 => ?_) (fun hde h6 tk6 t6 F6 N6 => ?_)
  · exact rest _ _ _ _ (.inl ⟨hal, rfl⟩) F6 N6
  · exact rest _ _ _ _ (.inr ⟨hde, rfl⟩) F6 N6
end

section
variable {w : World} {d u : Nat} {E : Value → Shared → Prop} {s : Shared} {z : Heap} {L : Nat} {m : Str → Option Value} {p : Program} {loose : List Str} {mean : ExcName → Option Value} {mg mb : Str → Option Value} {Q : Value → Shared → Prop} {env : Env} {fr : List Env} {news rest : List (Addr × Obj)}
theorem step_call {g : LG} {k : Nat} {a : LS} {op x : Int} {t1 t2 : Tok} {rest : List (Addr × Obj)}
    (X : (hd0.heap_1 w.params).In z) (T : Top p loose mean mg mb z) (C1 : CodeHd z 274 272) (C2 : CodeHd z 281 277) (F : Fr z L s.heap m) (N : News z L s.heap ((ledW w g a ++ [(277, tabObj a.ps)]) ++ (rest ++ []))) (hmr : ∀ q ∈ rest, ∀ p ∈ ledW w g a ++ [((277 : Nat), tabObj a.ps)], p.1 ≠ q.1)
    (hf : env.frame = some L) (hkd : env.scope.kind ≠ .module) (O : LawOK w g k a) (hg : g.Ord) (hk : k ≤ 20) (hL : 292 < L ∧ L < g.dh) (hx : 0 ≤ x ∧ x < 2 ^ 40) (hd : d ≤ 400) (hu : u ≤ 800)
    (h : ∀ h' tk a', LawOK w g (k + 1) a' → Fr z L h' m → News z L h' ((ledW w g a' ++ [(277, tabObj a'.ps)]) ++ (rest ++ [])) → Q (.bool true) { s with heap := h', toks := tk }) :
    wpAny (model PR w) ((mkA d [] u).deeper env) (call (.ref 282) [.ref g.hp, .ref g.W, .int op t1, .int x t2]) Q E s := by
  have FL0 : FrL [] [] := ⟨rfl, (fun _ h => nomatch h), (fun _ h => nomatch h)⟩
  have e1 : ∀ q ∈ ([] : List (Addr × Obj)), ∀ p ∈ ledW w g a ++ [((277 : Nat), tabObj a.ps)], p.1 ≠ q.1 := fun _ h => nomatch h
  have e2 : ∀ q ∈ rest, ∀ p ∈ ([] : List (Addr × Obj)), p.1 ≠ q.1 := fun _ _ _ h => nomatch h
  refine ea2_7 (told_frame (fl := []) F N hmr e1 e2 FL0 hf hkd) fun zc oL hzs hz P2 FL2 hrest hm2 back => ?_
  have hgo := hg.1
  refine wpAny_call (step_ok (d := d + 1) (u := u + 3) (fr := [env]) (fl := [(L, oL)]) (X.keeps hz) (T.keeps hz) (C1.keeps hz) (C2.keeps hz) (by rw [List.append_assoc] at P2; exact P2) FL2 O hg hk (fun q hq p hp => ?_) (fun q hq => ?_) hx (by omega) (by omega) fun h' tk a' fl2 S2 O' hof' P' => ?_)
  · rw [List.mem_singleton.mp hp]
    have h1 := O.hos q hq
    exact Nat.ne_of_lt (Nat.lt_trans (Nat.lt_trans hL.2 (ord_M hgo).2) h1)
  · rw [List.mem_singleton.mp hq]
    exact mk0_3 hL.1 (.inl hL.2) (.inl hL.2)
  · have adr : ∀ q ∈ fl2, q.1 = L := fun q hq => by
      refine ea1_2 (S2.mem hq) fun q' h1 h2 => ?_
      rw [← h2, List.mem_singleton.mp h1]
    obtain ⟨F', fl', S', N'⟩ := back h' (ledW w g a' ++ [(277, tabObj a'.ps)]) fl2 S2 (fun p hp q hq => by
      rw [List.mem_singleton.mp hp]
      rcases List.mem_append.mp hq with hq | hq
      · rcases ledW_addr hq with hb | ho
        · rcases basics_in hg hb with hb | hb
          · exact Nat.ne_of_gt (Nat.lt_of_lt_of_le hL.2 hb.1)
          · rw [hb]
            exact Nat.ne_of_lt (Nat.lt_trans (show (272 : Nat) < 292 by decide) hL.1)
        · exact Nat.ne_of_gt (Nat.lt_trans (Nat.lt_trans hL.2 (ord_M hgo).2) (O'.hos q ho))
      · rw [List.mem_singleton.mp hq]
        exact Nat.ne_of_lt (Nat.lt_trans (show (277 : Nat) < 292 by decide) hL.1)) (by rw [List.append_assoc]; exact P')
    cases S'
    exact h h' tk a' O' F' N'
theorem used_call {hp dh B G n : Nat} {HT : HT} {xs : List Ent} {sec nxt wr : Int} {tn tw : Tok} {os : List (Addr × Obj)}
    (F : Fr z L s.heap m) (N : News z L s.heap news) (X : (hd0.heap_1 w.params).In z) (T : Top p loose mean mg mb z) (t0 : Take [(hp, instObj 190 dh), (dh, hD w.params HT B G sec nxt wr tn tw), (B, tD w xs n)] news rest) (K : KeysO w z os xs) (ho : ∀ q ∈ os, q ∈ rest) (k3 : Key3 xs) (hB : 292 < B) (hd : d ≤ 460) (hu : u ≤ 860)
    (h : ∀ h' tk t, Fr z L h' m → News z L h' ((hp, instObj 190 dh) :: (dh, hD w.params HT B G sec nxt wr tn tw) :: (B, tD w xs n) :: rest) → Q (.int (xs.map fun e => cnt e.1).sum t) { s with heap := h', toks := tk }) :
    wpAny (model PR w) ((mkA d fr u).deeper env) (call (.ref 180) [.ref hp]) Q E s := by
  have hz := fun b o e => front_get (b := b) (o := o) F N t0 e
  refine wpAny_call (used_ok (d := d + 1) (u := u + 3) (fr := env :: fr) (front F N t0 X).1 (front_top F N t0 T) (front F N t0 X).2 (keysB K hz fun e he => front_led N t0 (ho e he)) k3 hB (by omega) (by omega) fun h' tk t P' => ?_)
  obtain ⟨F', N'⟩ := back F N t0 P'
  exact h h' tk t F' N'
theorem live_call {hp dh B G n : Nat} {HT : HT} {xs : List Ent} {sec nxt wr : Int} {tn tw : Tok} {os : List (Addr × Obj)}
    (F : Fr z L s.heap m) (N : News z L s.heap news) (X : (hd0.heap_1 w.params).In z) (T : Top p loose mean mg mb z) (t0 : Take [(hp, instObj 190 dh), (dh, hD w.params HT B G sec nxt wr tn tw), (B, tD w xs n)] news rest) (K : KeysO w z os xs) (ho : ∀ q ∈ os, q ∈ rest) (k3 : Key3 xs) (h64 : xs.length < 64) (hB : 292 < B) (hd : d ≤ 460) (hu : u ≤ 860)
    (h : ∀ h' tk D c, Fr z L h' m → News z L h' ((D, listOf (sortVs (refsOf xs) (keysOf xs)).toArray c) :: (hp, instObj 190 dh) :: (dh, hD w.params HT B G sec nxt wr tn tw) :: (B, tD w xs n) :: rest) → @LT.lt Nat _ B D → Q (.ref D) { s with heap := h', toks := tk }) :
    wpAny (model PR w) ((mkA d fr u).deeper env) (call (.ref 175) [.ref hp]) Q E s := by
  have hz := fun b o e => front_get (b := b) (o := o) F N t0 e
  refine wpAny_call (live_ok (d := d + 1) (u := u + 3) (fr := env :: fr) (front F N t0 X).1 (front_top F N t0 T) (front F N t0 X).2 (keysB K hz fun e he => front_led N t0 (ho e he)) k3 h64 hB (by omega) (by omega) fun h' tk D c P' _ _ l3 => ?_)
  obtain ⟨F', N'⟩ := back F N t0 P'
  exact h h' tk D c F' N' l3
theorem next_call {pen lst : Addr} {at' : Int} {t : Tok} {n c : Nat} {vs : List Value} {ns : List Int}
    (F : Fr z L s.heap m) (N : News z L s.heap news) (X : (hd0.heap_1 w.params).In z) (T : Top p loose mean mg mb z) (t0 : Take [(pen, listOf #[.ref lst, .int at' t] n)] news rest) (hl : (lst, listOf vs.toArray c) ∈ rest) (hv : IntsAre vs ns) (h0 : 0 ≤ at') (h1 : at' < 100) (hns : ns.length ≤ 63) (hd : d ≤ 460)
    (h : ∀ h' tk t' v tv, Fr z L h' m → News z L h' ((pen, listOf #[.ref lst, .int (at' + 1) t'] n) :: rest) → 0 ≤ v → v < 2 ^ 40 → Q (.int v tv) { s with heap := h', toks := tk }) :
    wpAny (model PR w) ((mkA d fr u).deeper env) (call (.ref 256) [.ref pen]) Q E s := by
  have hlz : (hid s.heap [(pen, listOf #[.ref lst, .int at' t] n)]).IsList lst vs.toArray := ⟨_, front_led N t0 hl, rfl, c, rfl⟩
  refine wpAny_call (law_next (d := d + 1) (u := u + 3) (fr := env :: fr) (front F N t0 X).1 (front_top F N t0 T) (front F N t0 X).2 hlz hv h0 h1 hns (by omega) fun h' tk t' v tv P' v0 v1 => ?_)
  obtain ⟨F', N'⟩ := back F N t0 P'
  exact h h' tk t' v tv F' N' v0 v1
end

example : True := by
  k_with "call ref" => ((k_here; (with_reducible show wpAny _ _ (PySem.call (Value.ref 256) _) _ _ _); k_dflt (refine' next_call ?z56F ?z56N ?z56X ?z56T ?z56t ?z56l ?z56v ?z56z ?z56o ?z56n ?z56d ?_; (case z56F => k_asm); (case z56N => k_asm); (case z56X => k_asm); (case z56T => k_asm); (case z56t => k_extra "take"); (case z56l => k_mem); (case z56v => assumption); (case z56z => omega); (case z56o => omega); (case z56n => assumption); (case z56d => omega)); intro _ _ _ _ _ _ _ _ _; (try k_sweep)))
  k_with "call ref" => ((k_here; (with_reducible show wpAny _ _ (PySem.call (Value.ref 180) _) _ _ _); k_dflt (refine' used_call ?z57F ?z57N ?z57X ?z57T ?z57t ?z57K ?z57o ?z57k ?z57B ?z57d ?z57u ?_; (case z57F => k_asm); (case z57N => k_asm); (case z57X => k_asm); (case z57T => k_asm); (case z57t => k_extra "take"); (case z57K => assumption); (case z57o => k_extra "subl"); (case z57k => assumption); (case z57B => omega); (case z57d => omega); (case z57u => omega)); intro _ _ _ _ _; (try k_sweep)))
  k_with "call ref" => ((k_here; (with_reducible show wpAny _ _ (PySem.call (Value.ref 175) _) _ _ _); k_dflt (refine' live_call ?z58F ?z58N ?z58X ?z58T ?z58t ?z58K ?z58o ?z58k ?z58l ?z58B ?z58d ?z58u ?_; (case z58F => k_asm); (case z58N => k_asm); (case z58X => k_asm); (case z58T => k_asm); (case z58t => k_extra "take"); (case z58K => assumption); (case z58o => k_extra "subl"); (case z58k => assumption); (case z58l => assumption); (case z58B => omega); (case z58d => omega); (case z58u => omega)); intro _ _ _ _ _ _ _; (try k_sweep)))
  trivial
section
variable {prog : Program} {w : World} {A : Around} {E : Value → Shared → Prop} {s : Shared} {env : Env} {h₀ : Heap} {x : Str} {body : List Stmt} {Q : Flow → Shared → Prop}
noncomputable def TurnR (h₀ : Heap) (L : Addr) (I : Addr) (it : Obj) (J : (Str → Option Value) → List (Addr × Obj) → Prop) (s : Shared) (Q : Flow → Shared → Prop) (f : Flow) (s₂ : Shared) : Prop := match f with
  | .ret v => Q (.ret v) s₂
  | .brk => Q .next s₂
  | _ => ∃ h' tk' m' news', s₂ = { s with heap := h', toks := tk' } ∧ Fr h₀ L h' m' ∧ News h₀ L h' ((I, it) :: news') ∧ (∀ p ∈ news', p.1 ≠ I) ∧ J m' news'
theorem iter_range {r : Addr} {n : Nat} {t u v : Tok} {m₀ : Str → Option Value} {news : List (Addr × Obj)} (J : Nat → (Str → Option Value) → List (Addr × Obj) → Prop)
    (hh : A.handled = none) (F : Fr h₀ env.locals s.heap m₀) (N : News h₀ env.locals s.heap news) (hr : IsRange s.heap r 0 (n : Int) 1 t u v) (hsm : Builtin.Range.small 0 (n : Int) 1 = true) (h0 : J 0 m₀ news)
    (turn : ∀ i t m₁ news₁ I it h tk, i < n → J i m₁ news₁ → (∀ p ∈ news, p.1 < I) → (∃ e1 e2 e3 : Int, it.data = .fields #[rawInt e1, rawInt e2, rawInt e3]) → Fr h₀ env.locals h (putM m₁ x (some (.int (i : Int) t))) → News h₀ env.locals h ((I, it) :: news₁) → (∀ p ∈ news₁, p.1 ≠ I) →
      wpAny (model prog w) A (execs body env) (TurnR h₀ env.locals I it (J (i + 1)) s Q) E { s with heap := h, toks := tk })
    (done : ∀ h tk m₁ news₁, J n m₁ news₁ → Fr h₀ env.locals h m₁ → News h₀ env.locals h news₁ → Q .next { s with heap := h, toks := tk }) :
    wpAny (model prog w) A (pyIter (.ref r)) (fun it s₂ => LoopAtV prog w A h₀ env x body Q E it s₂) E s := by
  have hnew := next_is_new F
  refine wpAny_pyIter_range hr hsm ?_
  have hsz : Builtin.Range.rangeSize 0 (n : Int) 1 = (n : Int) := rangeSize_nat _ _
  have W := LCg.range_walks (prog := prog) (w := w) (I := s.heap.objs.size) hh 0 n
  refine mk9_11 s.heap.objs.size ([s.heap.objs.size]) ([s.heap.objs.size]) n _ _ m₀ news J rfl W ?_ ?_ ?_ ?_ (F.push _) (fun p hp => ⟨Heap.get?_push_of_some _ (N p hp).1, (N p hp).2⟩) h0 ?_ ?_
  · intro hm
    exact absurd F.ns.lt ((List.mem_singleton.mp hm) ▸ Nat.lt_irrefl _)
  · intro b hb
    rw [List.mem_singleton.mp hb]
    exact hnew
  · intro p hp hI
    exact absurd (Heap.lt_size (N p hp).1) ((List.mem_singleton.mp hI) ▸ Nat.lt_irrefl _)
  · show Heap.get? (s.heap.push _) s.heap.objs.size = some _
    rw [hsz]
    refine (Heap.get?_push_size _ rfl).trans ?_
    simp
  · rintro i v m₁ news₁ s₁ own ⟨hh', tk', rfl⟩ hin ⟨tv, rfl⟩ hJ hoff hown hget hall hst₁ F₁ N₁
    obtain ⟨it, hit, hic⟩ : ∃ it : Obj, hh'.get? s.heap.objs.size = some it ∧ ∃ e1 e2 e3 : Int, it.data = .fields #[rawInt e1, rawInt e2, rawInt e3] := ⟨_, hst₁, _, _, _, rfl⟩
    have hmemI := hall s.heap.objs.size (List.mem_cons_self ..) hnew _ hit
    have N₂ : News h₀ env.locals hh' ((s.heap.objs.size, it) :: news₁) := fun p hp => by
      rcases List.mem_cons.mp hp with rfl | hp
      · exact N₁ _ (List.mem_append_left _ hmemI)
      · exact N₁ _ (List.mem_append_right _ hp)
    have e0 : (0 + (i : Int)) = (i : Int) := Int.zero_add _
    rw [e0] at F₁
    refine wpAny_mono (turn i tv m₁ news₁ s.heap.objs.size it hh' tk' hin hJ (fun p hp => Heap.lt_size (N p hp).1) hic F₁ N₂ (fun p hp r => hoff p hp (List.mem_singleton.mpr r))) (fun f s₂ p => ?_) fun _ _ e => e
    have fin : (∃ h' tk' m' news', s₂ = { s with heap := h', toks := tk' } ∧ Fr h₀ env.locals h' m' ∧ News h₀ env.locals h' ((s.heap.objs.size, it) :: news') ∧ (∀ p ∈ news', p.1 ≠ s.heap.objs.size) ∧ J (i + 1) m' news') →
        LoopStepU h₀ env.locals [s.heap.objs.size] own (J (i + 1)) { s with heap := hh', toks := tk' } .next s₂ := by
      intro hz9
      refine ea4_5 hz9 fun h' tk m' news' e1 F' N' ho r => ?_
      clear hz9
      subst e1
      refine ⟨rfl, mk4_5 h' tk m' news' rfl F' (fun p hp => ?_) (fun p hp hI => ho p hp (List.mem_singleton.mp hI)) r⟩
      rcases List.mem_append.mp hp with hp | hp
      · have h2 : hh'.get? p.1 = some p.2 := hget p hp
        have h1 := List.mem_singleton.mp (hown p hp)
        rw [h1, hit] at h2
        have h3 : p = (s.heap.objs.size, it) := Prod.ext h1 (Option.some.inj h2).symm
        rw [h3]
        exact N' _ (List.mem_cons_self ..)
      · exact N' _ (List.mem_cons_of_mem _ hp)
    cases f with
    | ret v => exact .ret p
    | brk => exact .brk p
    | next => exact .next (fin p)
    | cont => exact .cont (fin p)
  · rintro h' tk m' news' F' N' _ hJ
    exact done h' tk m' news' hJ F' N'
end

noncomputable abbrev envL (L fa : Addr) : Env := envOfC lit292.1.qual lit292.1.scope L fa (.ref 291)
noncomputable abbrev newsL (w : World) (g : LG) (a : LS) (L pen lst npen clst : Nat) (at' : Int) (tp : Tok) (vs : List Value) (cn co ch : Obj) (pn pl : Array Value) : List (Addr × Obj) :=
  (pen, listOf #[.ref lst, .int at' tp] npen) :: (lst, listOf vs.toArray clst) :: (L + 1 + 1 + 1, cn) :: (L + 1 + 1, co) :: (L + 1, ch) :: (284, tabObj pn) :: (289, tabObj pl) :: (g.hp, instObj 190 g.dh) :: (g.dh, hD w.params g.HT g.B g.G g.sec a.nxt a.wr a.tn a.tw) :: (g.B, tD w a.xs a.n) :: (g.G, tD w a.yg a.n2) :: (g.W, a.oW) :: (g.V, tD w a.xv a.n3) :: (g.U, tD w a.yu a.n4) :: (g.M, listOf ((a.made.map (·.1)).map fun a => Value.ref a).toArray a.nM) :: (272, tabObj a.pw) :: (277, tabObj a.ps) :: a.os
noncomputable abbrev mapL (tv xv uv : Option Value) (W pen : Nat) (sv cv : Option Value) : Str → Option Value := fun y : Str => if y = "turn" then tv else if y = "x" then xv else if y = "used" then uv else if y = "world" then some (.ref W) else if y = "pen" then some (.ref pen) else if y = "script" then sv else if y = "sector" then cv else none
theorem mapL_turn {tv xv uv sv cv v : Option Value} {W pen : Nat} : putM (mapL tv xv uv W pen sv cv) "turn" v = mapL v xv uv W pen sv cv := by
  funext y
  by_cases h : y = "turn" <;> simp [putM, mapL, h]
theorem mapL_x {tv xv uv sv cv v : Option Value} {W pen : Nat} : putM (mapL tv xv uv W pen sv cv) "x" v = mapL tv v uv W pen sv cv := by
  funext y
  by_cases h : y = "x"
  · subst h; rfl
  · simp [putM, mapL, h]
theorem mapL_used {tv xv uv sv cv v : Option Value} {W pen : Nat} : putM (mapL tv xv uv W pen sv cv) "used" v = mapL tv xv v W pen sv cv := by
  funext y
  by_cases h : y = "used"
  · subst h; rfl
  · simp [putM, mapL, h]
theorem fr_turn {z : Heap} {L : Nat} {h : Heap} {tv xv uv sv cv v : Option Value} {W pen : Nat} (F : Fr z L h (putM (mapL tv xv uv W pen sv cv) "turn" v)) : Fr z L h (mapL v xv uv W pen sv cv) := by rw [mapL_turn] at F; exact F
theorem fr_x {z : Heap} {L : Nat} {h : Heap} {tv xv uv sv cv v : Option Value} {W pen : Nat} (F : Fr z L h (putM (mapL tv xv uv W pen sv cv) "x" v)) : Fr z L h (mapL tv v uv W pen sv cv) := by rw [mapL_x] at F; exact F
theorem fr_used {z : Heap} {L : Nat} {h : Heap} {tv xv uv sv cv v : Option Value} {W pen : Nat} (F : Fr z L h (putM (mapL tv xv uv W pen sv cv) "used" v)) : Fr z L h (mapL tv xv v W pen sv cv) := by rw [mapL_used] at F; exact F
theorem newsL_of {w : World} {g : LG} {a : LS} {L pen lst npen clst : Nat} {at' : Int} {tp : Tok} {vs : List Value} {c1 c2 c3 : Obj} {pn pl : Array Value} : ∀ q ∈ (ledW w g a ++ [((277 : Nat), tabObj a.ps)]) ++ ([(pen, listOf #[.ref lst, .int at' tp] npen), (lst, listOf vs.toArray clst), (L + 1 + 1 + 1, c1), (L + 1 + 1, c2), (L + 1, c3), (284, tabObj pn), (289, tabObj pl)] ++ []), q ∈ newsL w g a L pen lst npen clst at' tp vs c1 c2 c3 pn pl := pm_of
theorem newsL_to {w : World} {g : LG} {a : LS} {L pen lst npen clst : Nat} {at' : Int} {tp : Tok} {vs : List Value} {c1 c2 c3 : Obj} {pn pl : Array Value} : ∀ q ∈ newsL w g a L pen lst npen clst at' tp vs c1 c2 c3 pn pl, q ∈ (ledW w g a ++ [((277 : Nat), tabObj a.ps)]) ++ ([(pen, listOf #[.ref lst, .int at' tp] npen), (lst, listOf vs.toArray clst), (L + 1 + 1 + 1, c1), (L + 1 + 1, c2), (L + 1, c3), (284, tabObj pn), (289, tabObj pl)] ++ []) := pm_to
theorem newsI_of {w : World} {g : LG} {a : LS} {L pen lst npen clst I : Nat} {it : Obj} {at' : Int} {tp : Tok} {vs : List Value} {c1 c2 c3 : Obj} {pn pl : Array Value} : ∀ q ∈ (ledW w g a ++ [((277 : Nat), tabObj a.ps)]) ++ (((I, it) :: [(pen, listOf #[.ref lst, .int at' tp] npen), (lst, listOf vs.toArray clst), (L + 1 + 1 + 1, c1), (L + 1 + 1, c2), (L + 1, c3), ((284 : Nat), tabObj pn), ((289 : Nat), tabObj pl)]) ++ []), q ∈ (I, it) :: newsL w g a L pen lst npen clst at' tp vs c1 c2 c3 pn pl := by
  intro q hq
  rcases List.mem_append.mp hq with hq | hq
  · exact .tail _ (newsL_of q (List.mem_append_left _ hq))
  · rcases List.mem_cons.mp hq with rfl | hq
    · exact .head _
    · exact .tail _ (newsL_of q (List.mem_append_right _ hq))
theorem newsI_to {w : World} {g : LG} {a : LS} {L pen lst npen clst I : Nat} {it : Obj} {at' : Int} {tp : Tok} {vs : List Value} {c1 c2 c3 : Obj} {pn pl : Array Value} : ∀ q ∈ (I, it) :: newsL w g a L pen lst npen clst at' tp vs c1 c2 c3 pn pl, q ∈ (ledW w g a ++ [((277 : Nat), tabObj a.ps)]) ++ (((I, it) :: [(pen, listOf #[.ref lst, .int at' tp] npen), (lst, listOf vs.toArray clst), (L + 1 + 1 + 1, c1), (L + 1 + 1, c2), (L + 1, c3), ((284 : Nat), tabObj pn), ((289 : Nat), tabObj pl)]) ++ []) := by
  intro q hq
  rcases List.mem_cons.mp hq with rfl | hq
  · exact List.mem_append_right _ (.head _)
  · rcases List.mem_append.mp (newsL_to q hq) with hq | hq
    · exact List.mem_append_left _ hq
    · exact List.mem_append_right _ (.tail _ hq)
section
variable {w : World} {fa : Addr} {d u : Nat} {Q : Flow → Shared → Prop} {E : Value → Shared → Prop} {s : Shared} {z : Heap} {p : Program} {loose : List Str} {mean : ExcName → Option Value} {mg mb : Str → Option Value}
set_option maxHeartbeats 4000000 in
theorem turn0 {g : LG} {a : LS} {L pen lst npen clst : Nat} {at' : Int} {tp : Tok} {vs : List Value} {ns : List Int} {c1 c2 c3 : Obj} {pn pl : Array Value} {tv xv uv sv cv : Option Value}
    (X : (hd0.heap_1 w.params).In z) (T : Top p loose mean mg mb z) (F : Fr z L s.heap (mapL tv xv uv g.W pen sv cv)) (N : News z L s.heap (newsL w g a L pen lst npen clst at' tp vs c1 c2 c3 pn pl))
    (hg : g.Ord) (hL : 292 < L ∧ L + 3 < lst ∧ lst < pen ∧ pen < g.dh) (hos : ∀ q ∈ a.os, g.M < q.1) (hv : IntsAre vs ns) (hns : ns.length ≤ 63) (h0 : 0 ≤ at' ∧ at' < 100) (hd : d ≤ 400) (hu : u ≤ 800)
    (h : ∀ h' tk t' v tv', 0 ≤ v → v < 2 ^ 40 → Fr z L h' (mapL tv (some (.int v tv')) uv g.W pen sv cv) → News z L h' (newsL w g a L pen lst npen clst (at' + 1) t' vs c1 c2 c3 pn pl) → Q .next { s with heap := h', toks := tk }) :
    wpAny (model PR w) ((mkA d [] u).deeper (envL L fa)) (exec (stmtAt (bodyOf (stmtAt lit292.1.body 5)) 0) (envL L fa)) Q E s := by
  refine use_turn hL hg.1 fun P9 U9 q100 q101 q102 q103 q104 q105 q106 q107 q108 q109 q110 q111 q112 q113 q114 q115 q116 q117 q118 => ?_
  dsimp only [envL, lit292, litMk, stmtAt, bodyOf]
  have go := hg.1
  have hT : TailOk a.os g.dh g.M L pen := fun q hq => ⟨by have := hos q hq; omega, .inr (hos q hq), .inr (by have := hos q hq; omega)⟩
  walk_at "goL"
  rename Fr _ _ _ _ => F1
  rename News _ _ _ _ => N1
  all_goals exact h _ _ _ _ _ (by assumption) (by assumption) (fr_x F1) N1
set_option maxHeartbeats 4000000 in
theorem turn1 {g : LG} {k : Nat} {a : LS} {L pen lst npen clst : Nat} {at' x : Int} {tp tx : Tok} {vs : List Value} {c1 c2 c3 : Obj} {pn pl : Array Value} {tv uv sv cv : Option Value} {I : Nat} {it : Obj}
    (X : (hd0.heap_1 w.params).In z) (T : Top p loose mean mg mb z) (C1 : CodeHd z 274 272) (C2 : CodeHd z 281 277) (F : Fr z L s.heap (mapL tv (some (.int x tx)) uv g.W pen sv cv)) (N : News z L s.heap ((I, it) :: newsL w g a L pen lst npen clst at' tp vs c1 c2 c3 pn pl)) (hWI : g.M < I) (hIo : ∀ q ∈ a.os, q.1 ≠ I) (d3 : c3.data = .cell (some (.ref g.hp)))
    (O : LawOK w g k a) (hg : g.Ord) (hk : k ≤ 20) (hL : 292 < L ∧ L + 3 < lst ∧ lst < pen ∧ pen < g.dh) (hx : 0 ≤ x ∧ x < 2 ^ 40) (hd : d ≤ 400) (hu : u ≤ 800)
    (h : ∀ h' tk a', LawOK w g (k + 1) a' → Fr z L h' (mapL tv (some (.int x tx)) uv g.W pen sv cv) → News z L h' ((I, it) :: newsL w g a' L pen lst npen clst at' tp vs c1 c2 c3 pn pl) → Q .next { s with heap := h', toks := tk }) :
    wpAny (model PR w) ((mkA d [] u).deeper (envL L fa)) (exec (stmtAt (bodyOf (stmtAt lit292.1.body 5)) 1) (envL L fa)) Q E s := by
  refine use_turn hL hg.1 fun P9 U9 q100 q101 q102 q103 q104 q105 q106 q107 q108 q109 q110 q111 q112 q113 q114 q115 q116 q117 q118 => ?_
  dsimp only [envL, lit292, litMk, stmtAt, bodyOf]
  have go := hg.1
  have hx10 : 0 ≤ x.fdiv 10 ∧ x.fdiv 10 < 2 ^ 40 := by
    rw [Int.fdiv_eq_ediv_of_nonneg _ (by decide)]
    exact div_40 hx (by decide)
  have hmr : ∀ q ∈ [(I, it), (pen, listOf #[.ref lst, .int at' tp] npen), (lst, listOf vs.toArray clst), (L + 1 + 1 + 1, c1), (L + 1 + 1, c2), (L + 1, c3), ((284 : Nat), tabObj pn), ((289 : Nat), tabObj pl)], ∀ p ∈ ledW w g a ++ [((277 : Nat), tabObj a.ps)], p.1 ≠ q.1 := by
    intro q hq p hp
    have hp' : (@LE.le Nat _ g.dh p.1 ∨ p.1 = (272 : Nat)) ∨ p.1 = (277 : Nat) := by
      rcases List.mem_append.mp hp with hp | hp
      · rcases ledW_addr hp with h | h
        · exact .inl ((basics_in hg h).imp And.left id)
        · have := O.hos p h
          exact .inl (.inl (Nat.le_of_lt (Nat.lt_trans (by omega) this)))
      · exact .inr (by rw [List.mem_singleton.mp hp])
    have kI : p.1 ≠ I := by
      rcases List.mem_append.mp hp with hp | hp
      · rcases ledW_addr hp with h | h
        · exact Nat.ne_of_lt (Nat.lt_of_le_of_lt (basics_le hg h) hWI)
        · exact hIo p h
      · rw [List.mem_singleton.mp hp]
        exact Nat.ne_of_lt (Nat.lt_trans (by omega) hWI)
    have key : ∀ n : Nat, ((g.dh ≤ n ∨ n = 272) ∨ n = 277) → n ≠ pen ∧ n ≠ lst ∧ n ≠ L + 1 + 1 + 1 ∧ n ≠ L + 1 + 1 ∧ n ≠ L + 1 ∧ n ≠ 284 ∧ n ≠ 289 := fun n h => turn_key hL h
    have kk := key p.1 hp'
    simp only [List.mem_cons, List.not_mem_nil, or_false] at hq
    rcases hq with rfl | rfl | rfl | rfl | rfl | rfl | rfl | rfl
    · exact kI
    · exact kk.1
    · exact kk.2.1
    · exact kk.2.2.1
    · exact kk.2.2.2.1
    · exact kk.2.2.2.2.1
    · exact kk.2.2.2.2.2.1
    · exact kk.2.2.2.2.2.2
  walk_at "goL"
  rename Fr _ _ _ _ => F1
  rename News _ _ _ _ => N1
  refine step_call X T C1 C2 F1 (rest := (I, it) :: [(pen, listOf #[.ref lst, .int at' tp] npen), (lst, listOf vs.toArray clst), (L + 1 + 1 + 1, c1), (L + 1 + 1, c2), (L + 1, c3), ((284 : Nat), tabObj pn), ((289 : Nat), tabObj pl)]) (subl_of N1 newsI_of) hmr rfl kind_ne O hg hk (by omega) hx10 hd hu fun h' tk a' O' F' N' => ?_
  have N2 := subl_of N' newsI_to
  clear N' N1
  walk_at "goL"
  exact h _ _ a' O' (by assumption) (by assumption)
end

noncomputable def NotIt (o : Obj) : Prop := ∀ e1 e2 e3 : Int, o.data ≠ .fields #[rawInt e1, rawInt e2, rawInt e3]
theorem notIt_seq {o : Obj} {items : Array Value} {n : Nat} (h : o.data = .seq items n) : NotIt o := fun _ _ _ e => by rw [h] at e; cases e
theorem notIt_code {q : Str} {o : Obj} (h : CodeO q o) : NotIt o := fun e1 e2 e3 e => by
  refine ea2_2 (h) fun vs t h1 h2 => ?_
  (try clear h)
  rw [h1] at e
  injection e with e
  rw [e] at h2
  simp [rawInt] at h2
theorem KeyO.keep {w : World} {z : Heap} {os os' : List (Addr × Obj)} {k : List Int} {a : Addr} (K : KeyO w z os k a) (kp : ∀ q ∈ os, NotIt q.2 → q ∈ os') : KeyO w z os' k a :=
  K.imp id fun ⟨o, h1, h2⟩ => ⟨o, kp _ h1 (by obtain ⟨_, i, n, hd, _⟩ := h2; exact notIt_seq hd), h2⟩
theorem PtrL.keep {w : World} {os os' : List (Addr × Obj)} {p : Nat} {q : PT} {ts : List (List Int × Nat)} (x : PtrL w os p q ts) (kp : ∀ q ∈ os, NotIt q.2 → q ∈ os') : PtrL w os' p q ts := fun z => by
  obtain ⟨h1, h2, ⟨c, h3⟩, h4, ⟨a, b, c', d, e, h5⟩⟩ := x z
  exact ⟨kp _ h1 (fun _ _ _ e => nomatch e), kp _ h2 (fun _ _ _ e => nomatch e), ⟨c, h3.imp id fun h => kp _ h (notIt_seq rfl)⟩, fun t ht => (h4 t ht).keep kp, ⟨a, b, c', d, e, kp _ h5 (notIt_seq rfl)⟩⟩
theorem KeysO.keep {w : World} {z : Heap} {os os' : List (Addr × Obj)} {xs : List Ent} (K : KeysO w z os xs) (kp : ∀ q ∈ os, NotIt q.2 → q ∈ os') : KeysO w z os' xs := ⟨fun x hx => (K.keys x hx).keep kp, K.nodup, K.len⟩
theorem TabOk.keep {qual : Str} {cds cds' : List (Addr × Obj)} {ps : Array Value} (x : TabOk qual cds ps) (kp : ∀ q ∈ cds, NotIt q.2 → q ∈ cds') : TabOk qual cds' ps :=
  ⟨x.tri, fun pos cv e => by
    refine ea2_3 (x.code pos cv e) fun c1 oc1 e1 e2 e3 => ?_
    exact ⟨c1, oc1, e1, kp _ e2 (notIt_code e3), e3⟩⟩
theorem LawOK.sift {w : World} {g : LG} {k : Nat} {a : LS} (O : LawOK w g k a) {os' : List (Addr × Obj)} (kp : ∀ q ∈ a.os, NotIt q.2 → q ∈ os') (sub : ∀ q ∈ os', q ∈ a.os) : LawOK w g k { a with os := os' } := by
  obtain ⟨oW1, tw1, ts1, K1, KG1, KV1, KU1, I, ptr, hos1, nx1, wr1, lx, ly, lm⟩ := O
  exact ⟨oW1, tw1.keep kp, ts1.keep kp, fun z => (K1 z).keep kp, fun z => (KG1 z).keep kp, fun z => (KV1 z).keep kp, fun z => (KU1 z).keep kp, I, fun e he => (ptr e he).keep kp, fun q hq => hos1 q (sub q hq), nx1, wr1, lx, ly, lm⟩
theorem LawOK.plus {w : World} {g : LG} {k : Nat} {a : LS} (O : LawOK w g k a) {I : Nat} {it : Obj} (hI : g.M < I) : LawOK w g k { a with os := (I, it) :: a.os } := by
  obtain ⟨oW1, tw1, ts1, K1, KG1, KV1, KU1, II, ptr, hos1, nx1, wr1, lx, ly, lm⟩ := O
  have up : ∀ q ∈ a.os, q ∈ (I, it) :: a.os := fun q hq => .tail _ hq
  exact ⟨oW1, tw1.mono up, ts1.mono up, fun z => (K1 z).mono up, fun z => (KG1 z).mono up, fun z => (KV1 z).mono up, fun z => (KU1 z).mono up, II, fun e he => (ptr e he).mono up, List.forall_mem_cons.mpr ⟨hI, hos1⟩, nx1, wr1, lx, ly, lm⟩
noncomputable def dropI (I : Nat) (os : List (Addr × Obj)) : List (Addr × Obj) := os.filter fun q => decide (q.1 ≠ I)
theorem dropI_sub {I : Nat} {os : List (Addr × Obj)} : ∀ q ∈ dropI I os, q ∈ os := fun _ hq => (List.mem_filter.mp hq).1
theorem dropI_ne {I : Nat} {os : List (Addr × Obj)} : ∀ q ∈ dropI I os, q.1 ≠ I := fun _ hq => of_decide_eq_true (List.mem_filter.mp hq).2
theorem dropI_keep {I : Nat} {it : Obj} {os : List (Addr × Obj)} {h : Heap} (N : ∀ q ∈ os, h.get? q.1 = some q.2) (hi : h.get? I = some it) (hic : ∃ e1 e2 e3 : Int, it.data = .fields #[rawInt e1, rawInt e2, rawInt e3]) : ∀ q ∈ os, NotIt q.2 → q ∈ dropI I os := fun q hq hn => by
  refine List.mem_filter.mpr ⟨hq, decide_eq_true fun r => ?_⟩
  have e := N q hq
  rw [r, hi] at e
  refine ea3_1 (hic) fun e1 e2 e3 hd => ?_
  (try clear hic)
  rw [Option.some.inj e] at hd
  exact hn e1 e2 e3 hd

theorem LInv.key3 {nxt : Int} {xs yg xv yu : List Ent} {made : List Made} (I : LInv nxt xs yg xv yu made) : Key3 xs ∧ Key3 xv := by
  refine ⟨fun e he => ?_, fun e he => ?_⟩
  · refine ea2_2 (I.kx e.1 (List.mem_map_of_mem he)) fun s c h _ => ?_
    exact mk3_1 _ _ _ h
  · refine ea2_2 (I.kx e.1 (I.sv.keys ▸ List.mem_map_of_mem he)) fun s c h _ => ?_
    exact mk3_1 _ _ _ h
theorem LInv.sum {nxt : Int} {xs yg xv yu : List Ent} {made : List Made} (I : LInv nxt xs yg xv yu made) : (xv.map fun e => cnt e.1) = xs.map fun e => cnt e.1 := by
  have h1 : ∀ l : List Ent, (l.map fun e => cnt e.1) = (keysOf l).map cnt := fun l => by simp [keysOf]
  rw [h1, h1, I.sv.keys]
section
variable {w : World} {fa : Addr} {d u : Nat} {Q : Flow → Shared → Prop} {E : Value → Shared → Prop} {s : Shared} {z : Heap} {p : Program} {loose : List Str} {mean : ExcName → Option Value} {mg mb : Str → Option Value}
set_option maxHeartbeats 400000 in
theorem turn2 {g : LG} {k : Nat} {a : LS} {L pen lst npen clst : Nat} {at' : Int} {tp : Tok} {vs : List Value} {c1 c2 c3 : Obj} {pn pl : Array Value} {tv xv uv sv cv : Option Value}
    (X : (hd0.heap_1 w.params).In z) (T : Top p loose mean mg mb z) (F : Fr z L s.heap (mapL tv xv uv g.W pen sv cv)) (N : News z L s.heap (newsL w g a L pen lst npen clst at' tp vs c1 c2 c3 pn pl))
    (O : LawOK w g k a) (hg : g.Ord) (hL : 292 < L ∧ L + 3 < lst ∧ lst < pen ∧ pen < g.dh) (hd : d ≤ 400) (hu : u ≤ 800)
    (h : ∀ h' tk tu, Fr z L h' (mapL tv xv (some (.int (a.xs.map fun e => cnt e.1).sum tu)) g.W pen sv cv) → News z L h' (newsL w g a L pen lst npen clst at' tp vs c1 c2 c3 pn pl) → Q .next { s with heap := h', toks := tk }) :
    wpAny (model PR w) ((mkA d [] u).deeper (envL L fa)) (exec (stmtAt (bodyOf (stmtAt lit292.1.body 5)) 2) (envL L fa)) Q E s := by
  refine use_turn hL hg.1 fun P9 U9 q100 q101 q102 q103 q104 q105 q106 q107 q108 q109 q110 q111 q112 q113 q114 q115 q116 q117 q118 => ?_
  dsimp only [envL, lit292, litMk, stmtAt, bodyOf]
  have go := hg.1
  have hos := O.hos
  have hW := O.hW
  have KV := O.KV z
  have k3 := O.inv.key3.2
  have hT : TailOk a.os g.dh g.M L pen := fun q hq => ⟨by have := hos q hq; omega, .inr (hos q hq), .inr (by have := hos q hq; omega)⟩
  rw [← O.inv.sum] at h
  walk_at "goL"
  refine ListComp_3 (by assumption) rfl (by with_unfolding_all rfl) (by decide) (by rfl) (by decide) (by rfl) (by rfl) (by rfl) (by decide) ?_
  walk_at "goL"
  refine src_dict rfl (by assumption) (by assumption) (show (g.V, tD w a.xv a.n3) ∈ _ by k_mem) (by refine neN ?_; omega) KV (by walk_at "subl") k3 ?_
  intro ys D h'' tk'' hys F'' N'' l1''
  k_lt l1''
  walk_at "goL"
  rename Fr _ _ _ _ => F1
  rename News _ _ _ _ => N1
  exact h _ _ _ (fr_used F1) (subl_of N1 (by walk_at "subl"))
example : True := by
  k_with "call builtin:sorted" => ((k_here; (with_reducible show wpAny _ _ (call (Value.builtin _) [Value.ref _]) _ _ _); refine' sorted_tD ?z207hh ?z207F ?z207N ?z207B ?z207q ?z207K ?z207o ?z207k ?z207l ?_; (case z207hh => exact rfl); (case z207F => k_asm); (case z207N => k_asm); (case z207B => (show (_, tD _ _ _) ∈ _; k_mem)); (case z207q => (refine neN ?_; omega)); (case z207K => assumption); (case z207o => k_extra "subl"); (case z207k => assumption); (case z207l => assumption); intro _ _ _ _ _ _ _))
  trivial
theorem ne_live {w : World} {A : Around} {E : Value → Shared → Prop} {s : Shared} {Q : Value → Shared → Prop} {z : Heap} {L D1 D2 : Nat} {m : Str → Option Value} {news os : List (Addr × Obj)} {xs xv : List Ent} {c1 c2 : Nat} (F : Fr z L s.heap m) (N : News z L s.heap news) (h1 : (D1, listOf (sortVs (refsOf xs) (keysOf xs)).toArray c1) ∈ news) (h2 : (D2, listOf (sortVs (refsOf xv) (keysOf xv)).toArray c2) ∈ news)
    (K : KeysO w z os xs) (KV : KeysO w z os xv) (ho : ∀ q ∈ os, q ∈ news) (k3 : Key3 xs) (k3' : Key3 xv) (e : keysOf xs = keysOf xv) (hu : A.units + 64 < cLine) (h : Q (.bool false) s) : wpAny (model PR w) A (compareOp .NotEq (.ref D1) (.ref D2)) Q E s := by
  have x1 : Tups s.heap (refsOf xs) (keysOf xs) := tups_of K.keys ho k3 s.heap F.keep N
  have x2 : Tups s.heap (refsOf xv) (keysOf xv) := tups_of KV.keys ho k3' s.heap F.keep N
  rw [← e] at h2 x2
  exact ne_sorted N h1 h2 x1 x2 hu h
example : True := by
  k_with "goQ" => (repeat' (first | (k_unfold; (try dsimp only)) | (dsimp only; k_unfold; (try dsimp only)) | ((fail_if_success (with_reducible show wpAny _ _ (PySem.compareOp PySem.CmpOp.NotEq (PySem.Value.ref _) (PySem.Value.ref _)) _ _ _)); (fail_if_success (with_reducible show wpAny _ _ (PySem.exec (PySem.Stmt.For _ _ _ _ _) _) _ _ _)); (fail_if_success (with_reducible show wpAny _ _ (PySem.eval (PySem.Expr.Lambda _ _ _ _) _) _ _ _)); (fail_if_success (with_reducible show wpAny _ _ (PySem.call (PySem.Value.ref 263) _) _ _ _)); (fail_if_success (with_reducible show wpAny _ _ (PySem.call (PySem.Value.ref 275) _) _ _ _)); (fail_if_success (with_reducible show wpAny _ _ (PySem.call (PySem.Value.ref 282) _) _ _ _)); (fail_if_success (with_reducible show wpAny _ _ (PySem.eval (PySem.Expr.ListComp _ _ _ _) _) _ _ _)); (fail_if_success (with_reducible show LCg.CompSrc _ _ _ _ _ _ _ _ _ _ _ _ _ _)); (fail_if_success (with_reducible show wpAny _ _ (PySem.pyIter _) _ _ _)); first | (k_end; wrow_close) | walk1 | (dsimp only; walk1) | (leave1; walk_say "STEP leave1"; try dsimp only)) | fail "no step"))
  trivial
set_option maxHeartbeats 400000 in
theorem turn3 {g : LG} {k : Nat} {a : LS} {L pen lst npen clst : Nat} {at' : Int} {tp tu : Tok} {vs : List Value} {c1 c2 c3 : Obj} {pn pl : Array Value} {tv xv sv cv : Option Value}
    (X : (hd0.heap_1 w.params).In z) (T : Top p loose mean mg mb z) (F : Fr z L s.heap (mapL tv xv (some (.int (a.xs.map fun e => cnt e.1).sum tu)) g.W pen sv cv)) (N : News z L s.heap (newsL w g a L pen lst npen clst at' tp vs c1 c2 c3 pn pl)) (d3 : c3.data = .cell (some (.ref g.hp)))
    (O : LawOK w g k a) (hg : g.Ord) (hk : k ≤ 20) (hL : 292 < L ∧ L + 3 < lst ∧ lst < pen ∧ pen < g.dh) (hd : d ≤ 400) (hu : u ≤ 800)
    (h : ∀ h' tk, Fr z L h' (mapL tv xv (some (.int (a.xs.map fun e => cnt e.1).sum tu)) g.W pen sv cv) → News z L h' (newsL w g a L pen lst npen clst at' tp vs c1 c2 c3 pn pl) → Q .next { s with heap := h', toks := tk }) :
    wpAny (model PR w) ((mkA d [] u).deeper (envL L fa)) (exec (stmtAt (bodyOf (stmtAt lit292.1.body 5)) 3) (envL L fa)) Q E s := by
  refine use_turn hL hg.1 fun P9 U9 q100 q101 q102 q103 q104 q105 q106 q107 q108 q109 q110 q111 q112 q113 q114 q115 q116 q117 q118 => ?_
  dsimp only [envL, lit292, litMk, stmtAt, bodyOf]
  have go := hg.1
  have hos := O.hos
  have hW := O.hW
  have K := O.K z
  have KV := O.KV z
  have k3 := O.inv.key3.1
  have k3' := O.inv.key3.2
  have hke := O.inv.sv.keys
  have lens := O.inv.lens
  have lx := O.lx
  have h64 : a.xs.length < 64 := by omega
  have h64' : a.xv.length < 64 := by omega
  have hT : TailOk a.os g.dh g.M L pen := fun q hq => ⟨by have := hos q hq; omega, .inr (hos q hq), .inr (by have := hos q hq; omega)⟩
  walk_at "goQ"
  rename News _ _ _ _ => N1
  rename Fr _ _ _ _ => F1
  refine ne_live (xs := a.xs) (xv := a.xv) (os := a.os) F1 N1 (.tail _ (.head _)) (.head _) K KV (by walk_at "subl") k3 k3' hke ?_ ?_
  · show u + 3 + 64 < 9900
    omega
  have N2 : News z L _ (newsL w g a L pen lst npen clst at' tp vs c1 c2 c3 pn pl) := subl_of N1 (by walk_at "subl")
  clear N1
  walk_at "goQ"
  all_goals (try (exfalso; omega))
  all_goals exact h _ _ (by assumption) (subl_of (by assumption) (by walk_at "subl"))
set_option maxHeartbeats 400000 in
theorem turn_ok {g : LG} {k : Nat} {a : LS} {L pen lst npen clst : Nat} {at' : Int} {tp : Tok} {vs : List Value} {ns : List Int} {c1 c2 c3 : Obj} {pn pl : Array Value} {tv xv uv sv cv : Option Value} {I : Nat} {it : Obj}
    (X : (hd0.heap_1 w.params).In z) (T : Top p loose mean mg mb z) (C1 : CodeHd z 274 272) (C2 : CodeHd z 281 277) (F : Fr z L s.heap (mapL tv xv uv g.W pen sv cv)) (N : News z L s.heap ((I, it) :: newsL w g a L pen lst npen clst at' tp vs c1 c2 c3 pn pl)) (hI : ∀ q ∈ newsL w g a L pen lst npen clst at' tp vs c1 c2 c3 pn pl, q.1 ≠ I) (hWI : g.M < I) (hic : ∃ e1 e2 e3 : Int, it.data = .fields #[rawInt e1, rawInt e2, rawInt e3]) (d3 : c3.data = .cell (some (.ref g.hp)))
    (O : LawOK w g k a) (hg : g.Ord) (hk : k ≤ 19) (hL : 292 < L ∧ L + 3 < lst ∧ lst < pen ∧ pen < g.dh) (hv : IntsAre vs ns) (hns : ns.length ≤ 63) (h0 : 0 ≤ at' ∧ at' < 100) (hd : d ≤ 400) (hu : u ≤ 800)
    (h : ∀ h' tk a' x' tx tu t', LawOK w g (k + 1) a' → 0 ≤ x' → x' < 2 ^ 40 → Fr z L h' (mapL tv (some (.int x' tx)) (some (.int (a'.xs.map fun e => cnt e.1).sum tu)) g.W pen sv cv) → News z L h' ((I, it) :: newsL w g a' L pen lst npen clst (at' + 1) t' vs c1 c2 c3 pn pl) → (∀ q ∈ newsL w g a' L pen lst npen clst (at' + 1) t' vs c1 c2 c3 pn pl, q.1 ≠ I) → Q .next { s with heap := h', toks := tk }) :
    wpAny (model PR w) ((mkA d [] u).deeper (envL L fa)) (execs (bodyOf (stmtAt lit292.1.body 5)) (envL L fa)) Q E s := by
  dsimp only [lit292, litMk, stmtAt, bodyOf]
  have into : ∀ (a : LS) (at' : Int) (tp : Tok), ∀ q ∈ newsL w g { a with os := (I, it) :: a.os } L pen lst npen clst at' tp vs c1 c2 c3 pn pl, q ∈ (I, it) :: newsL w g a L pen lst npen clst at' tp vs c1 c2 c3 pn pl := fun a at' tp q hq => by
    exact mem_in (pre := newsL w g { a with os := [] } L pen lst npen clst at' tp vs c1 c2 c3 pn pl) hq
  have outo : ∀ (a : LS) (at' : Int) (tp : Tok), ∀ q ∈ (I, it) :: newsL w g a L pen lst npen clst at' tp vs c1 c2 c3 pn pl, q ∈ newsL w g { a with os := (I, it) :: a.os } L pen lst npen clst at' tp vs c1 c2 c3 pn pl := fun a at' tp q hq => by
    exact mem_out (pre := newsL w g { a with os := [] } L pen lst npen clst at' tp vs c1 c2 c3 pn pl) hq
  have O0 := O.plus (it := it) hWI
  refine wpAny_execs_cons ?_
  refine turn0 X T F (subl_of N (into a _ _)) hg hL O0.hos hv hns h0 hd hu fun h1 tk1 t1 v tv1 v0 v1 F1 N1 => ?_
  dsimp only
  refine wpAny_execs_cons ?_
  refine turn1 (a := a) X T C1 C2 F1 (subl_of N1 (outo a _ _)) hWI (fun q hq => hI q (by walk_at "tailm")) d3 O hg (by omega) hL ⟨v0, v1⟩ hd hu fun h2 tk2 a' O' F2 N2 => ?_
  dsimp only
  have hit := (N2 _ (.head _)).1
  have Nos : ∀ q ∈ a'.os, h2.get? q.1 = some q.2 := fun q hq => (N2 q (.tail _ (by walk_at "tailm"))).1
  have O2 := O'.sift (dropI_keep Nos hit hic) dropI_sub
  have N3 : News z L h2 ((I, it) :: newsL w g { a' with os := dropI I a'.os } L pen lst npen clst (at' + 1) t1 vs c1 c2 c3 pn pl) := subl_of N2 fun q hq => by
    exact mem_more (pre := newsL w g { a' with os := [] } L pen lst npen clst (at' + 1) t1 vs c1 c2 c3 pn pl) dropI_sub hq
  clear N2
  refine wpAny_execs_cons ?_
  refine turn2 X T F2 (subl_of N3 (into _ _ _)) (O2.plus (it := it) hWI) hg hL hd hu fun h3 tk3 tu F3 N4 => ?_
  dsimp only
  refine wpAny_execs_cons ?_
  refine turn3 X T F3 N4 d3 (O2.plus (it := it) hWI) hg (by omega) hL hd hu fun h4 tk4 F4 N5 => ?_
  dsimp only
  refine wpAny_execs_nil (h h4 tk4 { a' with os := dropI I a'.os } v tv1 tu t1 O2 v0 v1 F4 (subl_of N5 (outo { a' with os := dropI I a'.os } _ _)) fun q hq => ?_)
  exact ne_map (pre := newsL w g { a' with os := [] } L pen lst npen clst (at' + 1) t1 vs c1 c2 c3 pn pl) (pre' := newsL w g { a with os := [] } L pen lst npen clst at' tp vs c1 c2 c3 pn pl) rfl (fun q hq => hI q (List.mem_append_left a.os hq)) dropI_ne q hq
end

section
variable {w : World} {fa : Addr} {d u : Nat} {Q : Flow → Shared → Prop} {E : Value → Shared → Prop} {s : Shared} {z : Heap} {p : Program} {loose : List Str} {mean : ExcName → Option Value} {mg mb : Str → Option Value}
set_option maxHeartbeats 400000 in
theorem loop_ok {g : LG} {a : LS} {L pen lst npen clst sc csc : Nat} {tp : Tok} {vs : List Value} {ns : List Int} {c1 c2 c3 : Obj} {pn pl : Array Value} {tv xv uv cv : Option Value}
    (X : (hd0.heap_1 w.params).In z) (T : Top p loose mean mg mb z) (C1 : CodeHd z 274 272) (C2 : CodeHd z 281 277) (F : Fr z L s.heap (mapL tv xv uv g.W pen (some (.ref sc)) cv)) (N : News z L s.heap ((sc, listOf vs.toArray csc) :: newsL w g a L pen lst npen clst 1 tp vs c1 c2 c3 pn pl)) (d3 : c3.data = .cell (some (.ref g.hp)))
    (O : LawOK w g 0 a) (hg : g.Ord) (hL : 292 < L ∧ L + 3 < lst ∧ lst < pen ∧ pen < g.dh) (hv : IntsAre vs ns) (hns : ns.length ≤ 63) (hd : d ≤ 400) (hu : u ≤ 800)
    (h : ∀ h' tk a' k at' tv' xv' tx uv' t', k ≤ 14 → LawOK w g k a' → 0 ≤ xv' → xv' < 2 ^ 40 → Fr z L h' (mapL tv' (some (.int xv' tx)) uv' g.W pen (some (.ref sc)) cv) → News z L h' (newsL w g a' L pen lst npen clst at' t' vs c1 c2 c3 pn pl) → Q .next { s with heap := h', toks := tk }) :
    wpAny (model PR w) ((mkA d [] u).deeper (envL L fa)) (exec (stmtAt lit292.1.body 5) (envL L fa)) Q E s := by
  refine use_turn hL hg.1 fun P9 U9 q100 q101 q102 q103 q104 q105 q106 q107 q108 q109 q110 q111 q112 q113 q114 q115 q116 q117 q118 => ?_
  refine wpAny_mono (Q := Q) (E := fun _ _ => False) ?_ (fun _ _ q => q) (fun _ _ f => f.elim)
  dsimp only [envL, lit292, litMk, stmtAt]
  have hvl := hv.length
  refine For_invV z (by rfl) (by rfl) ?_
  walk_at "goL"
  rename IsRange _ _ _ _ _ _ _ _ => hR
  rename Fr _ _ _ _ => F1
  rename News _ _ _ _ => N1
  refine ea1_3 (if_lim ((ns.length : Int) - 1)) fun n hn hn4 hn14 => ?_
  rw [hn] at hR
  have go := hg.1
  refine iter_range (n := n) (J := fun i m news => ∃ a' at' tvv xvv uvv t', LawOK w g i a' ∧ (0 < i → ∃ x' tx, xvv = some (.int x' tx) ∧ 0 ≤ x' ∧ x' < 2 ^ 40) ∧ at' = 1 + (i : Int) ∧ m = mapL tvv xvv uvv g.W pen (some (.ref sc)) cv ∧ news = newsL w g a' L pen lst npen clst at' t' vs c1 c2 c3 pn pl)
    rfl F1 (subl_of N1 (by walk_at "subl")) hR ?_ (mk6_5 a 1 tv xv uv tp O (fun h => absurd h (Nat.lt_irrefl _)) rfl rfl rfl) ?_ ?_
  · have key : ∀ m : Fin 15, Builtin.Range.small 0 ((m : Nat) : Int) 1 = true := by decide
    exact key ⟨n, by omega⟩
  · intro i t m₁ news₁ I it h₁ tk₁ hi iz9 hI hic F₁ N₁ hnI
    refine ea6_5 iz9 fun a' at' tvv xvv uvv t' O' hx' e1 e2 e3 => ?_
    clear iz9
    subst e1 e2 e3
    have hWI : g.M < I := hI (g.M, _) (by k_mem)
    refine turn_ok X T C1 C2 (fr_turn F₁) N₁ hnI hWI hic d3 O' hg (by omega) hL hv hns (by omega) hd hu fun h' tk a2 x' tx tu t2 O2 x0 x1 F2 N2 ne2 => ?_
    exact mk4_5 h' tk _ _ rfl F2 N2 ne2 (mk6_5 a2 _ _ _ _ _ O2 (fun _ => ⟨x', tx, rfl, x0, x1⟩) (by push_cast; omega) rfl rfl)
  · intro h₁ tk₁ m₁ news₁ iz9 F₁ N₁
    refine ea6_5 iz9 fun a' at' tvv xvv uvv t' O' hx' e1 e2 e3 => ?_
    clear iz9
    subst e1 e2 e3
    refine ea2_3 (hx' (by omega)) fun x' tx rz2 x0 x1 => ?_
    subst rz2
    exact h _ _ a' n _ _ _ _ _ _ hn14 O' x0 x1 F₁ N₁
end

section
variable {w : World} {fa : Addr} {d u : Nat} {Q : Flow → Shared → Prop} {E : Value → Shared → Prop} {s : Shared} {z : Heap} {p : Program} {loose : List Str} {mean : ExcName → Option Value} {mg mb : Str → Option Value}
set_option maxHeartbeats 200000 in
theorem front3 {L : Nat} {x : Int} {tx : Tok} {m0 : Str → Option Value} {news : List (Addr × Obj)}
    (X : (hd0.heap_1 w.params).In z) (T : Top p loose mean mg mb z) (F : Fr z L s.heap (fun y : Str => if y = "x" then some (.int x tx) else m0 y)) (N : News z L s.heap news) (hd : d ≤ 400) (hu : u ≤ 800)
    (h : ∀ h' tk sec ts, 4 ≤ sec → sec ≤ 16 → Fr z L h' (fun y : Str => if y = "sector" then some (.int sec ts) else if y = "x" then some (.int x tx) else m0 y) → News z L h' news → Q .next { s with heap := h', toks := tk }) :
    wpAny (model PR w) ((mkA d [] u).deeper (envL L fa)) (exec (stmtAt lit292.1.body 3) (envL L fa)) Q E s := by
  dsimp only [envL, lit292, litMk, stmtAt]
  iterate 15 (first | walk1 | (dsimp only; walk1))
  rename News _ _ _ _ => N1
  have m1 := fmod_lo x (n := 3) (by decide)
  have m2 := fmod_hi x (n := 3) (by decide)
  have m3 : x.fmod 3 = 0 ∨ x.fmod 3 = 1 ∨ x.fmod 3 = 2 := lt3 (fmod_lo x (by decide)) (fmod_hi x (by decide))
  rcases m3 with e | e | e
  · rw [e]
    refine item_tupleT (l := [_, _, _]) (j := 0) ⟨_, (N1 _ (.head _)).1, rfl, _, rfl⟩ (by decide) (by decide) (by simp [seqIndex?]) (by simp; rfl) ?_
    walk_at "goL"
    exact h _ _ 4 _ (by decide) (by decide) (by assumption) (subl_of (by assumption) fun q hq => .tail _ hq)
  · rw [e]
    refine item_tupleT (l := [_, _, _]) (j := 1) ⟨_, (N1 _ (.head _)).1, rfl, _, rfl⟩ (by decide) (by decide) (by simp [seqIndex?]) (by simp; rfl) ?_
    walk_at "goL"
    exact h _ _ 8 _ (by decide) (by decide) (by assumption) (subl_of (by assumption) fun q hq => .tail _ hq)
  · rw [e]
    refine item_tupleT (l := [_, _, _]) (j := 2) ⟨_, (N1 _ (.head _)).1, rfl, _, rfl⟩ (by decide) (by decide) (by simp [seqIndex?]) (by simp; rfl) ?_
    walk_at "goL"
    exact h _ _ 16 _ (by decide) (by decide) (by assumption) (subl_of (by assumption) fun q hq => .tail _ hq)
end

example : True := by
  k_with "eval Dict nil nil" => ((k_here; k_dflt (refine' newTk ?z209F ?z209N ?_; (case z209F => k_asm); (case z209N => k_asm)); intro _ _ _ _; walk_at "iL"; walk_at "iM"; (try k_sweep)))
  trivial
section
variable {w : World} {fa : Addr} {d u : Nat} {Q : Flow → Shared → Prop} {E : Value → Shared → Prop} {s : Shared} {z : Heap} {p : Program} {loose : List Str} {mean : ExcName → Option Value} {mg mb : Str → Option Value}
set_option maxHeartbeats 300000 in
theorem front4 {L sc lst pen npen csc clst : Nat} {x at' sec : Int} {tx tp ts : Tok} {vs : List Value} {c1 c2 c3 : Obj} {m0 : Str → Option Value}
    (X : (hd0.heap_1 w.params).In z) (T : Top p loose mean mg mb z) (F : Fr z L s.heap (fun y : Str => if y = "sector" then some (.int sec ts) else if y = "x" then some (.int x tx) else m0 y))
    (N : News z L s.heap [(pen, listOf #[.ref lst, .int at' tp] npen), (lst, listOf vs.toArray clst), (sc, listOf vs.toArray csc), (L + 1 + 1 + 1, c1), (L + 1 + 1, c2), (L + 1, c3), ((284 : Nat), tabObj #[]), (272, tabObj #[]), (277, tabObj #[]), (289, tabObj #[])]) (hL : 292 < L ∧ L + 3 < sc ∧ sc < lst ∧ lst < pen) (d3 : c3.data = .cell none) (hd : d ≤ 400) (hu : u ≤ 800)
    (h : ∀ h' tk (hp dh : Nat) HT tn tw (B G W V U M : Nat) oW c3' t1 t2 t3, pen < dh ∧ dh < hp ∧ hp < B ∧ B < G ∧ G < W ∧ W < V ∧ V < U ∧ U < M → oW.IsDictOf (PySem.strKind PR w) (wKV sec 1 V U M 0 t1 t2 t3) → c3'.data = .cell (some (.ref hp)) →
      Fr z L h' (fun y : Str => if y = "world" then some (.ref W) else if y = "sector" then some (.int sec ts) else if y = "x" then some (.int x tx) else m0 y) →
      News z L h' [(M, listOf #[] 0), (U, tD w [] 0), (V, tD w [] 0), (W, oW), (hp, instObj 190 dh), (dh, hD w.params HT B G sec 1 0 tn tw), (B, tD w [] 0), (G, tD w [] 0), (pen, listOf #[.ref lst, .int at' tp] npen), (lst, listOf vs.toArray clst), (sc, listOf vs.toArray csc), (L + 1 + 1 + 1, c1), (L + 1 + 1, c2), (L + 1, c3'), ((284 : Nat), tabObj #[]), (272, tabObj #[]), (277, tabObj #[]), (289, tabObj #[])] → Q .next { s with heap := h', toks := tk }) :
    wpAny (model PR w) ((mkA d [] u).deeper (envL L fa)) (exec (stmtAt lit292.1.body 4) (envL L fa)) Q E s := by
  refine use_front hL fun P9 U9 q100 q101 q102 q103 q104 q105 q106 q107 q108 q109 q110 q111 => ?_
  dsimp only [envL, lit292, litMk, stmtAt]
  walk_at "goL"
  rename News _ _ _ _ => N9
  rename Obj.IsDictOf _ _ _ => hD9
  rename Obj.data _ = _ => d9
  exact h _ _ _ _ _ _ _ _ _ _ _ _ _ _ _ _ _ _ (by refine ⟨?_, ?_, ?_, ?_, ?_, ?_, ?_, ?_⟩ <;> first | assumption | omega) hD9 d9 (by assumption) (subl_of N9 fun q hq => .tail _ hq)
end

theorem fr_cg {z : Heap} {L : Nat} {h : Heap} {m m' : Str → Option Value} (F : Fr z L h m) (e : m = m') : Fr z L h m' := e ▸ F
section
variable {w : World} {fa : Addr} {d u : Nat} {Q : Flow → Shared → Prop} {E : Value → Shared → Prop} {s : Shared} {z : Heap} {p : Program} {loose : List Str} {mean : ExcName → Option Value} {mg mb : Str → Option Value}
set_option maxHeartbeats 400000 in
theorem front0 {L S0 : Nat} {vs : List Value} {ns : List Int} {c1 c2 c3 : Obj}
    (X : (hd0.heap_1 w.params).In z) (T : Top p loose mean mg mb z) (F : Fr z L s.heap (fun y : Str => if y = "script" then some (.ref S0) else none))
    (N : News z L s.heap [(L + 1 + 1 + 1, c1), (L + 1 + 1, c2), (L + 1, c3), ((284 : Nat), tabObj #[]), (272, tabObj #[]), (277, tabObj #[]), (289, tabObj #[])]) (hS : z.IsList S0 vs.toArray) (hv : IntsAre vs ns) (hns : ns.length ≤ 63) (hL : 292 < L) (hd : d ≤ 400) (hu : u ≤ 800)
    (h : ∀ h' tk (sc : Nat) ws, IntsAre ws (ns.take 63) → L + 3 < sc → Fr z L h' (fun y : Str => if y = "script" then some (.ref sc) else none) → News z L h' [(sc, listOf ws.toArray 0), (L + 1 + 1 + 1, c1), (L + 1 + 1, c2), (L + 1, c3), ((284 : Nat), tabObj #[]), (272, tabObj #[]), (277, tabObj #[]), (289, tabObj #[])] → Q .next { s with heap := h', toks := tk }) :
    wpAny (model PR w) ((mkA d [] u).deeper (envL L fa)) (exec (stmtAt lit292.1.body 0) (envL L fa)) Q E s := by
  dsimp only [envL, lit292, litMk, stmtAt]
  walk_at "goL"
  rename Fr _ _ _ _ => F9
  rename News _ _ _ _ => N9
  exact h _ _ _ _ (by assumption) (by omega) (fr_cg F9 (by funext y; by_cases e : y = "script" <;> simp [e])) N9
set_option maxHeartbeats 400000 in
theorem front1 {L sc csc : Nat} {vs : List Value} {ns : List Int} {c1 c2 c3 : Obj}
    (X : (hd0.heap_1 w.params).In z) (T : Top p loose mean mg mb z) (F : Fr z L s.heap (fun y : Str => if y = "script" then some (.ref sc) else none))
    (N : News z L s.heap [(sc, listOf vs.toArray csc), (L + 1 + 1 + 1, c1), (L + 1 + 1, c2), (L + 1, c3), ((284 : Nat), tabObj #[]), (272, tabObj #[]), (277, tabObj #[]), (289, tabObj #[])]) (hv : IntsAre vs ns) (hns : ns.length ≤ 63) (hL : 292 < L ∧ L + 3 < sc) (hd : d ≤ 400) (hu : u ≤ 800)
    (h : ∀ h' tk (lst pen clst : Nat) tp, sc < lst → lst < pen → Fr z L h' (fun y : Str => if y = "pen" then some (.ref pen) else if y = "script" then some (.ref sc) else none) → News z L h' [(pen, listOf #[.ref lst, .int 0 tp] 0), (lst, listOf vs.toArray clst), (sc, listOf vs.toArray csc), (L + 1 + 1 + 1, c1), (L + 1 + 1, c2), (L + 1, c3), ((284 : Nat), tabObj #[]), (272, tabObj #[]), (277, tabObj #[]), (289, tabObj #[])] → Q .next { s with heap := h', toks := tk }) :
    wpAny (model PR w) ((mkA d [] u).deeper (envL L fa)) (exec (stmtAt lit292.1.body 1) (envL L fa)) Q E s := by
  dsimp only [envL, lit292, litMk, stmtAt]
  walk_at "goL"
  refine' h _ _ _ _ _ _ ?a ?b ?F ?N
  case N => assumption
  case F => assumption
  case a => omega
  case b => omega
set_option maxHeartbeats 400000 in
theorem front2 {L sc csc lst clst pen npen : Nat} {tp : Tok} {vs : List Value} {ns : List Int} {c1 c2 c3 : Obj}
    (X : (hd0.heap_1 w.params).In z) (T : Top p loose mean mg mb z) (F : Fr z L s.heap (fun y : Str => if y = "pen" then some (.ref pen) else if y = "script" then some (.ref sc) else none))
    (N : News z L s.heap [(pen, listOf #[.ref lst, .int 0 tp] npen), (lst, listOf vs.toArray clst), (sc, listOf vs.toArray csc), (L + 1 + 1 + 1, c1), (L + 1 + 1, c2), (L + 1, c3), ((284 : Nat), tabObj #[]), (272, tabObj #[]), (277, tabObj #[]), (289, tabObj #[])]) (hv : IntsAre vs ns) (hns : ns.length ≤ 63) (hL : 292 < L ∧ L + 3 < sc ∧ sc < lst ∧ lst < pen) (hd : d ≤ 400) (hu : u ≤ 800)
    (h : ∀ h' tk x tx tp, 0 ≤ x → x < 2 ^ 40 → Fr z L h' (fun y : Str => if y = "x" then some (.int x tx) else if y = "pen" then some (.ref pen) else if y = "script" then some (.ref sc) else none) → News z L h' [(pen, listOf #[.ref lst, .int 1 tp] npen), (lst, listOf vs.toArray clst), (sc, listOf vs.toArray csc), (L + 1 + 1 + 1, c1), (L + 1 + 1, c2), (L + 1, c3), ((284 : Nat), tabObj #[]), (272, tabObj #[]), (277, tabObj #[]), (289, tabObj #[])] → Q .next { s with heap := h', toks := tk }) :
    wpAny (model PR w) ((mkA d [] u).deeper (envL L fa)) (exec (stmtAt lit292.1.body 2) (envL L fa)) Q E s := by
  dsimp only [envL, lit292, litMk, stmtAt]
  walk_at "goL"
  exact h _ _ _ _ _ (by assumption) (by assumption) (by assumption) (by assumption)
end

theorem map_start {W pen sc : Nat} {x sec : Int} {tx ts : Tok} : (fun y : Str => if y = "world" then some (.ref W) else if y = "sector" then some (.int sec ts) else if y = "x" then some (.int x tx) else if y = "pen" then some (.ref pen) else if y = "script" then some (.ref sc) else none) = mapL none (some (.int x tx)) none W pen (some (.ref sc)) (some (.int sec ts)) := by
  funext y
  unfold mapL
  by_cases h1 : y = "turn"
  · subst h1; rfl
  by_cases h2 : y = "x"
  · subst h2; rfl
  by_cases h3 : y = "used"
  · subst h3; rfl
  by_cases h4 : y = "world"
  · subst h4; rfl
  by_cases h5 : y = "pen"
  · subst h5; rfl
  by_cases h6 : y = "script"
  · subst h6; rfl
  by_cases h7 : y = "sector"
  · subst h7; rfl
  simp [h1, h2, h3, h4, h5, h6, h7]
noncomputable def start0 (sec : Int) (wr : Int) (tn tw u1 u2 u3 : Tok) (oW : Obj) : LS := ⟨1, wr, tn, tw, u1, u2, u3, [], [], [], [], 0, 0, 0, 0, 0, oW, [], #[], #[], []⟩
theorem LawOK.start {w : World} {g : LG} {tn tw u1 u2 u3 : Tok} {oW : Obj} (hW : oW.IsDictOf (PySem.strKind PR w) (wKV g.sec 1 g.V g.U g.M 0 u1 u2 u3)) : LawOK w g 0 (start0 g.sec 0 tn tw u1 u2 u3 oW) := by
  have K0 : ∀ z, KeysO w z [] [] := fun z => ⟨(fun _ h => nomatch h), .nil, Nat.zero_le _⟩
  exact ⟨hW, .nil, .nil, K0, K0, K0, K0, .start, (fun _ h => nomatch h), (fun _ h => nomatch h), ⟨Int.le_refl _, Int.le_refl _⟩, ⟨Int.le_refl _, Int.le_refl _⟩, Nat.le_refl _, Nat.le_refl _, Nat.le_refl _⟩
section
variable {w : World} {fa : Addr} {d u : Nat} {Q : Flow → Shared → Prop} {E : Value → Shared → Prop} {s : Shared} {z : Heap} {p : Program} {loose : List Str} {mean : ExcName → Option Value} {mg mb : Str → Option Value}
set_option maxHeartbeats 400000 in
theorem law_front {L S0 : Nat} {vs : List Value} {ns : List Int} {c1 c2 c3 : Obj}
    (X : (hd0.heap_1 w.params).In z) (T : Top p loose mean mg mb z) (C1 : CodeHd z 274 272) (C2 : CodeHd z 281 277) (F : Fr z L s.heap (fun y : Str => if y = "script" then some (.ref S0) else none))
    (N : News z L s.heap [(L + 1 + 1 + 1, c1), (L + 1 + 1, c2), (L + 1, c3), ((284 : Nat), tabObj #[]), (272, tabObj #[]), (277, tabObj #[]), (289, tabObj #[])]) (hS : z.IsList S0 vs.toArray) (hv : IntsAre vs ns) (hns : ns.length ≤ 63) (d3 : c3.data = .cell none) (hL : 292 < L) (hd : d ≤ 400) (hu : u ≤ 800)
    (h : ∀ h' tk g a k (pen sc : Nat) tv x tx uv cv c3', g.Ord → LawOK w g k a → k ≤ 14 → L + 3 < g.dh → 0 ≤ x → x < 2 ^ 40 → c3'.data = .cell (some (.ref g.hp)) → Fr z L h' (mapL tv (some (.int x tx)) uv g.W pen (some (.ref sc)) cv) →
      News z L h' ((272, tabObj a.pw) :: (277, tabObj a.ps) :: (L + 1 + 1 + 1, c1) :: (L + 1 + 1, c2) :: (L + 1, c3') :: ((284 : Nat), tabObj #[]) :: (289, tabObj #[]) :: (g.hp, instObj 190 g.dh) :: (g.dh, hD w.params g.HT g.B g.G g.sec a.nxt a.wr a.tn a.tw) :: (g.B, tD w a.xs a.n) :: (g.G, tD w a.yg a.n2) :: a.os) →
      wpAny (model PR w) ((mkA d [] u).deeper (envL L fa)) (execs (lit292.1.body.drop 6) (envL L fa)) Q E { s with heap := h', toks := tk }) :
    wpAny (model PR w) ((mkA d [] u).deeper (envL L fa)) (execs lit292.1.body (envL L fa)) Q E s := by
  dsimp only [lit292, litMk]
  refine wpAny_execs_cons ?_
  refine front0 X T F N hS hv hns hL hd hu fun h1 tk1 sc ws hws hsc F1 N1 => ?_
  have hl63 : (ns.take 63).length ≤ 63 := by rw [List.length_take]; omega
  dsimp only
  refine wpAny_execs_cons ?_
  refine front1 X T F1 N1 hws hl63 ⟨hL, hsc⟩ hd hu fun h2 tk2 lst pen clst tp o1 o2 F2 N2 => ?_
  dsimp only
  refine wpAny_execs_cons ?_
  refine front2 X T F2 N2 hws hl63 ⟨hL, hsc, o1, o2⟩ hd hu fun h3 tk3 x tx tp x0 x1 F3 N3 => ?_
  dsimp only
  refine wpAny_execs_cons ?_
  refine front3 X T F3 N3 hd hu fun h4 tk4 sec ts s0 s1 F4 N4 => ?_
  dsimp only
  refine wpAny_execs_cons ?_
  refine front4 X T F4 N4 ⟨hL, hsc, o1, o2⟩ d3 hd hu fun h5 tk5 hp dh HT tn tw B G W V U M oW c3' t1 t2 t3 ho hW hc F5 N5 => ?_
  dsimp only
  refine wpAny_execs_cons ?_
  rw [map_start] at F5
  refine loop_ok (g := ⟨hp, dh, B, G, V, U, M, W, HT, sec⟩) (a := start0 sec 0 tn tw t1 t2 t3 oW) (pen := pen) (lst := lst) (sc := sc) (vs := ws) (ns := ns.take 63) (npen := 0) (clst := clst) (csc := 0) (tp := tp) (c1 := c1) (c2 := c2) (c3 := c3') (pn := #[]) (pl := #[]) X T C1 C2 F5 (subl_of N5 ?_) hc (LawOK.start (g := ⟨hp, dh, B, G, V, U, M, W, HT, sec⟩) hW) ⟨ord_front hL hsc o1 o2 ho, s0, s1⟩ ⟨hL, Nat.lt_trans hsc o1, o2, ho.1⟩ hws hl63 hd hu fun h6 tk6 a k at' tv x' tx' uv tp' hk O x0' x1' F6 N6 => ?_
  · dsimp only [newsL, start0]
    walk_at "subl"
  · refine h h6 tk6 _ a k pen sc _ x' tx' _ _ c3' ⟨ord_front hL hsc o1 o2 ho, s0, s1⟩ O hk (by dsimp only; omega) x0' x1' hc F6 (subl_of N6 ?_)
    dsimp only [newsL]
    walk_at "subl"
end

section
variable {w : World} {d u : Nat} {fr : List Env} {E : Value → Shared → Prop} {s : Shared} {z : Heap} {L : Nat} {m : Str → Option Value} {p : Program} {loose : List Str} {mean : ExcName → Option Value} {mg mb : Str → Option Value} {Q : Value → Shared → Prop} {env : Env} {news rest : List (Addr × Obj)}
theorem free_call {hp dh B G pt n n2 : Nat} {HT : HT} {q : PT} {ts : List (List Int × Nat)} {xs ys : List Ent} {sec nxt wr : Int} {tn tw : Tok} {tx : Int} {tt : Tok}
    (F : Fr z L s.heap m) (N : News z L s.heap news) (X : (hd0.heap_1 w.params).In z) (T : Top p loose mean mg mb z) (t0 : Take [(hp, instObj 190 dh), (dh, hD w.params HT B G sec nxt wr tn tw), (B, tD w xs n), (G, tD w ys n2)] news rest)
    (PA : PtrAt w z pt q ts) (K : KeysO w z [] xs) (K2 : KeysO w z [] ys) (hall : ∀ t ∈ ts, (atKey xs t.1).isSome = true) (hnd : (ts.map (·.1)).Nodup) (hB : 292 < B) (hG : 292 < G) (hd : d ≤ 460) (hu : u ≤ 860) (hO : dh < hp ∧ hp < B ∧ B < G)
    (hlen : ys.length + ts.length < 10000)
    (h : ∀ h' tk n' n2', Fr z L h' m → News z L h' ((hp, instObj 190 dh) :: (dh, hD w.params HT B G sec nxt wr tn tw) :: (B, tD w (dropX xs ts) n') :: (G, tD w (putX (.int tx tt) ys ts) n2') :: rest) → Q .none { s with heap := h', toks := tk }) :
    wpAny (model PR w) ((mkA d fr u).deeper env) (call (.ref 168) [.ref hp, .ref pt, .int tx tt]) Q E s := by
  have hz := fun b o e => front_get (b := b) (o := o) F N t0 e
  refine wpAny_call (free_ok (d := d + 1) (u := u + 3) (fr := env :: fr) (front F N t0 X).1 (front_top F N t0 T) (front F N t0 X).2 (PA.keeps hz) (keysZ K hz) (keysZ K2 hz) hall hnd hB hG (by omega) (by omega) hO hlen fun h' tk n' n2' P' => ?_)
  obtain ⟨F', N'⟩ := back F N t0 P'
  exact h h' tk n' n2' F' N'
end
example : True := by
  k_with "call ref" => ((k_here; (with_reducible show wpAny _ _ (PySem.call (Value.ref 126) _) _ _ _); k_dflt (refine' dsize_call ?z201F ?z201N ?z201X ?z201T ?z201P ?z201k ?z201l ?z201d ?z201u ?_; (case z201F => k_asm); (case z201N => k_asm); (case z201X => k_asm); (case z201T => k_asm); (case z201P => refine PtrAt.keeps (by assumption) (Fr.keep (by assumption))); (case z201k => assumption); (case z201l => omega); (case z201d => omega); (case z201u => omega)); intro _ _ _ _ _; (try k_sweep)))
  trivial
example : True := by
  k_with "call ref" => ((k_here; (with_reducible show wpAny _ _ (PySem.call (Value.ref 168) _) _ _ _); k_dflt (refine' free_call ?z202F ?z202N ?z202X ?z202T ?z202t ?z202P ?z202K ?z202K2 ?z202a ?z202n ?z202B ?z202G ?z202d ?z202u ?z202O ?z202l ?_; (case z202F => k_asm); (case z202N => k_asm); (case z202X => k_asm); (case z202T => k_asm); (case z202t => k_extra "take"); (case z202P => assumption); (case z202K => assumption); (case z202K2 => assumption); (case z202a => assumption); (case z202n => assumption); (case z202B => omega); (case z202G => omega); (case z202d => omega); (case z202u => omega); (case z202O => omega); (case z202l => omega)); intro _ _ _ _ _ _; (try k_sweep)))
  trivial
section
variable {w : World} {d u : Nat} {fr : List Env} {R : Result → Shared → Prop} {s : Shared} {z : Heap} {p : Program} {loose : List Str} {mean : ExcName → Option Value} {mg mb : Str → Option Value}
set_option maxHeartbeats 400000 in
theorem born_ok {x dx io pt : Nat} {us bo fd : Int} {k v : Nat → Tok} {q : PT} {ts : List (List Int × Nat)}
    (X : (hd0.heap_1 w.params).In z) (T : Top p loose mean mg mb z) (P : Pre z s.heap [(x, instObj 225 dx), (dx, plD w.params io us bo fd k v)]) (PA : PtrAt w z pt q ts) (k3 : ∀ t ∈ ts, ∃ a b c, t.1 = [a, b, c]) (hl : ts.length ≤ 1000) (hx : 292 < dx ∧ dx < x) (hd : d ≤ 450) (hu : u ≤ 850)
    (h : ∀ h' tk v', Pre z h' [(x, instObj 225 dx), (dx, plD w.params io (us + (ts.map fun e => cnt e.1).sum) (bo + 1) fd k v')] → R (.ok (.ret .none)) { s with heap := h', toks := tk }) :
    codeAny (model PR w) (mkA d fr u) (.call (.ref 215) ⟨[.ref x, .ref pt], []⟩) R s := by
  refine enterZ (binds := [("self", .ref x), ("pointer", .ref pt)]) X T P (by k_is) (by k_is) (by k_room) (BindsTo.of_eq (by rfl)) (locs (by rfl)) (by rfl) (by rfl) (by rfl) (by decide) ?_
  intro L' h' tk' F' N' hL' hst'
  (try dsimp only); k_fold
  walk_at "goL"
  exact h _ _ (pick4 (v 0) _ _ (v 3)) (leaveZ (by assumption) (by assumption) (by walk_at "subl") (by assumption) P.size)
set_option maxHeartbeats 400000 in
theorem freed_ok {x dx hp dh B G pt n n2 : Nat} {us bo fd : Int} {k v : Nat → Tok} {q : PT} {ts : List (List Int × Nat)} {HT : HT} {xs ys : List Ent} {sec nxt wr : Int} {tn tw : Tok} {tx : Int} {tt : Tok}
    (X : (hd0.heap_1 w.params).In z) (T : Top p loose mean mg mb z) (P : Pre z s.heap [(x, instObj 225 dx), (dx, plD w.params hp us bo fd k v), (hp, instObj 190 dh), (dh, hD w.params HT B G sec nxt wr tn tw), (B, tD w xs n), (G, tD w ys n2)])
    (PA : PtrAt w z pt q ts) (K : KeysO w z [] xs) (K2 : KeysO w z [] ys) (hall : ∀ t ∈ ts, (atKey xs t.1).isSome = true) (hnd : (ts.map (·.1)).Nodup) (k3 : ∀ t ∈ ts, ∃ a b c, t.1 = [a, b, c]) (hO : 292 < dh ∧ dh < hp ∧ hp < B ∧ B < G) (hx : G < dx ∧ dx < x) (hd : d ≤ 450) (hu : u ≤ 850)
    (hlen : ys.length + ts.length < 1000)
    (h : ∀ h' tk v' n' n2', Pre z h' [(x, instObj 225 dx), (dx, plD w.params hp (us - (ts.map fun e => cnt e.1).sum) bo (fd + 1) k v'), (hp, instObj 190 dh), (dh, hD w.params HT B G sec nxt wr tn tw), (B, tD w (dropX xs ts) n'), (G, tD w (putX (.int tx tt) ys ts) n2')] → R (.ok (.ret .none)) { s with heap := h', toks := tk }) :
    codeAny (model PR w) (mkA d fr u) (.call (.ref 222) ⟨[.ref x, .ref pt, .int tx tt], []⟩) R s := by
  refine enterZ (binds := [("self", .ref x), ("pointer", .ref pt), ("txg", .int tx tt)]) X T P (by k_is) (by k_is) (by k_room) (BindsTo.of_eq (by rfl)) (locs (by rfl)) (by rfl) (by rfl) (by rfl) (by decide) ?_
  refine use_f hO hx fun P9 U9 q100 q101 q102 q103 q104 q105 q106 => ?_
  intro L' h' tk' F' N' hL' hst'
  (try dsimp only); k_fold
  walk_at "goL"
  exact h _ _ (pick4 (v 0) _ (v 2) _) _ _ (leaveZ (by assumption) (by assumption) (by walk_at "subl") (by assumption) P.size)
end

example : True := by
  k_with "goE" => (repeat' (first | (k_unfold; (try dsimp only)) | (dsimp only; k_unfold; (try dsimp only)) | ((fail_if_success (with_reducible show wpAny _ _ (PySem.exec (PySem.Stmt.For _ _ _ _ _) _) _ _ _)); (fail_if_success (with_reducible show wpAny _ _ (PySem.eval (PySem.Expr.Lambda _ _ _ _) _) _ _ _)); (fail_if_success (with_reducible show wpAny _ _ (PySem.call (PySem.Value.ref 263) _) _ _ _)); (fail_if_success (with_reducible show wpAny _ _ (PySem.call (PySem.Value.ref 147) _) _ _ _)); (fail_if_success (with_reducible show wpAny _ _ (PySem.call (PySem.Value.ref 287) _) _ _ _)); (fail_if_success (with_reducible show wpAny _ _ (PySem.call (PySem.Value.ref 215) _) _ _ _)); (fail_if_success (with_reducible show wpAny _ _ (PySem.call (PySem.Value.ref 222) _) _ _ _)); (fail_if_success (with_reducible show wpAny _ _ (PySem.compareOp PySem.CmpOp.Eq (PySem.Value.ref _) (PySem.Value.ref _)) _ _ _)); (fail_if_success (with_reducible show wpAny _ _ (PySem.call (PySem.Value.ref 275) _) _ _ _)); (fail_if_success (with_reducible show wpAny _ _ (PySem.call (PySem.Value.ref 282) _) _ _ _)); (fail_if_success (with_reducible show wpAny _ _ (PySem.eval (PySem.Expr.ListComp _ _ _ _) _) _ _ _)); (fail_if_success (with_reducible show LCg.CompSrc _ _ _ _ _ _ _ _ _ _ _ _ _ _)); (fail_if_success (with_reducible show wpAny _ _ (PySem.pyIter _) _ _ _)); first | (k_end; wrow_close) | walk1 | (dsimp only; walk1) | (leave1; walk_say "STEP leave1"; try dsimp only)) | fail "no step"))
  trivial
noncomputable abbrev newsE (w : World) (g : LG) (nxt wr : Int) (tn tw : Tok) (xs yg : List Ent) (n n2 : Nat) (L : Nat) (c1 c2 c3 : Obj) (pl : Array Value) (os : List (Addr × Obj)) : List (Addr × Obj) :=
  (L + 1 + 1 + 1, c1) :: (L + 1 + 1, c2) :: (L + 1, c3) :: ((284 : Nat), tabObj #[]) :: (289, tabObj pl) :: (g.hp, instObj 190 g.dh) :: (g.dh, hD w.params g.HT g.B g.G g.sec nxt wr tn tw) :: (g.B, tD w xs n) :: (g.G, tD w yg n2) :: os
theorem ptr_never {w : World} {x D S T0 k1 k2 k3 : Nat} {q : PT} {b6 : Int} {t1 t2 t3 t4 u1 u2 u3 : Tok} {os : List (Addr × Obj)} (e : q.D = D) (e2 : q.S = S) :
    PtrL w ((x, instObj 117 q.dx) :: (q.dx, pD w.params q) :: (S, tupO [.int 0 t1, .int 0 t2, .int 0 t3, .int 0 t4] k1) :: (D, tupO [.ref T0] k2) :: (T0, tupO [.int 0 u1, .int b6 u2, .int 1 u3] k3) :: os) x q [([0, b6, 1], T0)] := fun z =>
  PtrO.made (ts := [([0, b6, 1], T0)]) (own := (T0, tupO [.int 0 u1, .int b6 u2, .int 1 u3] k3) :: os) e e2 fun t ht => by
    rw [List.mem_singleton.mp ht]
    exact .inr ⟨_, .head _, keyObj3⟩
theorem end6_fin {w : World} {z h' : Heap} {g : LG} {L n n2 x D S T0 k1 k2 k3 : Nat} {nxt wr : Int} {tn tw : Tok} {xs yg : List Ent} {c1 c2' c3 : Obj} {pl : Array Value} {os : List (Addr × Obj)} {q : PT} {b6 : Int} {t1 t2 t3 t4 u1 u2 u3 : Tok} {P : Prop}
    (N : News z L h' ((x, instObj 117 q.dx) :: (q.dx, pD w.params q) :: (S, tupO [.int 0 t1, .int 0 t2, .int 0 t3, .int 0 t4] k1) :: (D, tupO [.ref T0] k2) :: (T0, tupO [.int 0 u1, .int b6 u2, .int 1 u3] k3) :: newsE w g nxt wr tn tw xs yg n n2 L c1 c2' c3 pl os))
    (e : q.D = D) (e2 : q.S = S) (hos : ∀ e ∈ os, g.G < e.1) (o : g.G < x ∧ g.G < q.dx ∧ g.G < S ∧ g.G < D ∧ g.G < T0)
    (h : ∀ os', (∀ e ∈ os, e ∈ os') → (∀ e ∈ os', g.G < e.1) → PtrL w os' x q [([0, b6, 1], T0)] → News z L h' (newsE w g nxt wr tn tw xs yg n n2 L c1 c2' c3 pl os') → P) : P := by
  refine h _ (fun e he => .tail _ (.tail _ (.tail _ (.tail _ (.tail _ he))))) ?_ (ptr_never (t1 := t1) (t2 := t2) (t3 := t3) (t4 := t4) (u1 := u1) (u2 := u2) (u3 := u3) (k1 := k1) (k2 := k2) (k3 := k3) (os := os) e e2) (subl_of N (by walk_at "subl"))
  exact List.forall_mem_cons.mpr ⟨o.1, List.forall_mem_cons.mpr ⟨o.2.1, List.forall_mem_cons.mpr ⟨o.2.2.1, List.forall_mem_cons.mpr ⟨o.2.2.2.1, List.forall_mem_cons.mpr ⟨o.2.2.2.2, hos⟩⟩⟩⟩⟩
section
variable {w : World} {fa : Addr} {d u : Nat} {Q : Flow → Shared → Prop} {E : Value → Shared → Prop} {s : Shared} {z : Heap} {p : Program} {loose : List Str} {mean : ExcName → Option Value} {mg mb : Str → Option Value}
set_option maxHeartbeats 400000 in
theorem end6 {g : LG} {L n n2 : Nat} {nxt wr : Int} {tn tw : Tok} {xs yg : List Ent} {c1 c2 c3 : Obj} {pl : Array Value} {os : List (Addr × Obj)} {m : Str → Option Value}
    (X : (hd0.heap_1 w.params).In z) (T : Top p loose mean mg mb z) (F : Fr z L s.heap m) (N : News z L s.heap (newsE w g nxt wr tn tw xs yg n n2 L c1 c2 c3 pl os))
    (hg : g.Ord) (hL : 292 < L ∧ L + 3 < g.dh) (hos : ∀ q ∈ os, g.G < q.1) (d2 : c2.data = .cell none) (hd : d ≤ 400) (hu : u ≤ 800)
    (h : ∀ h' tk x q (T0 : Nat) b6 c2' os', (∀ e ∈ os, e ∈ os') → (∀ e ∈ os', g.G < e.1) → PtrL w os' x q [([0, b6, 1], T0)] → 1000 ≤ b6 → c2'.data = .cell (some (.ref x)) → Fr z L h' m → News z L h' (newsE w g nxt wr tn tw xs yg n n2 L c1 c2' c3 pl os') → Q .next { s with heap := h', toks := tk }) :
    wpAny (model PR w) ((mkA d [] u).deeper (envL L fa)) (exec (stmtAt lit292.1.body 6) (envL L fa)) Q E s := by
  refine use_end hL hg.1 fun P9 U9 q100 q101 q102 q103 q104 q105 q106 q107 q108 q109 q110 q111 q112 => ?_
  dsimp only [envL, lit292, litMk, stmtAt]
  have go := hg.1
  have hT : TailOk os g.dh g.G L (L + 3) := fun q hq => ⟨by have := hos q hq; omega, .inr (hos q hq), .inr (by have := hos q hq; omega)⟩
  walk_at "goE"
  rename News _ _ _ _ => N9
  rename Fr _ _ _ _ => F9
  rename Obj.data _ = _ => d9
  rename _ = PT.mk _ _ _ _ _ _ _ _ _ _ _ _ _ => e9
  refine end6_fin N9 (congrArg PT.D e9) (congrArg PT.S e9) hos (by refine ⟨?_, ?_, ?_, ?_, ?_⟩ <;> first | assumption | omega) fun os' h1 h2 h3 N10 => ?_
  exact h _ _ _ _ _ _ _ _ h1 h2 h3 (by decide) d9 F9 N10
end

structure EOK (w : World) (g : LG) (xs yg : List Ent) (pl : Array Value) (os : List (Addr × Obj)) : Prop where
  K : ∀ z, KeysO w z os xs
  KG : ∀ z, KeysO w z os yg
  tb : TabOk (("law" ++ ".<locals>." : Str) ++ ("<lambda>" : Str)) os pl
  hos : ∀ q ∈ os, g.G < q.1
theorem EOK.mono {w : World} {g : LG} {xs yg : List Ent} {pl : Array Value} {os os' : List (Addr × Obj)} (x : EOK w g xs yg pl os) (h : ∀ e ∈ os, e ∈ os') (hos : ∀ q ∈ os', g.G < q.1) : EOK w g xs yg pl os' :=
  ⟨fun z => (x.K z).mono h, fun z => (x.KG z).mono h, x.tb.mono h, hos⟩
theorem LawOK.eok {w : World} {g : LG} {k : Nat} {a : LS} (O : LawOK w g k a) (hg : g.Ord) : EOK w g a.xs a.yg #[] a.os := ⟨O.K, O.KG, .nil, fun q hq => by have := O.hos q hq; have := hg.1; omega⟩
section
variable {w : World} {fa : Addr} {d u : Nat} {Q : Flow → Shared → Prop} {E : Value → Shared → Prop} {s : Shared} {z : Heap} {p : Program} {loose : List Str} {mean : ExcName → Option Value} {mg mb : Str → Option Value}
set_option maxHeartbeats 1000000 in
theorem end7 {g : LG} {L n n2 x T0 : Nat} {nxt wr b6 : Int} {tn tw : Tok} {xs yg : List Ent} {c1 c2 c3 : Obj} {pl : Array Value} {os : List (Addr × Obj)} {m : Str → Option Value} {q : PT}
    (X : (hd0.heap_1 w.params).In z) (T : Top p loose mean mg mb z) (C : CodeHd z 291 289) (F : Fr z L s.heap m) (N : News z L s.heap (newsE w g nxt wr tn tw xs yg n n2 L c1 c2 c3 pl os))
    (O : EOK w g xs yg pl os) (hg : g.Ord) (hL : 292 < L ∧ L + 3 < g.dh) (d2 : c2.data = .cell (some (.ref x))) (d3 : c3.data = .cell (some (.ref g.hp))) (PL : PtrL w os x q [([0, b6, 1], T0)]) (hno : (atKey xs [0, b6, 1]).isSome = false) (hno2 : (atKey yg [0, b6, 1]).isSome = false) (hd : d ≤ 400) (hu : u ≤ 800)
    (h : ∀ h' tk pl' os', (∀ e ∈ os, e ∈ os') → EOK w g xs yg pl' os' → Fr z L h' m → News z L h' (newsE w g nxt wr tn tw xs yg n n2 L c1 c2 c3 pl' os') → Q .next { s with heap := h', toks := tk }) :
    wpAny (model PR w) ((mkA d [] u).deeper (envL L fa)) (exec (stmtAt lit292.1.body 7) (envL L fa)) Q E s := by
  refine use_end hL hg.1 fun P9 U9 q100 q101 q102 q103 q104 q105 q106 q107 q108 q109 q110 q111 q112 => ?_
  dsimp only [envL, lit292, litMk, stmtAt]
  have go := hg.1
  have hos := O.hos
  have tb0 := O.tb
  have hT : TailOk os g.dh g.G L (L + 3) := fun q hq => ⟨by have := hos q hq; omega, .inr (hos q hq), .inr (by have := hos q hq; omega)⟩
  have FL0 : FrL [] [] := ⟨rfl, (fun _ h => nomatch h), (fun _ h => nomatch h)⟩
  walk_at "goE"
  rename Fr _ _ _ _ => F9
  rename News _ _ _ _ => N9
  refine kla_eval (by rfl) ?_
  refine' lam_any (x0 := g.G) F9 N9 T C ?cd ?U tb0 ?hc ?cl ?hx ?h0 ?_
  case cd => exact rfl
  case U => k_updF
  case hc => walk_at "subl"
  case cl => with_unfolding_all rfl
  case hx => exact hos
  case h0 => k_mem
  intro f c' oc ctv ps' h3 tk3 F3 N3 hco tb' hlf hlc hxc hcn
  (try dsimp only at N3)
  have hcL : @LT.lt Nat _ (L + 3) c' := by
    rcases hcn with h | h
    · exact h (L + 1 + 1 + 1, _) (by k_mem)
    · have := hos _ h
      exact Nat.lt_trans (by omega) this
  k_lt hlf; k_lt2 hlc; k_lt2 hxc
  have hMf := ltN (Nat.lt_trans hxc hlc)
  have hflf : @LT.lt Nat _ (L + 3) f := by omega
  clear N9 F9
  walk_at "goE"
  refine' (fun N10 => ?main) (subl_of (mt := led4 w g.hp g.dh g.B g.G g.HT g.sec nxt wr tn tw xs yg n n2 ++ (((289, tabObj ps') :: (f, ?fo) :: (c', oc) :: (L + 1, c3) :: (L + 1 + 1, c2) :: (L + 1 + 1 + 1, c1) :: (284, tabObj #[]) :: os) ++ [])) N3 ?sub)
  case sub =>
    simp only [led4, List.cons_append, List.nil_append, List.append_nil]
    walk_at "subl"
  case main =>
    refine' told_call (mt := led4 w g.hp g.dh g.B g.G g.HT g.sec nxt wr tn tw xs yg n n2) (fl := []) (fun v mt' => mt' = led4 w g.hp g.dh g.B g.G g.HT g.sec nxt wr tn tw xs yg n n2 ∧ (atKey xs [0, b6, 1]).isSome = true ∧ ((#[] : Array UInt8).size : Int) = q.size ∧ v = .bytes #[] 0) (fun C why mt' => mt' = led4 w g.hp g.dh g.B g.G g.HT g.sec nxt wr tn tw xs yg n n2 ∧ (((atKey xs [0, b6, 1]).isSome = true ∧ ¬((#[] : Array UInt8).size : Int) = q.size ∧ C = 44 ∧ why = "a block of another size") ∨ ((atKey xs [0, b6, 1]).isSome = false ∧ C = 56 ∧ why = goneStr (atKey yg [0, b6, 1]).isSome))) X T F3 N10 (apart_of (by walk_at "apart")) (fun _ h => nomatch h) (fun _ _ _ h => nomatch h) FL0 rfl kind_ne ?hfn (by omega) (by omega) ?hcall ?hok ?her
    case hfn => k_dflt k_mem
    case hcall =>
      intro z' env2 s' hz' hr' P' FF hsz
      have X' := X.keeps hz'
      have T' := T.keeps hz'
      simp only [List.forall_mem_cons] at hr'
      refine ea0_8 (hr') fun eS ef ec e1 e2 e3 e4 eo => ?_
      (try clear hr')
      clear F3 N3 N10
      refine enterL T' P' ef ec hco (by k_room) (by rfl) rfl rfl rfl (by decide) ?_
      intro L2 h4 tk4 F4 N4 hL4 hst4
      walk_at "goM"
      rename News z' _ _ _ => N5
      rename Fr z' _ _ _ => F5
      have Nm : News z' L2 _ (led4 w g.hp g.dh g.B g.G g.HT g.sec nxt wr tn tw xs yg n n2) := subl_of N5 (by walk_at "subl")
      have hb0 := hid_base F5 Nm
      refine through rfl rfl F5 Nm F5.above (fun _ _ => rfl) ?_
      exact read_ends (d := d + 3) (u := u + 9) (X'.keeps hb0) (T'.keeps hb0) (Pre.of Nm) (((PL z').at (fun _ _ e => e) eo).keeps hb0) (keysZ (keysB (O.K z) hz' eo) hb0) (keysZ (keysB (O.KG z) hz' eo) hb0) (by omega) (by omega) (by omega) (by omega) (ffr_hidN FF F5 Nm rfl kind_ne) ⟨go.2.1, go.2.2.1, go.2.2.2.1⟩ (.inr hno) (by decide)
    case hok =>
      intro h6 tk6 v mt' fl' S6 hO F6 N6
      refine ea0_4 (hO) fun rz0 hs hz rz3 => ?_
      (try clear hO)
      subst rz0
      subst rz3
      rw [hno] at hs
      cases hs
    case her =>
      intro h6 tk6 C why mt' fl' t6 S6 hE F6 N6
      obtain ⟨rfl, hE⟩ := hE
      cases S6
      rcases hE with ⟨e0, _⟩ | ⟨_, rfl, rfl⟩
      · rw [hno] at e0
        cases e0
      · rw [hno2, goneS_f]
        simp only [led4, List.cons_append, List.nil_append, List.append_nil] at N6
        walk_at "goE"
        rename News _ _ _ _ => N7
        exact h _ _ ps' ((c', oc) :: os) (fun e he => .tail _ he) ⟨fun z => (O.K z).mono fun e he => .tail _ he, fun z => (O.KG z).mono fun e he => .tail _ he, tb', List.forall_mem_cons.mpr ⟨hxc, hos⟩⟩ (by assumption) (subl_of N7 (by walk_at "subl"))
end

section
variable {w : World} {d u : Nat} {fr : List Env} {E : Value → Shared → Prop} {s : Shared} {z : Heap} {L : Nat} {m : Str → Option Value} {p : Program} {loose : List Str} {mean : ExcName → Option Value} {mg mb : Str → Option Value} {Q : Value → Shared → Prop} {env : Env} {news rest : List (Addr × Obj)}
theorem wr7_call {hp dh B G rr rdx n : Nat} {HT : HT} {xs : List Ent} {os : List (Addr × Obj)} {sec nxt wr lv tg fl : Int} {tn tw tb t1 t2 t3 t4 : Tok} {b : Array UInt8} {rk rv : Nat → Tok} {cp : Nat}
    (F : Fr z L s.heap m) (N : News z L s.heap news) (X : (hd0.heap_1 w.params).In z) (T : Top p loose mean mg mb z) (t0 : Take [(hp, instObj 190 dh), (dh, hD w.params HT B G sec nxt wr tn tw), (B, tD w xs n)] news rest)
    (K : KeysO w z os xs) (ho : ∀ q ∈ os, q ∈ rest) (hr1 : (rr, instObj 88 rdx) ∈ rest) (hr2 : (rdx, rD w.params 0 0 (cp : Int) 0 rk rv) ∈ rest) (hcp : cp = 1 ∨ cp = 2 ∨ cp = 3) (hB : 292 < B) (hd : d ≤ 460) (hu : u ≤ 860) (hO : dh < hp ∧ hp < B)
    (hb : b.size ≤ 1000) (hsec : 4 ≤ sec ∧ sec ≤ 16) (hnx : 1 ≤ nxt ∧ nxt ≤ 100000) (hwr : 0 ≤ wr ∧ wr ≤ 10000) (hlen : xs.length < 9000)
    (h : ∀ h' tk n' pt q ts own tn' tw', Fr z L h' m → News z L h' ((hp, instObj 190 dh) :: (dh, hD w.params HT B G sec (nxt + cp * (((b.size : Int) + sec - 1).fdiv sec)) (wr + 1) tn' tw') :: (B, tD w (putX (.bytes b tb) xs ts) n') :: (own ++ rest)) →
      PtrL w own pt q ts → q = ⟨q.dx, q.D, q.S, 8, lv, b.size, 0, 0, tg, fl, 0, q.k, q.v⟩ → ts.map (·.1) = newKeys nxt (((b.size : Int) + sec - 1).fdiv sec) cp → (∀ q ∈ news, ∀ e ∈ own, q.1 < e.1) → Q (.ref pt) { s with heap := h', toks := tk }) :
    wpAny (model PR w) ((mkA d fr u).deeper env) (call (.ref 147) [.ref hp, .bytes b tb, .int 8 t1, .int lv t2, .ref rr, .int tg t3, .int fl t4]) Q E s := by
  have hz := fun b o e => front_get (b := b) (o := o) F N t0 e
  refine wpAny_call (write_fresh_g (d := d + 1) (u := u + 3) (fr := env :: fr) (.inr ⟨rfl, rfl⟩) (.inl rfl) (front F N t0 X).1 (front_top F N t0 T) (front F N t0 X).2 (keysB K hz fun e he => front_led N t0 (ho e he)) (front_led N t0 hr1) (front_led N t0 hr2) hcp hB (by omega) (by omega) hO hb hsec hnx hwr hlen fun h' tk n' pt q ts own tn' tw' P' hp hq ht hs => ?_)
  obtain ⟨F', N'⟩ := back F N t0 P'
  exact h h' tk n' pt q ts own tn' tw' F' N' hp hq ht fun q hq e he => Nat.lt_of_lt_of_le (Heap.lt_size (N q hq).1) (hs e he)
end
theorem allLt_ne {os : List (Addr × Obj)} {k y : Nat} (h : AllLt k os) (e : @LE.le Nat _ k y) : ∀ p ∈ os, p.1 ≠ y := tail_lt h e
theorem end8_fin {w : World} {z h' : Heap} {g : LG} {L n n' n2 kx kd rx rd pt : Nat} {nxt wr nxt0 wr0 : Int} {tn tw tn0 tw0 : Tok} {xs xs' yg : List Ent} {c1 c2 c3 ko ro ro2 : Obj} {pl : Array Value} {os own : List (Addr × Obj)} {q : PT} {ts : List (List Int × Nat)} {P : Prop}
    (N : News z L h' ((g.hp, instObj 190 g.dh) :: (g.dh, hD w.params g.HT g.B g.G g.sec nxt wr tn tw) :: (g.B, tD w xs' n') :: (own ++ (rx, ro) :: (rd, ro2) :: (kx, instObj 225 kd) :: (kd, ko) :: (L + 1 + 1 + 1, c1) :: (L + 1 + 1, c2) :: (L + 1, c3) :: ((284 : Nat), tabObj #[]) :: (289, tabObj pl) :: (g.G, tD w yg n2) :: os)))
    (hlt : ∀ q ∈ (rx, ro) :: (rd, ro2) :: (kx, instObj 225 kd) :: (kd, ko) :: newsE w g nxt0 wr0 tn0 tw0 xs yg n n2 L c1 c2 c3 pl os, ∀ e ∈ own, q.1 < e.1) (PL : PtrL w own pt q ts) (hos : ∀ e ∈ os, g.G < e.1) (ho : AllLt kd os) (o : g.G < kd ∧ kd < kx)
    (h : ∀ os', (∀ e ∈ os, e ∈ os') → (∀ e ∈ os', g.G < e.1) → (∀ p ∈ os', p.1 ≠ kx) → (∀ p ∈ os', p.1 ≠ kd) → PtrL w os' pt q ts → g.G < kd ∧ kd < kx → News z L h' ((kx, instObj 225 kd) :: (kd, ko) :: newsE w g nxt wr tn tw xs' yg n' n2 L c1 c2 c3 pl os') → P) : P := by
  have a1 : ∀ e ∈ own, @LT.lt Nat _ g.G e.1 := fun e he => hlt (g.G, _) (by k_mem) e he
  have a2 : ∀ e ∈ own, @LT.lt Nat _ kx e.1 := fun e he => hlt (kx, _) (by k_mem) e he
  refine h (own ++ os) (fun e he => List.mem_append_right _ he) (fun e he => (List.mem_append.mp he).elim (a1 e) (hos e)) (fun e he => ?_) (fun e he => ?_) (PL.mono fun e he => List.mem_append_left _ he) o (subl_of N pm_E)
  · rcases List.mem_append.mp he with he | he
    · exact Nat.ne_of_gt (a2 e he)
    · exact allLt_ne ho (Nat.le_of_lt o.2) e he
  · rcases List.mem_append.mp he with he | he
    · exact Nat.ne_of_gt (Nat.lt_trans o.2 (a2 e he))
    · exact allLt_ne ho (Nat.le_refl _) e he
section
variable {w : World} {fa : Addr} {d u : Nat} {Q : Flow → Shared → Prop} {E : Value → Shared → Prop} {s : Shared} {z : Heap} {p : Program} {loose : List Str} {mean : ExcName → Option Value} {mg mb : Str → Option Value}
set_option maxHeartbeats 1000000 in
theorem end8 {g : LG} {L n n2 : Nat} {nxt wr x : Int} {tn tw tx : Tok} {xs yg : List Ent} {c1 c2 c3 : Obj} {pl : Array Value} {os : List (Addr × Obj)} {m0 : Str → Option Value}
    (X : (hd0.heap_1 w.params).In z) (T : Top p loose mean mg mb z) (F : Fr z L s.heap (fun y : Str => if y = "x" then some (.int x tx) else m0 y)) (N : News z L s.heap (newsE w g nxt wr tn tw xs yg n n2 L c1 c2 c3 pl os))
    (O : EOK w g xs yg pl os) (hg : g.Ord) (hL : 292 < L ∧ L + 3 < g.dh) (d1 : c1.data = .cell none) (d3 : c3.data = .cell (some (.ref g.hp))) (hnx : 1 ≤ nxt ∧ nxt ≤ 1000) (hwr : 0 ≤ wr ∧ wr ≤ 1000) (hlen : xs.length < 1000) (hd : d ≤ 400) (hu : u ≤ 800)
    (h : ∀ h' tk (kx kd : Nat) k v pt q ts tb n' nxt' tn' tw' os' c1', (∀ e ∈ os, e ∈ os') → EOK w g (putX (.bytes #[97, 98, 99] tb) xs ts) yg pl os' → PtrL w os' pt q ts → ts.map (·.1) = [[0, nxt, 1], [0, nxt + 1, 1]] → c1'.data = .cell (some (.ref pt)) → g.G < kd ∧ kd < kx → (∀ p ∈ os', p.1 ≠ kx) → (∀ p ∈ os', p.1 ≠ kd) →
      Fr z L h' (fun y : Str => if y = "keeper" then some (.ref kx) else if y = "x" then some (.int x tx) else m0 y) → News z L h' ((kx, instObj 225 kd) :: (kd, plD w.params g.hp 0 0 0 k v) :: newsE w g nxt' (wr + 1) tn' tw' (putX (.bytes #[97, 98, 99] tb) xs ts) yg n' n2 L c1' c2 c3 pl os') → Q .next { s with heap := h', toks := tk }) :
    wpAny (model PR w) ((mkA d [] u).deeper (envL L fa)) (exec (stmtAt lit292.1.body 8) (envL L fa)) Q E s := by
  refine use_end hL hg.1 fun P9 U9 q100 q101 q102 q103 q104 q105 q106 q107 q108 q109 q110 q111 q112 => ?_
  dsimp only [envL, lit292, litMk, stmtAt]
  have go := hg.1
  have hos := O.hos
  have KO := O.K z
  have hT : TailOk os g.dh g.G L (L + 3) := fun q hq => ⟨by have := hos q hq; omega, .inr (hos q hq), .inr (by have := hos q hq; omega)⟩
  walk_at "goE"
  rename Fr _ _ _ _ => F9
  rename News _ _ _ _ => N9
  refine' wr7_call (cp := 2) (os := os) (hp := g.hp) (dh := g.dh) (B := g.B) (G := g.G) (HT := g.HT) (xs := xs) (sec := g.sec) (nxt := nxt) (wr := wr) (tn := tn) (tw := tw) (n := n) F9 N9 X T ?t KO ?ho ?r1 ?r2 (by omega) (by omega) (by omega) (by omega) ⟨go.2.1, go.2.2.1⟩ ?b ⟨hg.2.1, hg.2.2⟩ (by omega) (by omega) (by omega) ?_
  case t => walk_at "take"
  case ho => walk_at "subl"
  case r1 => k_mem
  case r2 => k_mem
  case b => decide
  intro h' tk' n' pt q ts own tn' tw' F8 N8 PL hq hts hlt
  have hc1 : ((((#[97, 98, 99] : Array UInt8).size : Int)) + g.sec - 1).fdiv g.sec = 1 := by
    have h3 : (((#[97, 98, 99] : Array UInt8).size : Int)) = 3 := rfl
    rw [h3, Int.fdiv_eq_ediv_of_nonneg _ (by have := hg.2; omega)]
    have hs := hg.2
    rw [show (3 : Int) + g.sec - 1 = 2 + 1 * g.sec by omega, Int.add_mul_ediv_right _ _ (by omega), Int.ediv_eq_zero_of_lt (by decide) (by omega)]
    rfl
  rw [hc1] at hts
  have hts2 : ts.map (·.1) = [[0, nxt, 1], [0, nxt + 1, 1]] := by
    rw [hts]
    have e : rangeKs 0 2 = [0, 1] := by decide
    simp [newKeys, e]
  have hl2 : ts.length = 2 := by
    have := congrArg List.length hts2
    simpa using this
  refine' end8_fin N8 hlt PL hos ?al ?or fun os' up hos' nk nd PL' ok N7 => ?_
  case al => obtain ⟨_, _, _, _, _, _, _, _, _, hal⟩ := ‹_ ∧ _ ∧ _ ∧ _ ∧ _ ∧ _ ∧ _ ∧ _ ∧ _ ∧ AllLt _ os›; exact hal
  case or => omega
  have hT' : TailOk os' g.dh g.G L (L + 3) := fun q hq => ⟨by have := hos' q hq; omega, .inr (hos' q hq), .inr (by have := hos' q hq; omega)⟩
  clear N8 N9 F9 hlt hT
  walk_at "goE"
  rename News _ _ _ _ => N7
  rename Obj.data _ = Data.cell (some (Value.ref pt)) => d7
  rename Fr _ _ _ _ => F7
  exact h _ _ _ _ _ _ _ _ ts _ _ _ _ _ os' _ up ⟨fun z => KeysO.putX' ((O.K z).mono up) (PL' z).keys (by omega), fun z => (O.KG z).mono up, O.tb.mono up, hos'⟩ PL' hts2 d7 ok nk nd F7 (subl_of N7 (by walk_at "subl"))
end

theorem ptr_fr {w : World} {z h : Heap} {L pt : Nat} {m : Str → Option Value} {news os : List (Addr × Obj)} {q : PT} {ts : List (List Int × Nat)} (PL : PtrL w os pt q ts) (F : Fr z L h m) (N : News z L h news) (ho : ∀ e ∈ os, e ∈ news) : PtrAt w h pt q ts := (PL z).at F.keep fun e he => (N e (ho e he)).1
theorem sum2 {ts : List (List Int × Nat)} {nxt : Int} (h : ts.map (·.1) = [[0, nxt, 1], [0, nxt + 1, 1]]) : (ts.map fun e => cnt e.1).sum = 2 := by
  have e : (ts.map fun e => cnt e.1) = (ts.map (·.1)).map cnt := by simp
  rw [e, h]
  rfl
theorem three2 {ts : List (List Int × Nat)} {nxt : Int} (h : ts.map (·.1) = [[0, nxt, 1], [0, nxt + 1, 1]]) : ∀ t ∈ ts, ∃ a b c, t.1 = [a, b, c] := dvas_3 h fun k hk => by
  simp only [List.mem_cons, List.not_mem_nil, or_false] at hk
  rcases hk with rfl | rfl
  · exact mk3_1 _ _ _ rfl
  · exact mk3_1 _ _ _ rfl
theorem len2 {ts : List (List Int × Nat)} {nxt : Int} (h : ts.map (·.1) = [[0, nxt, 1], [0, nxt + 1, 1]]) : ts.length = 2 := by
  have := congrArg List.length h
  simpa using this
theorem nodup2 {ts : List (List Int × Nat)} {nxt : Int} (h : ts.map (·.1) = [[0, nxt, 1], [0, nxt + 1, 1]]) : (ts.map (·.1)).Nodup := by
  rw [h]
  simp only [List.nodup_cons, List.mem_singleton, List.not_mem_nil, not_false_eq_true, List.nodup_nil, and_true, List.cons.injEq]
  omega
theorem alive2 {ts : List (List Int × Nat)} {v : Value} {xs : List Ent} : ∀ t ∈ ts, (atKey (putX v xs ts) t.1).isSome = true := fun t ht => by
  rw [isSome_at, keys_putX, mem_putKeys]
  exact .inr (List.mem_map_of_mem ht)
section
variable {w : World} {d u : Nat} {fr : List Env} {E : Value → Shared → Prop} {s : Shared} {z : Heap} {L : Nat} {m : Str → Option Value} {p : Program} {loose : List Str} {mean : ExcName → Option Value} {mg mb : Str → Option Value} {Q : Value → Shared → Prop} {env : Env} {news rest : List (Addr × Obj)}
theorem born_call {x dx io pt : Nat} {us bo fd : Int} {k v : Nat → Tok} {q : PT} {ts : List (List Int × Nat)} {os : List (Addr × Obj)}
    (F : Fr z L s.heap m) (N : News z L s.heap news) (X : (hd0.heap_1 w.params).In z) (T : Top p loose mean mg mb z) (t0 : Take [(x, instObj 225 dx), (dx, plD w.params io us bo fd k v)] news rest) (PL : PtrL w os pt q ts) (ho : ∀ e ∈ os, e ∈ rest)
    (k3 : ∀ t ∈ ts, ∃ a b c, t.1 = [a, b, c]) (hl : ts.length ≤ 1000) (hx : 292 < dx ∧ dx < x) (hd : d ≤ 440) (hu : u ≤ 840)
    (h : ∀ h' tk v', Fr z L h' m → News z L h' ((x, instObj 225 dx) :: (dx, plD w.params io (us + (ts.map fun e => cnt e.1).sum) (bo + 1) fd k v') :: rest) → Q .none { s with heap := h', toks := tk }) :
    wpAny (model PR w) ((mkA d fr u).deeper env) (call (.ref 215) [.ref x, .ref pt]) Q E s := by
  have hz := fun b o e => front_get (b := b) (o := o) F N t0 e
  refine wpAny_call (born_ok (d := d + 1) (u := u + 3) (fr := env :: fr) (front F N t0 X).1 (front_top F N t0 T) (front F N t0 X).2 ((PL z).at hz fun e he => front_led N t0 (ho e he)) k3 hl hx (by omega) (by omega) fun h' tk v' P' => ?_)
  obtain ⟨F', N'⟩ := back F N t0 P'
  exact h h' tk v' F' N'
theorem freed_call {x dx hp dh B G pt n n2 : Nat} {us bo fd : Int} {k v : Nat → Tok} {q : PT} {ts : List (List Int × Nat)} {HT : HT} {xs ys : List Ent} {sec nxt wr : Int} {tn tw : Tok} {tx : Int} {tt : Tok} {os : List (Addr × Obj)}
    (F : Fr z L s.heap m) (N : News z L s.heap news) (X : (hd0.heap_1 w.params).In z) (T : Top p loose mean mg mb z) (t0 : Take [(x, instObj 225 dx), (dx, plD w.params hp us bo fd k v), (hp, instObj 190 dh), (dh, hD w.params HT B G sec nxt wr tn tw), (B, tD w xs n), (G, tD w ys n2)] news rest) (PL : PtrL w os pt q ts) (ho : ∀ e ∈ os, e ∈ rest)
    (K : KeysO w z os xs) (K2 : KeysO w z os ys) (hall : ∀ t ∈ ts, (atKey xs t.1).isSome = true) (hnd : (ts.map (·.1)).Nodup) (k3 : ∀ t ∈ ts, ∃ a b c, t.1 = [a, b, c]) (hO : 292 < dh ∧ dh < hp ∧ hp < B ∧ B < G) (hx : G < dx ∧ dx < x) (hd : d ≤ 440) (hu : u ≤ 840)
    (hlen : ys.length + ts.length < 1000)
    (h : ∀ h' tk v' n' n2', Fr z L h' m → News z L h' ((x, instObj 225 dx) :: (dx, plD w.params hp (us - (ts.map fun e => cnt e.1).sum) bo (fd + 1) k v') :: (hp, instObj 190 dh) :: (dh, hD w.params HT B G sec nxt wr tn tw) :: (B, tD w (dropX xs ts) n') :: (G, tD w (putX (.int tx tt) ys ts) n2') :: rest) → Q .none { s with heap := h', toks := tk }) :
    wpAny (model PR w) ((mkA d fr u).deeper env) (call (.ref 222) [.ref x, .ref pt, .int tx tt]) Q E s := by
  have hz := fun b o e => front_get (b := b) (o := o) F N t0 e
  have hr : ∀ e ∈ os, _ := fun e he => front_led N t0 (ho e he)
  refine wpAny_call (freed_ok (d := d + 1) (u := u + 3) (fr := env :: fr) (front F N t0 X).1 (front_top F N t0 T) (front F N t0 X).2 ((PL z).at hz hr) (keysB K hz hr) (keysB K2 hz hr) hall hnd k3 hO hx (by omega) (by omega) hlen fun h' tk v' n' n2' P' => ?_)
  obtain ⟨F', N'⟩ := back F N t0 P'
  exact h h' tk v' n' n2' F' N'
end
example : True := by
  k_with "call ref" => ((k_here; (with_reducible show wpAny _ _ (PySem.call (Value.ref 126) _) _ _ _); k_dflt (refine' dsize_call ?z55F ?z55N ?z55X ?z55T ?z55P ?z55k ?z55l ?z55d ?z55u ?_; (case z55F => k_asm); (case z55N => k_asm); (case z55X => k_asm); (case z55T => k_asm); (case z55P => refine ptr_fr (by assumption) (by assumption) (by assumption) (by k_extra "subl")); (case z55k => assumption); (case z55l => omega); (case z55d => omega); (case z55u => omega)); intro _ _ _ _ _; (try k_sweep)))
  trivial
noncomputable abbrev newsK (w : World) (g : LG) (kx kd : Nat) (us bo fd : Int) (k v : Nat → Tok) (nxt wr : Int) (tn tw : Tok) (xs yg : List Ent) (n n2 : Nat) (L : Nat) (c1 c2 c3 : Obj) (pl : Array Value) (os : List (Addr × Obj)) : List (Addr × Obj) :=
  (kx, instObj 225 kd) :: (kd, plD w.params g.hp us bo fd k v) :: newsE w g nxt wr tn tw xs yg n n2 L c1 c2 c3 pl os
noncomputable abbrev mapK (kx : Nat) (x : Int) (tx : Tok) (m0 : Str → Option Value) : Str → Option Value := fun y : Str => if y = "keeper" then some (.ref kx) else if y = "x" then some (.int x tx) else m0 y
noncomputable abbrev mapT (tl kx : Nat) (x : Int) (tx : Tok) (m0 : Str → Option Value) : Str → Option Value := fun y : Str => if y = "told" then some (.ref tl) else mapK kx x tx m0 y
section
variable {w : World} {fa : Addr} {d u : Nat} {Q : Flow → Shared → Prop} {E : Value → Shared → Prop} {s : Shared} {z : Heap} {p : Program} {loose : List Str} {mean : ExcName → Option Value} {mg mb : Str → Option Value}
set_option maxHeartbeats 1000000 in
theorem end9 {g : LG} {L n n2 kx kd pt : Nat} {nxt nx0 wr x us bo fd : Int} {tn tw tx : Tok} {k v : Nat → Tok} {xs yg : List Ent} {c1 c2 c3 : Obj} {pl : Array Value} {os : List (Addr × Obj)} {m0 : Str → Option Value} {q : PT} {ts : List (List Int × Nat)}
    (X : (hd0.heap_1 w.params).In z) (T : Top p loose mean mg mb z) (F : Fr z L s.heap (mapK kx x tx m0)) (N : News z L s.heap (newsK w g kx kd us bo fd k v nxt wr tn tw xs yg n n2 L c1 c2 c3 pl os))
    (hg : g.Ord) (hos : ∀ q ∈ os, g.G < q.1) (hL : 292 < L ∧ L + 3 < g.dh) (d1 : c1.data = .cell (some (.ref pt))) (PL : PtrL w os pt q ts) (hts : ts.map (·.1) = [[0, nx0, 1], [0, nx0 + 1, 1]]) (hk : g.G < kd ∧ kd < kx) (nk : ∀ p ∈ os, p.1 ≠ kx) (nd : ∀ p ∈ os, p.1 ≠ kd) (hd : d ≤ 400) (hu : u ≤ 800)
    (h : ∀ h' tk v', Fr z L h' (mapK kx x tx m0) → News z L h' (newsK w g kx kd (us + 2) (bo + 1) fd k v' nxt wr tn tw xs yg n n2 L c1 c2 c3 pl os) → Q .next { s with heap := h', toks := tk }) :
    wpAny (model PR w) ((mkA d [] u).deeper (envL L fa)) (exec (stmtAt lit292.1.body 9) (envL L fa)) Q E s := by
  refine use_end2 hL hg.1 hk fun P9 U9 q100 q101 q102 q103 q104 q105 q106 q107 q108 q109 q110 q111 q112 q113 q114 => ?_
  dsimp only [envL, lit292, litMk, stmtAt]
  have go := hg.1
  have hT : TailOk os g.dh g.G L (L + 3) := fun q hq => ⟨by have := hos q hq; omega, .inr (hos q hq), .inr (by have := hos q hq; omega)⟩
  walk_at "goE"
  refine' born_call F N X T ?t PL ?ho (three2 hts) (by rw [len2 hts]; decide) ⟨by omega, hk.2⟩ (by omega) (by omega) ?_
  case t => walk_at "take"
  case ho => walk_at "subl"
  intro h' tk' v' F' N'
  rw [sum2 hts] at N'
  walk_at "goE"
  exact h _ _ _ (by assumption) (subl_of (by assumption) (by walk_at "subl"))
set_option maxHeartbeats 1000000 in
theorem end10 {g : LG} {L n n2 kx kd pt : Nat} {nxt nx0 wr x us bo fd : Int} {tn tw tx : Tok} {k v : Nat → Tok} {xs yg : List Ent} {c1 c2 c3 : Obj} {pl : Array Value} {os : List (Addr × Obj)} {m0 : Str → Option Value} {q : PT} {ts : List (List Int × Nat)}
    (X : (hd0.heap_1 w.params).In z) (T : Top p loose mean mg mb z) (F : Fr z L s.heap (mapK kx x tx m0)) (N : News z L s.heap (newsK w g kx kd us bo fd k v nxt wr tn tw xs yg n n2 L c1 c2 c3 pl os))
    (hg : g.Ord) (hos : ∀ q ∈ os, g.G < q.1) (hL : 292 < L ∧ L + 3 < g.dh) (d1 : c1.data = .cell (some (.ref pt))) (PL : PtrL w os pt q ts) (hts : ts.map (·.1) = [[0, nx0, 1], [0, nx0 + 1, 1]]) (hk : g.G < kd ∧ kd < kx) (nk : ∀ p ∈ os, p.1 ≠ kx) (nd : ∀ p ∈ os, p.1 ≠ kd) (hd : d ≤ 400) (hu : u ≤ 800)
    (h : ∀ h' tk (tl : Nat) t1 t2 t3 t4, kx < tl → (∀ p ∈ os, p.1 ≠ tl) → Fr z L h' (mapT tl kx x tx m0) → News z L h' ((tl, listOf #[.int us t1, .int bo t2, .int fd t3, .int 2 t4] 0) :: newsK w g kx kd us bo fd k v nxt wr tn tw xs yg n n2 L c1 c2 c3 pl os) → Q .next { s with heap := h', toks := tk }) :
    wpAny (model PR w) ((mkA d [] u).deeper (envL L fa)) (exec (stmtAt lit292.1.body 10) (envL L fa)) Q E s := by
  refine use_end2 hL hg.1 hk fun P9 U9 q100 q101 q102 q103 q104 q105 q106 q107 q108 q109 q110 q111 q112 q113 q114 => ?_
  dsimp only [envL, lit292, litMk, stmtAt]
  have go := hg.1
  have hT : TailOk os g.dh g.G L (L + 3) := fun q hq => ⟨by have := hos q hq; omega, .inr (hos q hq), .inr (by have := hos q hq; omega)⟩
  have k3 := three2 hts
  have l2 := len2 hts
  walk_at "goE"
  rename Fr _ _ _ _ => F9
  rename News _ _ _ _ => N9
  rw [sum2 hts] at N9
  refine' h _ _ _ _ _ _ _ ?a ?b ?F N9
  case F => exact F9
  case a => omega
  case b => obtain ⟨_, _, _, _, _, _, _, _, _, _, _, hal⟩ := ‹_ ∧ _ ∧ _ ∧ _ ∧ _ ∧ _ ∧ _ ∧ _ ∧ _ ∧ _ ∧ _ ∧ AllLt _ os›; exact allLt_ne hal (Nat.le_refl _)
end

section
variable {w : World} {fa : Addr} {d u : Nat} {Q : Flow → Shared → Prop} {E : Value → Shared → Prop} {s : Shared} {z : Heap} {p : Program} {loose : List Str} {mean : ExcName → Option Value} {mg mb : Str → Option Value}
set_option maxHeartbeats 1000000 in
theorem end11 {g : LG} {L n n2 kx kd pt tl : Nat} {nxt nx0 wr x us bo fd : Int} {tn tw tx : Tok} {k v : Nat → Tok} {xs yg : List Ent} {c1 c2 c3 tlo : Obj} {pl : Array Value} {os : List (Addr × Obj)} {m0 : Str → Option Value} {q : PT} {ts : List (List Int × Nat)}
    (X : (hd0.heap_1 w.params).In z) (T : Top p loose mean mg mb z) (F : Fr z L s.heap (mapT tl kx x tx m0)) (N : News z L s.heap ((tl, tlo) :: newsK w g kx kd us bo fd k v nxt wr tn tw xs yg n n2 L c1 c2 c3 pl os))
    (O : EOK w g xs yg pl os) (hg : g.Ord) (hL : 292 < L ∧ L + 3 < g.dh) (d1 : c1.data = .cell (some (.ref pt))) (PL : PtrL w os pt q ts) (hts : ts.map (·.1) = [[0, nx0, 1], [0, nx0 + 1, 1]]) (hall : ∀ t ∈ ts, (atKey xs t.1).isSome = true) (hlen : yg.length < 900) (hk : g.G < kd ∧ kd < kx ∧ kx < tl) (nk : ∀ p ∈ os, p.1 ≠ kx) (nd : ∀ p ∈ os, p.1 ≠ kd) (nt : ∀ p ∈ os, p.1 ≠ tl) (hd : d ≤ 400) (hu : u ≤ 800)
    (h : ∀ h' tk v' tt n' n2', Fr z L h' (mapT tl kx x tx m0) → EOK w g (dropX xs ts) (putX (.int 5 tt) yg ts) pl os → News z L h' ((tl, tlo) :: newsK w g kx kd (us - 2) bo (fd + 1) k v' nxt wr tn tw (dropX xs ts) (putX (.int 5 tt) yg ts) n' n2' L c1 c2 c3 pl os) → Q .next { s with heap := h', toks := tk }) :
    wpAny (model PR w) ((mkA d [] u).deeper (envL L fa)) (exec (stmtAt lit292.1.body 11) (envL L fa)) Q E s := by
  refine use_end3 hL hg.1 hk fun P9 U9 q100 q101 q102 q103 q104 q105 q106 q107 q108 q109 q110 q111 q112 q113 q114 q115 => ?_
  dsimp only [envL, lit292, litMk, stmtAt]
  have go := hg.1
  have hos := O.hos
  have l2 := len2 hts
  have hT : TailOk os g.dh g.G L (L + 3) := fun q hq => ⟨by have := hos q hq; omega, .inr (hos q hq), .inr (by have := hos q hq; omega)⟩
  walk_at "goE"
  refine' freed_call F N X T ?t PL ?ho (O.K z) (O.KG z) hall (nodup2 hts) (three2 hts) ⟨by omega, go.2.1, go.2.2.1, go.2.2.2.1⟩ ⟨hk.1, hk.2.1⟩ (by omega) (by omega) (by omega) ?_
  case t => walk_at "take"
  case ho => walk_at "subl"
  intro h' tk' v' n' n2' F' N'
  rw [sum2 hts] at N'
  walk_at "goE"
  exact h _ _ _ _ _ _ (by assumption) ⟨fun z => (O.K z).dropX', fun z => KeysO.putX' (O.KG z) (PL z).keys (by omega), O.tb, hos⟩ (subl_of (by assumption) (by walk_at "subl"))
set_option maxHeartbeats 1000000 in
theorem end12 {g : LG} {L n n2 kx kd pt tl : Nat} {nxt nx0 wr x us bo fd : Int} {tn tw tx a1 a2 a3 a4 : Tok} {k v : Nat → Tok} {xs yg : List Ent} {c1 c2 c3 : Obj} {pl : Array Value} {os : List (Addr × Obj)} {m0 : Str → Option Value} {q : PT} {t0 t1 : List Int × Nat}
    (X : (hd0.heap_1 w.params).In z) (T : Top p loose mean mg mb z) (C : CodeHd z 291 289) (F : Fr z L s.heap (mapT tl kx x tx m0)) (N : News z L s.heap ((tl, listOf #[.int 2 a1, .int 1 a2, .int 0 a3, .int 2 a4] 0) :: newsK w g kx kd us bo fd k v nxt wr tn tw xs yg n n2 L c1 c2 c3 pl os))
    (O : EOK w g xs yg pl os) (hg : g.Ord) (hL : 292 < L ∧ L + 3 < g.dh) (d1 : c1.data = .cell (some (.ref pt))) (d3 : c3.data = .cell (some (.ref g.hp))) (PL : PtrL w os pt q [t0, t1]) (hno : (atKey xs t0.1).isSome = false) (hgo : (atKey yg t0.1).isSome = true) (hk : g.G < kd ∧ kd < kx ∧ kx < tl) (nk : ∀ p ∈ os, p.1 ≠ kx) (nd : ∀ p ∈ os, p.1 ≠ kd) (nt : ∀ p ∈ os, p.1 ≠ tl) (hd : d ≤ 400) (hu : u ≤ 800)
    (h : ∀ h' tk (D : Nat) b1 b2 b3 b4 ps, 292 < D → Fr z L h' (fun y : Str => if y = "told" then some (.ref D) else mapT tl kx x tx m0 y) → News z L h' [(D, listOf #[.int 2 a1, .int 1 a2, .int 0 a3, .int 2 a4, .int us b1, .int bo b2, .int fd b3, .str "misused: a block that is gone" b4] 0), ((284 : Nat), tabObj #[]), (289, tabObj ps)] → Q .next { s with heap := h', toks := tk }) :
    wpAny (model PR w) ((mkA d [] u).deeper (envL L fa)) (exec (stmtAt lit292.1.body 12) (envL L fa)) Q E s := by
  refine use_end3 hL hg.1 hk fun P9 U9 q100 q101 q102 q103 q104 q105 q106 q107 q108 q109 q110 q111 q112 q113 q114 q115 => ?_
  dsimp only [envL, lit292, litMk, stmtAt]
  have go := hg.1
  have hos := O.hos
  have tb0 := O.tb
  have hT : TailOk os g.dh g.G L (L + 3) := fun q hq => ⟨by have := hos q hq; omega, .inr (hos q hq), .inr (by have := hos q hq; omega)⟩
  have FL0 : FrL [] [] := ⟨rfl, (fun _ h => nomatch h), (fun _ h => nomatch h)⟩
  walk_at "goE"
  rename Fr _ _ _ _ => F9
  rename News _ _ _ _ => N9
  refine kla_eval (by rfl) ?_
  refine' lam_any (x0 := g.G) F9 N9 T C ?cd ?U tb0 ?hc ?cl ?hx ?h0 ?_
  case cd => exact rfl
  case U => k_updF
  case hc => walk_at "subl"
  case cl => with_unfolding_all rfl
  case hx => exact hos
  case h0 => k_mem
  intro f c' oc ctv ps' h3 tk3 F3 N3 hco tb' hlf hlc hxc hcn
  (try dsimp only at N3)
  have hcL : @LT.lt Nat _ (L + 3) c' := by
    rcases hcn with h | h
    · exact h (L + 1 + 1 + 1, _) (by k_mem)
    · have := hos _ h
      exact Nat.lt_trans (by omega) this
  have c1k : c' ≠ kx ∧ c' ≠ kd ∧ c' ≠ tl := by
    rcases hcn with h | h
    · exact mk0_3 (Nat.ne_of_gt (h (kx, _) (by k_mem))) (Nat.ne_of_gt (h (kd, _) (by k_mem))) (Nat.ne_of_gt (h (tl, _) (by k_mem)))
    · exact mk0_3 (nk _ h) (nd _ h) (nt _ h)
  k_lt hlf; k_lt2 hlc; k_lt2 hxc
  have hMf := ltN (Nat.lt_trans hxc hlc)
  have hflf : @LT.lt Nat _ (L + 3) f := by omega
  clear N9 F9
  walk_at "goE"
  refine' (fun N10 => ?main) (subl_of (mt := led4 w g.hp g.dh g.B g.G g.HT g.sec nxt wr tn tw xs yg n n2 ++ (((289, tabObj ps') :: (f, ?fo) :: (c', oc) :: (tl, listOf #[.int 2 a1, .int 1 a2, .int 0 a3, .int 2 a4] 0) :: (kx, instObj 225 kd) :: (kd, plD w.params g.hp us bo fd k v) :: (L + 1, c3) :: (L + 1 + 1, c2) :: (L + 1 + 1 + 1, c1) :: (284, tabObj #[]) :: os) ++ [])) N3 ?sub)
  case sub =>
    simp only [led4, List.cons_append, List.nil_append, List.append_nil]
    walk_at "subl"
  case main =>
    refine' told_call (mt := led4 w g.hp g.dh g.B g.G g.HT g.sec nxt wr tn tw xs yg n n2) (fl := []) (fun v mt' => mt' = led4 w g.hp g.dh g.B g.G g.HT g.sec nxt wr tn tw xs yg n n2 ∧ (atKey xs t0.1).isSome = true ∧ ((#[] : Array UInt8).size : Int) = q.size ∧ v = .bytes #[] 0) (fun C why mt' => mt' = led4 w g.hp g.dh g.B g.G g.HT g.sec nxt wr tn tw xs yg n n2 ∧ (((atKey xs t0.1).isSome = true ∧ ¬((#[] : Array UInt8).size : Int) = q.size ∧ C = 44 ∧ why = "a block of another size") ∨ ((atKey xs t0.1).isSome = false ∧ C = 56 ∧ why = goneStr (atKey yg t0.1).isSome))) X T F3 N10 (apart_of (by walk_at "apart")) (fun _ h => nomatch h) (fun _ _ _ h => nomatch h) FL0 rfl kind_ne ?hfn (by omega) (by omega) ?hcall ?hok ?her
    case hfn => k_dflt k_mem
    case hcall =>
      intro z' env2 s' hz' hr' P' FF hsz
      have X' := X.keeps hz'
      have T' := T.keeps hz'
      simp only [List.forall_mem_cons] at hr'
      refine and11 hr' fun eS ef ec e5 e6 e7 e1 e2 e3 e4 eo => ?_
      clear hr'
      clear F3 N3 N10
      refine enterL T' P' ef ec hco (by k_room) (by rfl) rfl rfl rfl (by decide) ?_
      intro L2 h4 tk4 F4 N4 hL4 hst4
      walk_at "goM"
      rename News z' _ _ _ => N5
      rename Fr z' _ _ _ => F5
      have Nm : News z' L2 _ (led4 w g.hp g.dh g.B g.G g.HT g.sec nxt wr tn tw xs yg n n2) := subl_of N5 (by walk_at "subl")
      have hb0 := hid_base F5 Nm
      refine through rfl rfl F5 Nm F5.above (fun _ _ => rfl) ?_
      exact read_ends (d := d + 3) (u := u + 9) (X'.keeps hb0) (T'.keeps hb0) (Pre.of Nm) (((PL z').at (fun _ _ e => e) eo).keeps hb0) (keysZ (keysB (O.K z) hz' eo) hb0) (keysZ (keysB (O.KG z) hz' eo) hb0) (by omega) (by omega) (by omega) (by omega) (ffr_hidN FF F5 Nm rfl kind_ne) ⟨go.2.1, go.2.2.1, go.2.2.2.1⟩ (.inr hno) (by decide)
    case hok =>
      intro h6 tk6 v mt' fl' S6 hO F6 N6
      refine ea0_4 (hO) fun rz0 hs hz rz3 => ?_
      (try clear hO)
      subst rz0
      subst rz3
      rw [hno] at hs
      cases hs
    case her =>
      intro h6 tk6 C why mt' fl' t6 S6 hE F6 N6
      obtain ⟨rfl, hE⟩ := hE
      cases S6
      rcases hE with ⟨e0, _⟩ | ⟨_, rfl, rfl⟩
      · rw [hno] at e0
        cases e0
      · rw [hgo, goneS_t]
        simp only [led4, List.cons_append, List.nil_append, List.append_nil] at N6
        walk_at "goE"
        rename Fr _ _ _ _ => F9
        rename News _ _ _ _ => N9
        refine' h _ _ _ _ _ _ _ ps' ?a F9 ?b
        case b => exact subl_of N9 (by walk_at "subl")
        case a => omega
end

example : True := by
  k_with "om6" => (first | k_extra "om8" | k_extra "om9" | k_extra "cja" | (k_extra "clr"; omega +splitDisjunctions) | omega +splitDisjunctions)
  k_with "om8" => (first | ((with_reducible show _ ≤ _); first | (exact le_k hd rfl) | (exact le_k hu rfl) | (exact le_0 hd rfl) | (exact le_0 hu rfl)) | ((with_reducible show _ < _); first | (exact lt_k hd rfl) | (exact lt_k hu rfl) | (exact lt_0 hd rfl) | (exact lt_0 hu rfl)))
  trivial
local macro_rules | `(tactic| omega) => `(tactic| k_extra "om6")
open PySem.Builtin in
section
namespace Jb
theorem slot_join : Slot "bytes" "join" "bytes.join" :=
  .of (owner := "bytes") (n := "join") (by rw [typeLookup_type, builtinLookup_eq_fast]; kernel_rfl) (by decide +kernel) (by decide +kernel) (by decide +kernel)
    (by first | exact .inl (by decide +kernel) | exact .inr (by decide +kernel)) (by rw [isSubtype_type]; kernel_rfl)
theorem type_join : typeOf (.builtin "bytes.join") = pure (.type "method_descriptor") := by show builtinType _ = _; rw [builtinType_eq_fast]; kernel_rfl
theorem entry_join : entryFor table "bytes.join" = some Builtin.«bytes.join» := entryFor_of_tree (by kernel_rfl)
theorem args_join_2 (a b : Value) : argsOk "bytes.join" ⟨[a, b], []⟩ := by
  unfold argsOk; rw [signature?_of (id := "bytes.join") (n := ['n', 'i', 'o', 'j']) (o := ['s', 'e', 't', 'y', 'b']) (by kernel_rfl) FB.owner_bytes]; kernel_rfl
noncomputable abbrev bvs (ps : List (Array UInt8 × Tok)) : List Value := ps.map fun p => .bytes p.1 p.2
theorem take_eq {id : String} {b : Array UInt8} {t : Tok} : Bytes.takeBufferQuiet? id (.bytes b t) 0 = pure (some (b, none)) := by
  unfold Bytes.takeBufferQuiet? Bytes.takeBuffer?
  have e0 : ((0 : Int) == Bytes.fullReadOnly) = false := by decide
  rw [KBy.special_eq KBy.look_buffer, KBy.own_buffer, e0, KBy.buffer_eq]
  kernel_rfl
theorem letgo {M : Model} {A : Around} {E : Value → Shared → Prop} {s : Shared} {Q : Unit → Shared → Prop} (keep : List Value) : ∀ (taken : List (Value × Option Value)), (∀ p ∈ taken, p.2 = none) → Q () s → wpAny M A (Bytes.joinLetGo taken keep) Q E s
  | [], _, h => wpAny_pure h
  | (x, w) :: rest, hn, h => by
    have hw : w = none := hn (x, w) (.head _)
    subst hw
    show wpAny M A (PySem.letGo [x] _ >>= fun _ => Bytes.joinLetGo rest keep) Q E s
    unfold PySem.letGo
    refine wpAny_bind (wpAny_bind (wpAny_holding (wpAny_point (wpAny_pure ?_))))
    exact letgo keep rest (fun p hp => hn p (.tail _ hp)) h
noncomputable def loopF (D : Addr) (items : Array Value) (i : Nat) (__s : Array (Array UInt8) × List (Value × Option Value)) : Sem (ForInStep (Array (Array UInt8) × List (Value × Option Value))) :=
  have id := toString Bytes.Kind.bytes.name ++ toString ".join"
  have parts := __s.fst
  have taken := __s.snd
  have held := Value.ref D :: List.flatMap (fun x => match x with | (y, u) => y :: u.toList) taken
  do
  let __x ← seqItems? (.ref D)
  match __x with
    | some now =>
      have x := now.getD i Value.none
      have __do_jp : Unit → Sem (ForInStep (Array (Array UInt8) × List (Value × Option Value))) := fun __r => do
        let __x ← holding (x :: held) (Bytes.takeBufferQuiet? id x 0)
        match __x with
          | some (b, w) =>
            have parts := parts.push b
            have taken := taken ++ [(x, w)]
            do
            let __x ← seqItems? (.ref D)
            match __x with
              | some after =>
                if (after.size != items.size) = true then do
                  rule (toString id ++ toString ".changed-size")
                  Bytes.joinLetGo taken []
                  raiseErrorWords "RuntimeError" "sequence changed size during iteration"
                  pure (ForInStep.yield (parts, taken))
                else pure (ForInStep.yield (parts, taken))
              | x => do
                unsupported (toString "internal:" ++ toString id)
                pure (ForInStep.yield (parts, taken))
          | x_1 => do
            rule (toString id ++ toString ".item-not-bytes-like")
            holding (x :: List.drop 1 held) point
            Bytes.joinLetGo taken [x]
            let __do_lift ← PySem.typeNameOf x
            raiseErrorMade "TypeError" (toString "sequence item " ++ toString i ++ toString ": expected a bytes-like object, " ++ toString __do_lift ++ toString " found")
            pure (ForInStep.yield (parts, taken))
      if (Bytes.Kind.bytes == Bytes.Kind.bytearray || taken.any fun x => x.fst.onHeap) = true then
        do
        let __do_lift ← specialOf x (Str.ofString "__buffer__")
        match __do_lift with
          | none => __do_jp ()
          | some (Value.builtin id) => __do_jp ()
          | some val => do
            let __r ← unsupported (toString id ++ toString ":buffer")
            __do_jp __r
      else __do_jp ()
    | x => do
      unsupported (toString "internal:" ++ toString id)
      pure (ForInStep.yield (parts, taken))
noncomputable def endF (D : Addr) (sep : Array UInt8) (__s : Array (Array UInt8) × List (Value × Option Value)) : Sem PySem.Fin :=
  have id := toString Bytes.Kind.bytes.name ++ toString ".join"
  have parts : Array (Array UInt8) := __s.fst
  have taken : List (Value × Option Value) := __s.snd
  have __do_jp : Unit → Sem PySem.Fin := fun __r => do
    let result ← Bytes.Kind.bytes.new (Bytes.joined sep parts.toList)
    holding (result :: List.flatMap (fun x => match x with | (y, u) => y :: u.toList) taken) point
    Bytes.joinLetGo taken [result]
    ret result
  if Bytes.tooLong (Array.foldl (fun x1 x2 => x1 + x2.size) (sep.size * (parts.size - 1)) parts) = true then
    do
    let __r ← unsupported (toString id ++ toString ":memory")
    __do_jp __r
  else __do_jp ()
noncomputable def catB (l : List (Array UInt8)) : Array UInt8 := l.foldl (· ++ ·) #[]
theorem joined_from : ∀ (l : List (Array UInt8)) (acc : Array UInt8) (k : Nat), (l.zipIdx k).foldl (fun out (x : Array UInt8 × Nat) => (if x.2 > 0 then out ++ (#[] : Array UInt8) else out) ++ x.1) acc = l.foldl (· ++ ·) acc
  | [], _, _ => rfl
  | a :: l, acc, k => by
    rw [List.zipIdx_cons, List.foldl_cons, List.foldl_cons, joined_from l _ (k + 1)]
    by_cases hk : k > 0
    · rw [if_pos hk, Array.append_empty]
    · rw [if_neg hk]
theorem joined_nil (l : List (Array UInt8)) : Bytes.joined #[] l = catB l := joined_from l #[] 0
theorem cat_size : ∀ (l : List (Array UInt8)) (acc : Array UInt8), (l.foldl (· ++ ·) acc).size = acc.size + (l.map (·.size)).sum
  | [], _ => rfl
  | a :: l, acc => by
    rw [List.foldl_cons, cat_size l, Array.size_append, List.map_cons, List.sum_cons]
    omega
theorem fold_size : ∀ (l : List (Array UInt8)) (k : Nat), l.foldl (fun x1 x2 => x1 + x2.size) k = k + (l.map (·.size)).sum
  | [], _ => rfl
  | a :: l, k => by
    rw [List.foldl_cons, fold_size l, List.map_cons, List.sum_cons]
    omega
set_option maxHeartbeats 400000 in
theorem meets_join (t : Tok) (D : Addr) (ps : List (Array UInt8 × Tok)) :
    Meets («bytes.join» ⟨[.bytes #[] t, .ref D], []⟩) (fun _ R s => s.heap.IsList D (bvs ps).toArray ∧ (ps.map fun p => p.1.size).sum ≤ 16777216 ∧ ∀ t' k, R (.ok (.ret (.bytes (catB (ps.map (·.1))) t'))) { s with toks := k }) := by
  refine .of_wp fun prog w A R s hS => ?_
  refine ea0_3 (hS) fun hl hsum h => ?_
  (try clear hS)
  have hT : s.TypeIs (.ref D) "list" := hl.typeIs
  obtain ⟨o, ho, hc, n, hd⟩ := id hl
  have hb0 : s.TypeIs (.bytes #[] t) "bytes" := typeIs_bytes _ _ _
  unfold «bytes.join» Bytes.joinM
  refine wpAny_bind (wpAny_of_eq (a := (Value.bytes #[] t, Value.ref D)) rfl ?_)
  show wpAny _ _ (Bytes.joinItems (.ref D) >>= fun seq => _) _ _ s
  refine wpAny_bind ?_
  unfold Bytes.joinItems
  refine wpAny_bind (wpAny_typeOf hT ?_)
  show wpAny _ _ (pure (Value.ref D)) _ _ s
  refine wpAny_pure ?_
  refine wpAny_bind (wpAny_seqItems ho hd ?_)
  have rest : wpAny (model prog w) A.in1 (do
      let __s ← forIn [:(bvs ps).toArray.size] ((#[] : Array (Array UInt8)), ([] : List (Value × Option Value))) (loopF D (bvs ps).toArray)
      let sep ← Bytes.payload (.bytes #[] t)
      endF D sep __s) (fun fin s' => ∃ v, fin = Fin.done (Flow.ret v) ∧ R (Except.ok (Flow.ret v)) s') (fun e s' => R (Except.error e) s') s := by
    have hr : forIn [:(bvs ps).toArray.size] ((#[] : Array (Array UInt8)), ([] : List (Value × Option Value))) (loopF D (bvs ps).toArray) = forIn (List.range' 0 (bvs ps).toArray.size 1) ((#[] : Array (Array UInt8)), ([] : List (Value × Option Value))) (loopF D (bvs ps).toArray) := by
      simp [Std.Legacy.Range.forIn_eq_forIn_range', Std.Legacy.Range.size]
    rw [hr]
    have hsz : (bvs ps).toArray.size = ps.length := by simp
    refine wpAny_bind (wpAny_forIn_list (loopF D (bvs ps).toArray) (fun rest b s' => ∃ i, i ≤ ps.length ∧ rest = List.range' i (ps.length - i) 1 ∧ b = (((ps.take i).map (·.1)).toArray, (ps.take i).map fun p => (Value.bytes p.1 p.2, none)) ∧ s' = s)
      (fun b s' => wpAny (model prog w) A.in1 (do
        let sep ← Bytes.payload (.bytes #[] t)
        endF D sep b) (fun fin s' => ∃ v, fin = Fin.done (Flow.ret v) ∧ R (Except.ok (Flow.ret v)) s') (fun e s' => R (Except.error e) s') s') ?_ ?_ _ _ ⟨0, Nat.zero_le _, by rw [hsz]; rfl, rfl, rfl⟩)
    · intro x rest b s' hz9
      refine ea1_4 hz9 fun i hi hrest e1 e2 => ?_
      clear hz9
      subst e1 e2
      have hlt : i < ps.length := by
        rcases Nat.lt_or_ge i ps.length with h1 | h1
        · exact h1
        · rw [Nat.sub_eq_zero_of_le h1] at hrest
          cases hrest
      obtain ⟨k, hk⟩ := Nat.exists_eq_succ_of_ne_zero (Nat.sub_ne_zero_of_lt hlt)
      rw [hk, List.range'_succ] at hrest
      injection hrest with e1 e2
      subst e1 e2
      have hx : (bvs ps).toArray.getD x .none = .bytes ps[x].1 ps[x].2 := by simp [hlt]
      have hany : ((ps.take x).map fun p => ((Value.bytes p.1 p.2, none) : Value × Option Value)).any (fun x => x.fst.onHeap) = false := by
        rw [List.any_eq_false]
        intro y hy
        refine ea1_2 (List.mem_map.mp hy) fun p _ rz2 => ?_
        subst rz2
        exact Bool.false_ne_true
      unfold loopF
      refine wpAny_bind (wpAny_seqItems ho hd ?_)
      dsimp only
      rw [hany, if_neg (by decide), hx]
      refine wpAny_bind (wpAny_holding (wpAny_of_eq take_eq ?_))
      dsimp only
      refine wpAny_bind (wpAny_seqItems ho hd ?_)
      dsimp only
      rw [if_neg (by simp)]
      refine wpAny_pure ⟨x + 1, hlt, ?_, ?_, rfl⟩
      · rw [show ps.length - (x + 1) = k by rw [Nat.sub_succ, hk]; rfl]
      · have e3 : ps.take (x + 1) = ps.take x ++ [ps[x]] := by rw [List.take_add_one, List.getElem?_eq_getElem hlt]; rfl
        rw [e3, List.map_append, List.map_append]
        simp only [List.map_cons, List.map_nil, List.push_toArray]
    · intro b s' hz9
      refine ea1_4 hz9 fun i hi hrest e1 e2 => ?_
      clear hz9
      subst e1 e2
      have hlt : ps.length = i := by
        have := congrArg List.length hrest
        simp at this
        omega
      subst hlt
      rw [List.take_length]
      refine wpAny_bind (wpAny_of_eq (a := #[]) rfl ?_)
      unfold endF
      dsimp only
      have es : ((ps.map (·.1)).map (·.size)).sum = (ps.map fun p => p.1.size).sum := by rw [List.map_map]; rfl
      rw [if_neg (by
        rw [List.foldl_toArray, fold_size, es, KBy.tooLong_not (by show 0 * _ + _ ≤ _; rw [Nat.zero_mul, Nat.zero_add]; exact hsum)]
        decide), joined_nil]
      show wpAny _ _ (mkBytes (catB (ps.map (·.1))) >>= fun result => _) _ _ _
      refine wpAny_bind (wpAny_mkBytes ?_ (by unfold catB; rw [cat_size, es, sizeLine_eq]; show 0 + _ ≤ _; omega))
      refine wpAny_bind (wpAny_holding (wpAny_point ?_))
      refine wpAny_bind (letgo _ _ (fun p hp => ?_) ?_)
      · refine ea1_2 (List.mem_map.mp hp) fun p' _ rz2 => ?_
        subst rz2
        rfl
      · exact wpAny_pure ⟨_, rfl, h _ _⟩
  match ps with
  | [] => exact rest
  | [p] =>
    refine wpAny_bind (wpAny_typeOf (typeIs_bytes s p.1 p.2) ?_)
    refine wpAny_bind (wpAny_rule (wpAny_pure ⟨_, rfl, ?_⟩))
    have h1 := h p.2 s.toks
    have e1 : catB ([p].map (·.1)) = p.1 := by simp [catB]
    rw [e1] at h1
    exact h1
  | p :: q :: r => exact rest
theorem method {M : Model} {A : Around} {E : Value → Shared → Prop} {s : Shared} {b : Array UInt8} {t : Tok} {pl : Sem Bool} {Q : Value × List Value → Shared → Prop} (h : Q (.builtin "bytes.join", [.bytes b t]) s) : wpAny M A (getMethod (.bytes b t) "join" pl) Q E s := by
  with_reducible exact KBd.method_of (.bytes b t) (typeIs_bytes _ _ _) slot_join type_join KBd.noRef h
theorem join {w : World} {A : Around} {E : Value → Shared → Prop} {s : Shared} {t : Tok} {D : Addr} {ps : List (Array UInt8 × Tok)} {Q : Value → Shared → Prop} (hl : s.heap.IsList D (bvs ps).toArray) (hs : (ps.map fun p => p.1.size).sum ≤ 16777216) (h : ∀ t' k, Q (.bytes (catB (ps.map (·.1))) t') { s with toks := k }) :
    wpAny (model PR w) A (call (.builtin "bytes.join") [.bytes #[] t, .ref D]) Q E s :=
  call_meets slot_join (typeIs_bytes _ _ _) entry_join (args_join_2 _ _) (meets_join t D ps) ⟨hl, hs, h⟩
end Jb
end

open LCg in
section
variable {prog : Program} {w : World} {A : Around} {E : Value → Shared → Prop} {s : Shared} {h₀ : Heap} {L : Addr} {m : Str → Option Value} {env : Env}
structure EnumAt (h₀ : Heap) (L : Addr) (m : Str → Option Value) (news : List (Addr × Obj)) (h : Heap) (e it : Addr) (B : Array UInt8) (t : Tok) : Prop where
  fr : Fr h₀ L h m
  nws : News h₀ L h news
  en : IsEnum h e it 0 .none
  itr : KBw.IsBytesIter h it B t 0
  ne : e ≠ it
  neL : L ≠ e ∧ L ≠ it
  base : h₀.get? e = none ∧ h₀.get? it = none
  off : ∀ p ∈ news, p.1 ≠ e ∧ p.1 ≠ it
noncomputable def EltIs (prog : Program) (w : World) (A : Around) (scope : Scope) (cl : List (Str × Addr)) (env : Env) (elt : PySem.Expr) (a b : Str) (n : Nat) (f : Int → Int → Int) : Prop :=
  ∀ (C : Addr) (m₂ : Str → Option Value) (i : Nat) (c : UInt8) (t1 t2 : Tok) (s' : Shared) (E' : Value → Shared → Prop), i < n → m₂ a = some (.int (i : Int) t1) → m₂ b = some (.int (c.toNat : Int) t2) → s'.heap.Ns C m₂ →
    wpAny (model prog w) A (eval elt (compEnvC scope cl C env)) (fun v s'' => ∃ t tk, v = .int (f i c.toNat) t ∧ s'' = { s' with toks := tk }) E' s'
theorem blockE {iter elt : PySem.Expr} {a b : Str} {pa pb tp : Pos} {kk : Nat} {scope : Scope} {cl : List (Str × Addr)} {pos : Pos} {s₂ : Shared} {I it : Addr} {B : Array UInt8} {t : Tok} {vals : List Int} {f : Int → Int → Int} {news : List (Addr × Obj)} {RR : Value → Addr → Result → Shared → Prop}
    (hh : A.handled = none) (T3 : EnumAt h₀ L m news s₂.heap I it B t) (hsz : vals.length ≤ sizeLine) (hvl : vals.length = B.size) (hv : ∀ (i : Nat) (c : UInt8), B[i]? = some c → vals[i]? = some (f (i : Int) (c.toNat : Int))) (helt : EltIs prog w A scope cl env elt a b vals.length f)
    (hcell : ∀ y ∈ scope.names, y.2 ≠ .cell) (hkind : scope.kind = .function) (hxa : scope.names.lookup a = some .local) (hxb : scope.names.lookup b = some .local) (hab : a ≠ b)
    (hRR : ∀ D C h tk m' ys, Fr h₀ L h m → News h₀ L h ((D, lst ys) :: news) → (∀ p ∈ news, p.1 < D) → h.Ns C m' → h₀.get? C = none → h₀.get? D = none → C ≠ L → D ≠ L → C ≠ D → (∀ p ∈ news, p.1 ≠ C) → IntsAre ys vals → RR (.ref D) C (.ok .next) { s₂ with heap := h, toks := tk }) :
    wpAny (model prog w) A (newList []) (fun acc s₃ => wpAny (model prog w) A (newFunctionEnv scope env.globals cl [] env.qual none .none (some env)) (fun cenv s₄ =>
      codeAny (model prog w) A (.compStart (.ListComp elt [⟨.Tuple [.Name a pa, .Name b pb] kk tp, iter, [], 0⟩] scope pos) 0 (.ref I) acc { cenv with scope := relabel scope env }) (RR acc cenv.locals) s₄) E s₃) E s₂ := by
  obtain ⟨F, N, hen, hit, hne, ⟨hLI, hLit⟩, ⟨hI₀, hit₀⟩, off⟩ := T3
  refine wpAny_newObj_type (wpAny_newFunctionEnv hcell (by intro y hy; simp at hy) (fun h₁ hns₁ hsb₁ => ?_) hkind)
  dsimp only at hns₁ hsb₁ ⊢
  generalize hH2 : s₂.heap.push { cls := .type "list", dict := none, data := .seq ([] : List Value).toArray } = H2 at hns₁ hsb₁ ⊢
  have hC : H2.objs.size = s₂.heap.objs.size + 1 := by rw [← hH2, Heap.size_push]
  have hDC : s₂.heap.objs.size ≠ H2.objs.size := by rw [hC]; exact Nat.ne_of_lt (Nat.lt_succ_self _)
  have below : ∀ b, b < s₂.heap.objs.size → b ≠ H2.objs.size ∧ b ≠ s₂.heap.objs.size := fun b hb => ⟨by rw [hC]; exact Nat.ne_of_lt (Nat.lt_succ_of_lt hb), Nat.ne_of_lt hb⟩
  have old : ∀ b o, s₂.heap.get? b = some o → h₁.get? b = some o := fun b o e => hsb₁.extBut b o (below b (Heap.lt_size e)).1 (Heap.get?_push_of_some _ (hH2 ▸ Heap.get?_push_of_some _ e))
  have hacc : h₁.get? s₂.heap.objs.size = some (lst []) := hsb₁.extBut _ _ hDC (Heap.get?_push_of_some _ (hH2 ▸ Heap.get?_push_size _ rfl))
  have fresh : ∀ a, s₂.heap.objs.size ≤ a → s₂.heap.get? a = none := fun a ha => by
    cases e : s₂.heap.get? a with
    | none => rfl
    | some o' => exact absurd (Heap.lt_size e) (Nat.not_lt.mpr ha)
  have fresh₀ : ∀ a, s₂.heap.objs.size ≤ a → h₀.get? a = none := fun a ha => by
    cases e : h₀.get? a with
    | none => rfl
    | some o' => have := F.keep a o' e; rw [fresh a ha] at this; cases this
  have hD₀ : h₀.get? s₂.heap.objs.size = none := fresh₀ _ (Nat.le_refl _)
  have hC₀ : h₀.get? H2.objs.size = none := fresh₀ _ (by rw [hC]; exact Nat.le_succ _)
  have hLlt : L < s₂.heap.objs.size := F.ns.lt
  have hDL : s₂.heap.objs.size ≠ L := Ne.symm (below L hLlt).2
  have hCL : H2.objs.size ≠ L := Ne.symm (below L hLlt).1
  have hIlt : I < s₂.heap.objs.size := Heap.lt_size hen
  have hitlt : it < s₂.heap.objs.size := by obtain ⟨o, ho, _⟩ := hit; exact Heap.lt_size ho
  have hCI : I ≠ H2.objs.size := (below I hIlt).1
  have hDI : I ≠ s₂.heap.objs.size := (below I hIlt).2
  have hCit : it ≠ H2.objs.size := (below it hitlt).1
  have hDit : it ≠ s₂.heap.objs.size := (below it hitlt).2
  have hltD : ∀ p ∈ news, p.1 < s₂.heap.objs.size := fun p hp => Heap.lt_size (N p hp).1
  have loop : ∀ s₃ : Shared, s₃ = { s₂ with heap := h₁, toks := s₂.toks + ([] : List (Str × Value)).length } →
      codeAny (model prog w) A (.compLoop (.ListComp elt [⟨.Tuple [.Name a pa, .Name b pb] kk tp, iter, [], 0⟩] scope pos) 0 (.ref I) (.ref s₂.heap.objs.size) (compEnvC scope cl H2.objs.size env))
        (RR (.ref s₂.heap.objs.size) H2.objs.size) s₃ := by
    rintro s₃ rfl
    refine kcp_loop
      (fun k s' => ∃ h' tk i ys m' old', s' = { s₂ with heap := h', toks := tk } ∧ i ≤ vals.length ∧ k = vals.length + 1 - i ∧ IntsAre ys (vals.take i) ∧ IsEnum h' I it (i : Nat) old' ∧ KBw.IsBytesIter h' it B t i ∧ Fr h₀ L h' m ∧ h'.Ns H2.objs.size m' ∧
        News h₀ L h' ((s₂.heap.objs.size, lst ys) :: news)) ?_ (vals.length + 1)
      (mk6_9 h₁ _ 0 [] _ .none rfl (Nat.zero_le _) rfl .nil (old _ _ hen) (hit.elim fun o r => ⟨o, old _ _ r.1, r.2⟩) (F.keeps old) hns₁ fun p hp => ?_)
    · intro k s' iz9
      refine ea6_9 iz9 fun h' tk i ys m' old' rz6 hi rz8 hys hen' hit' F' hn' N' => ?_
      clear iz9
      subst rz6
      subst rz8
      by_cases hlt : i < vals.length
      · obtain ⟨c, hc⟩ : ∃ c, B[i]? = some c := ⟨B[i]'(by omega), Array.getElem?_eq_getElem _⟩
        refine nextE_item (s := { s₂ with heap := h', toks := tk }) hen' hit' hc hne fun h₂ t1 t2 tk₂ ho₂ hit₂ hT₂ hz₂ hk₂ => ?_
        dsimp only at ho₂ hT₂ hz₂ hk₂
        refine wpAny_letOwnedTupleGo_enum ho₂ fun h₃ hen₃ hs₃ => ?_
        replace hs₃ : Heap.SameBut I h₂ h₃ := hs₃
        have up₃ : ∀ c o, c ≠ I → c ≠ it → h'.get? c = some o → h₃.get? c = some o := fun c o h1 h2 e => hs₃.extBut c o h1 (hk₂ c o h1 h2 e)
        have hTI : h'.objs.size ≠ I := Nat.ne_of_gt (Heap.lt_size hen')
        have F₃ : Fr h₀ L h₃ m := ⟨F'.ns.at' fun o e => up₃ _ o hLI hLit e, fun c o e => up₃ c o (fun q => by rw [q, hI₀] at e; cases e) (fun q => by rw [q, hit₀] at e; cases e) (F'.keep c o e), F'.above⟩
        have N₃ : News h₀ L h₃ ((s₂.heap.objs.size, lst ys) :: news) := fun p hp => by
          have z := N' p hp
          rcases List.mem_cons.mp hp with rfl | hp
          · exact ⟨up₃ _ _ (Ne.symm hDI) (Ne.symm hDit) z.1, z.2⟩
          · exact ⟨up₃ _ _ (off p hp).1 (off p hp).2 z.1, z.2⟩
        have hn₃ : h₃.Ns H2.objs.size m' := hn'.at' fun o e => up₃ _ o (Ne.symm hCI) (Ne.symm hCit) e
        have hit₃ : KBw.IsBytesIter h₃ it B t (i + 1) := KBwi.ext hit₂ hs₃.extBut (Ne.symm hne)
        have hTt : h₃.IsTuple h'.objs.size #[.int i t2, .int (c.toNat : Int) t1] := ⟨_, hs₃.extBut _ _ hTI hT₂, rfl, _, rfl⟩
        refine kcp_assign (env := compEnvC scope cl H2.objs.size env) hh hTt (lookup_relabel_local hxa) (lookup_relabel_local hxb) (by simp [compEnvC, relabel, hkind]) hn₃ fun h₄ tk₄ hn₄ hs₄ => ?_
        refine wpAny_mono (helt H2.objs.size _ i c t2 t1 _ _ hlt (by simp [hab]) (by simp) hn₄) (fun v s₅ hv₅ => ?_) fun _ _ e => e
        refine ea2_2 (hv₅) fun t5 tk5 rz2 rz3 => ?_
        (try clear hv₅)
        subst rz2
        subst rz3
        have F₄ : Fr h₀ L h₄ m := ⟨F₃.ns.at' fun o e => hs₄ _ o (Ne.symm hCL) e, fun c o e => hs₄ c o (fun q => by have q' : c = H2.objs.size := q; rw [q', hC₀] at e; cases e) (F₃.keep c o e), F₃.above⟩
        have N₄ : News h₀ L h₄ ((s₂.heap.objs.size, lst ys) :: news) := fun p hp => by
          refine ⟨hs₄ _ _ ?_ (N₃ p hp).1, (N₃ p hp).2⟩
          rcases List.mem_cons.mp hp with rfl | hp
          · exact hDC
          · exact (below _ (hltD p hp)).1
        have hen₄ : IsEnum h₄ I it ((i : Int) + 1) (.int (c.toNat : Int) t1) := hs₄ _ _ hCI hen₃
        have hit₄ : KBw.IsBytesIter h₄ it B t (i + 1) := let ⟨o, ho, r⟩ := hit₃; ⟨o, hs₄ _ _ hCit ho, r⟩
        have hyl := hys.length
        refine append_at (hsz := by show ys.toArray.size ≤ sizeLine; rw [List.size_toArray]; rw [List.length_take] at hyl; omega) (N₄ _ (.head _)).1 fun h₅ hs₅ hD₅ => ?_
        replace hs₅ : Heap.SameBut s₂.heap.objs.size h₄ h₅ := hs₅
        refine mk1_2 (vals.length + 1 - (i + 1)) (kcp_lt hlt) (mk6_9 h₅ _ (i + 1) (ys ++ [.int (f i c.toNat) t5]) _ (.int (c.toNat : Int) t1) rfl hlt rfl ?_ ?_ (KBwi.ext hit₄ hs₅.extBut hDit) (F₄.change hs₅ hDL hD₀) (hn₄.sameBut hs₅ (Ne.symm hDC)) fun p hp => ?_)
        · rw [List.take_add_one, hv i c hc]
          exact IntsAre.append hys (.cons _ t5 .nil)
        · exact hs₅.extBut _ _ hDI hen₄
        · rcases List.mem_cons.mp hp with rfl | hp
          · exact mk0_3 (hD₅.trans (congrArg some (lst_snoc ys _))) hDL hD₀
          · exact ⟨hs₅.extBut _ _ (Nat.ne_of_lt (hltD p hp)) (N₄ p (.tail _ hp)).1, (N₄ p (.tail _ hp)).2⟩
      · obtain rfl : i = vals.length := Nat.le_antisymm hi (Nat.not_lt.mp hlt)
        rw [List.take_length] at hys
        refine nextE_end (s := { s₂ with heap := h', toks := tk }) hh hen' hit' (Array.getElem?_eq_none (by omega)) fun h₂ hk₂ => ?_
        replace hk₂ : Heap.ExtBut it h' h₂ := hk₂
        have hk₃ : ∀ b o, b ∉ [it] → h'.get? b = some o → h₂.get? b = some o := fun b o hb e => hk₂ b o (fun q => hb (List.mem_singleton.mpr q)) e
        exact hRR _ _ h₂ tk _ ys (fr_but F' hk₃ hLit hit₀) (news_but N' hk₃ fun p hp => by
          rcases List.mem_cons.mp hp with rfl | hp
          · exact Ne.symm hDit
          · exact (off p hp).2) hltD (hn'.at' fun o e => hk₂ _ o (Ne.symm hCit) e) hC₀ hD₀ hCL hDL (Ne.symm hDC) (fun p hp => (below _ (hltD p hp)).1) hys
    · rcases List.mem_cons.mp hp with rfl | hp
      · exact mk0_3 hacc hDL hD₀
      · exact ⟨old _ _ (N p hp).1, (N p hp).2⟩
  exact codeAny_compStart_list (loop _ rfl) (wpAny_pyIter_enum (old _ _ hen) (loop _ rfl))
theorem ListComp_E {iter elt : PySem.Expr} {a b : Str} {pa pb tp : Pos} {kk : Nat} {scope : Scope} {cl : List (Str × Addr)} {pos : Pos} {Q : Value → Shared → Prop} (f : Int → Int → Int) (_F₀ : Fr h₀ L s.heap m) (hh : A.handled = none)
    (hclos : closureFor scope env = pure cl) (hcell : ∀ y ∈ scope.names, y.2 ≠ .cell) (hkind : scope.kind = .function)
    (hnames : ∀ y ∈ scope.names, y.2 = .local → scope.names.lookup y.1 = some .local) (hxa : scope.names.lookup a = some .local) (hxb : scope.names.lookup b = some .local) (hab : a ≠ b)
    (h : wpAny (model prog w) A (eval iter env) (fun xv s₁ => ∃ I it B t vals news, xv = .ref I ∧ EnumAt h₀ L m news s₁.heap I it B t ∧ vals.length = B.size ∧ vals.length ≤ sizeLine ∧ (∀ (i : Nat) (c : UInt8), B[i]? = some c → vals[i]? = some (f (i : Int) (c.toNat : Int))) ∧ EltIs prog w A scope cl env elt a b vals.length f ∧
      ∀ ys D h' tk', IntsAre ys vals → Fr h₀ L h' m → News h₀ L h' ((D, lst ys) :: news) → (∀ p ∈ news, p.1 < D) → Q (.ref D) { s₁ with heap := h', toks := tk' }) E s)
    (hs : ∀ x, foldedSetIterable iter env x = pure x := by intro _; rfl) :
    wpAny (model prog w) A (eval (.ListComp elt [⟨.Tuple [.Name a pa, .Name b pb] kk tp, iter, [], 0⟩] scope pos) env) Q E s := by
  rw [eval_ListComp]
  refine wpAny_comprehension_free (use := none) rfl hs hclos hkind hnames (wpAny_mono h (fun xv s₁ h₁ => ?_) fun _ _ e => e)
  refine ea6_7 (h₁) fun I it B t vals news rz6 T3 hvl hsz hv helt fin => ?_
  (try clear h₁)
  subst rz6
  refine wpAny_pyIter_enum T3.en ?_
  refine blockE hh T3 hsz hvl hv helt hcell hkind hxa hxb hab ?_
  intro D C h tk m' ys F' N' hlt hn hC₀ hD₀ hCL hDL hCD offC hys
  refine mk1_2 m' hn (fun h'' hs'' => fin ys D h'' tk hys (F'.change hs'' hCL hC₀) (fun p hp => ?_) hlt)
  refine ⟨hs''.extBut _ _ ?_ (N' p hp).1, (N' p hp).2⟩
  rcases List.mem_cons.mp hp with rfl | hp
  · exact Ne.symm hCD
  · exact offC p hp
end

noncomputable def enV (B : Array UInt8) : List Int := B.toList.zipIdx.map fun x => (x.1.toNat : Int) * 2 ^ (8 * (x.2 : Int)).toNat
theorem enV_len (B : Array UInt8) : (enV B).length = B.size := by simp [enV]
theorem enV_at {B : Array UInt8} {i : Nat} {c : UInt8} (h : B[i]? = some c) : (enV B)[i]? = some ((c.toNat : Int) * 2 ^ (8 * (i : Int)).toNat) := by
  have h2 : B.toList[i]? = some c := by simpa using h
  simp [enV, List.getElem?_map, List.getElem?_zipIdx, h2]
section
variable {w : World} {A : Around} {E : Value → Shared → Prop} {s : Shared} {z : Heap} {L : Addr} {m : Str → Option Value} {news : List (Addr × Obj)}
theorem src_enum {B : Array UInt8} {tb : Tok} {Q : Value → Shared → Prop} (F : Fr z L s.heap m) (N : News z L s.heap news) (h : ∀ I it h', EnumAt z L m news h' I it B tb → Q (.ref I) { s with heap := h' }) :
    wpAny (model PR w) A (call (.type "enumerate") [.bytes B tb]) Q E s := by
  refine call_enum_bytes fun h' he hit hz hk => ?_
  have hl := F.ns.lt
  have f0 : ∀ b, s.heap.objs.size ≤ b → z.get? b = none := fun b hb => by
    cases q : z.get? b with
    | none => rfl
    | some o => exact absurd (Heap.lt_size (F.keep _ _ q)) (Nat.not_lt.mpr hb)
  refine h _ _ h' ⟨⟨F.ns.at' fun o e => hk _ o e, fun b o e => hk b o (F.keep b o e), F.above⟩, fun p hp => ⟨hk _ _ (N p hp).1, (N p hp).2⟩, he, hit, Nat.succ_ne_self _, ⟨Nat.ne_of_lt (Nat.lt_succ_of_lt hl), Nat.ne_of_lt hl⟩, ⟨f0 _ (Nat.le_succ _), f0 _ (Nat.le_refl _)⟩, fun p hp => ?_⟩
  have := Heap.lt_size (N p hp).1
  exact ⟨Nat.ne_of_lt (Nat.lt_succ_of_lt this), Nat.ne_of_lt this⟩
end
section
variable {w : World} {d u : Nat} {fr : List Env} {R : Result → Shared → Prop} {s : Shared} {z : Heap} {p : Program} {loose : List Str} {mean : ExcName → Option Value} {mg mb : Str → Option Value}
set_option maxHeartbeats 400000 in
theorem number_ok {B : Array UInt8} {tb : Tok} (hB : B.size ≤ 8)
    (X : (hd0.heap_1 w.params).In z) (T : Top p loose mean mg mb z) (P : Pre z s.heap []) (hd : d ≤ 450) (hu : u ≤ 850)
    (h : ∀ h' tk t, Pre z h' [] → R (.ok (.ret (.int (enV B).sum t))) { s with heap := h', toks := tk }) :
    codeAny (model PR w) (mkA d fr u) (.call (.ref 234) ⟨[.bytes B tb], []⟩) R s := by
  refine enterZ (binds := [("octets", .bytes B tb)]) X T P (by k_is) (by k_is) (by k_room) (BindsTo.of_eq (by rfl)) (locs (by rfl)) (by rfl) (by rfl) (by rfl) (by decide) ?_
  intro L' h' tk' F' N' hL' hst'
  (try dsimp only); k_fold
  walk_at "goL"
  refine ListComp_E (fun i c => c * 2 ^ (8 * i).toNat) (by assumption) rfl (by with_unfolding_all rfl) (by decide) (by rfl) (by decide) (by rfl) (by rfl) (by decide) ?_
  walk_at "goL"
  refine src_enum (by assumption) (by assumption) fun I it h1 T1 => ?_
  refine mk6_7 I it B tb (enV B) ([]) rfl T1 (enV_len B) ?_ (fun i c hc => enV_at hc) ?_ ?_
  · rw [enV_len, sizeLine_eq]
    omega
  · intro C m₂ i c t1 t2 s' E' hi ha hb hn
    rw [enV_len] at hi
    have hc : c.toNat < 256 := c.toNat_lt
    refine wpAny_BinOp (ldVarK hn hb ?_ rfl rfl)
    refine wpAny_BinOp (wpAny_Constant_int ?_)
    refine ldVarK hn ha ?_ rfl rfl
    refine mul_int ?_ (by mul_fits)
    refine lshift_int_small (by omega) (by omega) (by omega) ?_
    exact mk2_2 _ _ rfl rfl
  · intro ys D h2 tk2 hys F2 N2 l2
    walk_at "goL"
    exact h _ _ _ (leaveZ (by assumption) (by assumption) (fun _ h => nomatch h) (by assumption) P.size)
end

noncomputable def o8 (n : Int) : List Int := (rangeKs 0 8).map fun k => n.fdiv (2 ^ (8 * k).toNat) % 256
theorem o8_eq {n : Int} : List.map (fun k' => Builtin.bitAnd (n.fdiv (2 ^ (8 * k').toNat)) 255) (rangeKs 0 (8 - 0 : Int).toNat) = o8 n := by
  show List.map _ (rangeKs 0 8) = _
  unfold o8
  congr 1
  funext k
  exact bitAnd_m8 _
theorem o8_len (n : Int) : (o8 n).length = 8 := by
  unfold o8
  rw [List.length_map]
  decide
theorem o8_in (n : Int) : KBa.In (o8 n) := fun x hx => by
  refine ea1_2 (List.mem_map.mp hx) fun k _ rz2 => ?_
  subst rz2
  omega
noncomputable def b8 (n : Int) : Array UInt8 := byteArr (o8 n)
theorem b8_size (n : Int) : (b8 n).size = 8 := by
  unfold b8
  rw [byteArr_size, o8_len]
theorem e256 : (256 : Int) ^ Int.toNat 8 = 2 ^ 64 := by decide
section
variable {w : World} {d u : Nat} {fr : List Env} {R : Result → Shared → Prop} {s : Shared} {z : Heap} {p : Program} {loose : List Str} {mean : ExcName → Option Value} {mg mb : Str → Option Value}
set_option maxHeartbeats 400000 in
theorem octets_ok {n : Int} {t1 t2 : Tok} (hn : 0 ≤ n ∧ n < 2 ^ 64)
    (X : (hd0.heap_1 w.params).In z) (T : Top p loose mean mg mb z) (P : Pre z s.heap []) (hd : d ≤ 450) (hu : u ≤ 850)
    (h : ∀ h' tk t, Pre z h' [] → R (.ok (.ret (.bytes (b8 n) t))) { s with heap := h', toks := tk }) :
    codeAny (model PR w) (mkA d fr u) (.call (.ref 239) ⟨[.int n t1, .int 8 t2], []⟩) R s := by
  refine enterZC (binds := [("number", .int n t1), ("size", .int 8 t2)]) X T P (by k_is) (by k_is) (by k_room) (BindsTo.of_eq (by rfl)) (by rfl) (by decide +kernel) (by rfl) (by rfl) (by rfl) ?_
  rw [← e256] at hn
  intro L' h' tk' cells' F' N' Y' hL' hst'
  (try dsimp only); k_fold
  walk_at "cellsIn"
  walk_at "goM"
  all_goals (try (exact absurd hn.2 (by assumption)))
  rename News _ _ _ _ => N9
  rename Fr _ _ _ _ => F9
  rename IntsAre _ _ => hI9
  rw [o8_eq] at hI9
  refine KBa.make_K F9 N9 rfl (N9.isList (.head _)) hI9 (o8_in n) (by rw [o8_len]; decide) ?_
  intro h9 t9 k9 F8 N8 _
  walk_at "goM"
  exact h _ _ _ (leaveZ F8 N8 (fun _ h => nomatch h) (by assumption) P.size)
set_option maxHeartbeats 400000 in
theorem octets_no {n : Int} {t1 t2 : Tok} (hn : ¬(0 ≤ n ∧ n < 2 ^ 64))
    (X : (hd0.heap_1 w.params).In z) (T : Top p loose mean mg mb z) (P : Pre z s.heap []) (hd : d ≤ 450) (hu : u ≤ 850) (FF : FFr z fr)
    (h : ∀ h' tk v, Raised w.params z fr [] 56 "a number that does not fit" v h' → R (.error v) { s with heap := h', toks := tk }) :
    codeAny (model PR w) (mkA d fr u) (.call (.ref 239) ⟨[.int n t1, .int 8 t2], []⟩) R s := by
  refine enterZC (binds := [("number", .int n t1), ("size", .int 8 t2)]) X T P (by k_is) (by k_is) (by k_room) (BindsTo.of_eq (by rfl)) (by rfl) (by decide +kernel) (by rfl) (by rfl) (by rfl) ?_
  rw [← e256] at hn
  intro L' h' tk' cells' F' N' Y' hL' hst'
  (try dsimp only); k_fold
  walk_at "cellsIn"
  walk_at "goM"
  all_goals walk_at "raiseLeave"
  any_goals (intro h'' Rz; exact h _ _ _ Rz)
  all_goals (intro q hq; cases hq)
end

section
variable {M : Model} {A : Around} {E : Value → Shared → Prop} {s : Shared} {B : Heap} {l outer : List Env} {env cenv : Env} {e C L : Addr} {why : Str} {P : Params}
theorem setFlightO {fl : Value} {o : Option Addr} {Q : Unit → Shared → Prop} (x : Fly P B l e C why fl s.heap) (h : ∀ h' fl', Fly P B l e C why fl' h' → FrS (frs l) s.heap h' → Q () { s with heap := h' }) :
    wpAny M A (setFlight (.ref e) o) Q E s := by
  obtain ⟨k, f, xz9⟩ := x
  refine ea8_12 xz9 fun de vs sl T oT ts t1 t2 a1 a2 a3 a4 a5 a6 he h1 hT hd h3 hde => ?_
  clear xz9
  unfold setFlight
  refine wpAny_bind (wpAny_field he rfl h1 ?_)
  rw [if_pos (show (Value.ref T != Value.none) = true from by simp)]
  have hsz3 := (Array.getElem?_eq_some_iff.mp h3).1
  have other : ∀ b, b ≠ T → (s.heap.update T (Obj.mapFields (·.setIfInBounds 3 (o.elim Value.none fun f => rawInt f)))).get? b = s.heap.get? b := fun b hb => Heap.get?_update_other _ _ (Ne.symm hb)
  refine wpAny_setField hT hd hsz3 (h _ (o.elim Value.none fun f => rawInt f) ⟨fun b o hbo => (other b fun q => by rw [q, a2] at hbo; cases hbo).trans (k b o hbo), f.of_keeps fun b o hb hn => ⟨o, (other b fun q => ?_).trans hb, rfl⟩, ?_⟩ fun b hb o ho => ⟨o.slots, (other b fun q => a6 (q ▸ hb)).trans ho⟩)
  · rw [q, hT] at hb; cases hb; exact hn _ hd
  · exact mk8_12 de vs sl T _ _ t1 t2 a1 a2 a3 a4 a5 a6 ((other e (Ne.symm a5)).trans he) h1 (Heap.get?_update_self _ hT (Obj.isFreed_of_fields (Obj.data_mapFields hd _))) (Obj.data_mapFields hd _) (by simp [hsz3]) ((other de fun q => by rw [q, hT] at hde; cases hde; cases hd).trans hde)
theorem frameOf_same (hf : env.frame = some L) (hc : cenv.frame = some L) : PySem.frameOf cenv = PySem.frameOf env := by
  unfold PySem.frameOf
  rw [hf, hc]
theorem noteA {fl : Value} {Q : Unit → Shared → Prop} (hfr : A.frames = some (env :: outer)) (hf : env.frame = some L) (hc : cenv.frame = some L) (x : Fly P B (env :: outer) e C why fl s.heap)
    (h : ∀ h' fl', Fly P B (env :: outer) e C why fl' h' → FrS (frs (env :: outer)) s.heap h' → Q () { s with heap := h' }) : wpAny M A (noteFrame (.ref e) cenv) Q E s := by
  have x0 := x
  obtain ⟨k, f, xz9⟩ := x
  refine ea8_12 xz9 fun de vs sl T oT ts t1 t2 a1 a2 a3 a4 a5 a6 he h1 hT hd h3 hde => ?_
  clear xz9
  unfold noteFrame
  simp only [hc]
  rw [frameOf_same hf hc]
  refine wpAny_bind (wpAny_field he rfl h1 ?_)
  rw [if_pos (show (Value.ref T != Value.none) = true from by simp)]
  refine wpAny_bind (wpAny_field hT hd h3 ?_)
  by_cases hq : (fl == rawInt L) = true
  · rw [if_pos hq]
    exact wpAny_pure (h s.heap fl x0 .refl)
  rw [if_neg hq]
  refine wpAny_bind (wpAny_setField hT hd (Array.getElem?_eq_some_iff.mp h3).1 ?_)
  have other : ∀ b, b ≠ T → (s.heap.update T (Obj.mapFields (·.setIfInBounds 3 Value.none))).get? b = s.heap.get? b := fun b hb => Heap.get?_update_other _ _ (Ne.symm hb)
  refine entryX hfr hf (fun b o hbo => (other b fun q => by rw [q, a2] at hbo; cases hbo).trans (k b o hbo)) (f.of_keeps fun b o hb hn => ⟨o, (other b fun q => ?_).trans hb, rfl⟩) a1 a3 a4 ((other e (Ne.symm a5)).trans he)
    (Array.getElem?_eq_some_iff.mp h1).1 ((other de fun q => by rw [q, hT] at hde; cases hde; cases hd).trans hde) fun h' x1 x2 => h h' _ x1 ?_
  · rw [q, hT] at hb; cases hb; exact hn _ hd
  · intro b hb o ho
    exact x2 b hb o ((other b fun q => a6 (q ▸ hb)).trans ho)
theorem leaveA {fl : Value} {Q : Unit → Shared → Prop} (hfr : A.frames = some (env :: outer)) (hf : env.frame = some L) (x : Fly P B (env :: outer) e C why fl s.heap)
    (h : ∀ h', Fly P B outer e C why .none h' → FrS (frs (env :: outer)) s.heap h' → Q () { s with heap := h' }) : wpAny M A (leaving env (.ref e)) Q E s := by
  unfold leaving
  refine wpAny_bind (noteA hfr hf hf x fun h' fl' x1 x2 => ?_)
  exact setFlightX x1 fun h₂ y1 y2 => h h₂ y1.tail (x2.trans y2)
noncomputable def RaisedX (P : Params) (z : Heap) (l : List Env) (C : Addr) (why : Str) (v : Value) (fl : Value) (h' : Heap) : Prop :=
  ∃ e B, v = .ref e ∧ (∀ b o, z.get? b = some o → b ∉ frs l → B.get? b = some o) ∧ Fly P B l e C why fl h' ∧ FrS (frs l) z h'
theorem Raised.x {z h' : Heap} {mt : List (Addr × Obj)} {v : Value} (x : Raised P z l mt C why v h') : RaisedX P z l C why v .none h' := by
  refine ea2_6 (x) fun e B a b _ c d f => ?_
  (try clear x)
  exact mk2_4 e B a b c d
theorem note_raised {z : Heap} {v fl : Value} {Q : Unit → Shared → Prop} (hfr : A.frames = some (env :: outer)) (hf : env.frame = some L) (hc : cenv.frame = some L) (x : RaisedX P z (env :: outer) C why v fl s.heap)
    (h : ∀ h' fl', RaisedX P z (env :: outer) C why v fl' h' → Q () { s with heap := h' }) : wpAny M A (noteFrame v cenv) Q E s := by
  refine ea2_4 (x) fun e B rz2 k1 k2 k3 => ?_
  (try clear x)
  subst rz2
  exact noteA hfr hf hc k2 fun h' fl' x1 x2 => h h' fl' ⟨e, B, rfl, k1, x1, k3.trans x2⟩
theorem passOn_raised {z : Heap} {v fl : Value} {what : String} (x : RaisedX P z l C why v fl s.heap)
    (h : ∀ h' fl', RaisedX P z l C why v fl' h' → E v { s with heap := h' }) : wpAny M A (PySem.passOn what v cenv : Sem Value) (fun _ _ => False) E s := by
  refine ea2_4 (x) fun e B rz2 k1 k2 k3 => ?_
  (try clear x)
  subst rz2
  obtain ⟨k, f, xz9⟩ := id k2
  refine ea8_12 xz9 fun de vs sl T oT ts t1 t2 a1 a2 a3 a4 a5 a6 he h1 hT hd h3 hde => ?_
  clear xz9
  unfold PySem.passOn
  refine wpAny_bind (wpAny_field he rfl h1 ?_)
  show wpAny M A (if (Value.ref T == Value.none) = true then _ else _) _ E s
  rw [if_neg (show ¬ ((Value.ref T == Value.none) = true) from by simp)]
  refine wpAny_bind (setFlightO k2 fun h' fl' x1 x2 => ?_)
  exact wpAny_throw (h h' fl' ⟨e, B, rfl, k1, x1, k3.trans x2⟩)
theorem RaisedX.change {z h h' : Heap} {v fl : Value} {b : Addr} {ob : Obj} (x : RaisedX P z l C why v fl h) (hb : z.get? b = some ob) (hbl : b ∉ frs l) (hs : Heap.SameBut b h h') : RaisedX P (hid z [(b, ob)]) l C why v fl h' := by
  refine ea2_4 (x) fun e B rz2 k1 sz4 k3 => ?_
  (try clear x)
  subst rz2
  obtain ⟨k, f, xz9⟩ := sz4
  refine ea8_12 xz9 fun de vs sl T oT ts t1 t2 a1 a2 a3 a4 a5 a6 he h1 hT hd h3 hde => ?_
  clear xz9
  have hB := k1 b ob hb hbl
  have hne : ∀ c, B.get? c = none → c ≠ b := fun c hc r => by rw [r, hB] at hc; cases hc
  have up : ∀ c o, c ≠ b → h.get? c = some o → h'.get? c = some o := fun c o hcb e => hs.extBut c o hcb e
  have hn : ∀ c, (hid B [(b, ob)]).get? c = none ∨ B.get? c = (hid B [(b, ob)]).get? c := fun c => by
    cases q : (hid B [(b, ob)]).get? c with
    | none => exact .inl rfl
    | some o => exact .inr (of_hid q)
  have hn2 : ∀ c, B.get? c = none → (hid B [(b, ob)]).get? c = none := fun c hc => by
    rcases hn c with q | q
    · exact q
    · rw [← q, hc]
  have ff : h'.FunFrames (hid B [(b, ob)]) l := by
    have go : ∀ {l' : List Env}, (∀ c ∈ frs l', c ∉ [b]) → h.FunFrames B l' → h'.FunFrames (hid B [(b, ob)]) l' := by
      intro l'
      induction l' with
      | nil => exact fun _ _ => trivial
      | cons ev l' ih =>
        rintro hl ⟨q1, ⟨L', o, q2, q3, q4, q5⟩, q6⟩
        have hm : L' ∈ frs (ev :: l') := List.mem_filterMap.mpr ⟨ev, .head _, q2⟩
        refine mk0_3 q1 (⟨L', o, q2, hn2 _ q3, up _ o (fun r => hl L' hm (List.mem_singleton.mpr r)) q4, q5⟩) (ih (fun c hc => hl c ?_) q6)
        refine ea1_2 (List.mem_filterMap.mp hc) fun e' he' hf' => ?_
        exact List.mem_filterMap.mpr ⟨e', .tail _ he', hf'⟩
    exact go (fun c hc hm => hbl (List.mem_singleton.mp hm ▸ hc)) f
  refine mk2_4 e (hid B [(b, ob)]) rfl (fun c o q hc => hid_of (k1 c o (of_hid q) hc) fun p hp r => ?_) (⟨fun c o q => up c o (fun r => ?_) (k c o (of_hid q)), ff, de, vs, sl, T, oT, ts, t1, t2, hn2 _ a1, hn2 _ a2, hn2 _ a3, a4, a5, a6, up _ _ (hne _ a1) he, h1, up _ _ (hne _ a2) hT, hd, h3, up _ _ (hne _ a3) hde⟩) (fun c hc o q => ?_)
  · rw [List.mem_singleton.mp hp] at r
    have : (hid z [(b, ob)]).get? b = none := hid_no (q := (b, ob)) (.head _)
    rw [show c = b from r.symm] at q
    rw [this] at q; cases q
  · have : (hid B [(b, ob)]).get? b = none := hid_no (q := (b, ob)) (.head _)
    rw [r, this] at q; cases q
  · obtain ⟨sl', e'⟩ := k3 c hc o (of_hid q)
    exact ⟨sl', up c _ (fun r => hbl (r ▸ hc)) e'⟩
theorem RaisedX.weak {z z' h : Heap} {v fl : Value} (x : RaisedX P z l C why v fl h) (k : ∀ b o, z'.get? b = some o → z.get? b = some o) : RaisedX P z' l C why v fl h := by
  refine ea2_4 (x) fun e B rz2 k1 k2 k3 => ?_
  (try clear x)
  subst rz2
  exact mk2_4 e B rfl (fun b o q hb => k1 b o (k b o q) hb) k2 (fun b hb o q => k3 b hb o (k b o q))
theorem raise_passX {z h : Heap} {v fl : Value} {m : Str → Option Value} {news mt mt0 rest : List (Addr × Obj)} {Q : Unit → Shared → Prop} (hfr : A.frames = some (env :: l)) (hf : env.frame = some L) (FF : FFr z l) (F : Fr z L h m) (N : News z L h news) (tk : Take mt0 news rest)
    (R : RaisedX P (hid h mt0) (env :: l) C why v fl s.heap) (hmt : ∀ q ∈ mt, q ∈ rest)
    (hQ : ∀ h', Raised P z l mt C why v h' → Q () { s with heap := h' }) : wpAny M A (leaving env v) Q E s := by
  refine ea2_4 (R) fun e B rz2 k1 k3 k4 => ?_
  (try clear R)
  subst rz2
  refine leaveA hfr hf k3 fun h' x1 x2 => hQ h' ⟨e, B, rfl, fun b o q hb => ?_, fun q hq => ?_, x1, ?_, ?_⟩
  · refine k1 b o (hid_base F (tk.nws N) b o q) fun hm => ?_
    rcases (frs_cons hf).mp hm with r | hm
    · subst r; exact absurd (Heap.lt_size q) (Nat.not_lt.mpr F.above)
    · exact hb hm
  · obtain ⟨h1, h2⟩ := tk.sub q (hmt q hq)
    refine ⟨k1 _ _ (hid_of (N q h1).1 h2) fun hm => ?_, (N q h1).2.2⟩
    rcases (frs_cons hf).mp hm with r | hm
    · exact (N q h1).2.1 r
    · obtain ⟨o, ho⟩ := FF.at hm
      rw [(N q h1).2.2] at ho; cases ho
  · intro b hb o q
    obtain ⟨sl, q1⟩ := k4 b ((frs_cons hf).mpr (.inr hb)) o (hid_base F (tk.nws N) b o q)
    obtain ⟨sl', q2⟩ := x2 b ((frs_cons hf).mpr (.inr hb)) _ q1
    exact ⟨sl', q2⟩
  · refine ea3_2 (F.ns) fun oL _ _ hL _ => ?_
    obtain ⟨sl, q1⟩ := k4 L ((frs_cons hf).mpr (.inl rfl)) oL (hid_of hL fun q hq r => (N q (tk.mem q hq)).2.1 r)
    exact Nat.le_trans F.above (Nat.le_of_lt (x2.size ((frs_cons hf).mpr (.inl rfl)) q1))
end

open LCg in
section
variable {prog : Program} {w : World} {A : Around} {E : Value → Shared → Prop} {s : Shared} {h₀ : Heap} {L : Addr} {m : Str → Option Value} {env : Env} {l : List Env}
structure IntsW (prog : Program) (w : World) (A : Around) (h₀ : Heap) (L I : Addr) (m : Str → Option Value) (news : List (Addr × Obj)) (vals : List Int) (h : Heap) : Prop where
  fr : Fr h₀ L h m
  nws : News h₀ L h news
  ne : L ≠ I
  base : h₀.get? I = none
  off : ∀ p ∈ news, p.1 ≠ I
  walks : ∃ (fp : List Addr) (P : Nat → Value → Prop) (St : Nat → Heap → Prop), Walks prog w A I fp [I] vals.length P St ∧ St 0 h ∧ (∀ b ∈ fp, b < h.objs.size) ∧ (∀ i h, St i h → ∃ o, h.get? I = some o) ∧
    (∀ i h h' o, St i h → h.get? I = some o → h'.get? I = some o → (∀ b o, h₀.get? b = some o → h'.get? b = some o) → News h₀ L h' news → St i h') ∧
    (∀ i v, i < vals.length → P i v → ∃ k t, vals[i]? = some k ∧ v = .int k t)
inductive Gs (G : Int → Value → Prop) : List Int → List Value → Prop
  | nil : Gs G [] []
  | snoc {ks : List Int} {vs : List Value} {k : Int} {v : Value} : Gs G ks vs → G k v → Gs G (ks ++ [k]) (vs ++ [v])
theorem Gs.length {G : Int → Value → Prop} {ks : List Int} {vs : List Value} (h : Gs G ks vs) : vs.length = ks.length := by
  induction h with
  | nil => rfl
  | snoc _ _ ih => simp [ih]
noncomputable def EltR (prog : Program) (w : World) (A : Around) (h₀ : Heap) (L : Addr) (m : Str → Option Value) (env : Env) (l : List Env) (elt : PySem.Expr) (x : Str) (scope : Scope) (cl : List (Str × Addr)) (news : List (Addr × Obj)) (vals : List Int) (PP : Params) (CE : Addr) (why : Str) (G : Int → Value → Prop) (Bad : Int → Prop) (s : Shared) : Prop :=
  ∀ (I : Addr) (oI : Obj) (C : Addr) (oC : Obj) (D : Addr) (m₂ : Str → Option Value) (ys : List Value) (i : Nat) (k : Int) (t : Tok) (h : Heap) (tk : Nat), vals[i]? = some k → NsObj oC m₂ → m₂ x = some (.int k t) → Fr h₀ L h m → News h₀ L h ((I, oI) :: (C, oC) :: (D, lst ys) :: news) → Off3 I C D news → ((@Ne Nat I C) ∧ (@Ne Nat I D) ∧ (@Ne Nat C D)) →
    wpAny (model prog w) A (eval elt (compEnvC scope cl C env)) (fun v s' => ∃ h' tk', s' = { s with heap := h', toks := tk' } ∧ Fr h₀ L h' m ∧ News h₀ L h' ((I, oI) :: (C, oC) :: (D, lst ys) :: news) ∧ G k v)
      (fun v s' => ∃ h' tk', s' = { s with heap := h', toks := tk' } ∧ Bad k ∧ RaisedX PP (hid h []) (env :: l) CE why v .none h') { s with heap := h, toks := tk }
theorem blockR {elt iter : PySem.Expr} {x : Str} {px : Pos} {scope : Scope} {cl : List (Str × Addr)} {pos : Pos} {s₂ : Shared} {I Lf : Addr} {vals : List Int} {news : List (Addr × Obj)} {PP : Params} {CE : Addr} {why : Str} {G : Int → Value → Prop} {Bad : Int → Prop} {RR : Value → Addr → Result → Shared → Prop}
    (hfr : A.frames = some (env :: l)) (hfe : env.frame = some Lf) (T3 : IntsW prog w A h₀ L I m news vals s₂.heap) (hsz : vals.length ≤ sizeLine) (helt : EltR prog w A h₀ L m env l elt x scope cl news vals PP CE why G Bad s₂)
    (hcell : ∀ y ∈ scope.names, y.2 ≠ .cell) (hkind : scope.kind = .function) (hx : scope.names.lookup x = some .local)
    (hRR : ∀ D C h tk m' ys, Fr h₀ L h m → News h₀ L h ((D, lst ys) :: news) → (∀ p ∈ news, p.1 < D) → h.Ns C m' → h₀.get? C = none → h₀.get? D = none → C ≠ L → D ≠ L → C ≠ D → (∀ p ∈ news, p.1 ≠ C) → Gs G vals ys → RR (.ref D) C (.ok .next) { s₂ with heap := h, toks := tk })
    (hER : ∀ D C oC m₂ h v fl h' tk k, k ∈ vals → Bad k → NsObj oC m₂ → Fr h₀ L h m → News h₀ L h ((C, oC) :: news) → (∀ p ∈ news, p.1 ≠ C) → RaisedX PP (hid h []) (env :: l) CE why v fl h' → RR (.ref D) C (.error v) { s₂ with heap := h', toks := tk }) :
    wpAny (model prog w) A (newList []) (fun acc s₃ => wpAny (model prog w) A (newFunctionEnv scope env.globals cl [] env.qual none .none (some env)) (fun cenv s₄ =>
      codeAny (model prog w) A (.compStart (.ListComp elt [⟨.Name x px, iter, [], 0⟩] scope pos) 0 (.ref I) acc { cenv with scope := relabel scope env }) (RR acc cenv.locals) s₄) E s₃) E s₂ := by
  obtain ⟨F, N, hIL, hI₀, off, wz9⟩ := T3
  refine ea3_6 wz9 fun fp P St W hst hfp hIo hSt hP => ?_
  clear wz9
  refine wpAny_newObj_type (wpAny_newFunctionEnv hcell (by intro y hy; simp at hy) (fun h₁ hns₁ hsb₁ => ?_) hkind)
  dsimp only at hns₁ hsb₁ ⊢
  generalize hH2 : s₂.heap.push { cls := .type "list", dict := none, data := .seq ([] : List Value).toArray } = H2 at hns₁ hsb₁ ⊢
  have hC : H2.objs.size = s₂.heap.objs.size + 1 := by rw [← hH2, Heap.size_push]
  have hDC : s₂.heap.objs.size ≠ H2.objs.size := by rw [hC]; exact Nat.ne_of_lt (Nat.lt_succ_self _)
  have below : ∀ b, b < s₂.heap.objs.size → b ≠ H2.objs.size ∧ b ≠ s₂.heap.objs.size := fun b hb => ⟨by rw [hC]; exact Nat.ne_of_lt (Nat.lt_succ_of_lt hb), Nat.ne_of_lt hb⟩
  have hDf : s₂.heap.objs.size ∉ fp := fun hm => Nat.lt_irrefl _ (hfp _ hm)
  have hCf : H2.objs.size ∉ fp := fun hm => by have := hfp _ hm; rw [hC] at this; exact Nat.lt_irrefl _ (Nat.lt_of_succ_lt this)
  have hIf : I ∈ fp := W.sub I (List.mem_singleton.mpr rfl)
  have hIlt : I < s₂.heap.objs.size := hfp I hIf
  have old : ∀ b o, s₂.heap.get? b = some o → h₁.get? b = some o := fun b o e => hsb₁.extBut b o (below b (Heap.lt_size e)).1 (Heap.get?_push_of_some _ (hH2 ▸ Heap.get?_push_of_some _ e))
  have hacc : h₁.get? s₂.heap.objs.size = some (lst []) := hsb₁.extBut _ _ hDC (Heap.get?_push_of_some _ (hH2 ▸ Heap.get?_push_size _ rfl))
  have hst₁ : St 0 h₁ := W.frame _ _ _ hst fun b _ o e => old b o e
  have fresh : ∀ a, s₂.heap.objs.size ≤ a → s₂.heap.get? a = none := fun a ha => by
    cases e : s₂.heap.get? a with
    | none => rfl
    | some o' => exact absurd (Heap.lt_size e) (Nat.not_lt.mpr ha)
  have fresh₀ : ∀ a, s₂.heap.objs.size ≤ a → h₀.get? a = none := fun a ha => by
    cases e : h₀.get? a with
    | none => rfl
    | some o' => have := F.keep a o' e; rw [fresh a ha] at this; cases this
  have hD₀ : h₀.get? s₂.heap.objs.size = none := fresh₀ _ (Nat.le_refl _)
  have hC₀ : h₀.get? H2.objs.size = none := fresh₀ _ (by rw [hC]; exact Nat.le_succ _)
  have hLlt : L < s₂.heap.objs.size := F.ns.lt
  have hDL : s₂.heap.objs.size ≠ L := Ne.symm (below L hLlt).2
  have hCL : H2.objs.size ≠ L := Ne.symm (below L hLlt).1
  have hCI : I ≠ H2.objs.size := (below I hIlt).1
  have hDI : I ≠ s₂.heap.objs.size := (below I hIlt).2
  have hltD : ∀ p ∈ news, p.1 < s₂.heap.objs.size := fun p hp => Heap.lt_size (N p hp).1
  have off₀ : Off3 I H2.objs.size s₂.heap.objs.size news := Off3.of fun p hp => ⟨off p hp, (below _ (hltD p hp)).1, (below _ (hltD p hp)).2⟩
  have loop : ∀ s₃ : Shared, s₃ = { s₂ with heap := h₁, toks := s₂.toks + ([] : List (Str × Value)).length } →
      codeAny (model prog w) A (.compLoop (.ListComp elt [⟨.Name x px, iter, [], 0⟩] scope pos) 0 (.ref I) (.ref s₂.heap.objs.size) (compEnvC scope cl H2.objs.size env))
        (RR (.ref s₂.heap.objs.size) H2.objs.size) s₃ := by
    rintro s₃ rfl
    refine codeAny_compLoop_list
      (fun k s' => ∃ h' tk i ys m', s' = { s₂ with heap := h', toks := tk } ∧ i ≤ vals.length ∧ k = vals.length + 1 - i ∧ Gs G (vals.take i) ys ∧ St i h' ∧ Fr h₀ L h' m ∧ h'.Ns H2.objs.size m' ∧ News h₀ L h' ((s₂.heap.objs.size, lst ys) :: news)) ?_ (vals.length + 1)
      (mk5_8 h₁ _ 0 [] _ rfl (Nat.zero_le _) rfl .nil hst₁ (F.keeps old) hns₁ fun p hp => ?_)
    · intro k s' iz9
      refine ea5_8 iz9 fun h' tk i ys m' rz5 hi rz7 hys hst' F' hn' N' => ?_
      clear iz9
      subst rz5
      subst rz7
      by_cases hlt : i < vals.length
      · refine W.item i _ _ _ hlt hst' fun v h₂ tk₂ hPv hst₂ hk₂ => ?_
        refine ea2_2 (hP i v hlt hPv) fun kv tv hkv rz3 => ?_
        subst rz3
        refine wpAny_assign_Name (wpAny_storeName_local (lookup_relabel_local hx) (hn'.at' fun o e => hk₂ _ o (by simpa using Ne.symm hCI) e) (fun h₃ hn₃ hs₃ => ?_) (by simp [compEnvC, relabel, hkind]))
        have hst₃ : St (i + 1) h₃ := W.frame _ _ _ hst₂ fun b hb o e => hs₃.extBut b o (fun q => hCf (by have q' : b = H2.objs.size := q; rw [← q']; exact hb)) e
        obtain ⟨oI, heI⟩ := hIo _ _ hst₃
        refine ea1_2 (ns_obj hn₃) fun oC heC hoC => ?_
        have F₃ : Fr h₀ L h₃ m := (fr_but F' hk₂ hIL hI₀).change hs₃ hCL hC₀
        have N₂ : News h₀ L h₂ ((s₂.heap.objs.size, lst ys) :: news) := news_but N' hk₂ fun p hp => by
          rcases List.mem_cons.mp hp with rfl | hp
          · exact Ne.symm hDI
          · exact off p hp
        have N₃ : News h₀ L h₃ ((I, oI) :: (H2.objs.size, oC) :: (s₂.heap.objs.size, lst ys) :: news) := fun p hp => by
          rcases List.mem_cons.mp hp with rfl | hp
          · exact mk0_3 heI (Ne.symm hIL) hI₀
          · rcases List.mem_cons.mp hp with rfl | hp
            · exact mk0_3 heC hCL hC₀
            · have z := N₂ p hp
              refine ⟨hs₃.extBut _ _ ?_ z.1, z.2⟩
              rcases List.mem_cons.mp hp with rfl | hp
              · exact hDC
              · exact (below _ (hltD p hp)).1
        have NC : News h₀ L h₃ ((H2.objs.size, oC) :: news) := fun p hp => by
          rcases List.mem_cons.mp hp with rfl | hp
          · exact N₃ _ (.tail _ (.head _))
          · exact N₃ p (.tail _ (.tail _ (.tail _ hp)))
        have hys' := hys.length
        refine wpAny_mono (helt I oI H2.objs.size oC s₂.heap.objs.size _ ys i kv tv h₃ _ hkv hoC (by simp) F₃ N₃ off₀ ⟨hCI, hDI, Ne.symm hDC⟩) (fun y s₄ h₄ => ?_) fun v s₄ h₄ => ?_
        · revert h₄
          intro ez9
          refine ea2_4 (ez9) fun h₄ tk₄ rz2 F₄ N₄ g₄ => ?_
          (try clear ez9)
          subst rz2
          have zI := (N₄ (I, oI) List.mem_cons_self).1
          have zC := (N₄ (H2.objs.size, oC) (List.mem_cons_of_mem _ List.mem_cons_self)).1
          have zD := (N₄ (s₂.heap.objs.size, lst ys) (List.mem_cons_of_mem _ (List.mem_cons_of_mem _ List.mem_cons_self))).1
          have N₄' : News h₀ L h₄ news := fun p hp => N₄ p (List.mem_cons_of_mem _ (List.mem_cons_of_mem _ (List.mem_cons_of_mem _ hp)))
          have hst₄ : St (i + 1) h₄ := hSt _ _ _ _ hst₃ heI zI F₄.keep N₄'
          refine append_at (hsz := by show ys.toArray.size ≤ sizeLine; rw [List.size_toArray]; rw [List.length_take] at hys'; omega) zD fun h₅ hs₅ hD₅ => ?_
          refine mk1_2 (vals.length + 1 - (i + 1)) (kcp_lt hlt) (mk5_8 h₅ tk₄ (i + 1) (ys ++ [y]) _ rfl hlt rfl ?_ (W.frame _ _ _ hst₄ fun b hb o e => hs₅.extBut b o (fun q => hDf (q ▸ hb)) e) (F₄.change hs₅ hDL hD₀) ((hoC.ns zC).sameBut hs₅ (Ne.symm hDC)) fun p hp => ?_)
          · rw [List.take_add_one, hkv]
            exact .snoc hys g₄
          · rcases List.mem_cons.mp hp with rfl | hp
            · exact mk0_3 (hD₅.trans (congrArg some (lst_snoc ys y))) hDL hD₀
            · exact ⟨hs₅.extBut _ _ (Nat.ne_of_lt (hltD p hp)) (N₄' p hp).1, (N₄' p hp).2⟩
        · revert h₄
          intro ez9
          refine ea2_3 (ez9) fun h₄ tk₄ rz2 hbad Rz => ?_
          (try clear ez9)
          subst rz2
          have hmem : kv ∈ vals := List.mem_of_getElem? hkv
          show wpAny _ _ (noteFrame v (compEnvC scope cl H2.objs.size env)) _ _ _
          exact note_raised hfr hfe hfe Rz fun h₅ fl' Rz' => hER _ _ oC _ h₃ v fl' h₅ _ kv hmem hbad hoC F₃ NC (fun p hp => (below _ (hltD p hp)).1) Rz'
      · obtain rfl : i = vals.length := Nat.le_antisymm hi (Nat.not_lt.mp hlt)
        rw [List.take_length] at hys
        refine W.done _ _ _ hst' fun h₂ tk₂ hk₂ => ?_
        exact hRR _ _ h₂ tk₂ _ ys (fr_but F' hk₂ hIL hI₀) (news_but N' hk₂ fun p hp => by
          rcases List.mem_cons.mp hp with rfl | hp
          · exact Ne.symm hDI
          · exact off p hp) hltD (hn'.at' fun o e => hk₂ _ o (by simpa using Ne.symm hCI) e) hC₀ hD₀ hCL hDL (Ne.symm hDC) (fun p hp => (below _ (hltD p hp)).1) hys
    · rcases List.mem_cons.mp hp with rfl | hp
      · exact mk0_3 hacc hDL hD₀
      · exact ⟨old _ _ (N p hp).1, (N p hp).2⟩
  exact codeAny_compStart_list (loop _ rfl) (W.self 0 _ _ _ hst₁ (loop _ rfl))
theorem ListComp_R {elt iter : PySem.Expr} {x : Str} {px : Pos} {scope : Scope} {cl : List (Str × Addr)} {pos : Pos} {PP : Params} {CE : Addr} {why : Str} {G : Int → Value → Prop} {Bad : Int → Prop} {Q : Value → Shared → Prop}
    (hfr : A.frames = some (env :: l)) (hfe : env.frame = some L) (FF : FFr h₀ l) (_F₀ : Fr h₀ L s.heap m)
    (hclos : closureFor scope env = pure cl) (hcell : ∀ y ∈ scope.names, y.2 ≠ .cell) (hkind : scope.kind = .function)
    (hnames : ∀ y ∈ scope.names, y.2 = .local → scope.names.lookup y.1 = some .local) (hx : scope.names.lookup x = some .local)
    (h : wpAny (model prog w) A (eval iter env) (fun xv s₁ => ∃ (vals : List Int) (news : List (Addr × Obj)), vals.length ≤ sizeLine ∧ wpAny (model prog w) A (pyIter xv) (fun it s₂ => ∃ I h tk, it = .ref I ∧ s₂ = { s₁ with heap := h, toks := tk } ∧ IntsW prog w A h₀ L I m news vals h) E s₁ ∧
      EltR prog w A h₀ L m env l elt x scope cl news vals PP CE why G Bad s₁ ∧
      (∀ ys D h' tk', Gs G vals ys → Fr h₀ L h' m → News h₀ L h' ((D, lst ys) :: news) → (∀ p ∈ news, p.1 < D) → Q (.ref D) { s₁ with heap := h', toks := tk' }) ∧
      (∀ h C oC v fl h' tk' k, k ∈ vals → Bad k → Fr h₀ L h m → News h₀ L h ((C, oC) :: news) → (∀ p ∈ news, p.1 ≠ C) → RaisedX PP (hid h [(C, oC)]) (env :: l) CE why v fl h' → E v { s₁ with heap := h', toks := tk' })) E s)
    (hs : ∀ x, foldedSetIterable iter env x = pure x := by intro _; rfl) :
    wpAny (model prog w) A (eval (.ListComp elt [⟨.Name x px, iter, [], 0⟩] scope pos) env) Q E s := by
  rw [eval_ListComp]
  refine wpAny_comprehension_free (use := none) rfl hs hclos hkind hnames (wpAny_mono h (fun xv s₁ h₁ => ?_) fun _ _ e => e)
  revert h₁
  intro ez9
  refine ea2_5 (ez9) fun vals news hsz h₁ helt fin err => ?_
  (try clear ez9)
  refine wpAny_mono h₁ (fun it s₂ h₂ => ?_) fun _ _ e => e
  refine ea3_3 (h₂) fun I hp tk rz3 rz4 T3 => ?_
  (try clear h₂)
  subst rz3
  subst rz4
  refine blockR hfr hfe T3 hsz helt hcell hkind hx ?_ ?_
  · intro D C h tk m' ys F' N' hlt hn hC₀ hD₀ hCL hDL hCD offC hys
    refine mk1_2 m' hn (fun h'' hs'' => fin ys D h'' tk hys (F'.change hs'' hCL hC₀) (fun p hp => ?_) hlt)
    refine ⟨hs''.extBut _ _ ?_ (N' p hp).1, (N' p hp).2⟩
    rcases List.mem_cons.mp hp with rfl | hp
    · exact Ne.symm hCD
    · exact offC p hp
  · intro D C oC m₂ h v fl h' tk k hk hbad hoC F' N' offC Rz
    have hz : (hid h []).get? C = some oC := hid_of (N' _ (.head _)).1 fun _ h => nomatch h
    have hCl : C ∉ frs (env :: l) := fun hm => by
      rcases (frs_cons hfe).mp hm with r | hm
      · exact (N' _ (.head _)).2.1 r
      · obtain ⟨o, ho⟩ := FF.at hm
        rw [(N' _ (.head _)).2.2] at ho; cases ho
    have hC' : h'.get? C = some oC := by
      refine ea2_4 (id Rz) fun e B rz2 k1 k2 k3 => ?_
      subst rz2
      exact k2.keep _ _ (k1 _ _ hz hCl)
    refine mk1_2 m₂ (hoC.ns hC') (fun h3 hs3 cenv' _ => passOn_raised (fl := fl) (z := hid h [(C, oC)]) ((Rz.change hz hCl hs3).weak fun b o e => ?_) fun h4 fl4 Rz4 => ?_)
    · exact hid_of (hid_of (of_hid e) fun _ h => nomatch h) fun p hp r => by
        rw [List.mem_singleton.mp hp] at r
        have : (hid h [(C, oC)]).get? C = none := hid_no (q := (C, oC)) (.head _)
        rw [show b = C from r.symm, this] at e; cases e
    · exact err h C oC v fl4 h4 _ k hk hbad F' N' offC Rz4
end

noncomputable def rangeV (a c : Int) (n : Nat) : List Int := (List.range n).map fun i : Nat => a + (i : Int) * c
theorem rangeV_len {a c : Int} {n : Nat} : (rangeV a c n).length = n := by simp [rangeV]
theorem rangeV_at {a c : Int} {n i : Nat} (h : i < n) : (rangeV a c n)[i]? = some (a + (i : Int) * c) := by simp [rangeV, h]
theorem ints_at : ∀ {vs : List Value} {ns : List Int}, IntsAre vs ns → ∀ (i : Nat) (v : Value), vs[i]? = some v → ∃ k t, ns[i]? = some k ∧ v = .int k t := by
  intro vs ns h
  induction h with
  | nil => intro i v h; simp at h
  | cons k t h ih =>
    intro i v hv
    cases i with
    | zero =>
      simp at hv
      exact mk2_2 k t rfl hv.symm
    | succ i =>
      simp at hv
      refine ea2_2 (ih i v hv) fun k' t' a b => ?_
      exact mk2_2 k' t' (by simpa using a) b
open LCg in
section
variable {prog : Program} {w : World} {A : Around} {E : Value → Shared → Prop} {s : Shared} {h₀ : Heap} {L : Addr} {m : Str → Option Value} {news : List (Addr × Obj)}
theorem src_listI {ax : Addr} {vs : List Value} {vals : List Int} (hh : A.handled = none) (F : Fr h₀ L s.heap m) (N : News h₀ L s.heap news) (S : SrcAt h₀ ax vs.toArray news) (hi : IntsAre vs vals) :
    wpAny (model prog w) A (pyIter (.ref ax)) (fun it s₂ => ∃ I h tk, it = .ref I ∧ s₂ = { s with heap := h, toks := tk } ∧ IntsW prog w A h₀ L I m news vals h ∧ ∀ p ∈ news, @LT.lt Nat _ p.1 I) E s := by
  have hl := S.list F.keep N
  have hlt : ax < s.heap.objs.size := by obtain ⟨_, e, _⟩ := hl; exact Heap.lt_size e
  refine wpAny_pyIter_list hl ?_
  have up : ∀ b o, s.heap.get? b = some o → (s.heap.push { cls := .type "list_iterator", data := .fields #[.ref ax, .int 0 0] }).get? b = some o := fun b o e => Heap.get?_push_of_some _ e
  have hlen : vs.toArray.size = vals.length := by rw [List.size_toArray]; exact hi.length
  have W := Walks.list (prog := prog) (w := w) hh s.heap.objs.size ax (Nat.ne_of_lt hlt) vs.toArray
  rw [hlen] at W
  refine mk3_4 _ _ _ rfl rfl (⟨F.keeps up, N.grown up, Nat.ne_of_lt F.ns.lt, next_is_new F, fun p hp => Nat.ne_of_lt (Heap.lt_size (N p hp).1), _, _, _, W, ⟨⟨_, Heap.get?_push_size _ rfl, rfl, rfl⟩, hl.push _⟩, fun b hb => ?_, fun i h st => by obtain ⟨o, e, _⟩ := st.1; exact ⟨o, e⟩, fun i h h' o st e e' k N' => list_st i h h' o news st e e' k N' S, fun i v hlt' hP => ?_⟩) (fun p hp => Heap.lt_size (N p hp).1)
  · rw [Heap.size_push]
    rcases List.mem_cons.mp hb with rfl | hb
    · exact Nat.lt_succ_self _
    · rw [List.mem_singleton.mp hb]; exact Nat.lt_succ_of_lt hlt
  · have hv : vs[i]? = some v := by simpa using hP
    exact ints_at hi i v hv
theorem src_list {ax : Addr} {vs : List Value} {vals : List Int} (hh : A.handled = none) (F : Fr h₀ L s.heap m) (N : News h₀ L s.heap news) (S : SrcAt h₀ ax vs.toArray news) (hi : IntsAre vs vals) :
    wpAny (model prog w) A (pyIter (.ref ax)) (fun it s₂ => ∃ I h tk, it = .ref I ∧ s₂ = { s with heap := h, toks := tk } ∧ IntsW prog w A h₀ L I m news vals h) E s :=
  wpAny_mono (src_listI hh F N S hi) (fun _ _ hv => ea3_4 hv fun I h tk e1 e2 x _ => ⟨I, h, tk, e1, e2, x⟩) fun _ _ e => e
theorem src_range {r : Addr} {a b c : Int} {t u v : Tok} {n : Nat} (hh : A.handled = none) (F : Fr h₀ L s.heap m) (N : News h₀ L s.heap news) (hr : IsRange s.heap r a b c t u v) (hsm : Builtin.Range.small a b c = true) (hn : Builtin.Range.rangeSize a b c = ((n : Nat) : Int)) :
    wpAny (model prog w) A (pyIter (.ref r)) (fun it s₂ => ∃ I h tk, it = .ref I ∧ s₂ = { s with heap := h, toks := tk } ∧ IntsW prog w A h₀ L I m news (rangeV a c n) h) E s := by
  refine wpAny_pyIter_range hr hsm ?_
  have hlen : (rangeV a c n).length = n := rangeV_len
  have W := (Walks.range (prog := prog) (w := w) hh s.heap.objs.size a c n).bound
  rw [← hlen] at W
  refine ⟨_, _, _, rfl, rfl, F.keeps fun _ _ e => Heap.get?_push_of_some _ e, N.grown fun _ _ e => Heap.get?_push_of_some _ e, Nat.ne_of_lt F.ns.lt, next_is_new F, fun p hp => Nat.ne_of_lt (Heap.lt_size (N p hp).1), _, _, _, W, ?_, fun b hb => ?_, fun i h st => ⟨_, st⟩, fun i h h' o st e e' k N' => ?_, fun i v hlt' hP => ?_⟩
  · have e := Heap.get?_push_size s.heap (o := { cls := .type "range_iterator", data := .fields #[rawInt a, rawInt (Builtin.Range.rangeSize a b c), rawInt c] }) rfl
    rw [hn] at e ⊢
    rw [hlen]
    show Heap.get? _ _ = _
    rw [e]
    simp
  · rw [List.mem_singleton.mp hb, Heap.size_push]; exact Nat.lt_succ_self _
  · have st' : h.get? _ = some _ := st
    show h'.get? _ = some _
    rw [e', ← e]; exact st'
  · obtain ⟨_, t, rfl⟩ := hP
    rw [hlen] at hlt'
    exact mk2_2 _ t (rangeV_at hlt') rfl
end

example : True := by
  k_with "goS" => (repeat' (first | (k_unfold; (try dsimp only)) | (dsimp only; k_unfold; (try dsimp only)) | ((fail_if_success (with_reducible show wpAny _ _ (PySem.exec (PySem.Stmt.For _ _ _ _ _) _) _ _ _)); (fail_if_success (with_reducible show wpAny _ _ (PySem.eval (PySem.Expr.Lambda _ _ _ _) _) _ _ _)); (fail_if_success (with_reducible show wpAny _ _ (PySem.call (PySem.Value.ref 263) _) _ _ _)); (fail_if_success (with_reducible show wpAny _ _ (PySem.call (PySem.Value.ref 239) _) _ _ _)); (fail_if_success (with_reducible show wpAny _ _ (PySem.call (PySem.Value.ref 234) _) _ _ _)); (fail_if_success (with_reducible show wpAny _ _ (PySem.call (PySem.Value.ref 244) _) _ _ _)); (fail_if_success (with_reducible show wpAny _ _ (PySem.call (PySem.Value.ref 249) _) _ _ _)); (fail_if_success (with_reducible show wpAny _ _ (PySem.call (PySem.Value.builtin "bytes.join") _) _ _ _)); (fail_if_success (with_reducible show wpAny _ _ (PySem.compareOp _ (PySem.Value.ref _) (PySem.Value.ref _)) _ _ _)); (fail_if_success (with_reducible show wpAny _ _ (PySem.compareOp _ (PySem.Value.bytes _ _) (PySem.Value.bytes _ _)) _ _ _)); (fail_if_success (with_reducible show wpAny _ _ (PySem.call (PySem.Value.type "bytes") _) _ _ _)); (fail_if_success (with_reducible show wpAny _ _ (PySem.call (PySem.Value.ref 275) _) _ _ _)); (fail_if_success (with_reducible show wpAny _ _ (PySem.call (PySem.Value.ref 282) _) _ _ _)); (fail_if_success (with_reducible show wpAny _ _ (PySem.eval (PySem.Expr.ListComp _ _ _ _) _) _ _ _)); (fail_if_success (with_reducible show LCg.CompSrc _ _ _ _ _ _ _ _ _ _ _ _ _ _)); (fail_if_success (with_reducible show wpAny _ _ (PySem.pyIter _) _ _ _)); first | (k_end; wrow_close) | walk1 | (dsimp only; walk1) | (leave1; walk_say "STEP leave1"; try dsimp only)) | fail "no step"))
  k_with "getMethod bytes" => ((k_here; (with_reducible show wpAny _ _ (getMethod (Value.bytes _ _) (Str.ofString "join") _) _ _ _); (with_reducible refine Jb.method ?_)))
  trivial
section
variable {w : World} {d u : Nat} {fr : List Env} {E : Value → Shared → Prop} {s : Shared} {z : Heap} {L : Nat} {m : Str → Option Value} {p : Program} {loose : List Str} {mean : ExcName → Option Value} {mg mb : Str → Option Value} {Q : Value → Shared → Prop} {env : Env} {news : List (Addr × Obj)}
theorem octets_call {n : Int} {t1 t2 : Tok} (F : Fr z L s.heap m) (N : News z L s.heap news) (X : (hd0.heap_1 w.params).In z) (T : Top p loose mean mg mb z) (FF : FFr z fr) (hf : env.frame = some L) (hk : env.scope.kind ≠ .module) (hd : d ≤ 440) (hu : u ≤ 840)
    (h : (0 ≤ n ∧ n < 2 ^ 64) → ∀ h' tk t, Fr z L h' m → News z L h' news → Q (.bytes (b8 n) t) { s with heap := h', toks := tk })
    (he : ¬(0 ≤ n ∧ n < 2 ^ 64) → ∀ h' tk v, Raised w.params (hid s.heap []) (env :: fr) [] 56 "a number that does not fit" v h' → E v { s with heap := h', toks := tk }) :
    wpAny (model PR w) ((mkA d fr u).deeper env) (call (.ref 239) [.int n t1, .int 8 t2]) Q E s := by
  have t0 : Take [] news news := .nil
  by_cases hn : 0 ≤ n ∧ n < 2 ^ 64
  · refine wpAny_call (octets_ok (d := d + 1) (u := u + 3) (fr := env :: fr) hn (front F N t0 X).1 (front_top F N t0 T) (front F N t0 X).2 (by omega) (by omega) fun h' tk t P' => ?_)
    obtain ⟨F', N'⟩ := back F N t0 P'
    exact h hn h' tk t F' N'
  · exact wpAny_call (octets_no (d := d + 1) (u := u + 3) (fr := env :: fr) hn (front F N t0 X).1 (front_top F N t0 T) (front F N t0 X).2 (by omega) (by omega) (FF.hid F N t0 hf hk) fun h' tk v Rz => he hn h' tk v Rz)
end
noncomputable def GB (n : Int) (v : Value) : Prop := (0 ≤ n ∧ n < 2 ^ 64) ∧ ∃ t, v = .bytes (b8 n) t
theorem gs_bytes {ns : List Int} {ys : List Value} (h : Gs GB ns ys) : (∀ n ∈ ns, 0 ≤ n ∧ n < 2 ^ 64) ∧ ∃ ps, ys = Jb.bvs ps ∧ ps.map (·.1) = ns.map b8 := by
  induction h with
  | nil => exact ⟨(fun _ h => nomatch h), [], rfl, rfl⟩
  | @snoc ks vs k v h g ih =>
    obtain ⟨a, ps, rfl, e⟩ := ih
    obtain ⟨b, t, rfl⟩ := g
    refine ⟨fun n hn => ?_, ps ++ [(b8 k, t)], by simp [Jb.bvs], by simp [e]⟩
    rcases List.mem_append.mp hn with hn | hn
    · exact a n hn
    · rw [List.mem_singleton.mp hn]; exact b
theorem sum8 {ns : List Int} {ps : List (Array UInt8 × Tok)} (e : ps.map (·.1) = ns.map b8) : (ps.map fun p => p.1.size).sum = 8 * ns.length := by
  have e1 : (ps.map fun p => p.1.size) = (ps.map (·.1)).map (·.size) := by simp
  have go : ∀ l : List Int, ((l.map b8).map (·.size)).sum = 8 * l.length := fun l => by
    induction l with
    | nil => rfl
    | cons a l ih => rw [List.map_cons, List.map_cons, List.sum_cons, ih, b8_size, List.length_cons]; omega
  rw [e1, e, go]
noncomputable def rowB (ns : List Int) : Array UInt8 := Jb.catB (ns.map b8)
section
variable {w : World} {d u : Nat} {fr : List Env} {R : Result → Shared → Prop} {s : Shared} {z : Heap} {p : Program} {loose : List Str} {mean : ExcName → Option Value} {mg mb : Str → Option Value}
set_option maxHeartbeats 400000 in
theorem row_all {D0 : Nat} {vs : List Value} {ns : List Int} (hl : z.IsList D0 vs.toArray) (hi : IntsAre vs ns) (hns : ns.length ≤ 100)
    (X : (hd0.heap_1 w.params).In z) (T : Top p loose mean mg mb z) (P : Pre z s.heap []) (hd : d ≤ 430) (hu : u ≤ 830) (FF : FFr z fr)
    (h : (∀ n ∈ ns, 0 ≤ n ∧ n < 2 ^ 64) → ∀ h' tk t, Pre z h' [] → R (.ok (.ret (.bytes (rowB ns) t))) { s with heap := h', toks := tk })
    (he : (∃ n ∈ ns, ¬(0 ≤ n ∧ n < 2 ^ 64)) → ∀ h' tk v, Raised w.params z fr [] 56 "a number that does not fit" v h' → R (.error v) { s with heap := h', toks := tk }) :
    codeAny (model PR w) (mkA d fr u) (.call (.ref 244) ⟨[.ref D0], []⟩) R s := by
  refine enterZ (binds := [("numbers", .ref D0)]) X T P (by k_is) (by k_is) (by k_room) (BindsTo.of_eq (by rfl)) (locs (by rfl)) (by rfl) (by rfl) (by rfl) (by decide) ?_
  intro L' h' tk' F' N' hL' hst'
  (try dsimp only); k_fold
  walk_at "goS"
  refine ListComp_R (l := fr) (PP := w.params) (CE := 56) (why := "a number that does not fit") (G := GB) (Bad := fun n => ¬(0 ≤ n ∧ n < 2 ^ 64)) (by with_unfolding_all rfl) (by rfl) FF (by assumption) (by with_unfolding_all rfl) (by decide) (by rfl) (by decide) (by rfl) ?_
  walk1
  refine mk2_5 ns ([]) ?sz (src_list rfl (by assumption) (by assumption) (.inl hl) hi) ?elt ?fin ?err
  case sz => rw [sizeLine_eq]; omega
  case elt =>
    intro I oI C oC D m₂ ys i k t h1 tk1 hk hoC hm F1 N1 off dist
    walk_at "goS"
    refine octets_call (by assumption) (by assumption) X T FF rfl kind_ne (by omega) (by omega) (fun hn h2 tk2 t2 F2 N2 => ?_) fun hn h2 tk2 v Rz => ?_
    · exact ⟨h2, tk2, rfl, F2, N2, hn, t2, rfl⟩
    · exact mk2_3 h2 tk2 rfl hn Rz.x
  case fin =>
    intro ys D h2 tk2 hys F2 N2 l2
    walk_at "goS"
    obtain ⟨hall, ps, rfl, hps⟩ := gs_bytes hys
    refine Jb.join (ps := ps) ⟨_, (N2 _ (.head _)).1, rfl, _, rfl⟩ (by rw [sum8 hps]; omega) fun t4 k4 => ?_
    rw [hps]
    walk_at "goS"
    exact h hall _ _ _ (leaveZ F2 N2 (fun _ h => nomatch h) (by assumption) P.size)
  case err =>
    intro h2 C oC v fl h3 tk3 k hk hbad F2 N2 hne Rz
    k_unfold
    dsimp only
    exact raise_passX (mt := []) (mt0 := [(C, oC)]) (rest := []) (by with_unfolding_all rfl) (by rfl) FF F2 N2 (.cons (.head fun _ h => nomatch h) .nil) Rz (fun _ h => nomatch h) fun h4 Rz4 => he ⟨k, hk, hbad⟩ _ _ _ Rz4
end

section
variable {w : World} {d u : Nat} {fr : List Env} {E : Value → Shared → Prop} {s : Shared} {z : Heap} {L : Nat} {m : Str → Option Value} {p : Program} {loose : List Str} {mean : ExcName → Option Value} {mg mb : Str → Option Value} {Q : Value → Shared → Prop} {env : Env} {news : List (Addr × Obj)}
theorem number_call {B : Array UInt8} {tb : Tok} (hB : B.size ≤ 8) (F : Fr z L s.heap m) (N : News z L s.heap news) (X : (hd0.heap_1 w.params).In z) (T : Top p loose mean mg mb z) (hd : d ≤ 440) (hu : u ≤ 840)
    (h : ∀ h' tk t, Fr z L h' m → News z L h' news → Q (.int (enV B).sum t) { s with heap := h', toks := tk }) :
    wpAny (model PR w) ((mkA d fr u).deeper env) (call (.ref 234) [.bytes B tb]) Q E s := by
  have t0 : Take [] news news := .nil
  refine wpAny_call (number_ok (d := d + 1) (u := u + 3) (fr := env :: fr) hB (front F N t0 X).1 (front_top F N t0 T) (front F N t0 X).2 (by omega) (by omega) fun h' tk t P' => ?_)
  obtain ⟨F', N'⟩ := back F N t0 P'
  exact h h' tk t F' N'
end
noncomputable def RangeQ (z : Heap) (L : Nat) (m : Str → Option Value) (news : List (Addr × Obj)) (a b c : Int) (s : Shared) (xv : Value) (s₁ : Shared) : Prop :=
  ∃ r t u v h tk, xv = .ref r ∧ s₁ = { s with heap := h, toks := tk } ∧ IsRange h r a b c t u v ∧ Fr z L h m ∧ News z L h news
theorem via_range {w : World} {A : Around} {E : Value → Shared → Prop} {s : Shared} {z : Heap} {L : Nat} {m : Str → Option Value} {news : List (Addr × Obj)} {a b c : Int} {e : Sem Value} {Q : Value → Shared → Prop} (_F : Fr z L s.heap m) (_N : News z L s.heap news) (h1 : wpAny (model PR w) A e (RangeQ z L m news a b c s) E s)
    (h2 : ∀ r t u v h tk, IsRange h r a b c t u v → Fr z L h m → News z L h news → Q (.ref r) { s with heap := h, toks := tk }) : wpAny (model PR w) A e Q E s :=
  wpAny_mono h1 (fun _ _ hv => ea6_5 hv fun r t u v h tk e1 e2 hr F N => by subst e1 e2; exact h2 r t u v h tk hr F N) fun _ _ e => e
theorem range8 {n : Nat} (h : n ≤ 100) : Builtin.Range.small 0 (8 * (n : Int)) 8 = true ∧ Builtin.Range.rangeSize 0 (8 * (n : Int)) 8 = (n : Int) := by
  have key : ∀ m : Fin 101, Builtin.Range.small 0 (8 * ((m : Nat) : Int)) 8 = true ∧ Builtin.Range.rangeSize 0 (8 * ((m : Nat) : Int)) 8 = ((m : Nat) : Int) := by decide
  exact key ⟨n, by omega⟩
noncomputable def cut8 (B : Array UInt8) (at' : Int) : Array UInt8 := KBy.picked B (some at') (some (at' + 8))
theorem cut8_ints {B : Array UInt8} {i n : Nat} (hB : B.size = 8 * n) (hi : i < n) : KBw.bInts (cut8 B (8 * (i : Int))) = ((KBw.bInts B).drop (8 * i)).take 8 := by
  unfold cut8
  rw [KBc.ints_picked rfl, KBw.ints_length]
  show List.take (clipAt B.size (8 * (i : Int) + 8) - clipAt B.size (8 * (i : Int))) (List.drop (clipAt B.size (8 * (i : Int))) (KBw.bInts B)) = _
  have e1 : 8 * (i : Int) = ((8 * i : Nat) : Int) := by push_cast; rfl
  have e2 : 8 * (i : Int) + 8 = ((8 * i + 8 : Nat) : Int) := by push_cast; rfl
  rw [e2, clipAt_nat, e1, clipAt_nat, Nat.min_eq_left (by omega), Nat.min_eq_left (by omega)]
  congr 1
  omega
theorem cut8_size {B : Array UInt8} {i n : Nat} (hB : B.size = 8 * n) (hi : i < n) : (cut8 B (8 * (i : Int))).size ≤ 8 := by
  rw [← KBw.ints_length, cut8_ints hB hi, List.length_take]
  omega
noncomputable def GI (B : Array UInt8) (k : Int) (v : Value) : Prop := ∃ t, v = .int (enV (cut8 B k)).sum t
noncomputable def unrow (B : Array UInt8) (n : Nat) : List Int := (rangeV 0 8 n).map fun k => (enV (cut8 B k)).sum
theorem gs_ints {f : Int → Int} {ns : List Int} {ys : List Value} (h : Gs (fun k v => ∃ t, v = .int (f k) t) ns ys) : IntsAre ys (ns.map f) := by
  induction h with
  | nil => exact .nil
  | snoc h g ih =>
    obtain ⟨t, rfl⟩ := g
    rw [List.map_append]
    exact IntsAre.append ih (.cons _ t .nil)
section
variable {w : World} {d u : Nat} {fr : List Env} {R : Result → Shared → Prop} {s : Shared} {z : Heap} {p : Program} {loose : List Str} {mean : ExcName → Option Value} {mg mb : Str → Option Value}
set_option maxHeartbeats 400000 in
theorem unrow_all {B : Array UInt8} {tb : Tok} (hB : B.size ≤ 800)
    (X : (hd0.heap_1 w.params).In z) (T : Top p loose mean mg mb z) (P : Pre z s.heap []) (hd : d ≤ 430) (hu : u ≤ 830) (FF : FFr z fr)
    (h : ∀ n, B.size = 8 * n → ∀ h' tk ys D, IntsAre ys (unrow B n) → Pre z h' [(D, LCg.lst ys)] → R (.ok (.ret (.ref D))) { s with heap := h', toks := tk })
    (he : (B.size : Int).fmod 8 ≠ 0 → ∀ h' tk v, Raised w.params z fr [] 68 "a row that is cut" v h' → R (.error v) { s with heap := h', toks := tk }) :
    codeAny (model PR w) (mkA d fr u) (.call (.ref 249) ⟨[.bytes B tb], []⟩) R s := by
  refine enterZC (binds := [("octets", .bytes B tb)]) X T P (by k_is) (by k_is) (by k_room) (BindsTo.of_eq (by rfl)) (by rfl) (by decide +kernel) (by rfl) (by rfl) (by rfl) ?_
  intro L' h' tk' cells' F' N' Y' hL' hst'
  (try dsimp only); k_fold
  walk_at "cellsIn"
  by_cases hmod : (B.size : Int).fmod 8 = 0
  · obtain ⟨n, hn⟩ : ∃ n, B.size = 8 * n := ⟨B.size / 8, by
      rw [Int.fmod_eq_emod_of_nonneg _ (by decide)] at hmod
      omega⟩
    have hn100 : n ≤ 100 := by omega
    walk_at "goS"
    all_goals (try (exact absurd hmod (by assumption)))
    rename News _ _ _ _ => N9
    rename Fr _ _ _ _ => F9
    refine ListComp_R (l := fr) (PP := w.params) (CE := 56) (why := "") (G := GI B) (Bad := fun _ => False) (by with_unfolding_all rfl) (by rfl) FF F9 (by with_unfolding_all rfl) (by decide) (by rfl) (by decide) (by rfl) ?_
    refine via_range (a := 0) (b := 8 * (n : Int)) (c := 8) F9 N9 ?_ fun r t u v h1 tk1 hr F1 N1 => ?_
    · have e8 : (B.size : Int) = 8 * (n : Int) := by omega
      rw [← e8]
      walk_at "goS"
      exact mk6_5 _ _ _ _ _ _ rfl rfl (by assumption) (by assumption) (by assumption)
    · refine mk2_5 (rangeV 0 8 n) _ ?sz (src_range rfl F1 N1 hr (range8 hn100).1 (range8 hn100).2) ?elt ?fin ?err
      case sz => rw [rangeV_len, sizeLine_eq]; omega
      case elt =>
        intro I oI C oC D m₂ ys i k t h2 tk2 hk hoC hm F2 N2 off dist
        have hi : i < n := by
          have := (List.getElem?_eq_some_iff.mp hk).1
          rwa [rangeV_len] at this
        have hkv : k = 8 * (i : Int) := by
          rw [rangeV_at hi] at hk
          have := Option.some.inj hk
          omega
        walk_at "goS"
        refine KBc.slice_K F2 N2 rfl (.int k _) (.int (k + 8) _) (by rw [KBw.ints_length]; omega) (fun h3 t3 k3 F3 N3 hints => ?_)
        walk_at "goS"
        refine number_call ?sz F3 N3 X T (by omega) (by omega) fun h4 tk4 t4 F4 N4 => ?_
        case sz =>
          rw [hkv]
          exact cut8_size hn hi
        exact ⟨h4, tk4, rfl, F4, N4, t4, rfl⟩
      case fin =>
        intro ys D h2 tk2 hys F2 N2 l2
        walk_at "goS"
        exact h n hn _ _ _ _ (gs_ints hys) (leaveZ F2 N2 (by walk_at "subl") (by assumption) P.size)
      case err =>
        intro h2 C oC v fl h3 tk3 k hk hbad F2 N2 hne Rz
        exact hbad.elim
  · walk_at "goS"
    all_goals (try (exact absurd (by assumption) hmod))
    all_goals walk_at "raiseLeave"
    any_goals (intro h'' Rz; exact he hmod _ _ _ Rz)
    all_goals (intro q hq; cases hq)
end

theorem log_pow {c : Int} {k : Int} (h0 : 0 ≤ c) (hc : c ≤ 256) (hk : k < 100) : (c ^ k.toNat).natAbs.log2 < 9000 := by
  obtain ⟨c', rfl⟩ := Int.eq_ofNat_of_zero_le h0
  rw [Int.natAbs_pow]
  show ((c' ^ k.toNat)).log2 < 9000
  by_cases hz : c' ^ k.toNat = 0
  · rw [hz]; decide
  refine (Nat.log2_lt hz).mpr ?_
  refine Nat.lt_of_le_of_lt (Nat.pow_le_pow_left (show c' ≤ 2 ^ 8 by omega) _) ?_
  rw [← Nat.pow_mul]
  exact Nat.pow_lt_pow_right (by decide) (by omega)
example : True := by
  k_with "binaryOp FloorDiv int int" => ((k_here; (with_reducible show wpAny _ _ (binaryOp Operator.FloorDiv (Value.int _ _) (Value.int (_ ^ _) _)) _ _ _); (with_reducible refine floordiv_int ?z54kbe ?_ (Or.inl (PyProof.noPylong_of_log2 ?z54kbp))); (case z54kbe => kbt_ne); (case z54kbp => exact log_pow (by decide) (by decide) (by omega))))
  trivial
noncomputable def rowN (x : Int) : List Int := List.map (fun k' => (x.fdiv (7 ^ k'.toNat)).fmod (2 ^ Int.toNat 64)) (rangeKs 0 (x.fmod 6 - 0).toNat) ++ [2 ^ Int.toNat 64 - 1]
theorem rowN_len (x : Int) : (rowN x).length = (x.fmod 6).toNat + 1 := by
  unfold rowN
  rw [List.length_append, List.length_map, rangeKs_length, Int.sub_zero]
  rfl
theorem rowN_le (x : Int) : (rowN x).length ≤ 6 := by
  rw [rowN_len]
  have := fmod_hi x (n := 6) (by decide)
  omega
theorem rowN_in (x : Int) : ∀ n ∈ rowN x, 0 ≤ n ∧ n < 2 ^ 64 := fun n hn => by
  rcases List.mem_append.mp hn with hn | hn
  · refine ea1_2 (List.mem_map.mp hn) fun k _ rz2 => ?_
    subst rz2
    exact ⟨fmod_lo _ (by decide), fmod_hi _ (by decide)⟩
  · rw [List.mem_singleton.mp hn]
    decide
noncomputable def lit287 : {x : FnLit // ∀ (w : World) (z : Heap), (hd0.heap_1 w.params).In z → LitAt w.params 287 (.ref 286) x} := by
  refine' litMk ?h
  case h =>
    intro w z X
    refine' LitAt.mk' ?o
    case o => k_is
noncomputable abbrev env287 (L : Addr) : Env := envOfC lit287.1.qual lit287.1.scope L 287 (.ref 286)
theorem ffr_now {z h : Heap} {L : Nat} {m : Str → Option Value} {news fl : List (Addr × Obj)} {fr : List Env} {env : Env} (F : Fr z L h m) (N : News z L h news) (FL : FrL fr fl) (ho : ∀ q ∈ fl, q ∈ news) (hf : env.frame = some L) (hk : env.scope.kind ≠ .module) : FFr (hid h []) (env :: fr) := fun e he => by
  rcases List.mem_cons.mp he with rfl | he
  · refine ea3_3 (F.ns) fun oL es ep hL hd _ => ?_
    exact ⟨hk, L, oL, hf, hid_of hL (fun _ h => nomatch h), fun vs q => by rw [hd] at q; cases q⟩
  · exact FL.ffr (h := hid h []) (fun q hq => hid_of (N q (ho q hq)).1 fun _ h => nomatch h) e he
section
variable {w : World} {d u : Nat} {fr : List Env} {E : Value → Shared → Prop} {s : Shared} {z : Heap} {L : Nat} {m : Str → Option Value} {p : Program} {loose : List Str} {mean : ExcName → Option Value} {mg mb : Str → Option Value} {Q : Value → Shared → Prop} {env : Env} {news fl : List (Addr × Obj)}
theorem row_call {D0 c : Nat} {vs : List Value} {ns : List Int} (hm : (D0, listOf vs.toArray c) ∈ news) (hi : IntsAre vs ns) (hns : ns.length ≤ 100) (hall : ∀ n ∈ ns, 0 ≤ n ∧ n < 2 ^ 64)
    (F : Fr z L s.heap m) (N : News z L s.heap news) (X : (hd0.heap_1 w.params).In z) (T : Top p loose mean mg mb z) (FL : FrL fr fl) (ho : ∀ q ∈ fl, q ∈ news) (hf : env.frame = some L) (hk : env.scope.kind ≠ .module) (hd : d ≤ 420) (hu : u ≤ 820)
    (h : ∀ h' tk t, Fr z L h' m → News z L h' news → Q (.bytes (rowB ns) t) { s with heap := h', toks := tk }) :
    wpAny (model PR w) ((mkA d fr u).deeper env) (call (.ref 244) [.ref D0]) Q E s := by
  have t0 : Take [] news news := .nil
  have hl : (hid s.heap []).IsList D0 vs.toArray := ⟨_, hid_of (N _ hm).1 (fun _ h => nomatch h), rfl, c, rfl⟩
  refine wpAny_call (row_all (d := d + 1) (u := u + 3) (fr := env :: fr) hl hi hns (front F N t0 X).1 (front_top F N t0 T) (front F N t0 X).2 (by omega) (by omega) (ffr_now F N FL ho hf hk) (fun _ h' tk t P' => ?_) fun ⟨n, hn, hb⟩ => absurd (hall n hn) hb)
  obtain ⟨F', N'⟩ := back F N t0 P'
  exact h h' tk t F' N'
theorem unrow_call {B : Array UInt8} {tb : Tok} {n : Nat} (hB : B.size = 8 * n) (hn : n ≤ 100)
    (F : Fr z L s.heap m) (N : News z L s.heap news) (X : (hd0.heap_1 w.params).In z) (T : Top p loose mean mg mb z) (FL : FrL fr fl) (ho : ∀ q ∈ fl, q ∈ news) (hf : env.frame = some L) (hk : env.scope.kind ≠ .module) (hd : d ≤ 420) (hu : u ≤ 820)
    (h : ∀ h' tk ys D, IntsAre ys (unrow B n) → Fr z L h' m → News z L h' ((D, LCg.lst ys) :: news) → Q (.ref D) { s with heap := h', toks := tk }) :
    wpAny (model PR w) ((mkA d fr u).deeper env) (call (.ref 249) [.bytes B tb]) Q E s := by
  have t0 : Take [] news news := .nil
  refine wpAny_call (unrow_all (d := d + 1) (u := u + 3) (fr := env :: fr) (by omega) (front F N t0 X).1 (front_top F N t0 T) (front F N t0 X).2 (by omega) (by omega) (ffr_now F N FL ho hf hk) (fun n' hn' h' tk ys D hys P' => ?_) fun hne => ?_)
  · obtain rfl : n' = n := by omega
    obtain ⟨F', N'⟩ := back F N t0 P'
    exact h h' tk ys D hys F' N'
  · exfalso
    apply hne
    rw [Int.fmod_eq_emod_of_nonneg _ (by decide)]
    omega
end
section
variable {w : World} {d u : Nat} {fr : List Env} {Q : Flow → Shared → Prop} {E : Value → Shared → Prop} {s : Shared} {z : Heap} {p : Program} {loose : List Str} {mean : ExcName → Option Value} {mg mb : Str → Option Value}
set_option maxHeartbeats 400000 in
theorem num0 {L : Nat} {x : Int} {tx : Tok} {cx co : Obj} {ps : Array Value} {fl : List (Addr × Obj)}
    (X : (hd0.heap_1 w.params).In z) (T : Top p loose mean mg mb z) (F : Fr z L s.heap (fun _ => none)) (N : News z L s.heap ((L + 1, cx) :: (L + 1 + 1, co) :: (284, tabObj ps) :: fl)) (d1 : cx.data = .cell (some (.int x tx)))
    (hx : 0 ≤ x ∧ x < 2 ^ 40) (hL : 292 < L) (hT : TailOk fl L (L + 2) L (L + 2)) (hd : d ≤ 410) (hu : u ≤ 810)
    (h : ∀ h' tk (D : Nat) ws, IntsAre ws (rowN x) → L + 2 < D → (∀ p ∈ fl, p.1 ≠ D) → Fr z L h' (fun y : Str => if y = "row" then some (.ref D) else none) → News z L h' ((D, listOf ws.toArray 0) :: (L + 1, cx) :: (L + 1 + 1, co) :: (284, tabObj ps) :: fl) → Q .next { s with heap := h', toks := tk }) :
    wpAny (model PR w) ((mkA d fr u).deeper (env287 L)) (exec (stmtAt lit287.1.body 0) (env287 L)) Q E s := by
  dsimp only [env287, lit287, litMk, stmtAt]
  have x6 := fmod_hi x (n := 6) (by decide)
  have x0 := fmod_lo x (n := 6) (by decide)
  walk_at "goM"
  rename Fr _ _ _ _ => F9
  rename News _ _ _ _ => N9
  refine' h _ _ _ _ ?i ?a ?b F9 ?N
  case N => exact subl_of N9 (by walk_at "subl")
  case i => assumption
  case a => omega
  case b => obtain ⟨_, _, _, _, _, hal⟩ := ‹_ ∧ _ ∧ _ ∧ _ ∧ _ ∧ AllLt _ fl›; exact allLt_ne hal (Nat.le_refl _)
end

open LCg in
section
variable {prog : Program} {w : World} {A : Around} {E : Value → Shared → Prop} {s : Shared} {h₀ : Heap} {L : Addr} {m : Str → Option Value} {env : Env}
noncomputable abbrev cellO (v : Option Value) : Obj := { cls := .type "cell", data := .cell v }
theorem newEnv1 {M : Model} {scope : Scope} {x : Str} {globals : Addr} {qual : Str} {Q : Env → Shared → Prop} (hcf : ∀ n, cellsFrom n scope.names [] = [(x, n)]) (hpc : ∀ h : Heap, pushCells h scope.names = h.push (cellO none))
    (h : Q { scope := scope, locals := s.heap.objs.size, globals := globals, cells := [(x, s.heap.objs.size + 1)], qual := qual, func := none, code := env.code, frame := env.frame, builtins := env.builtins } { s with heap := (s.heap.push { cls := .type "dict", data := .dict #[] }).push (cellO none) }) :
    wpAny M A (newFunctionEnv scope globals [] [] qual none .none (some env)) Q E s := by
  simp only [newFunctionEnv, Option.isSome_some, if_true]
  refine wpAny_bind (wpAny_alloc ?_)
  refine wpAny_bind (wpAny_layCells _ (fun name kind cells => by cases hkc : kind == NameKind.cell <;> simp [hkc]) _ _ _ _ ?_)
  rw [hcf, hpc]
  rw [show ({ s with heap := s.heap.push { cls := .type "dict", data := .dict #[] } } : Shared).heap.objs.size = s.heap.objs.size + 1 from Heap.size_push ..]
  refine wpAny_bind ?_
  show wpAny M A (forIn ([] : List (Str × Value)) _ _) _ E _
  rw [List.forIn_nil]
  exact wpAny_pure (wpAny_pure h)
noncomputable def Elt1 (prog : Program) (w : World) (A : Around) (h₀ : Heap) (L : Addr) (m : Str → Option Value) (env : Env) (elt : PySem.Expr) (x : Str) (scope : Scope) (news : List (Addr × Obj)) (vals : List Int) (G : Int → Value → Prop) (s : Shared) : Prop :=
  ∀ (I : Nat) (oI : Obj) (C : Nat) (oC : Obj) (c : Nat) (oc : Obj) (D : Nat) (ys : List Value) (i : Nat) (k : Int) (t : Tok) (h : Heap) (tk : Nat) (E' : Value → Shared → Prop), vals[i]? = some k → oc.data = .cell (some (.int k t)) → Fr h₀ L h m → News h₀ L h ((I, oI) :: (C, oC) :: (c, oc) :: (D, lst ys) :: news) →
    (∀ p ∈ news, p.1 < I) → I < D → D < C → C < c →
    wpAny (model prog w) A (eval elt (compEnvC scope [(x, c)] C env)) (fun v s' => ∃ h' tk', s' = { s with heap := h', toks := tk' } ∧ Fr h₀ L h' m ∧ News h₀ L h' ((I, oI) :: (C, oC) :: (c, oc) :: (D, lst ys) :: news) ∧ G k v)
      E' { s with heap := h, toks := tk }
theorem block1 {elt iter : PySem.Expr} {x : Str} {px : Pos} {scope : Scope} {pos : Pos} {s₂ : Shared} {I : Addr} {vals : List Int} {news : List (Addr × Obj)} {G : Int → Value → Prop} {RR : Value → Addr → Result → Shared → Prop}
    (T3 : IntsW prog w A h₀ L I m news vals s₂.heap) (hnI : ∀ p ∈ news, @LT.lt Nat _ p.1 I) (hsz : vals.length ≤ sizeLine) (helt : Elt1 prog w A h₀ L m env elt x scope news vals G s₂)
    (hcf : ∀ n, cellsFrom n scope.names [] = [(x, n)]) (hpc : ∀ h : Heap, pushCells h scope.names = h.push (cellO none)) (hkind : scope.kind = .function) (hx : scope.names.lookup x = some .cell) (hxr : ∀ C c, (compEnvC scope [(x, c)] C env).kindOf x = some .cell)
    (hRR : ∀ D C h tk m' ys, Fr h₀ L h m → News h₀ L h ((D, lst ys) :: news) → (∀ p ∈ news, p.1 < D) → h.Ns C m' → h₀.get? C = none → h₀.get? D = none → C ≠ L → D ≠ L → C ≠ D → (∀ p ∈ news, p.1 ≠ C) → Gs G vals ys → RR (.ref D) C (.ok .next) { s₂ with heap := h, toks := tk }) :
    wpAny (model prog w) A (newList []) (fun acc s₃ => wpAny (model prog w) A (newFunctionEnv scope env.globals [] [] env.qual none .none (some env)) (fun cenv s₄ =>
      codeAny (model prog w) A (.compStart (.ListComp elt [⟨.Name x px, iter, [], 0⟩] scope pos) 0 (.ref I) acc { cenv with scope := relabel scope env }) (RR acc cenv.locals) s₄) E s₃) E s₂ := by
  obtain ⟨F, N, hIL, hI₀, off, wz9⟩ := T3
  refine ea3_6 wz9 fun fp P St W hst hfp hIo hSt hP => ?_
  clear wz9
  refine wpAny_newObj_type (newEnv1 hcf hpc ?_)
  dsimp only
  have eD : (s₂.heap.push { cls := .type "list", dict := none, data := .seq ([] : List Value).toArray }).objs.size = s₂.heap.objs.size + 1 := Heap.size_push ..
  rw [eD]
  generalize hH3 : ((s₂.heap.push { cls := .type "list", dict := none, data := .seq ([] : List Value).toArray }).push { cls := .type "dict", data := .dict #[] }).push (cellO none) = h₁
  have g0 : (s₂.heap.push { cls := .type "list", dict := none, data := .seq ([] : List Value).toArray }).get? s₂.heap.objs.size = some (lst []) := Heap.get?_push_size _ rfl
  have g1 : ((s₂.heap.push { cls := .type "list", dict := none, data := .seq ([] : List Value).toArray }).push { cls := .type "dict", data := .dict #[] }).Ns (s₂.heap.objs.size + 1) (fun _ => none) := by
    have := Heap.Ns.new (s₂.heap.push { cls := .type "list", dict := none, data := .seq ([] : List Value).toArray }) (.type "dict")
    rw [eD] at this
    exact this
  have g2 : h₁.get? (s₂.heap.objs.size + 2) = some (cellO none) := by
    have := Heap.get?_push_size ((s₂.heap.push { cls := .type "list", dict := none, data := .seq ([] : List Value).toArray }).push { cls := .type "dict", data := .dict #[] }) (o := cellO none) rfl
    rw [Heap.size_push, eD, hH3] at this
    exact this
  have up3 : ∀ b o, ((s₂.heap.push { cls := .type "list", dict := none, data := .seq ([] : List Value).toArray }).push { cls := .type "dict", data := .dict #[] }).get? b = some o → h₁.get? b = some o := fun b o e => by rw [← hH3]; exact Heap.get?_push_of_some _ e
  have hns₁ : h₁.Ns (s₂.heap.objs.size + 1) (fun _ => none) := g1.at' fun o e => up3 _ o e
  have hacc : h₁.get? s₂.heap.objs.size = some (lst []) := up3 _ _ (Heap.get?_push_of_some _ g0)
  have old : ∀ b o, s₂.heap.get? b = some o → h₁.get? b = some o := fun b o e => up3 _ _ (Heap.get?_push_of_some _ (Heap.get?_push_of_some _ e))
  have fresh : ∀ a, s₂.heap.objs.size ≤ a → s₂.heap.get? a = none := fun a ha => by
    cases e : s₂.heap.get? a with
    | none => rfl
    | some o' => exact absurd (Heap.lt_size e) (Nat.not_lt.mpr ha)
  have fresh₀ : ∀ a, s₂.heap.objs.size ≤ a → h₀.get? a = none := fun a ha => by
    cases e : h₀.get? a with
    | none => rfl
    | some o' => have := F.keep a o' e; rw [fresh a ha] at this; cases this
  have hltD : ∀ p ∈ news, @LT.lt Nat _ p.1 s₂.heap.objs.size := fun p hp => Heap.lt_size (N p hp).1
  have hLlt : @LT.lt Nat _ L s₂.heap.objs.size := F.ns.lt
  have hIf : I ∈ fp := W.sub I (List.mem_singleton.mpr rfl)
  have hIlt : @LT.lt Nat _ I s₂.heap.objs.size := hfp I hIf
  have hst₁ : St 0 h₁ := W.frame _ _ _ hst fun b _ o e => old b o e
  generalize hd : s₂.heap.objs.size = D at *
  have hD₀ : h₀.get? D = none := fresh₀ _ (Nat.le_refl _)
  have hC₀ : h₀.get? (D + 1) = none := fresh₀ _ (Nat.le_succ _)
  have hc₀ : h₀.get? (D + 2) = none := fresh₀ _ (Nat.le_add_right _ _)
  have hDL : D ≠ L := Nat.ne_of_gt hLlt
  have hCL : D + 1 ≠ L := Nat.ne_of_gt (Nat.lt_succ_of_lt hLlt)
  have hcL : D + 2 ≠ L := Nat.ne_of_gt (Nat.lt_succ_of_lt (Nat.lt_succ_of_lt hLlt))
  have hDf : D ∉ fp := fun hm => Nat.lt_irrefl _ (hfp _ hm)
  have hcf' : D + 2 ∉ fp := fun hm => by have := hfp _ hm; exact absurd this (Nat.not_lt.mpr (Nat.le_add_right _ _))
  have ne1 : ∀ p ∈ news, p.1 ≠ D + 2 := fun p hp => Nat.ne_of_lt (Nat.lt_succ_of_lt (Nat.lt_succ_of_lt (hltD p hp)))
  have ne2 : ∀ p ∈ news, p.1 ≠ D + 1 := fun p hp => Nat.ne_of_lt (Nat.lt_succ_of_lt (hltD p hp))
  have hIne : I ≠ D ∧ I ≠ D + 1 ∧ I ≠ D + 2 := ⟨Nat.ne_of_lt hIlt, Nat.ne_of_lt (Nat.lt_succ_of_lt hIlt), Nat.ne_of_lt (Nat.lt_succ_of_lt (Nat.lt_succ_of_lt hIlt))⟩
  have dd : D ≠ D + 2 ∧ D + 1 ≠ D + 2 ∧ D ≠ D + 1 := ⟨Nat.ne_of_lt (Nat.lt_add_of_pos_right (by decide)), Nat.ne_of_lt (Nat.lt_succ_self _), Nat.ne_of_lt (Nat.lt_succ_self _)⟩
  have loop : ∀ s₃ : Shared, (∃ tk, s₃ = { s₂ with heap := h₁, toks := tk }) →
      codeAny (model prog w) A (.compLoop (.ListComp elt [⟨.Name x px, iter, [], 0⟩] scope pos) 0 (.ref I) (.ref D) (compEnvC scope [(x, D + 2)] (D + 1) env))
        (RR (.ref D) (D + 1)) s₃ := by
    rintro s₃ ⟨tk0, rfl⟩
    refine codeAny_compLoop_list
      (fun k s' => ∃ h' tk i ys m' oc v0, s' = { s₂ with heap := h', toks := tk } ∧ i ≤ vals.length ∧ k = vals.length + 1 - i ∧ Gs G (vals.take i) ys ∧ St i h' ∧ Fr h₀ L h' m ∧ h'.Ns (D + 1) m' ∧ oc.data = .cell v0 ∧ News h₀ L h' ((D + 2, oc) :: (D, lst ys) :: news)) ?_ (vals.length + 1)
      (mk7_9 h₁ _ 0 [] _ (cellO none) none rfl (Nat.zero_le _) rfl .nil hst₁ (F.keeps old) hns₁ rfl fun p hp => ?_)
    · intro k s' iz9
      refine ea7_9 iz9 fun h' tk i ys m' oc v0 rz7 hi rz9 hys hst' F' hn' hoc N' => ?_
      clear iz9
      subst rz7
      subst rz9
      by_cases hlt : i < vals.length
      · refine W.item i _ _ _ hlt hst' fun v h₂ tk₂ hPv hst₂ hk₂ => ?_
        refine ea2_2 (hP i v hlt hPv) fun kv tv hkv rz3 => ?_
        subst rz3
        have N₂ : News h₀ L h₂ ((D + 2, oc) :: (D, lst ys) :: news) := news_but N' hk₂ fun p hp => by
          rcases List.mem_cons.mp hp with rfl | hp
          · exact Ne.symm hIne.2.2
          rcases List.mem_cons.mp hp with rfl | hp
          · exact Ne.symm hIne.1
          · exact off p hp
        have F₂ : Fr h₀ L h₂ m := fr_but F' hk₂ hIL hI₀
        refine wpAny_assign_Name (wpAny_storeName_cell (c := D + 2) hkind (hxr _ _) (by simp [compEnvC]) ⟨oc, (N₂ _ (.head _)).1, hoc⟩ (fun h₃ hc₃ hs₃ => ?_))
        replace hs₃ : Heap.SameBut (D + 2) h₂ h₃ := hs₃
        refine ea1_2 (hc₃) fun oc₃ ec₃ hoc₃ => ?_
        (try clear hc₃)
        have hst₃ : St (i + 1) h₃ := W.frame _ _ _ hst₂ fun b hb o e => hs₃.extBut b o (fun q => hcf' (by have q' : b = D + 2 := q; rw [← q']; exact hb)) e
        obtain ⟨oI, heI⟩ := hIo _ _ hst₃
        have hn₃ : h₃.Ns (D + 1) m' := (hn'.at' fun o e => hk₂ _ o (by simpa using Ne.symm hIne.2.1) e).at' fun o e => hs₃.extBut _ o dd.2.1 e
        refine ea1_2 (ns_obj hn₃) fun oC heC hoC => ?_
        have F₃ : Fr h₀ L h₃ m := F₂.change hs₃ hcL hc₀
        have N₃ : News h₀ L h₃ ((I, oI) :: (D + 1, oC) :: (D + 2, oc₃) :: (D, lst ys) :: news) := fun p hp => by
          rcases List.mem_cons.mp hp with rfl | hp
          · exact mk0_3 heI (Ne.symm hIL) hI₀
          rcases List.mem_cons.mp hp with rfl | hp
          · exact mk0_3 heC hCL hC₀
          rcases List.mem_cons.mp hp with rfl | hp
          · exact mk0_3 ec₃ hcL hc₀
          have z := N₂ p (.tail _ hp)
          refine ⟨hs₃.extBut _ _ ?_ z.1, z.2⟩
          rcases List.mem_cons.mp hp with rfl | hp
          · exact dd.1
          · exact ne1 p hp
        have hys' := hys.length
        refine wpAny_mono (helt I oI (D + 1) oC (D + 2) oc₃ D ys i kv tv h₃ _ _ hkv hoc₃ F₃ N₃ hnI hIlt (Nat.lt_succ_self _) (Nat.lt_succ_self _)) (fun y s₄ h₄ => ?_) fun _ _ e => e
        revert h₄
        intro ez9
        refine ea2_4 (ez9) fun h₄ tk₄ rz2 F₄ N₄ g₄ => ?_
        (try clear ez9)
        subst rz2
        have zI := (N₄ (I, oI) (.head _)).1
        have zC := (N₄ (D + 1, oC) (.tail _ (.head _))).1
        have zD := (N₄ (D, lst ys) (.tail _ (.tail _ (.tail _ (.head _))))).1
        have N₄' : News h₀ L h₄ news := fun p hp => N₄ p (.tail _ (.tail _ (.tail _ (.tail _ hp))))
        have hst₄ : St (i + 1) h₄ := hSt _ _ _ _ hst₃ heI zI F₄.keep N₄'
        refine append_at (hsz := by show ys.toArray.size ≤ sizeLine; rw [List.size_toArray]; rw [List.length_take] at hys'; omega) zD fun h₅ hs₅ hD₅ => ?_
        replace hs₅ : Heap.SameBut D h₄ h₅ := hs₅
        refine mk1_2 (vals.length + 1 - (i + 1)) (kcp_lt hlt) (mk7_9 h₅ tk₄ (i + 1) (ys ++ [y]) _ oc₃ _ rfl hlt rfl ?_ (W.frame _ _ _ hst₄ fun b hb o e => hs₅.extBut b o (fun q => hDf (q ▸ hb)) e) (F₄.change hs₅ hDL hD₀) ((hoC.ns zC).sameBut hs₅ (Ne.symm dd.2.2)) hoc₃ fun p hp => ?_)
        · rw [List.take_add_one, hkv]
          exact .snoc hys g₄
        · rcases List.mem_cons.mp hp with rfl | hp
          · exact mk0_3 (hs₅.extBut _ _ (Ne.symm dd.1) (N₄ _ (.tail _ (.tail _ (.head _)))).1) hcL hc₀
          rcases List.mem_cons.mp hp with rfl | hp
          · exact mk0_3 (hD₅.trans (congrArg some (lst_snoc ys y))) hDL hD₀
          · exact ⟨hs₅.extBut _ _ (Nat.ne_of_lt (hltD p hp)) (N₄' p hp).1, (N₄' p hp).2⟩
      · obtain rfl : i = vals.length := Nat.le_antisymm hi (Nat.not_lt.mp hlt)
        rw [List.take_length] at hys
        refine W.done _ _ _ hst' fun h₂ tk₂ hk₂ => ?_
        have N₂ : News h₀ L h₂ ((D + 2, oc) :: (D, lst ys) :: news) := news_but N' hk₂ fun p hp => by
          rcases List.mem_cons.mp hp with rfl | hp
          · exact Ne.symm hIne.2.2
          rcases List.mem_cons.mp hp with rfl | hp
          · exact Ne.symm hIne.1
          · exact off p hp
        exact hRR _ _ h₂ tk₂ _ ys (fr_but F' hk₂ hIL hI₀) (fun p hp => N₂ p (.tail _ hp)) hltD (hn'.at' fun o e => hk₂ _ o (by simpa using Ne.symm hIne.2.1) e) hC₀ hD₀ hCL hDL (Ne.symm dd.2.2) ne2 hys
    · rcases List.mem_cons.mp hp with rfl | hp
      · exact mk0_3 g2 hcL hc₀
      rcases List.mem_cons.mp hp with rfl | hp
      · exact mk0_3 hacc hDL hD₀
      · exact ⟨old _ _ (N p hp).1, (N p hp).2⟩
  exact codeAny_compStart_list (loop _ ⟨_, rfl⟩) (W.self 0 _ _ _ hst₁ (loop _ ⟨_, rfl⟩))
theorem ListComp_1 {elt iter : PySem.Expr} {x : Str} {px : Pos} {scope : Scope} {pos : Pos} {G : Int → Value → Prop} {Q : Value → Shared → Prop}
    (_F₀ : Fr h₀ L s.heap m) (hclos : closureFor scope env = pure []) (hkind : scope.kind = .function)
    (hnames : ∀ y ∈ scope.names, y.2 = .local → scope.names.lookup y.1 = some .local)
    (hcf : ∀ n, cellsFrom n scope.names [] = [(x, n)]) (hpc : ∀ h : Heap, pushCells h scope.names = h.push (cellO none)) (hx : scope.names.lookup x = some .cell) (hxr : ∀ C c, (compEnvC scope [(x, c)] C env).kindOf x = some .cell)
    (h : wpAny (model prog w) A (eval iter env) (fun xv s₁ => ∃ (vals : List Int) (news : List (Addr × Obj)), vals.length ≤ sizeLine ∧ wpAny (model prog w) A (pyIter xv) (fun it s₂ => ∃ I h tk, it = .ref I ∧ s₂ = { s₁ with heap := h, toks := tk } ∧ IntsW prog w A h₀ L I m news vals h ∧ (∀ p ∈ news, @LT.lt Nat _ p.1 I)) E s₁ ∧
      Elt1 prog w A h₀ L m env elt x scope news vals G s₁ ∧
      (∀ ys D h' tk', Gs G vals ys → Fr h₀ L h' m → News h₀ L h' ((D, lst ys) :: news) → (∀ p ∈ news, p.1 < D) → Q (.ref D) { s₁ with heap := h', toks := tk' })) E s)
    (hs : ∀ x, foldedSetIterable iter env x = pure x := by intro _; rfl) :
    wpAny (model prog w) A (eval (.ListComp elt [⟨.Name x px, iter, [], 0⟩] scope pos) env) Q E s := by
  rw [eval_ListComp]
  refine wpAny_comprehension_free (use := none) rfl hs hclos hkind hnames (wpAny_mono h (fun xv s₁ h₁ => ?_) fun _ _ e => e)
  revert h₁
  intro ez9
  refine ea2_4 (ez9) fun vals news hsz h₁ helt fin => ?_
  (try clear ez9)
  refine wpAny_mono h₁ (fun it s₂ h₂ => ?_) fun _ _ e => e
  refine ea3_4 (h₂) fun I hp tk rz3 rz4 T3 hnI => ?_
  (try clear h₂)
  subst rz3
  subst rz4
  refine block1 T3 hnI hsz helt hcf hpc hkind hx hxr ?_
  intro D C h tk m' ys F' N' hlt hn hC₀ hD₀ hCL hDL hCD offC hys
  refine mk1_2 m' hn (fun h'' hs'' => fin ys D h'' tk hys (F'.change hs'' hCL hC₀) (fun p hp => ?_) hlt)
  refine ⟨hs''.extBut _ _ ?_ (N' p hp).1, (N' p hp).2⟩
  rcases List.mem_cons.mp hp with rfl | hp
  · exact Ne.symm hCD
  · exact offC p hp
end

noncomputable def d8 (n : Int) : Array UInt8 := byteArr (List.map (fun k' => (n.fdiv (256 ^ k'.toNat)).fmod 256) (rangeKs 0 (8 - 0 : Int).toNat))
theorem d8_eq (n : Int) : d8 n = b8 n := by
  unfold d8 b8 o8
  congr 1
  show List.map _ (rangeKs 0 8) = List.map _ (rangeKs 0 8)
  apply List.map_congr_left
  intro k hk
  have h0 := (mem_rangeKs hk).1
  have e : (8 * k).toNat = 8 * k.toNat := by
    obtain ⟨j, rfl⟩ := Int.eq_ofNat_of_zero_le h0
    rfl
  rw [e, Int.pow_mul, Int.fmod_eq_emod_of_nonneg _ (by decide)]
  rfl
theorem gs_b8 {ns : List Int} {ys : List Value} (h : Gs (fun n v => ∃ t, v = .bytes (b8 n) t) ns ys) : ∃ ps, ys = Jb.bvs ps ∧ ps.map (·.1) = ns.map b8 := by
  induction h with
  | nil => exact ⟨[], rfl, rfl⟩
  | @snoc ks vs k v h g ih =>
    refine ea1_2 (ih) fun ps rz1 e => ?_
    (try clear ih)
    subst rz1
    obtain ⟨t, rfl⟩ := g
    exact mk1_2 (ps ++ [(b8 k, t)]) (by simp [Jb.bvs]) (by simp [e])
noncomputable abbrev newsQ (L : Nat) (cx co : Obj) (ps : Array Value) (D : Nat) (ws : List Value) (fl : List (Addr × Obj)) : List (Addr × Obj) := (D, listOf ws.toArray 0) :: (L + 1, cx) :: (L + 1 + 1, co) :: (284, tabObj ps) :: fl
section
variable {w : World} {d u : Nat} {fr : List Env} {Q : Flow → Shared → Prop} {E : Value → Shared → Prop} {s : Shared} {z : Heap} {p : Program} {loose : List Str} {mean : ExcName → Option Value} {mg mb : Str → Option Value}
set_option maxHeartbeats 400000 in
theorem num1 {L D : Nat} {ns : List Int} {ws : List Value} {cx co : Obj} {ps : Array Value} {fl : List (Addr × Obj)}
    (X : (hd0.heap_1 w.params).In z) (T : Top p loose mean mg mb z) (F : Fr z L s.heap (fun y : Str => if y = "row" then some (.ref D) else none)) (N : News z L s.heap (newsQ L cx co ps D ws fl)) (d2 : co.data = .cell none) (hi : IntsAre ws ns) (hns : ns.length ≤ 100) (hall : ∀ n ∈ ns, 0 ≤ n ∧ n < 2 ^ 64)
    (FL : FrL fr fl) (hL : 292 < L ∧ L + 2 < D) (hT : TailOk fl L (L + 2) L (L + 2)) (hfD : ∀ p ∈ fl, p.1 ≠ D) (hd : d ≤ 410) (hu : u ≤ 810)
    (h : ∀ h' tk co' t, co'.data = .cell (some (.bytes (rowB ns) t)) → Fr z L h' (fun y : Str => if y = "row" then some (.ref D) else none) → News z L h' (newsQ L cx co' ps D ws fl) → Q .next { s with heap := h', toks := tk }) :
    wpAny (model PR w) ((mkA d fr u).deeper (env287 L)) (exec (stmtAt lit287.1.body 1) (env287 L)) Q E s := by
  refine use_n hL fun P9 U9 q100 q101 q102 q103 q104 q105 => ?_
  dsimp only [env287, lit287, litMk, stmtAt]
  walk_at "goS"
  refine row_call (.head _) hi hns hall (by assumption) (by assumption) X T FL (by walk_at "subl") rfl kind_ne (by omega) (by omega) fun h' tk t F1 N1 => ?_
  walk_at "goS"
  exact h _ _ _ _ (by assumption) (by assumption) (subl_of (by assumption) (by walk_at "subl"))
set_option maxHeartbeats 2000000 in
theorem num2 {L D : Nat} {ns : List Int} {ws : List Value} {cx co : Obj} {ps : Array Value} {fl : List (Addr × Obj)}
    (X : (hd0.heap_1 w.params).In z) (T : Top p loose mean mg mb z) (F : Fr z L s.heap (fun y : Str => if y = "row" then some (.ref D) else none)) (N : News z L s.heap (newsQ L cx co ps D ws fl)) (hi : IntsAre ws ns) (hns : ns.length ≤ 100) (hall : ∀ n ∈ ns, 0 ≤ n ∧ n < 2 ^ 64)
    (hL : 292 < L ∧ L + 2 < D) (hT : TailOk fl L (L + 2) L (L + 2)) (hfD : ∀ p ∈ fl, p.1 ≠ D) (hd : d ≤ 410) (hu : u ≤ 810)
    (h : ∀ h' tk t, Fr z L h' (fun y : Str => if y = "due" then some (.bytes (rowB ns) t) else if y = "row" then some (.ref D) else none) → News z L h' (newsQ L cx co ps D ws fl) → Q .next { s with heap := h', toks := tk }) :
    wpAny (model PR w) ((mkA d fr u).deeper (env287 L)) (exec (stmtAt lit287.1.body 2) (env287 L)) Q E s := by
  refine use_n hL fun P9 U9 q100 q101 q102 q103 q104 q105 => ?_
  dsimp only [env287, lit287, litMk, stmtAt]
  walk_at "goS"
  refine ListComp_1 (G := fun n v => ∃ t, v = .bytes (b8 n) t) (by assumption) (by with_unfolding_all rfl) rfl (by decide) (fun _ => rfl) (fun _ => rfl) rfl (fun _ _ => rfl) ?_
  walk1
  refine mk2_4 ns _ ?sz (src_listI rfl (by assumption) (by assumption) (.inr ⟨_, .head _, rfl, _, rfl⟩) hi) ?elt ?fin
  case sz => rw [sizeLine_eq]; omega
  case elt =>
    intro I oI C oC c oc D1 ys i k t h1 tk1 E' hk hoc F1 N1 hnI o1 o2 o3
    have l1 := allLt_of hnI
    simp only [AllLt, newsQ] at l1
    clear hnI
    have hk0 : 0 ≤ k ∧ k < 2 ^ 64 := hall k (List.mem_of_getElem? hk)
    walk_at "goM"
    all_goals trace_state
    any_goals (exact congrArg (Value.bytes · _) (d8_eq k))
    any_goals assumption
    all_goals exact subl_of (by assumption) (by walk_at "subl")
  case fin =>
    intro ys D1 h2 tk2 hys F2 N2 l2
    walk_at "goS"
    refine ea1_2 (gs_b8 hys) fun ps1 rz1 hps => ?_
    subst rz1
    refine Jb.join (ps := ps1) ⟨_, (N2 _ (.head _)).1, rfl, _, rfl⟩ (by rw [sum8 hps]; omega) fun t4 k4 => ?_
    rw [hps]
    walk_at "goS"
    exact h _ _ _ (by assumption) (subl_of (by assumption) (by walk_at "subl"))
end

theorem cat_ints : ∀ (l : List (Array UInt8)) (acc : Array UInt8), KBw.bInts (l.foldl (· ++ ·) acc) = KBw.bInts acc ++ l.flatMap KBw.bInts
  | [], acc => by simp
  | a :: l, acc => by
    rw [List.foldl_cons, cat_ints l, KBw.ints_app rfl rfl, List.flatMap_cons, List.append_assoc]
theorem row_ints (ns : List Int) : KBw.bInts (rowB ns) = ns.flatMap o8 := by
  unfold rowB Jb.catB
  rw [cat_ints]
  show [] ++ _ = _
  rw [List.nil_append, List.flatMap_map]
  congr 1
  funext n
  exact KBa.ints_make (o8_in n)
theorem row_size (ns : List Int) : (rowB ns).size = 8 * ns.length := by
  rw [← KBw.ints_length, row_ints]
  induction ns with
  | nil => rfl
  | cons n ns ih => rw [List.flatMap_cons, List.length_append, ih, o8_len, List.length_cons]; omega
theorem cut_flat : ∀ (ns : List Int) (i : Nat) (n : Int), ns[i]? = some n → ((ns.flatMap o8).drop (8 * i)).take 8 = o8 n
  | [], i, n, h => by simp at h
  | a :: ns, 0, n, h => by
    obtain rfl : a = n := by simpa using h
    rw [List.flatMap_cons, Nat.mul_zero, List.drop_zero, List.take_append_of_le_length (by rw [o8_len]; exact Nat.le_refl _), List.take_of_length_le (by rw [o8_len]; exact Nat.le_refl _)]
  | a :: ns, i + 1, n, h => by
    have h' : ns[i]? = some n := by simpa using h
    have e : 8 * (i + 1) = (o8 a).length + 8 * i := by rw [o8_len]; omega
    rw [List.flatMap_cons, e, List.drop_append, List.drop_of_length_le (by omega), List.nil_append, show (o8 a).length + 8 * i - (o8 a).length = 8 * i by omega]
    exact cut_flat ns i n h'
noncomputable def worth (l : List Int) : Int := (l.zipIdx.map fun x => x.1 * 2 ^ (8 * (x.2 : Int)).toNat).sum
theorem enV_worth (B : Array UInt8) : (enV B).sum = worth (KBw.bInts B) := by
  unfold enV worth KBw.bInts
  rw [List.zipIdx_map, List.map_map]
  rfl
theorem o8_list (n : Int) : o8 n = [n.fdiv (2 ^ 0) % 256, n.fdiv (2 ^ 8) % 256, n.fdiv (2 ^ 16) % 256, n.fdiv (2 ^ 24) % 256, n.fdiv (2 ^ 32) % 256, n.fdiv (2 ^ 40) % 256, n.fdiv (2 ^ 48) % 256, n.fdiv (2 ^ 56) % 256] := by
  unfold o8
  rw [show rangeKs 0 8 = [0, 1, 2, 3, 4, 5, 6, 7] by decide]
  rfl
theorem dig_step {n T p q : Int} (hq : q = p * 256) (hp : 0 ≤ p) (hT : T = n / q * q) : n / p % 256 * p + T = n / p * p := by
  rw [hT, hq, ← Int.ediv_ediv_of_nonneg hp, Int.mul_comm p 256, ← Int.mul_assoc, Int.mul_comm (n / p / 256) 256, ← Int.add_mul, Int.emod_add_mul_ediv]
theorem worth_o8 {n : Int} (h0 : 0 ≤ n) (h1 : n < 2 ^ 64) : worth (o8 n) = n := by
  rw [o8_list]
  have e : ∀ k : Nat, n.fdiv (2 ^ k) = n / 2 ^ k := fun k => Int.fdiv_eq_ediv_of_nonneg _ (Int.le_of_lt (Int.pow_pos (by decide)))
  rw [e, e, e, e, e, e, e, e]
  show n / 2 ^ 0 % 256 * 2 ^ 0 + (n / 2 ^ 8 % 256 * 2 ^ 8 + (n / 2 ^ 16 % 256 * 2 ^ 16 + (n / 2 ^ 24 % 256 * 2 ^ 24 + (n / 2 ^ 32 % 256 * 2 ^ 32 + (n / 2 ^ 40 % 256 * 2 ^ 40 + (n / 2 ^ 48 % 256 * 2 ^ 48 + (n / 2 ^ 56 % 256 * 2 ^ 56 + 0))))))) = n
  have z : (0 : Int) = n / 2 ^ 64 * 2 ^ 64 := by rw [Int.ediv_eq_zero_of_lt h0 h1]; rfl
  have k : ∀ {a b : Nat} {T : Int}, (2 : Int) ^ b = 2 ^ a * 256 → T = n / 2 ^ b * 2 ^ b → n / 2 ^ a % 256 * 2 ^ a + T = n / 2 ^ a * 2 ^ a := fun q t => dig_step q (Int.le_of_lt (Int.pow_pos (by decide))) t
  refine (k (b := 8) (by decide) (k (b := 16) (by decide) (k (b := 24) (by decide) (k (b := 32) (by decide) (k (b := 40) (by decide) (k (b := 48) (by decide) (k (b := 56) (by decide) (k (b := 64) (by decide) z)))))))).trans ?_
  show n / 1 * 1 = n
  rw [Int.mul_one, Int.ediv_one]
theorem unrow_row {ns : List Int} (h : ∀ n ∈ ns, 0 ≤ n ∧ n < 2 ^ 64) : unrow (rowB ns) ns.length = ns := by
  apply List.ext_getElem?
  intro i
  unfold unrow
  rw [List.getElem?_map]
  by_cases hi : i < ns.length
  · have hx : ns[i]? = some ns[i] := List.getElem?_eq_getElem hi
    rw [rangeV_at hi, hx]
    have e : (0 : Int) + (i : Int) * 8 = 8 * (i : Int) := by omega
    rw [e, Option.map_some, enV_worth, cut8_ints (row_size ns) hi, row_ints, cut_flat ns i _ hx]
    obtain ⟨a, b⟩ := h _ (List.getElem_mem hi)
    rw [worth_o8 a b]
  · rw [List.getElem?_eq_none (by rw [rangeV_len]; omega), List.getElem?_eq_none (by omega)]
    rfl

noncomputable abbrev mapQ (D : Nat) (B : Array UInt8) (t : Tok) : Str → Option Value := fun y : Str => if y = "due" then some (.bytes B t) else if y = "row" then some (.ref D) else none
section
variable {w : World} {d u : Nat} {fr : List Env} {Q : Flow → Shared → Prop} {E : Value → Shared → Prop} {s : Shared} {z : Heap} {p : Program} {loose : List Str} {mean : ExcName → Option Value} {mg mb : Str → Option Value}
set_option maxHeartbeats 400000 in
theorem num3 {L D : Nat} {ns : List Int} {ws : List Value} {cx co : Obj} {ps : Array Value} {fl : List (Addr × Obj)} {tb td : Tok}
    (X : (hd0.heap_1 w.params).In z) (T : Top p loose mean mg mb z) (F : Fr z L s.heap (mapQ D (rowB ns) td)) (N : News z L s.heap (newsQ L cx co ps D ws fl)) (d2 : co.data = .cell (some (.bytes (rowB ns) tb))) (hi : IntsAre ws ns) (hns : ns.length ≤ 100) (hall : ∀ n ∈ ns, 0 ≤ n ∧ n < 2 ^ 64)
    (FL : FrL fr fl) (hL : 292 < L ∧ L + 2 < D) (hT : TailOk fl L (L + 2) L (L + 2)) (hfD : ∀ p ∈ fl, p.1 ≠ D) (hd : d ≤ 410) (hu : u ≤ 810)
    (h : ∀ h' tk, Fr z L h' (mapQ D (rowB ns) td) → News z L h' (newsQ L cx co ps D ws fl) → Q .next { s with heap := h', toks := tk }) :
    wpAny (model PR w) ((mkA d fr u).deeper (env287 L)) (exec (stmtAt lit287.1.body 3) (env287 L)) Q E s := by
  dsimp only [env287, lit287, litMk, stmtAt]
  walk_at "goS"
  walk1
  rw [show ((rowB ns).toList != (rowB ns).toList) = false from bne_self_eq_false _]
  walk_at "goS"
  refine unrow_call (n := ns.length) (row_size ns) hns (by assumption) (by assumption) X T FL (by walk_at "subl") rfl kind_ne (by omega) (by omega) fun h1 tk1 ys D1 hys F1 N1 => ?_
  rw [unrow_row hall] at hys
  walk_at "goS"
  walk1
  walk_at "goS"
  refine unrow_call (n := 0) rfl (by decide) (by assumption) (by assumption) X T FL (by walk_at "subl") rfl kind_ne (by omega) (by omega) fun h2 tk2 ys2 D2 hys2 F2 N2 => ?_
  obtain rfl : ys2 = [] := by
    have := hys2.length
    simpa [unrow, rangeV] using this
  walk_at "goS"
  walk1
  walk_at "goS"
  exact h _ _ (by assumption) (subl_of (by assumption) (by walk_at "subl"))
end

noncomputable abbrev newsR (L : Nat) (cx co : Obj) (ps : Array Value) (os fl : List (Addr × Obj)) : List (Addr × Obj) := (L + 1, cx) :: (L + 1 + 1, co) :: (284, tabObj ps) :: (os ++ fl)
noncomputable abbrev qualN : Str := ("_law_numbers_right" ++ ".<locals>." : Str) ++ ("<lambda>" : Str)
theorem cut_e {m j : Nat} (hm : 0 < m) (hj : j < 7) : ((8 * m : Nat) : Int) - 1 - (j : Int) = ((8 * m - 1 - j : Nat) : Int) := by omega
theorem cut_m {m j : Nat} (hm : 0 < m) (hj : j < 7) : ((8 * m - 1 - j : Nat) : Int) % 8 ≠ 0 := by omega
theorem cut_size {B : Array UInt8} {m : Nat} {x : Int} (hB : B.size = 8 * m) (hm : 0 < m) : ((KBy.picked B none (some ((B.size : Int) - 1 - x.fmod 7))).size : Int).fmod 8 ≠ 0 ∧ (KBy.picked B none (some ((B.size : Int) - 1 - x.fmod 7))).size ≤ B.size := by
  have h0 := fmod_lo x (n := 7) (by decide)
  have h1 := fmod_hi x (n := 7) (by decide)
  refine ⟨?_, KBc.size_picked_le _ _ _⟩
  obtain ⟨j, hj⟩ := Int.eq_ofNat_of_zero_le h0
  have hj7 : j < 7 := by rw [hj] at h1; exact Int.ofNat_lt.mp h1
  have e : (B.size : Int) - 1 - x.fmod 7 = ((B.size - 1 - j : Nat) : Int) := by rw [hj, hB]; exact cut_e hm hj7
  have le : B.size - 1 - j ≤ B.size := Nat.le_trans (Nat.sub_le _ _) (Nat.sub_le _ _)
  have sz : (KBy.picked B none (some ((B.size : Int) - 1 - x.fmod 7))).size = B.size - 1 - j := by
    rw [← KBw.ints_length, KBc.ints_picked rfl, e, KBw.ints_length]
    show (List.take (clipAt B.size ((B.size - 1 - j : Nat) : Int) - 0) (List.drop 0 (KBw.bInts B))).length = _
    rw [clipAt_nat, List.drop_zero, List.length_take, KBw.ints_length, Nat.sub_zero, Nat.min_eq_left le, Nat.min_eq_left le]
  rw [sz, Int.fmod_eq_emod_of_nonneg _ (by decide), hB]
  exact cut_m hm hj7
theorem broken_lit : toldStr 68 "a row that is cut" = ("broken" : Str) := by kernel_rfl
theorem fit_lit : toldStr 56 "a number that does not fit" = ("misused: a number that does not fit" : Str) := by kernel_rfl
section
variable {w : World} {d u : Nat} {fr : List Env} {s : Shared} {z : Heap} {p : Program} {loose : List Str} {mean : ExcName → Option Value} {mg mb : Str → Option Value}
theorem unrow_ends {B : Array UInt8} {tb : Tok} (hB : B.size ≤ 800) (hmod : (B.size : Int).fmod 8 ≠ 0)
    (X : (hd0.heap_1 w.params).In z) (T : Top p loose mean mg mb z) (P : Pre z s.heap []) (hd : d ≤ 430) (hu : u ≤ 830) (FF : FFr z fr) :
    codeAny (model PR w) (mkA d fr u) (.call (.ref 249) ⟨[.bytes B tb], []⟩) (CallEnds w z fr (fun _ _ => False) (fun C why mt' => mt' = [] ∧ C = 68 ∧ why = "a row that is cut") s) s := by
  refine unrow_all hB X T P hd hu FF (fun n hn => ?_) fun _ h' tk v Rz => ?_
  · exfalso
    apply hmod
    rw [Int.fmod_eq_emod_of_nonneg _ (by decide)]
    omega
  · exact CallEnds.err v h' tk ([]) 68 _ (.inr (.inr rfl)) (Nat.le_of_ble_eq_true rfl) Rz ⟨rfl, rfl, rfl⟩
theorem row_ends {D0 : Nat} {vs : List Value} {ns : List Int} (hl : z.IsList D0 vs.toArray) (hi : IntsAre vs ns) (hns : ns.length ≤ 100) (hbad : ∃ n ∈ ns, ¬(0 ≤ n ∧ n < 2 ^ 64))
    (X : (hd0.heap_1 w.params).In z) (T : Top p loose mean mg mb z) (P : Pre z s.heap []) (hd : d ≤ 430) (hu : u ≤ 830) (FF : FFr z fr) :
    codeAny (model PR w) (mkA d fr u) (.call (.ref 244) ⟨[.ref D0], []⟩) (CallEnds w z fr (fun _ _ => False) (fun C why mt' => mt' = [] ∧ C = 56 ∧ why = "a number that does not fit") s) s := by
  refine row_all hl hi hns X T P hd hu FF (fun hall => ?_) fun _ h' tk v Rz => ?_
  · refine ea1_2 (hbad) fun n hn hb => ?_
    (try clear hbad)
    exact absurd (hall n hn) hb
  · exact CallEnds.err v h' tk ([]) 56 _ (.inr (.inl rfl)) (Nat.le_of_ble_eq_true rfl) Rz ⟨rfl, rfl, rfl⟩
end
section
variable {w : World} {d u : Nat} {fr : List Env} {Q : Flow → Shared → Prop} {E : Value → Shared → Prop} {s : Shared} {z : Heap} {p : Program} {loose : List Str} {mean : ExcName → Option Value} {mg mb : Str → Option Value}
set_option maxHeartbeats 1000000 in
theorem num4 {L m : Nat} {x : Int} {B : Array UInt8} {cx co : Obj} {ps : Array Value} {os fl : List (Addr × Obj)} {tb tx : Tok} {m0 : Str → Option Value}
    (X : (hd0.heap_1 w.params).In z) (T : Top p loose mean mg mb z) (C : CodeHd z 286 284) (F : Fr z L s.heap m0) (N : News z L s.heap (newsR L cx co ps os fl)) (d1 : cx.data = .cell (some (.int x tx))) (d2 : co.data = .cell (some (.bytes B tb))) (hB : B.size = 8 * m) (hm : 0 < m ∧ m ≤ 100)
    (FL : FrL fr fl) (tb0 : TabOk qualN os ps) (hL : 292 < L) (hos : ∀ q ∈ os, L + 2 < q.1) (hfl : TailOk fl L (L + 2) L (L + 2)) (hofl : ∀ q ∈ os, ∀ p ∈ fl, p.1 ≠ q.1) (hflL : AllLt L fl) (hd : d ≤ 410) (hu : u ≤ 810)
    (h : ∀ h' tk (tl : Nat) t ps' os' fl', FlS fl fl' → TabOk qualN os' ps' → (∀ q ∈ os', L + 2 < q.1) → (∀ q ∈ os', ∀ p ∈ fl', p.1 ≠ q.1) → L + 2 < tl → (∀ q ∈ os' ++ fl', q.1 ≠ tl) → Fr z L h' (fun y : Str => if y = "told" then some (.ref tl) else m0 y) → News z L h' ((tl, listOf #[.str "broken" t] 0) :: newsR L cx co ps' os' fl') → Q .next { s with heap := h', toks := tk }) :
    wpAny (model PR w) ((mkA d fr u).deeper (env287 L)) (exec (stmtAt lit287.1.body 4) (env287 L)) Q E s := by
  refine use_n0 hL fun P9 U9 q100 q101 q102 q103 q104 => ?_
  dsimp only [env287, lit287, litMk, stmtAt]
  have hT : TailOk (os ++ fl) L (L + 2) L (L + 2) := TailOk.app (fun q hq => ⟨by have := hos q hq; omega, .inr (hos q hq), .inr (hos q hq)⟩) hfl
  walk_at "goS"
  rename Fr _ _ _ _ => F9
  rename News _ _ _ _ => N9
  refine kla_eval (by rfl) ?_
  refine' lam_any (x0 := L + 1 + 1) F9 N9 T C ?cd ?U tb0 ?hc ?cl ?hx ?h0 ?_
  case cd => exact rfl
  case U => k_updF
  case hc => walk_at "subl"
  case cl => with_unfolding_all rfl
  case hx => exact hos
  case h0 => k_mem
  intro f c' oc ctv ps' h3 tk3 F3 N3 hco tb' hlf hlc hxc hcn
  (try dsimp only at N3)
  have hcf : ∀ p ∈ fl, p.1 ≠ c' := fun p hp => by
    rcases hcn with h | h
    · exact Nat.ne_of_lt (h p (by walk_at "tailm"))
    · exact hofl _ h p hp
  k_lt hlf; k_lt2 hlc; k_lt2 hxc
  clear N9 F9
  walk_at "goS"
  refine' (fun N10 => ?main) (subl_of (mt := [] ++ (((284, tabObj ps') :: (f, ?fo) :: (c', oc) :: (L + 1, cx) :: (L + 1 + 1, co) :: os) ++ fl)) N3 ?sub)
  case sub =>
    simp only [List.cons_append, List.nil_append]
    walk_at "subl"
  case main =>
    refine' told_call (mt := []) (fl := fl) (fun _ _ => False) (fun C why mt' => mt' = [] ∧ C = 68 ∧ why = "a row that is cut") X T F3 N10 (fun _ _ _ h => nomatch h) (fun _ _ _ h => nomatch h) (by walk_at "apart") FL rfl kind_ne ?hfn (by omega) (by omega) ?hcall ?hok ?her
    case hfn => k_dflt k_mem
    case hcall =>
      intro z' env2 s' hz' hr' P' FF hsz
      have X' := X.keeps hz'
      have T' := T.keeps hz'
      simp only [List.forall_mem_cons] at hr'
      refine ea0_6 (hr') fun eS ef ec e1 e2 eo => ?_
      (try clear hr')
      clear F3 N3 N10
      refine enterL T' P' ef ec hco (by k_room) (by rfl) rfl rfl rfl (by decide) ?_
      intro L2 h4 tk4 F4 N4 hL4 hst4
      walk_at "goS"
      have hz800 : B.size ≤ 800 := by omega
      refine KBc.slice_K F4 N4 (ks := KBw.bInts B) rfl .none (.int _ _) (by rw [KBw.ints_length]; omega) (fun h5 t5 k5 F5 N5 _ => ?_)
      walk_at "goS"
      have hb0 := hid_base F5 N5
      have hcut := cut_size (x := x) hB hm.1
      refine through rfl rfl F5 N5 F5.above (fun _ _ => rfl) ?_
      exact unrow_ends (d := d + 3) (u := u + 9) (Nat.le_trans hcut.2 hz800) hcut.1 (X'.keeps hb0) (T'.keeps hb0) (Pre.of N5) (by omega) (by omega) (ffr_hidN FF F5 N5 rfl kind_ne)
    case hok => exact fun _ _ _ _ _ _ hf => hf.elim
    case her =>
      intro h6 tk6 C why mt' fl' t6 S6 hE F6 N6
      refine ea0_3 (hE) fun rz0 rz1 rz2 => ?_
      (try clear hE)
      subst rz0
      subst rz1
      subst rz2
      rw [broken_lit]
      simp only [List.cons_append, List.nil_append] at N6
      have hf6 := S6.tailOk hfl
      walk_at "goS"
      rename Fr _ _ _ _ => F9
      rename News _ _ _ _ => N9
      refine' h _ _ _ _ ps' ((c', oc) :: os) fl' S6 tb' ?o ?a ?b ?c F9 ?d
      case d => exact subl_of N9 (by walk_at "subl")
      case o => exact List.forall_mem_cons.mpr ⟨hxc, hos⟩
      case a => exact off_os S6 hcf hofl
      case b => omega
      case c => k_all
end

noncomputable abbrev mapD (tl : Nat) (m0 : Str → Option Value) : Str → Option Value := fun y : Str => if y = "told" then some (.ref tl) else m0 y
section
variable {w : World} {d u : Nat} {fr : List Env} {Q : Flow → Shared → Prop} {E : Value → Shared → Prop} {s : Shared} {z : Heap} {p : Program} {loose : List Str} {mean : ExcName → Option Value} {mg mb : Str → Option Value}
set_option maxHeartbeats 1000000 in
theorem num5 {L tl cap : Nat} {cx co : Obj} {ps : Array Value} {os fl : List (Addr × Obj)} {b1 : Tok} {m0 : Str → Option Value}
    (X : (hd0.heap_1 w.params).In z) (T : Top p loose mean mg mb z) (C : CodeHd z 286 284) (F : Fr z L s.heap (mapD tl m0)) (N : News z L s.heap ((tl, listOf #[.str "broken" b1] cap) :: newsR L cx co ps os fl))
    (FL : FrL fr fl) (tb0 : TabOk qualN os ps) (hL : 292 < L ∧ L + 2 < tl) (hos : ∀ q ∈ os, L + 2 < q.1) (hfl : TailOk fl L (L + 2) L (L + 2)) (hofl : ∀ q ∈ os, ∀ p ∈ fl, p.1 ≠ q.1) (hflL : AllLt L fl) (hot : ∀ q ∈ os, q.1 ≠ tl) (hft : ∀ q ∈ fl, q.1 ≠ tl) (hd : d ≤ 410) (hu : u ≤ 810)
    (h : ∀ h' tk b2 cap' ps' os' fl', FlS fl fl' → TabOk qualN os' ps' → (∀ q ∈ os', L + 2 < q.1) → (∀ q ∈ os', ∀ p ∈ fl', p.1 ≠ q.1) → (∀ q ∈ os', q.1 ≠ tl) → (∀ q ∈ fl', q.1 ≠ tl) → Fr z L h' (mapD tl m0) → News z L h' ((tl, listOf #[.str "broken" b1, .str "misused: a number that does not fit" b2] cap') :: newsR L cx co ps' os' fl') → Q .next { s with heap := h', toks := tk }) :
    wpAny (model PR w) ((mkA d fr u).deeper (env287 L)) (exec (stmtAt lit287.1.body 5) (env287 L)) Q E s := by
  refine use_n hL fun P9 U9 q100 q101 q102 q103 q104 q105 => ?_
  dsimp only [env287, lit287, litMk, stmtAt]
  have hT : TailOk (os ++ fl) L (L + 2) L (L + 2) := TailOk.app (fun q hq => ⟨by have := hos q hq; omega, .inr (hos q hq), .inr (hos q hq)⟩) hfl
  have hott : ∀ q ∈ os ++ fl, q.1 ≠ tl := fun q hq => (List.mem_append.mp hq).elim (hot q) (hft q)
  walk_at "goS"
  rename Fr _ _ _ _ => F9
  rename News _ _ _ _ => N9
  refine kla_eval (by rfl) ?_
  refine' lam_any (x0 := L + 1 + 1) F9 N9 T C ?cd ?U tb0 ?hc ?cl ?hx ?h0 ?_
  case cd => exact rfl
  case U => k_updF
  case hc => walk_at "subl"
  case cl => with_unfolding_all rfl
  case hx => exact hos
  case h0 => k_mem
  intro f c' oc ctv ps' h3 tk3 F3 N3 hco tb' hlf hlc hxc hcn
  (try dsimp only at N3)
  have hcf : ∀ p ∈ fl, p.1 ≠ c' := fun p hp => by
    rcases hcn with h | h
    · exact Nat.ne_of_lt (h p (by walk_at "tailm"))
    · exact hofl _ h p hp
  have hct : c' ≠ tl := by
    rcases hcn with h | h
    · exact Nat.ne_of_gt (h (tl, _) (by k_mem))
    · exact hot _ h
  k_lt hlf; k_lt2 hlc; k_lt2 hxc
  clear N9 F9
  walk_at "goS"
  refine' (fun N10 => ?main) (subl_of (mt := [] ++ (((284, tabObj ps') :: (f, ?fo) :: (c', oc) :: (tl, listOf #[.str "broken" b1] cap) :: (L + 1, cx) :: (L + 1 + 1, co) :: os) ++ fl)) N3 ?sub)
  case sub =>
    simp only [List.cons_append, List.nil_append]
    walk_at "subl"
  case main =>
    refine' told_call (mt := []) (fl := fl) (fun _ _ => False) (fun C why mt' => mt' = [] ∧ C = 56 ∧ why = "a number that does not fit") X T F3 N10 (fun _ _ _ h => nomatch h) (fun _ _ _ h => nomatch h) (by walk_at "apart") FL rfl kind_ne ?hfn (by omega) (by omega) ?hcall ?hok ?her
    case hfn => k_dflt k_mem
    case hcall =>
      intro z' env2 s' hz' hr' P' FF hsz
      have X' := X.keeps hz'
      have T' := T.keeps hz'
      simp only [List.forall_mem_cons] at hr'
      refine ea0_7 (hr') fun eS ef ec et e1 e2 eo => ?_
      (try clear hr')
      clear F3 N3 N10
      refine enterL T' P' ef ec hco (by k_room) (by rfl) rfl rfl rfl (by decide) ?_
      intro L2 h4 tk4 F4 N4 hL4 hst4
      walk_at "goS"
      rename Fr z' _ _ _ => F5
      rename News z' _ _ _ => N5
      have N6 := subl_of N5 (mt := []) (fun _ h => nomatch h)
      have hb0 := hid_base F5 N6
      refine through rfl rfl F5 N6 F5.above (fun _ _ => rfl) ?_
      exact row_ends (d := d + 3) (u := u + 9) (ns := [1, 2 ^ Int.toNat 64]) ⟨_, hid_of (N5 _ (.head _)).1 (fun _ h => nomatch h), rfl, _, rfl⟩ (.cons _ _ (.cons _ _ .nil)) (by decide) ⟨2 ^ Int.toNat 64, .tail _ (.head _), by decide⟩ (X'.keeps hb0) (T'.keeps hb0) (Pre.of N6) (by omega) (by omega) (ffr_hidN FF F5 N6 rfl kind_ne)
    case hok => exact fun _ _ _ _ _ _ hf => hf.elim
    case her =>
      intro h6 tk6 C why mt' fl' t6 S6 hE F6 N6
      refine ea0_3 (hE) fun rz0 rz1 rz2 => ?_
      (try clear hE)
      subst rz0
      subst rz1
      subst rz2
      rw [fit_lit]
      simp only [List.cons_append, List.nil_append] at N6
      have hf6 := S6.tailOk hfl
      have hft' : ∀ q ∈ fl', q.1 ≠ tl := fun q hq => by
        refine ea1_2 (S6.mem hq) fun q' h1 h2 => ?_
        rw [← h2]
        exact hft q' h1
      have hott' : ∀ q ∈ os ++ fl', q.1 ≠ tl := fun q hq => (List.mem_append.mp hq).elim (hot q) (hft' q)
      have hT' : TailOk (os ++ fl') L (L + 2) L (L + 2) := TailOk.app (fun q hq => ⟨by have := hos q hq; omega, .inr (hos q hq), .inr (hos q hq)⟩) hf6
      walk_at "goS"
      rename Fr _ _ _ _ => F9
      rename News _ _ _ _ => N9
      refine' h _ _ _ _ ps' ((c', oc) :: os) fl' S6 tb' ?o ?a ?b hft' F9 ?d
      case d => exact subl_of N9 (by walk_at "subl")
      case o => exact List.forall_mem_cons.mpr ⟨hxc, hos⟩
      case a => exact off_os S6 hcf hofl
      case b => exact List.forall_mem_cons.mpr ⟨hct, hot⟩
end

section
variable {w : World} {d u : Nat} {fr : List Env} {Q : Flow → Shared → Prop} {E : Value → Shared → Prop} {s : Shared} {z : Heap} {p : Program} {loose : List Str} {mean : ExcName → Option Value} {mg mb : Str → Option Value}
set_option maxHeartbeats 1000000 in
theorem num6 {L tl cap : Nat} {cx co : Obj} {ps : Array Value} {os fl : List (Addr × Obj)} {b1 b2 : Tok} {m0 : Str → Option Value}
    (X : (hd0.heap_1 w.params).In z) (T : Top p loose mean mg mb z) (C : CodeHd z 286 284) (F : Fr z L s.heap (mapD tl m0)) (N : News z L s.heap ((tl, listOf #[.str "broken" b1, .str "misused: a number that does not fit" b2] cap) :: newsR L cx co ps os fl))
    (FL : FrL fr fl) (tb0 : TabOk qualN os ps) (hL : 292 < L ∧ L + 2 < tl) (hos : ∀ q ∈ os, L + 2 < q.1) (hfl : TailOk fl L (L + 2) L (L + 2)) (hofl : ∀ q ∈ os, ∀ p ∈ fl, p.1 ≠ q.1) (hflL : AllLt L fl) (hot : ∀ q ∈ os, q.1 ≠ tl) (hft : ∀ q ∈ fl, q.1 ≠ tl) (hd : d ≤ 410) (hu : u ≤ 810)
    (h : ∀ h' tk b3 cap' ps' os' fl', FlS fl fl' → TabOk qualN os' ps' → (∀ q ∈ os', L + 2 < q.1) → (∀ q ∈ os', ∀ p ∈ fl', p.1 ≠ q.1) → (∀ q ∈ os', q.1 ≠ tl) → (∀ q ∈ fl', q.1 ≠ tl) → Fr z L h' (mapD tl m0) → News z L h' ((tl, listOf #[.str "broken" b1, .str "misused: a number that does not fit" b2, .str "misused: a number that does not fit" b3] cap') :: newsR L cx co ps' os' fl') → Q .next { s with heap := h', toks := tk }) :
    wpAny (model PR w) ((mkA d fr u).deeper (env287 L)) (exec (stmtAt lit287.1.body 6) (env287 L)) Q E s := by
  refine use_n hL fun P9 U9 q100 q101 q102 q103 q104 q105 => ?_
  dsimp only [env287, lit287, litMk, stmtAt]
  have hT : TailOk (os ++ fl) L (L + 2) L (L + 2) := TailOk.app (fun q hq => ⟨by have := hos q hq; omega, .inr (hos q hq), .inr (hos q hq)⟩) hfl
  have hott : ∀ q ∈ os ++ fl, q.1 ≠ tl := fun q hq => (List.mem_append.mp hq).elim (hot q) (hft q)
  walk_at "goS"
  rename Fr _ _ _ _ => F9
  rename News _ _ _ _ => N9
  refine kla_eval (by rfl) ?_
  refine' lam_any (x0 := L + 1 + 1) F9 N9 T C ?cd ?U tb0 ?hc ?cl ?hx ?h0 ?_
  case cd => exact rfl
  case U => k_updF
  case hc => walk_at "subl"
  case cl => with_unfolding_all rfl
  case hx => exact hos
  case h0 => k_mem
  intro f c' oc ctv ps' h3 tk3 F3 N3 hco tb' hlf hlc hxc hcn
  (try dsimp only at N3)
  have hcf : ∀ p ∈ fl, p.1 ≠ c' := fun p hp => by
    rcases hcn with h | h
    · exact Nat.ne_of_lt (h p (by walk_at "tailm"))
    · exact hofl _ h p hp
  have hct : c' ≠ tl := by
    rcases hcn with h | h
    · exact Nat.ne_of_gt (h (tl, _) (by k_mem))
    · exact hot _ h
  k_lt hlf; k_lt2 hlc; k_lt2 hxc
  clear N9 F9
  walk_at "goS"
  refine' (fun N10 => ?main) (subl_of (mt := [] ++ (((284, tabObj ps') :: (f, ?fo) :: (c', oc) :: (tl, listOf #[.str "broken" b1, .str "misused: a number that does not fit" b2] cap) :: (L + 1, cx) :: (L + 1 + 1, co) :: os) ++ fl)) N3 ?sub)
  case sub =>
    simp only [List.cons_append, List.nil_append]
    walk_at "subl"
  case main =>
    refine' told_call (mt := []) (fl := fl) (fun _ _ => False) (fun C why mt' => mt' = [] ∧ C = 56 ∧ why = "a number that does not fit") X T F3 N10 (fun _ _ _ h => nomatch h) (fun _ _ _ h => nomatch h) (by walk_at "apart") FL rfl kind_ne ?hfn (by omega) (by omega) ?hcall ?hok ?her
    case hfn => k_dflt k_mem
    case hcall =>
      intro z' env2 s' hz' hr' P' FF hsz
      have X' := X.keeps hz'
      have T' := T.keeps hz'
      simp only [List.forall_mem_cons] at hr'
      refine ea0_7 (hr') fun eS ef ec et e1 e2 eo => ?_
      (try clear hr')
      clear F3 N3 N10
      refine enterL T' P' ef ec hco (by k_room) (by rfl) rfl rfl rfl (by decide) ?_
      intro L2 h4 tk4 F4 N4 hL4 hst4
      walk_at "goS"
      rename Fr z' _ _ _ => F5
      rename News z' _ _ _ => N5
      have N6 := subl_of N5 (mt := []) (fun _ h => nomatch h)
      have hb0 := hid_base F5 N6
      refine through rfl rfl F5 N6 F5.above (fun _ _ => rfl) ?_
      exact row_ends (d := d + 3) (u := u + 9) (ns := [-1]) ⟨_, hid_of (N5 _ (.head _)).1 (fun _ h => nomatch h), rfl, _, rfl⟩ (.cons _ _ .nil) (by decide) ⟨-1, .head _, by decide⟩ (X'.keeps hb0) (T'.keeps hb0) (Pre.of N6) (by omega) (by omega) (ffr_hidN FF F5 N6 rfl kind_ne)
    case hok => exact fun _ _ _ _ _ _ hf => hf.elim
    case her =>
      intro h6 tk6 C why mt' fl' t6 S6 hE F6 N6
      refine ea0_3 (hE) fun rz0 rz1 rz2 => ?_
      (try clear hE)
      subst rz0
      subst rz1
      subst rz2
      rw [fit_lit]
      simp only [List.cons_append, List.nil_append] at N6
      have hf6 := S6.tailOk hfl
      have hft' : ∀ q ∈ fl', q.1 ≠ tl := fun q hq => by
        refine ea1_2 (S6.mem hq) fun q' h1 h2 => ?_
        rw [← h2]
        exact hft q' h1
      have hott' : ∀ q ∈ os ++ fl', q.1 ≠ tl := fun q hq => (List.mem_append.mp hq).elim (hot q) (hft' q)
      have hT' : TailOk (os ++ fl') L (L + 2) L (L + 2) := TailOk.app (fun q hq => ⟨by have := hos q hq; omega, .inr (hos q hq), .inr (hos q hq)⟩) hf6
      walk_at "goS"
      rename Fr _ _ _ _ => F9
      rename News _ _ _ _ => N9
      refine' h _ _ _ _ ps' ((c', oc) :: os) fl' S6 tb' ?o ?a ?b hft' F9 ?d
      case d => exact subl_of N9 (by walk_at "subl")
      case o => exact List.forall_mem_cons.mpr ⟨hxc, hos⟩
      case a => exact off_os S6 hcf hofl
      case b => exact List.forall_mem_cons.mpr ⟨hct, hot⟩
end
example : True := by
  k_with "goX" => (repeat' (first | (k_unfold; (try dsimp only)) | (dsimp only; k_unfold; (try dsimp only)) | ((fail_if_success (with_reducible show wpAny _ _ (PySem.exec (PySem.Stmt.For _ _ _ _ _) _) _ _ _)); (fail_if_success (with_reducible show wpAny _ _ (PySem.eval (PySem.Expr.Lambda _ _ _ _) _) _ _ _)); (fail_if_success (with_reducible show wpAny _ _ (PySem.call (PySem.Value.ref 263) _) _ _ _)); (fail_if_success (with_reducible show wpAny _ _ (PySem.binaryOp PySem.Operator.Mult (PySem.Value.ref _) _) _ _ _)); (fail_if_success (with_reducible show wpAny _ _ (PySem.call (PySem.Value.ref 239) _) _ _ _)); (fail_if_success (with_reducible show wpAny _ _ (PySem.call (PySem.Value.ref 234) _) _ _ _)); (fail_if_success (with_reducible show wpAny _ _ (PySem.call (PySem.Value.ref 244) _) _ _ _)); (fail_if_success (with_reducible show wpAny _ _ (PySem.call (PySem.Value.ref 249) _) _ _ _)); (fail_if_success (with_reducible show wpAny _ _ (PySem.call (PySem.Value.builtin "bytes.join") _) _ _ _)); (fail_if_success (with_reducible show wpAny _ _ (PySem.compareOp _ (PySem.Value.ref _) (PySem.Value.ref _)) _ _ _)); (fail_if_success (with_reducible show wpAny _ _ (PySem.compareOp _ (PySem.Value.bytes _ _) (PySem.Value.bytes _ _)) _ _ _)); (fail_if_success (with_reducible show wpAny _ _ (PySem.call (PySem.Value.type "bytes") _) _ _ _)); (fail_if_success (with_reducible show wpAny _ _ (PySem.call (PySem.Value.ref 275) _) _ _ _)); (fail_if_success (with_reducible show wpAny _ _ (PySem.call (PySem.Value.ref 282) _) _ _ _)); (fail_if_success (with_reducible show wpAny _ _ (PySem.eval (PySem.Expr.ListComp _ _ _ _) _) _ _ _)); (fail_if_success (with_reducible show LCg.CompSrc _ _ _ _ _ _ _ _ _ _ _ _ _ _)); (fail_if_success (with_reducible show wpAny _ _ (PySem.pyIter _) _ _ _)); first | (k_end; wrow_close) | walk1 | (dsimp only; walk1) | (leave1; walk_say "STEP leave1"; try dsimp only)) | fail "no step"))
  trivial
section
variable {w : World} {d u : Nat} {fr : List Env} {Q : Flow → Shared → Prop} {E : Value → Shared → Prop} {s : Shared} {z : Heap} {p : Program} {loose : List Str} {mean : ExcName → Option Value} {mg mb : Str → Option Value}
set_option maxHeartbeats 400000 in
theorem num7 {L tl cap : Nat} {cx co : Obj} {ps : Array Value} {os fl : List (Addr × Obj)} {b1 b2 b3 : Tok} {m0 : Str → Option Value}
    (X : (hd0.heap_1 w.params).In z) (T : Top p loose mean mg mb z) (F : Fr z L s.heap (mapD tl m0)) (N : News z L s.heap ((tl, listOf #[.str "broken" b1, .str "misused: a number that does not fit" b2, .str "misused: a number that does not fit" b3] cap) :: newsR L cx co ps os fl))
    (hL : 292 < L ∧ L + 2 < tl) (hT : TailOk (os ++ fl) L (L + 2) L (L + 2)) (hott : ∀ q ∈ os ++ fl, q.1 ≠ tl) (hd : d ≤ 410) (hu : u ≤ 810)
    (h : ∀ h' tk, Fr z L h' (mapD tl m0) → News z L h' ((284, tabObj ps) :: fl) → Q (.ret (.bool true)) { s with heap := h', toks := tk }) :
    wpAny (model PR w) ((mkA d fr u).deeper (env287 L)) (exec (stmtAt lit287.1.body 7) (env287 L)) Q E s := by
  refine use_n hL fun P9 U9 q100 q101 q102 q103 q104 q105 => ?_
  dsimp only [env287, lit287, litMk, stmtAt]
  walk_at "goX"
  rename Fr _ _ _ _ => F9
  rename News _ _ _ _ => N9
  refine KMa.mul (ws := [.str "misused: a number that does not fit" _, .str "misused: a number that does not fit" _]) F9 N9 (N9.isList (.head _)) (by decide) (by decide) (Nat.le_of_ble_eq_true rfl) rfl fun D2 h2 F2 N2 l2 => ?_
  k_lt l2
  clear F9 N9
  walk_at "goX"
  walk1
  walk_at "goX"
  all_goals trace_state
  exact h _ _ (by assumption) (subl_of (by assumption) (by walk_at "subl"))
end

theorem FlS.trans {a b c : List (Addr × Obj)} (x : FlS a b) (y : FlS b c) : FlS a c := by
  induction x generalizing c with
  | nil => exact y
  | cons _ ih =>
    cases y with
    | cons k => exact .cons (ih k)
section
variable {w : World} {d u : Nat} {fr : List Env} {R : Result → Shared → Prop} {s : Shared} {z : Heap} {p : Program} {loose : List Str} {mean : ExcName → Option Value} {mg mb : Str → Option Value}
set_option maxHeartbeats 1000000 in
theorem numbers_ok {x : Int} {tx : Tok} {fl : List (Addr × Obj)}
    (X : (hd0.heap_1 w.params).In z) (T : Top p loose mean mg mb z) (C : CodeHd z 286 284) (P : Pre z s.heap ((284, tabObj #[]) :: fl)) (FL : FrL fr fl) (hfl : ∀ q ∈ fl, @LT.lt Nat _ 292 q.1) (hx : 0 ≤ x ∧ x < 2 ^ 40) (hL3 : @LT.lt Nat _ 292 s.heap.objs.size) (hd : d ≤ 400) (hu : u ≤ 800)
    (h : ∀ h' tk ps fl', FlS fl fl' → Pre z h' ((284, tabObj ps) :: fl') → R (.ok (.ret (.bool true))) { s with heap := h', toks := tk }) :
    codeAny (model PR w) (mkA d fr u) (.call (.ref 287) ⟨[.int x tx], []⟩) R s := by
  refine enterZC (binds := [("x", .int x tx)]) X T P (by k_is) (by k_is) (by k_room) (BindsTo.of_eq (by rfl)) (by rfl) (by decide +kernel) (by rfl) (by rfl) (by rfl) ?_
  intro L' h' tk' cells' F' N' Y' hL' hst'
  (try dsimp only); k_fold
  replace F' : Fr z L' h' (fun _ => none) := F'
  have lt : ∀ q ∈ fl, @LT.lt Nat _ q.1 L' := fun q hq => hL' ▸ Heap.lt_size (P.led q (.tail _ hq)).1
  have hflL : AllLt L' fl := allLt_of lt
  have hL300 : @LT.lt Nat _ 292 L' := hL' ▸ hL3
  have hT : TailOk fl L' (L' + 2) L' (L' + 2) := fun q hq => ⟨hfl q hq, .inl (lt q hq), .inl (lt q hq)⟩
  walk_at "cellsIn"
  rename_i c1 c2 e1 e2 _
  rename News _ _ _ _ => N2
  have d2 : c1.data = .cell none := e1
  have d1 : c2.data = .cell (some (.int x tx)) := e2
  clear e1 e2
  have N1 : News z L' h' ((L' + 1, c2) :: (L' + 1 + 1, c1) :: (284, tabObj #[]) :: fl) := subl_of N2 (by walk_at "subl")
  clear N2
  refine wpAny_execs_cons ?_
  refine num0 X T F' N1 d1 hx hL300 hT (by omega) (by omega) fun h1 tk1 D ws hws hD hfD F1 N1 => ?_
  dsimp only
  refine wpAny_execs_cons ?_
  refine num1 (ns := rowN x) X T F1 N1 d2 hws (Nat.le_trans (rowN_le x) (by decide)) (rowN_in x) FL ⟨hL300, hD⟩ hT hfD (by omega) (by omega) fun h2 tk2 co t2 dco F2 N2 => ?_
  dsimp only
  refine wpAny_execs_cons ?_
  refine num2 (ns := rowN x) X T F2 N2 hws (Nat.le_trans (rowN_le x) (by decide)) (rowN_in x) ⟨hL300, hD⟩ hT hfD (by omega) (by omega) fun h3 tk3 t3 F3 N3 => ?_
  dsimp only
  refine wpAny_execs_cons ?_
  refine num3 (ns := rowN x) X T F3 N3 dco hws (Nat.le_trans (rowN_le x) (by decide)) (rowN_in x) FL ⟨hL300, hD⟩ hT hfD (by omega) (by omega) fun h4 tk4 F4 N4 => ?_
  dsimp only
  refine wpAny_execs_cons ?_
  have hpos : 0 < (rowN x).length := by rw [rowN_len]; omega
  refine num4 (m := (rowN x).length) (os := []) X T C F4 (subl_of N4 (by walk_at "subl")) d1 dco (row_size _) ⟨hpos, Nat.le_trans (rowN_le x) (by decide)⟩ FL .nil hL300 (fun _ h => nomatch h) hT (fun _ h => nomatch h) hflL (by omega) (by omega) fun h5 tk5 tl b1 ps5 os5 fl5 S5 T5 o5 f5 l5 n5 F5 N5 => ?_
  dsimp only
  refine wpAny_execs_cons ?_
  have hfl5 : AllLt L' fl5 := allLt_of fun q hq => by
    refine ea1_2 (S5.mem hq) fun q' h1 h2 => ?_
    rw [← h2]
    exact lt q' h1
  refine num5 X T C F5 N5 (FL.turn S5) T5 ⟨hL300, l5⟩ o5 (S5.tailOk hT) f5 hfl5 (fun q hq => n5 q (List.mem_append_left _ hq)) (fun q hq => n5 q (List.mem_append_right _ hq)) (by omega) (by omega) fun h6 tk6 b2 cap6 ps6 os6 fl6 S6 T6 o6 f6 n6 m6 F6 N6 => ?_
  dsimp only
  refine wpAny_execs_cons ?_
  have hfl6 : AllLt L' fl6 := allLt_of fun q hq => by
    refine ea1_2 ((S5.trans S6).mem hq) fun q' h1 h2 => ?_
    rw [← h2]
    exact lt q' h1
  refine num6 X T C F6 N6 ((FL.turn S5).turn S6) T6 ⟨hL300, l5⟩ o6 ((S5.trans S6).tailOk hT) f6 hfl6 n6 m6 (by omega) (by omega) fun h7 tk7 b3 cap7 ps7 os7 fl7 S7 T7 o7 f7 n7 m7 F7 N7 => ?_
  dsimp only
  refine wpAny_execs_cons ?_
  have hT7 : TailOk (os7 ++ fl7) L' (L' + 2) L' (L' + 2) := TailOk.app (fun q hq => ⟨by have := o7 q hq; omega, .inr (o7 q hq), .inr (o7 q hq)⟩) (((S5.trans S6).trans S7).tailOk hT)
  refine num7 X T F7 N7 ⟨hL300, l5⟩ hT7 (fun q hq => (List.mem_append.mp hq).elim (n7 q) (m7 q)) (by omega) (by omega) fun h8 tk8 F8 N8 => ?_
  exact h _ _ _ _ ((S5.trans S6).trans S7) (leaveZ F8 N8 (fun _ h => h) hL' P.size)
end

section
variable {w : World} {d u : Nat} {E : Value → Shared → Prop} {s : Shared} {z : Heap} {L : Nat} {m : Str → Option Value} {p : Program} {loose : List Str} {mean : ExcName → Option Value} {mg mb : Str → Option Value} {Q : Value → Shared → Prop} {env : Env}
theorem numbers_call {x : Int} {tx : Tok}
    (X : (hd0.heap_1 w.params).In z) (T : Top p loose mean mg mb z) (C : CodeHd z 286 284) (F : Fr z L s.heap m) (N : News z L s.heap [((284 : Nat), tabObj #[])]) (hf : env.frame = some L) (hkd : env.scope.kind ≠ .module) (hL : 292 < L) (hx : 0 ≤ x ∧ x < 2 ^ 40) (hd : d ≤ 390) (hu : u ≤ 790)
    (h : ∀ h' tk ps, Fr z L h' m → News z L h' [((284 : Nat), tabObj ps)] → Q (.bool true) { s with heap := h', toks := tk }) :
    wpAny (model PR w) ((mkA d [] u).deeper env) (call (.ref 287) [.int x tx]) Q E s := by
  have FL0 : FrL [] [] := ⟨rfl, (fun _ h => nomatch h), (fun _ h => nomatch h)⟩
  refine ea2_7 (told_frame (mt := [((284 : Nat), tabObj #[])]) (rest := []) (fl := []) F N (fun _ h => nomatch h) (fun _ h => nomatch h) (fun _ h => nomatch h) FL0 hf hkd) fun zc oL hzs hz P2 FL2 hrest hm2 back => ?_
  refine wpAny_call (numbers_ok (d := d + 1) (u := u + 3) (fr := [env]) (fl := [(L, oL)]) (X.keeps hz) (T.keeps hz) (C.keeps hz) P2 FL2 (fun q hq => by rw [List.mem_singleton.mp hq]; exact hL) hx (Nat.lt_trans hL F.ns.lt) (by omega) (by omega) fun h' tk ps fl2 S2 P' => ?_)
  obtain ⟨F', fl', S', N'⟩ := back h' [((284 : Nat), tabObj ps)] fl2 S2 (fun p hp q hq => by
    rw [List.mem_singleton.mp hp, List.mem_singleton.mp hq]
    exact Nat.ne_of_lt (Nat.lt_trans (show (284 : Nat) < 292 by decide) hL)) P'
  cases S'
  exact h h' tk ps F' N'
end
section
variable {w : World} {fa : Addr} {d u : Nat} {Q : Flow → Shared → Prop} {E : Value → Shared → Prop} {s : Shared} {z : Heap} {p : Program} {loose : List Str} {mean : ExcName → Option Value} {mg mb : Str → Option Value}
set_option maxHeartbeats 400000 in
theorem end13 {L D : Nat} {x : Int} {tx a1 a2 a3 a4 b1 b2 b3 b4 : Tok} {m0 : Str → Option Value}
    (X : (hd0.heap_1 w.params).In z) (T : Top p loose mean mg mb z) (F : Fr z L s.heap (fun y : Str => if y = "told" then some (.ref D) else if y = "x" then some (.int x tx) else m0 y)) (N : News z L s.heap [(D, listOf #[.int 2 a1, .int 1 a2, .int 0 a3, .int 2 a4, .int 0 b1, .int 1 b2, .int 1 b3, .str "misused: a block that is gone" b4] 0), ((284 : Nat), tabObj #[])])
    (C : CodeHd z 286 284) (hx : 0 ≤ x ∧ x < 2 ^ 40) (hL : 292 < L ∧ 292 < D) (hd : d ≤ 380) (hu : u ≤ 780)
    (h : ∀ h' tk m' ps, Fr z L h' m' → News z L h' [((284 : Nat), tabObj ps)] → Q (.ret (.bool true)) { s with heap := h', toks := tk }) :
    wpAny (model PR w) ((mkA d [] u).deeper (envL L fa)) (exec (stmtAt lit292.1.body 13) (envL L fa)) Q E s := by
  dsimp only [envL, lit292, litMk, stmtAt]
  walk_at "goE"
  walk1
  walk_at "goE"
  rename Fr _ _ _ _ => F9
  rename News _ _ _ _ => N9
  refine numbers_call X T C F9 (subl_of N9 (by walk_at "subl")) rfl kind_ne hL.1 hx (by omega) (by omega) fun h' tk ps F' N' => ?_
  clear F9 N9
  walk_at "goE"
  exact h _ _ _ ps F' N'
end

theorem upd_get (h : Heap) {a : Addr} {o : Obj} (ha : a < h.objs.size) (ho : ∀ c d s, o ≠ ⟨c, d, .freed, s⟩) : (h.update a fun _ => o).get? a = some o := by
  obtain ⟨objs, l⟩ := h
  obtain ⟨c, d, dt, sl⟩ := o
  have e : (Heap.update ⟨objs, l⟩ a fun _ => ⟨c, d, dt, sl⟩).objs[a]? = some ⟨c, d, dt, sl⟩ := by
    simp only [Heap.update] at ha ⊢
    rw [Array.getElem?_eq_getElem (by simpa using ha)]
    simp [Array.getElem_modify]
  unfold Heap.get?
  rw [e]
  cases dt <;> first | rfl | exact absurd rfl (ho _ _ _)
theorem upd_size (h : Heap) {a : Addr} {f : Obj → Obj} : (h.update a f).objs.size = h.objs.size := by
  obtain ⟨objs, l⟩ := h
  simp [Heap.update]
theorem base_plus {z h : Heap} {L a : Addr} {m : Str → Option Value} {o : Obj} {news : List (Addr × Obj)} (F : Fr z L h m) (N : News z L h ((a, o) :: news)) (ha : a < z.objs.size) (ho : ∀ c d s, o ≠ ⟨c, d, .freed, s⟩) (hne : ∀ q ∈ news, q.1 ≠ a) :
    ∃ z' : Heap, (∀ b o, z.get? b = some o → z'.get? b = some o) ∧ z'.get? a = some o ∧ z'.objs.size = z.objs.size ∧ Fr z' L h m ∧ News z' L h news := by
  have hz := (N _ (.head _)).2.2
  have e := upd_get z (o := o) ha ho
  refine mk1_5 (z.update a fun _ => o) (fun b o' hb => ?_) e (upd_size _) (⟨F.ns, fun b o' hb => ?_, Nat.le_trans (Nat.le_of_eq (upd_size _)) F.above⟩) (fun q hq => ⟨(N _ (.tail _ hq)).1, (N _ (.tail _ hq)).2.1, ?_⟩)
  · rw [Heap.get?_update_ne _ _ _ _ (fun q => by rw [q, hz] at hb; cases hb)]
    exact hb
  · by_cases q : b = a
    · rw [q, e] at hb
      cases hb
      rw [q]
      exact (N _ (.head _)).1
    · rw [Heap.get?_update_ne _ _ _ _ q] at hb
      exact F.keep _ _ hb
  · rw [Heap.get?_update_ne _ _ _ _ (hne _ hq)]
    exact (N _ (.tail _ hq)).2.2

theorem size292 {w : World} {z : Heap} (X : (hd0.heap_1 w.params).In z) : 292 < z.objs.size := by
  have h : ((hd0.heap_1 w.params).lookup 292).isSome = true := by kernel_rfl
  obtain ⟨o, ho⟩ := Option.isSome_iff_exists.mp h
  exact Heap.lt_size (X _ _ ho)
theorem two_of {α : Type} {l : List α} (h : l.length = 2) : ∃ a b, l = [a, b] := by
  cases l with
  | nil => cases h
  | cons a r =>
    cases r with
    | nil => cases h
    | cons b r =>
      cases r with
      | nil => exact ⟨a, b, rfl⟩
      | cons c r => cases h
theorem mapL_split {tv xv uv sv cv : Option Value} {W pen : Nat} : mapL tv xv uv W pen sv cv = fun y : Str => if y = "x" then xv else mapL tv none uv W pen sv cv y := by
  funext y
  by_cases h : y = "x"
  · subst h; rfl
  · simp [mapL, h]
section
variable {w : World} {fa : Addr} {d u : Nat} {Q : Flow → Shared → Prop} {E : Value → Shared → Prop} {s : Shared} {z : Heap} {p : Program} {loose : List Str} {mean : ExcName → Option Value} {mg mb : Str → Option Value}
set_option maxHeartbeats 1000000 in
theorem law_end {g : LG} {a : LS} {k L : Nat} {x : Int} {tx : Tok} {c1 c2 c3 : Obj} {m0 : Str → Option Value}
    (X : (hd0.heap_1 w.params).In z) (T : Top p loose mean mg mb z) (C0 : CodeHd z 286 284) (C3 : CodeHd z 291 289) (F : Fr z L s.heap (fun y : Str => if y = "x" then some (.int x tx) else m0 y))
    (N : News z L s.heap ((L + 1 + 1 + 1, c1) :: (L + 1 + 1, c2) :: (L + 1, c3) :: ((284 : Nat), tabObj #[]) :: (289, tabObj #[]) :: (g.hp, instObj 190 g.dh) :: (g.dh, hD w.params g.HT g.B g.G g.sec a.nxt a.wr a.tn a.tw) :: (g.B, tD w a.xs a.n) :: (g.G, tD w a.yg a.n2) :: a.os))
    (hg : g.Ord) (O : LawOK w g k a) (hk : k ≤ 14) (hx : 0 ≤ x ∧ x < 2 ^ 40) (hL : 292 < L) (hdh : L + 3 < g.dh) (d1 : c1.data = .cell none) (d2 : c2.data = .cell none) (d3 : c3.data = .cell (some (.ref g.hp))) (hd : d ≤ 380) (hu : u ≤ 780)
    (h : ∀ h' tk m' ps ps4, Fr z L h' m' → h'.get? 284 = some (tabObj ps4) → h'.get? 289 = some (tabObj ps) → Q (.ret (.bool true)) { s with heap := h', toks := tk }) :
    wpAny (model PR w) ((mkA d [] u).deeper (envL L fa)) (execs (lit292.1.body.drop 6) (envL L fa)) Q E s := by
  dsimp only [lit292, litMk, List.drop]
  have go := hg.1
  have I := O.inv
  have nx := O.nx
  have wr := O.wr
  have lx := O.lx
  have ly := O.ly
  refine wpAny_execs_cons ?_
  refine end6 (g := g) (nxt := a.nxt) (wr := a.wr) (tn := a.tn) (tw := a.tw) (xs := a.xs) (yg := a.yg) (n := a.n) (n2 := a.n2) (pl := #[]) (os := a.os) X T F N hg ⟨hL, hdh⟩ (fun q hq => by have := O.hos q hq; omega) d2 (by omega) (by omega) fun h6 tk6 x6 q6 T0 b6 c2' os6 up6 hos6 PL6 hb6 dc2 F6 N6 => ?_
  have O6 := (O.eok hg).mono up6 hos6
  have hno : (atKey a.xs [0, b6, 1]).isSome = false := at_false.mpr fun hm => by
    refine ea2_3 (I.kx _ hm) fun s' c' e h1 h2 => ?_
    injection e with _ e
    injection e with e1 e
    omega
  have hno2 : (atKey a.yg [0, b6, 1]).isSome = false := at_false.mpr fun hm => by
    refine ea2_3 (I.ky _ hm) fun s' c' e h1 h2 => ?_
    injection e with _ e
    injection e with e1 e
    omega
  dsimp only
  refine wpAny_execs_cons ?_
  refine end7 X T C3 F6 N6 O6 hg ⟨hL, hdh⟩ dc2 d3 PL6 hno hno2 (by omega) (by omega) fun h7 tk7 pl7 os7 up7 O7 F7 N7 => ?_
  dsimp only
  refine wpAny_execs_cons ?_
  refine end8 X T F7 N7 O7 hg ⟨hL, hdh⟩ d1 d3 ⟨nx.1, by omega⟩ ⟨wr.1, by omega⟩ (by omega) (by omega) (by omega) fun h8 tk8 kx kd k8 v8 pt q8 ts tb n8 nxt8 tn8 tw8 os8 c1' up8 O8 PL8 hts dc1 ok8 nk nd F8 N8 => ?_
  dsimp only
  refine wpAny_execs_cons ?_
  refine end9 X T F8 N8 hg O8.hos ⟨hL, hdh⟩ dc1 PL8 hts ok8 nk nd (by omega) (by omega) fun h9 tk9 v9 F9 N9 => ?_
  dsimp only
  refine wpAny_execs_cons ?_
  refine end10 (us := 2) (bo := 1) (fd := 0) X T F9 N9 hg O8.hos ⟨hL, hdh⟩ dc1 PL8 hts ok8 nk nd (by omega) (by omega) fun h10 tk10 tl a1 a2 a3 a4 otl nt F10 N10 => ?_
  dsimp only
  refine wpAny_execs_cons ?_
  refine end11 (us := 2) (bo := 1) (fd := 0) X T F10 N10 O8 hg ⟨hL, hdh⟩ dc1 PL8 hts alive2 (by omega) ⟨ok8.1, ok8.2, otl⟩ nk nd nt (by omega) (by omega) fun h11 tk11 v11 tt n11 n11' F11 O11 N11 => ?_
  dsimp only
  refine wpAny_execs_cons ?_
  obtain ⟨t0, t1, rfl⟩ : ∃ t0 t1, ts = [t0, t1] := by
    have := len2 hts
    exact two_of this
  have hno3 : (atKey (dropX (putX (.bytes #[97, 98, 99] tb) a.xs [t0, t1]) [t0, t1]) t0.1).isSome = false := at_false.mpr fun hm => (mem_dropX.mp hm).2 (.head _)
  have hgo3 : (atKey (putX (.int 5 tt) a.yg [t0, t1]) t0.1).isSome = true := alive2 t0 (.head _)
  refine end12 (nx0 := 0) (us := 0) (bo := 1) (fd := 1) X T C3 F11 N11 O11 hg ⟨hL, hdh⟩ dc1 d3 PL8 hno3 hgo3 ⟨ok8.1, ok8.2, otl⟩ nk nd nt (by omega) (by omega) fun h12 tk12 D b1 b2 b3 b4 ps oD F12 N12 => ?_
  dsimp only
  refine wpAny_execs_cons ?_
  have z292 := size292 X
  refine ea1_5 (base_plus (a := 289) (o := tabObj ps) (news := [(D, _), ((284 : Nat), tabObj #[])]) F12 (subl_of N12 (by walk_at "subl")) (Nat.lt_trans (show (289 : Nat) < 292 by decide) z292) (fun _ _ _ q => by cases q) (fun q hq => by
    rcases List.mem_cons.mp hq with rfl | hq
    · exact Nat.ne_of_gt (Nat.lt_trans (show (289 : Nat) < 292 by decide) oD)
    · rw [List.mem_singleton.mp hq]
      exact show (284 : Nat) ≠ 289 by decide)) fun z' up hz9 sz F12' N12' => ?_
  refine end13 (z := z') (m0 := fun y : Str => if y = "keeper" then some (.ref kx) else m0 y) (x := x) (tx := tx) (X.keeps up) (T.keeps up) ?_ N12' (C0.keeps up) hx ⟨hL, oD⟩ (by omega) (by omega) fun h13 tk13 m' ps4 F13 N13 => h _ _ m' ps ps4 ⟨F13.ns, fun b o e => F13.keep b o (up b o e), sz ▸ F13.above⟩ (N13 _ (.head _)).1 (F13.keep _ _ hz9)
  refine fr_cg F12' ?_
  funext y
  by_cases e1 : y = "told"
  · subst e1; rfl
  by_cases e2 : y = "keeper"
  · subst e2; rfl
  by_cases e3 : y = "x"
  · subst e3; rfl
  simp [mapT, mapK, e1, e2, e3]
set_option maxHeartbeats 400000 in
theorem law_body {L S0 : Nat} {vs : List Value} {ns : List Int} {c1 c2 c3 : Obj}
    (X : (hd0.heap_1 w.params).In z) (T : Top p loose mean mg mb z) (C0 : CodeHd z 286 284) (C1 : CodeHd z 274 272) (C2 : CodeHd z 281 277) (C3 : CodeHd z 291 289) (F : Fr z L s.heap (fun y : Str => if y = "script" then some (.ref S0) else none))
    (N : News z L s.heap [(L + 1 + 1 + 1, c1), (L + 1 + 1, c2), (L + 1, c3), ((284 : Nat), tabObj #[]), (272, tabObj #[]), (277, tabObj #[]), (289, tabObj #[])]) (hS : z.IsList S0 vs.toArray) (hv : IntsAre vs ns) (hns : ns.length ≤ 63) (d1 : c1.data = .cell none) (d2 : c2.data = .cell none) (d3 : c3.data = .cell none) (hL : 292 < L) (hd : d ≤ 380) (hu : u ≤ 780)
    (h : ∀ h' tk m', Fr z L h' m' → GrownAll [(286, 284), (274, 272), (281, 277), (291, 289)] h' → Q (.ret (.bool true)) { s with heap := h', toks := tk }) :
    wpAny (model PR w) ((mkA d [] u).deeper (envL L fa)) (execs lit292.1.body (envL L fa)) Q E s := by
  refine law_front X T C1 C2 F N hS hv hns d3 hL (by omega) (by omega) fun h' tk g a k pen sc tv x tx uv cv c3' hg O hk hdh x0 x1 hc F1 N1 => ?_
  rw [mapL_split] at F1
  have z292 := size292 X
  have go := hg.1
  have hos := O.hos
  have ne : ∀ q ∈ (L + 1 + 1 + 1, c1) :: (L + 1 + 1, c2) :: (L + 1, c3') :: ((284 : Nat), tabObj #[]) :: (289, tabObj #[]) :: (g.hp, instObj 190 g.dh) :: (g.dh, hD w.params g.HT g.B g.G g.sec a.nxt a.wr a.tn a.tw) :: (g.B, tD w a.xs a.n) :: (g.G, tD w a.yg a.n2) :: a.os, q.1 ≠ (272 : Nat) ∧ q.1 ≠ (277 : Nat) := fun q hq => by
    simp only [List.mem_cons] at hq
    rcases hq with rfl | rfl | rfl | rfl | rfl | rfl | rfl | rfl | rfl | hq
    all_goals first | (have := hos q hq; exact ⟨by omega, by omega⟩) | (dsimp only; exact ⟨by omega, by omega⟩)
  refine ea1_5 (base_plus F1 N1 (Nat.lt_trans (show (272 : Nat) < 292 by decide) z292) (fun _ _ _ q => by cases q) (fun q hq => by
    rcases List.mem_cons.mp hq with rfl | hq
    · exact show (277 : Nat) ≠ 272 by decide
    · exact (ne q hq).1)) fun z1 up1 hz1 sz1 F2 N2 => ?_
  refine ea1_5 (base_plus F2 N2 (sz1 ▸ Nat.lt_trans (show (277 : Nat) < 292 by decide) z292) (fun _ _ _ q => by cases q) (fun q hq => (ne q hq).2)) fun z2 up2 hz2 sz2 F3 N3 => ?_
  refine law_end (z := z2) ((X.keeps up1).keeps up2) ((T.keeps up1).keeps up2) ((C0.keeps up1).keeps up2) ((C3.keeps up1).keeps up2) F3 N3 hg O hk ⟨x0, x1⟩ hL hdh d1 d2 hc hd hu fun h2 tk2 m' ps ps4 F4 e4 e9 => h h2 tk2 m' ⟨F4.ns, fun b o e => F4.keep b o (up2 b o (up1 b o e)), ?_⟩ ⟨⟨_, e4⟩, ⟨_, F4.keep _ _ (up2 _ _ hz1)⟩, ⟨_, F4.keep _ _ hz2⟩, ⟨_, e9⟩, trivial⟩
  have := F4.above
  omega
end

set_option maxHeartbeats 8000000 in
theorem joinT : PySem.Challenge.rw_np0182_01.Holds := by
  refine hd0 ?_
  k_go0
  rename Fr _ _ _ _ => F9
  rename Frag.In _ _ => X9
  refine law_body X9 (by with_reducible assumption) (by with_reducible assumption) (by with_reducible assumption) (by with_reducible assumption) (by with_reducible assumption) F9 (by with_reducible assumption) (by with_reducible assumption) (by with_reducible assumption) (by omega) (by refine Eq.trans (by with_reducible assumption) ?_; kernel_rfl) (by refine Eq.trans (by with_reducible assumption) ?_; kernel_rfl) (by refine Eq.trans (by with_reducible assumption) ?_; kernel_rfl) (Nat.lt_of_lt_of_le (size292 X9) F9.above) (by decide) (by decide) fun h' tk m' F G9 => ⟨?_, G9⟩
  clear F9
  wrow_close


end Mine
theorem PySem.Challenge.cw_np0182_01_holds : PySem.Challenge.rw_np0182_01.Holds :=
  Mine.joinT
