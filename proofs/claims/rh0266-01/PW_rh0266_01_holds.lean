import PyProof.Rows.All
import Wide.All
import OpenK.AllK
import Wide.FinOn
import Lean
import PySem.Challenge.RW_rh0266_01
open PySem PySem.W PySem.Calls PyProof.Rows
set_option Elab.async false
set_option maxRecDepth 100000
set_option maxHeartbeats 8000000
set_option linter.unusedVariables false
namespace Mine
/-! The head, said by hand: the kit's own head lays the whole top out in pieces, whose twins alone fill 16 MB of the compiled file. Here the run of the top is one look through the library's own quick form of the run (the twins named below stand in the library). -/
noncomputable abbrev rr : RowW := OpenRow.toRowW (OpenLaw.row PySem.Challenge.rw_rh0266_01)
noncomputable def qv : Program := view (RowW.prog rr) [1, 2, 3, 4, 5, 6, 7, 8, 9, 10, 11, 12, 14, 15, 16, 17, 18, 19, 20, 21, 22, 23, 25, 26, 27, 28, 29, 30, 31, 32, 33]
theorem said_ok : OpenLaw.wellSaid PySem.Challenge.rw_rh0266_01 = true := by
  rw [PySem.W.Fast.te9446332074065402090]
  kernel_rfl
theorem top_seen (w : World) (os : OsState) : (topFrom treeTable (RowW.prog rr) w 2182 ⟨boot_heap w.params, Array.mk [], boot_drawn, boot_toks, os⟩).map (fun s => openSeen qv [] (importedModules (RowW.prog rr).main.body) (fun s => xlAt qv [] s && recOk (RowW.records rr) s) true s) = some (openGood qv []) := by
  unfold topFrom
  rw [PySem.W.Fast.te14082659384304107361, PySem.W.Fast.te14364793385576792824]
  kernel_rfl
theorem map_two {α β γ : Type} {x : Option α} {f : α → β} {g : α → γ} {b : β} {c : γ} (hf : x.map f = some b) (hg : x.map g = some c) : x.map (fun s => (f s, g s)) = some (b, c) := by
  cases x with
  | none => exact nomatch hf
  | some a => cases hf; cases hg; rfl
theorem left_of {p q : Program} {loose : List Str} {Xt : Shared → Bool} {α : Type} {Yf : Shared → α} {Ya : World → α} {N : Nat} (e : opening p = plainProg p.main.scope.names) (hN : Nat.ble 600 N = true) (f : ∀ s, fenceModules? p s = some s)
    (h : ∀ (w : World) (os : OsState), (topFrom treeTable p w N ⟨boot_heap w.params, Array.mk [], boot_drawn, boot_toks, os⟩).map (fun s => openSeen q loose (importedModules p.main.body) Xt true s) = some (openGood q loose))
    (h' : ∀ (w : World) (os : OsState), (topFrom treeTable p w N ⟨boot_heap w.params, Array.mk [], boot_drawn, boot_toks, os⟩).map Yf = some (Ya w)) :
    LeftO p q loose Xt Yf Ya N := fun w => by
  obtain ⟨⟨hp, gs, d, k, os⟩, e1, e2⟩ := Option.map_eq_some_iff.mp (boot_open e hN f w)
  obtain ⟨rfl, rfl, rfl, rfl⟩ : hp = boot_heap w.params ∧ gs = Array.mk [] ∧ d = boot_drawn ∧ k = boot_toks := by simpa using e2
  unfold openEnds
  rw [e1]
  exact map_two (h w os) (h' w os)
local macro_rules | `(tactic| o_law) => `(tactic| refine holds_law said_ok fun said => ?_)
local macro_rules | `(tactic| o_head $H) => `(tactic| (
  apply holds_open (q := qv) (loose := []) (Xt := fun s => xlAt qv [] s && recOk (RowW.records rr) s) (XP := XL qv []) (Yf := Hook.obs $H) (Ya := Hook.val $H) (YP := Hook.says $H) (N := 2182)
    (left := left_of (by kernel_rfl) (by decide) (fun _ => by kernel_rfl) top_seen (fun w os => by
      unfold topFrom
      rw [PySem.W.Fast.te14082659384304107361, PySem.W.Fast.te14364793385576792824]
      kernel_rfl))
    (hY := Hook.of $H) (hYk := Hook.keeps $H) (hX := fun s e => xl_of s (Bool.and_eq_true_iff.mp e).1) (hXk := XL.keeps) (hdef := by rfl) (hp := by rfl) (hk := by rfl) (hRf := fun s e => recFacts_of (Bool.and_eq_true_iff.mp e).2) (hwr := by rfl) (k1 := by first | assumption | decide +kernel) (ok := by decide +kernel) (hb := ⟨rfl, rfl, rfl, rfl, rfl, by decide +kernel⟩)))
open_top hd for PySem.Challenge.rw_rh0266_01
theorem off_Base : True := by
  w_top off
  trivial
section
/-- entering a plain def of the text from any state, the ledger `sub` carried, the rest in the base `g` -/
theorem enterC {prog : Program} {w : World} {A : Around} {s : Shared} {g : Heap} {K : Frag} {sub : List (Addr × Obj)} {p : Program} {loose : List Str} {mean : ExcName → Option Value} {mg mb : Str → Option Value}
    {name qual : Str} {params : Arguments} {body : List Stmt} {scope : Scope} {dV kV doc pm cdv ct oc : Value} {an od : Option Addr} {osl : Array (Option Value)} {f : Addr} {vs : List Value} {kw : List (Str × Value)} {binds : List (Str × Value)} {Q E : Value → Shared → Prop}
    (k : g.StaysIn s.heap) (hsz : g.objs.size ≤ s.heap.objs.size) (X : K.In g) (T : Top p loose mean mg mb g)
    (S : ∀ q ∈ sub, s.heap.get? q.1 = some q.2 ∧ g.get? q.1 = none)
    (ho : K.lookup f = some ⟨oc, od, .func (fnOf name qual params body scope dV kV doc pm an cdv ct), osl⟩) (hcd : codeIn K cdv qual = true) (hroom : A.depth < recursionLimit)
    (hbind : BindsTo s (fnOf name qual params body scope dV kV doc pm an cdv ct) ⟨vs, kw⟩ binds) (hloc : ∀ y ∈ binds, scope.names.lookup y.1 = some .local)
    (hcell : ∀ x ∈ scope.names, x.2 ≠ .cell) (hco : scope.isCoroutine = false) (hgen : scope.isGenerator = false) (hk : scope.kind = .function)
    (h : ∀ L' h₁, Fr g L' h₁ (fun y => binds.reverse.lookup y) → News g L' h₁ sub → AllLt L' sub →
      wpAny (model prog w) (A.deeper (envOf qual scope L' f cdv)) (execs body (envOf qual scope L' f cdv))
        (fun fl s' => Q (match fl with | .ret v => v | _ => .none) s') (fun _ _ => False)
        { s with heap := h₁, toks := s.toks + binds.length }) : wpAny (model prog w) A (call (.ref f) vs kw) Q E s := by
  refine wpAny_call ?_
  have X' : K.In s.heap := X.keeps k
  refine codeAny_call_def (fd := fnOf name qual params body scope dV kV doc pm an cdv ct) (body := body) (binds := binds) hroom (X' _ _ ho) rfl (T.nolimit.keeps k) (codeRec_of X' hcd) rfl hbind hcell hloc (fun h₁ hns hk₁ => ?_) hco hgen hk
  refine wpAny_mono (h s.heap.objs.size h₁ ⟨hns, fun b o e => hk₁ b o (k b o e), hsz⟩ (fun q hq => ⟨hk₁ _ _ (S q hq).1, Nat.ne_of_lt (Heap.lt_size (S q hq).1), (S q hq).2⟩) (allLt_of fun q hq => Heap.lt_size (S q hq).1)) (fun fl s' hq => hq) fun _ _ x => x.elim

/-- the same for a def with captured names -/
theorem enterCC {prog : Program} {w : World} {A : Around} {s : Shared} {g : Heap} {K : Frag} {sub : List (Addr × Obj)} {p : Program} {loose : List Str} {mean : ExcName → Option Value} {mg mb : Str → Option Value}
    {name qual : Str} {params : Arguments} {body : List Stmt} {scope : Scope} {dV kV doc pm cdv ct oc : Value} {an od : Option Addr} {osl : Array (Option Value)} {f : Addr} {vs : List Value} {kw : List (Str × Value)} {binds : List (Str × Value)} {Q E : Value → Shared → Prop}
    (k : g.StaysIn s.heap) (hsz : g.objs.size ≤ s.heap.objs.size) (X : K.In g) (T : Top p loose mean mg mb g)
    (S : ∀ q ∈ sub, s.heap.get? q.1 = some q.2 ∧ g.get? q.1 = none)
    (ho : K.lookup f = some ⟨oc, od, .func (fnOf name qual params body scope dV kV doc pm an cdv ct), osl⟩) (hcd : codeIn K cdv qual = true) (hroom : A.depth < recursionLimit)
    (hbind : BindsTo s (fnOf name qual params body scope dV kV doc pm an cdv ct) ⟨vs, kw⟩ binds)
    (hkind : (binds.all fun y => scope.names.lookup y.1 == some .local || scope.names.lookup y.1 == some .cell) = true)
    (hnd : ((cellsFrom 0 scope.names []).map (·.1)).Nodup) (hco : scope.isCoroutine = false) (hgen : scope.isGenerator = false) (hk : scope.kind = .function)
    (h : ∀ L' h₁ tk cells, Fr g L' h₁ (bindL (envOfC qual scope L' f cdv).kindOf binds fun _ => none) → News g L' h₁ (cells ++ sub) →
      CellsAre (bindC (envOfC qual scope L' f cdv).kindOf binds fun _ => none) (cellsFrom (L' + 1) scope.names []) cells → AllLt L' sub →
      wpAny (model prog w) (A.deeper (envOfC qual scope L' f cdv)) (execs body (envOfC qual scope L' f cdv))
        (fun fl s' => Q (match fl with | .ret v => v | _ => .none) s') (fun _ _ => False)
        { s with heap := h₁, toks := tk }) : wpAny (model prog w) A (call (.ref f) vs kw) Q E s := by
  refine wpAny_call ?_
  have X' : K.In s.heap := X.keeps k
  refine codeAny_call_function hroom (X' _ _ ho) rfl hco hgen rfl (codeRec_of X' hcd) (hbind _ _ _ _ ?_)
  refine wpAny_newFunctionEnv_cells hk (kindsX hkind _) fun env' he s' x => ?_
  subst he
  refine ⟨(T.nolimit.keeps k).keeps x.toInCall.keep, codeAny_func ?_⟩
  obtain ⟨h₁, tk, rfl, _⟩ := x.done
  have hk₁ := x.toInCall.keep
  obtain ⟨cells, NC, Y⟩ := Cl.news (h₀ := s.heap) (Nat.le_refl _) fun n c hm => ⟨x.cell n c (lookup_of_mem_nodup (cellsFrom_names scope.names 0 (s.heap.objs.size + 1) [] [] rfl ▸ hnd) hm), x.above n c hm⟩
  refine wpAny_mono (h s.heap.objs.size h₁ tk cells ⟨x.toInCall.ns, fun b o e => hk₁ b o (k b o e), hsz⟩ (fun q hq => ?_) Y (allLt_of fun q hq => Heap.lt_size (S q hq).1)) (fun fl s' hq => hq) fun _ _ x => x.elim
  rcases List.mem_append.mp hq with hq | hq
  · refine ⟨(NC q hq).1, (NC q hq).2.1, ?_⟩
    cases e : g.get? q.1 with
    | none => rfl
    | some o => have := k _ _ e; rw [(NC q hq).2.2] at this; cases this
  · exact ⟨hk₁ _ _ (S q hq).1, Nat.ne_of_lt (Heap.lt_size (S q hq).1), (S q hq).2⟩

/-- a caller's frame and ledger behind a call that turned the object at d alone -/
structure Part (h₀ : Heap) (L : Addr) (h g : Heap) (m : Str → Option Value) (d : Addr) (o : Obj) (upd : Obj → List (Addr × Obj)) : Prop where
  stays : g.StaysIn h
  size : g.objs.size ≤ h.objs.size
  base : h₀.StaysIn g
  at_ : h.get? d = some o
  hid : g.get? d = none
  back : ∀ h' o', g.StaysIn h' → h'.get? d = some o' → Fr h₀ L h' m ∧ News h₀ L h' (upd o')

theorem part_of {h₀ h : Heap} {L : Addr} {m : Str → Option Value} {news : List (Addr × Obj)} {d : Addr} {o : Obj} {upd : Obj → List (Addr × Obj)}
    (F : Fr h₀ L h m) (N : News h₀ L h news) (U : UpdF d o news upd) : Part h₀ L h (h.hide d) m d o upd := by
  obtain ⟨pre, post, rfl, hg, h1, h2⟩ := U.split
  have hmem := N (d, o) (List.mem_append_right _ (.head _))
  have hb : h₀.StaysIn (h.hide d) := fun b ob e => (Heap.hide_ne h (fun q => by rw [q, hmem.2.2] at e; cases e)).trans (F.keep b ob e)
  refine ⟨fun b ob e => Heap.of_hide e, Nat.le_of_eq (Heap.hide_size h d), hb, hmem.1, Heap.hide_self _ _, fun h' o' st ho' => ⟨?_, ?_⟩⟩
  · obtain ⟨oL, es, ep, hL, r⟩ := F.ns
    exact ⟨⟨oL, es, ep, st _ _ ((Heap.hide_ne h hmem.2.1.symm).trans hL), r⟩, fun b ob e => st _ _ (hb b ob e), F.above⟩
  · rw [hg]
    intro p hp
    rcases List.mem_append.mp hp with q | q
    · have P := N p (List.mem_append_left _ q)
      exact ⟨st _ _ ((Heap.hide_ne h (h1 p q)).trans P.1), P.2⟩
    · rcases List.mem_cons.mp q with rfl | q
      · exact ⟨ho', hmem.2⟩
      · have P := N p (List.mem_append_right _ (.tail _ q))
        exact ⟨st _ _ ((Heap.hide_ne h (h2 p q)).trans P.1), P.2⟩

theorem grown_of {h₀ h h' : Heap} {L : Addr} {m : Str → Option Value} {news : List (Addr × Obj)} (F : Fr h₀ L h m) (N : News h₀ L h news) (st : h.StaysIn h') : Fr h₀ L h' m ∧ News h₀ L h' news := by
  obtain ⟨oL, es, ep, hL, r⟩ := F.ns
  exact ⟨⟨⟨oL, es, ep, st _ _ hL, r⟩, fun b ob e => st _ _ (F.keep b ob e), F.above⟩, fun p hp => ⟨st _ _ (N p hp).1, (N p hp).2⟩⟩

/-- a new object behind a call -/
theorem news_new {h₀ h h' : Heap} {L l : Addr} {m : Str → Option Value} {news' : List (Addr × Obj)} {o : Obj} (F : Fr h₀ L h m) (N' : News h₀ L h' news') (hl : h.objs.size ≤ l) (ho : h'.get? l = some o) : News h₀ L h' ((l, o) :: news') := by
  intro p hp
  rcases List.mem_cons.mp hp with rfl | hp
  · obtain ⟨oL, es, ep, hL, r⟩ := F.ns
    refine ⟨ho, fun q => ?_, ?_⟩
    · have := Heap.lt_size hL; rw [← q] at this; exact absurd hl (Nat.not_le.mpr this)
    · cases e : h₀.get? l with
      | none => rfl
      | some o' => exact absurd hl (Nat.not_le.mpr (Heap.lt_size (F.keep _ _ e)))
  · exact N' p hp
theorem news_fresh {h₀ h h' : Heap} {L l : Addr} {m : Str → Option Value} {news' : List (Addr × Obj)} {o : Obj} (F : Fr h₀ L h m) (N' : News h₀ L h' news') (hl : h.get? l = none) (ho : h'.get? l = some o) : News h₀ L h' ((l, o) :: news') := by
  intro p hp
  rcases List.mem_cons.mp hp with rfl | hp
  · obtain ⟨oL, es, ep, hL, r⟩ := F.ns
    refine ⟨ho, fun q => ?_, ?_⟩
    · have q' : l = L := q
      rw [q', hL] at hl; cases hl
    · cases e : h₀.get? l with
      | none => rfl
      | some o' => rw [F.keep _ _ e] at hl; cases hl
  · exact N' p hp
def AllNe (d : Addr) : List (Addr × Obj) → Prop
  | [] => True
  | p :: r => @Ne Nat p.1 d ∧ AllNe d r
theorem ne_fresh {h₀ h : Heap} {L l : Addr} (hl : h.get? l = none) : ∀ {news : List (Addr × Obj)}, News h₀ L h news → AllNe l news
  | [], _ => trivial
  | p :: r, N => ⟨(fun e => by have h1 := (N p (.head _)).1; have e' : p.1 = l := e; rw [e', hl] at h1; exact nomatch h1), ne_fresh hl fun q hq => N q (.tail _ hq)⟩
theorem lt_new {h₀ h : Heap} {L l : Addr} {news : List (Addr × Obj)} (N : News h₀ L h news) (hl : h.objs.size ≤ l) : AllLt l news := allLt_of fun p hp => Nat.lt_of_lt_of_le (Heap.lt_size (N p hp).1) hl
end
theorem off_B2 : True := by
  w_top off
  trivial
section
theorem wp_top {M : Model} {α : Type} {t : Sem α} {Q : α → Shared → Prop} {E : Value → Shared → Prop} {s : Shared} {A : Around} {d u : Nat}
    (h : wpAny M ⟨none, d, none, none, u⟩ t Q E s) (hh : A.handled = none) (hd : Nat.ble A.depth d = true) (hu : Nat.ble A.units u = true) : wpAny M A t Q E s :=
  fun Γ p hΓ => h Γ p ⟨hΓ.1.trans hh, Nat.le_trans hΓ.2.1 (Nat.le_of_ble_eq_true hd), (fun _ hl => nomatch hl), (fun _ hl => nomatch hl), Nat.le_trans hΓ.2.2.2.2 (Nat.le_of_ble_eq_true hu)⟩

theorem stays_refl (h : Heap) : h.StaysIn h := fun _ _ e => e
abbrev At (d u : Nat) : Around := ⟨none, d, none, none, u⟩

-- fills the tools' table of the written part
theorem fill_first (P : Params) : PySem.Challenge.rw_rh0266_01.prog = PySem.Challenge.rw_rh0266_01.prog ∧ hd.heap_1 P = hd.heap_1 P := by
  k_fill
  exact ⟨rfl, rfl⟩


def up (x : Int) : Int := if 97 ≤ x ∧ x ≤ 122 then x - 32 else x

theorem upper_P {prog : Program} {w : World} {mean mg mb} {s : Shared} {x : Int} {t : Tok} {Q E : Value → Shared → Prop} (X : (hd.heap_1 w.params).In s.heap) (T : Top qv (looseW qv []) mean mg mb s.heap)
    (ret : ∀ t' h' tk, s.heap.StaysIn h' → Q (.int (up x) t') { s with heap := h', toks := tk }) :
    wpAny (model prog w) (At 800 8000) (call (.ref 21) [.int x t]) Q E s := by
  (refine' enterC (g := _) (sub := _) ?k_1 ?sz_1 ?X_1 ?T_1 ?S_1 ?ho_1 ?hcd_1 ?hroom_1 ?hb_1 ?hloc_1 ?hcell_1 ?c1_1 ?c2_1 ?c3_1 ?_; (case k_1 => first | assumption | exact stays_refl _); (case X_1 => with_reducible assumption); (case sz_1 => first | assumption | exact Nat.le_refl _); (case T_1 => with_reducible assumption); (case S_1 => first | assumption | exact List.forall_mem_nil _); (case ho_1 => k_is); (case hcd_1 => k_is); (case hroom_1 => exact Nat.le_of_ble_eq_true rfl); (case hb_1 => exact BindsTo.of_eq rfl); (case hloc_1 => exact locs rfl); (case hcell_1 => decide); (case c1_1 => exact rfl); (case c2_1 => exact rfl); (case c3_1 => exact rfl); intro xL xh xF xN xl; (try dsimp only at xF); (try simp only [AllLt, and_true] at xl); (try dsimp only); k_fold)
  (repeat' (first | (k_unfold; (try dsimp only)) | (walk1 <;> (try dsimp only))))
  all_goals first
    | (rw [show up x = x - 32 from if_pos (by omega)] at ret; exact ret _ _ _ (Fr.keep (by assumption)))
    | (rw [show up x = x from if_neg (by omega)] at ret; exact ret _ _ _ (Fr.keep (by assumption)))

def DealO (g : Heap) (o : Obj) : Prop := ∃ nu i sd t1 t2 n vs ns, o = listOf #[.ref nu, .int i t1, .int sd t2] n ∧ g.IsList nu vs.toArray ∧ IntsAre vs ns ∧ ns.length ≤ 63 ∧ 0 ≤ i ∧ i ≤ ns.length ∧ (∀ x ∈ ns, 0 ≤ x ∧ x < 1000003) ∧ 0 ≤ sd ∧ sd < 2147483647

theorem take_C {prog : Program} {w : World} {mean mg mb} {b₀ g : Heap} {s : Shared} {d : Addr} {o : Obj} {many : Int} {t : Tok} {Q E : Value → Shared → Prop} (k : g.StaysIn s.heap) (hsz : g.objs.size ≤ s.heap.objs.size)
    (X : (hd.heap_1 w.params).In g) (T : Top qv (looseW qv []) mean mg mb g) (ho : s.heap.get? d = some o) (hg : g.get? d = none) (hb : b₀.StaysIn g) (D : DealO b₀ o) (m0 : 0 < many) (m1 : many < 1000)
    (ret : ∀ r t' h' tk o', 0 ≤ r → r < many → g.StaysIn h' → h'.get? d = some o' → DealO b₀ o' → Q (.int r t') { s with heap := h', toks := tk }) :
    wpAny (model prog w) (At 800 8000) (call (.ref 144) [.ref d, .int many t]) Q E s := by
  obtain ⟨nu, i, sd, t1, t2, n, vs, ns, rfl, hl0, hi, hlen, i0, i1, hns, s0, s1⟩ := D
  have hl : g.IsList nu vs.toArray := stays_list hb hl0
  have S : ∀ q ∈ [(d, listOf #[.ref nu, .int i t1, .int sd t2] n)], s.heap.get? q.1 = some q.2 ∧ g.get? q.1 = none := by
    intro q hq; cases hq with | head => exact ⟨ho, hg⟩ | tail _ h => cases h
  (refine' enterC (g := _) (sub := _) ?k_3 ?sz_3 ?X_3 ?T_3 ?S_3 ?ho_3 ?hcd_3 ?hroom_3 ?hb_3 ?hloc_3 ?hcell_3 ?c1_3 ?c2_3 ?c3_3 ?_; (case k_3 => first | assumption | exact stays_refl _); (case X_3 => with_reducible assumption); (case sz_3 => first | assumption | exact Nat.le_refl _); (case T_3 => with_reducible assumption); (case S_3 => first | assumption | exact List.forall_mem_nil _); (case ho_3 => k_is); (case hcd_3 => k_is); (case hroom_3 => exact Nat.le_of_ble_eq_true rfl); (case hb_3 => exact BindsTo.of_eq rfl); (case hloc_3 => exact locs rfl); (case hcell_3 => decide); (case c1_3 => exact rfl); (case c2_3 => exact rfl); (case c3_3 => exact rfl); intro xL xh xF xN xl; (try dsimp only at xF); (try simp only [AllLt, and_true] at xl); (try dsimp only); k_fold)
  (repeat' (first | (k_unfold; (try dsimp only)) | (walk1 <;> (try dsimp only))))
  · have fm := Int.emod_nonneg (ns.getD (i + 1 - 1).toNat 0) (Int.ne_of_gt m0)
    have fl := Int.emod_lt_of_pos (ns.getD (i + 1 - 1).toNat 0) m0
    refine ret _ _ _ _ _ ?_ ?_ (Fr.keep (by assumption)) (News.get (by assumption) (.head _)) ⟨nu, _, _, _, _, _, vs, ns, rfl, hl0, hi, hlen, by omega, by omega, hns, s0, s1⟩
    · rw [Int.fmod_eq_emod_of_nonneg _ (Int.le_of_lt m0)]; exact fm
    · rw [Int.fmod_eq_emod_of_nonneg _ (Int.le_of_lt m0)]; exact fl
  · have e1 : (sd * 16807 + 523).fmod 2147483647 = (sd * 16807 + 523) % 2147483647 := Int.fmod_eq_emod_of_nonneg _ (by decide)
    have fm := Int.emod_nonneg (((sd * 16807 + 523).fmod 2147483647).fdiv 64) (Int.ne_of_gt m0)
    have fl := Int.emod_lt_of_pos (((sd * 16807 + 523).fmod 2147483647).fdiv 64) m0
    refine ret _ _ _ _ _ ?_ ?_ (Fr.keep (by assumption)) (News.get (by assumption) (.head _)) ⟨nu, _, _, _, _, _, vs, ns, rfl, hl0, hi, hlen, by omega, by omega, hns, by omega, by omega⟩
    · rw [Int.fmod_eq_emod_of_nonneg _ (Int.le_of_lt m0)]; exact fm
    · rw [Int.fmod_eq_emod_of_nonneg _ (Int.le_of_lt m0)]; exact fl

/-- the draw, from a frame with a ledger -/
theorem take_F {prog : Program} {w : World} {mean mg mb} {A : Around} {b₀ h₀ : Heap} {L : Addr} {m : Str → Option Value} {news : List (Addr × Obj)} {upd : Obj → List (Addr × Obj)} {s : Shared} {d : Addr} {o : Obj} {many : Int} {t : Tok} {Q E : Value → Shared → Prop}
    (F : Fr h₀ L s.heap m) (N : News h₀ L s.heap news) (X : (hd.heap_1 w.params).In h₀) (T : Top qv (looseW qv []) mean mg mb h₀) (U : UpdF d o news upd) (hb : b₀.StaysIn h₀) (D : DealO b₀ o)
    (hh : A.handled = none) (hd : Nat.ble A.depth 800 = true) (hu : Nat.ble A.units 8000 = true) (m0 : 0 < many) (m1 : many < 1000)
    (ret : ∀ r t' h' tk o', 0 ≤ r → r < many → Fr h₀ L h' m → News h₀ L h' (upd o') → DealO b₀ o' → Q (.int r t') { s with heap := h', toks := tk }) :
    wpAny (model prog w) A (call (.ref 144) [.ref d, .int many t]) Q E s := by
  have P := part_of F N U
  refine wp_top (take_C P.stays P.size (X.keeps P.base) (T.keeps P.base) P.at_ P.hid (fun b ob e => P.base b ob (hb b ob e)) D m0 m1 fun r t' h' tk o' r0 r1 st ho' D' => ?_) hh hd hu
  obtain ⟨F', N'⟩ := P.back h' o' st ho'
  exact ret r t' h' tk o' r0 r1 F' N' D'
end
theorem off_Cmp : True := by
  w_top off
  trivial
section
/-- an iterator's turns, with its own `iter` -/
structure CT (prog : Program) (w : World) (A : Around) (target : Expr) (I : Addr) (fp wr : List Addr) (n : Nat) (P Md : Nat → Value → Heap → Prop) (St : Nat → Heap → Prop) : Prop where
  turns : KTurns prog w A target I fp wr n P Md St
  self : ∀ i (s : Shared) (Q : Value → Shared → Prop) (E : Value → Shared → Prop), St i s.heap → Q (.ref I) s → wpAny (model prog w) A (pyIter (.ref I)) Q E s

/-- the part of a heap below an address -/
def trunc (h : Heap) (C : Addr) : Heap := { h with objs := h.objs.extract 0 C }
theorem trunc_lt {h : Heap} {C b : Addr} (hb : b < C) : (trunc h C).get? b = h.get? b := by
  unfold trunc Heap.get?
  have : (h.objs.extract 0 C)[b]? = h.objs[b]? := by
    rw [Array.getElem?_extract]; simp
    intro hh; have hb' : @LT.lt Nat _ b C := hb; simp only [Addr] at *; omega
  rw [this]
theorem trunc_size (h : Heap) (C : Addr) : (trunc h C).objs.size ≤ C := by unfold trunc; rw [Array.size_extract]; omega
theorem trunc_some {h : Heap} {C b : Addr} {o : Obj} (e : (trunc h C).get? b = some o) : b < C ∧ h.get? b = some o := by
  have hb : b < C := Nat.lt_of_lt_of_le (Heap.lt_size e) (trunc_size h C)
  exact ⟨hb, (trunc_lt hb) ▸ e⟩

abbrev testsOf (ifs : List Expr) (env : Env) : Sem Bool := forIn ifs true fun c r => if r = true then do let ok ← isTrue c env (eval c env); pure (ForInStep.yield ok) else pure (ForInStep.yield r)

section
variable {prog : Program} {w : World} {A : Around} {E : Value → Shared → Prop} {R : Result → Shared → Prop} {s : Shared}

theorem loop_go {elt target iter : Expr} {ifs : List Expr} {scope : Scope} {pos : Pos} {it acc : Value} {env : Env} (I : Nat → Shared → Prop)
    (turn : ∀ n s, I n s → wpAny (model prog w) A (pyNext it) (fun r s₁ => match r with
      | none => R (.ok .next) s₁
      | some v => wpAny (model prog w) A (letOwnedTupleGo target it v) (fun _ s₁' => wpAny (model prog w) A (assign target env v) (fun _ s₂ =>
          wpAny (model prog w) A (testsOf ifs env) (fun ok s₃ =>
            if ok = true then wpAny (model prog w) A (eval elt env) (fun x s₄ =>
              wpAny (model prog w) A (call (.builtin "list.append") [acc, x]) (fun _ s₅ => ∃ m, m < n ∧ I m s₅) (fun _ _ => False) s₄) (fun _ _ => False) s₃
            else ∃ m, m < n ∧ I m s₃) (fun _ _ => False) s₂) (fun _ _ => False) s₁') (fun _ _ => False) s₁) (fun _ _ => False) s)
    (n : Nat) (h : I n s) :
    codeAny (model prog w) A (.compLoop (.ListComp elt [⟨target, iter, ifs, 0⟩] scope pos) 0 it acc env) R s := by
  refine codeAny_loop rfl I (fun n s hI => ?_) n h
  show wpAny _ A ((compTurn (.ListComp elt [⟨target, iter, ifs, 0⟩] scope pos) 0 it acc env).onRaise (fun x => do noteFrame x env; theTreesLotGoes x)) _ _ s
  refine wpAny_noted ?_
  rw [compTurn_list]
  refine wpAny_bind (wpAny_standAt (wpAny_bind (wpAny_mono (turn n s hI) (fun r s₁ h₁ => ?_) fun _ _ h' => h'.elim)))
  cases r with
  | none => exact wpAny_pure h₁
  | some v =>
    refine wpAny_bind (wpAny_mono h₁ (fun _ s₁' h₁' => ?_) fun _ _ h' => h'.elim)
    refine wpAny_bind (wpAny_mono h₁' (fun _ s₂ h₂ => wpAny_bind (wpAny_mono h₂ (fun ok s₃ h₃ => ?_) fun _ _ h' => h'.elim)) fun _ _ h' => h'.elim)
    cases ok with
    | false => exact wpAny_pure ⟨rfl, h₃⟩
    | true =>
      exact wpAny_bind (wpAny_bind (wpAny_mono h₃ (fun x s₄ h₄ => wpAny_bind (wpAny_mono h₄ (fun _ s₅ h₅ => wpAny_pure (wpAny_pure ⟨rfl, h₅⟩)) fun _ _ h' => h'.elim)) fun _ _ h' => h'.elim))

/-- what a turn of a comprehension leaves: the block's names at C, the elder objects but those of wr2 -/
def TurnEnd (C : Addr) (wr2 : List Addr) (s₂ s₃ : Shared) (G : Heap → Prop) : Prop :=
  ∃ h' tk m', s₃ = { s₂ with heap := h', toks := tk } ∧ h'.Ns C m' ∧ G h' ∧ ∀ b o, b < C → b ∉ wr2 → s₂.heap.get? b = some o → h'.get? b = some o

/-- one turn -/
def StepOf (prog : Program) (w : World) (A : Around) (target elt : Expr) (ifs : List Expr) (env : Env) (wr2 : List Addr) (J : Nat → List Value → Heap → Prop) (k : Nat) (ys : List Value) (v : Value) (s₂ : Shared) : Prop :=
  wpAny (model prog w) A (assign target env v) (fun _ s₃ => wpAny (model prog w) A (testsOf ifs env) (fun ok s₄ =>
    if ok = true then wpAny (model prog w) A (eval elt env) (fun y s₅ => TurnEnd env.locals wr2 s₂ s₅ (J (k + 1) (ys ++ [y]))) (fun _ _ => False) s₄
    else TurnEnd env.locals wr2 s₂ s₄ (J (k + 1) ys)) (fun _ _ => False) s₃) (fun _ _ => False) s₂

theorem ct_loop {elt target iter : Expr} {ifs : List Expr} {scope : Scope} {pos : Pos} {I D : Addr} {fp wr : List Addr} {n : Nat} {P Md : Nat → Value → Heap → Prop} {St : Nat → Heap → Prop}
    {cenv : Env} {m : Str → Option Value} (W : KTurns prog w A target I fp wr n P Md St) (wr2 : List Addr) (J : Nat → List Value → Heap → Prop)
    (Jf : ∀ k ys h h', J k ys h → (∀ b ∈ wr2, ∀ o, h.get? b = some o → h'.get? b = some o) → J k ys h')
    (hDC : D < cenv.locals) (hDf : D ∉ fp) (hCf : ∀ b ∈ fp, b < cenv.locals) (h2 : ∀ b ∈ wr2, b ∉ fp ∧ b ≠ cenv.locals ∧ b ≠ D) (hsm : s.heap.objs.size ≤ cenv.locals + 1)
    (hst : St 0 s.heap) (hacc : s.heap.PlainList D #[]) (hn : s.heap.Ns cenv.locals m) (hJ : J 0 [] s.heap)
    (step : ∀ k v ys h₂ tk m₂, k < n → P k v h₂ → J k ys h₂ → ys.length ≤ k → h₂.Ns cenv.locals m₂ →
      (∀ b o, b ≠ cenv.locals → b ∉ wr → b ∉ wr2 → b ≠ D → s.heap.get? b = some o → h₂.get? b = some o) →
      StepOf prog w A target elt ifs cenv wr2 J k ys v { s with heap := h₂, toks := tk })
    (hR : ∀ h' tk m' ys, h'.Ns cenv.locals m' → h'.PlainList D ys.toArray → J n ys h' → ys.length ≤ n →
      (∀ b o, b ≠ cenv.locals → b ∉ wr → b ∉ wr2 → b ≠ D → s.heap.get? b = some o → h'.get? b = some o) → R (.ok .next) { s with heap := h', toks := tk })
    (hsz : n ≤ sizeLine) :
    codeAny (model prog w) A (.compLoop (.ListComp elt [⟨target, iter, ifs, 0⟩] scope pos) 0 (.ref I) (.ref D) cenv) R s := by
  have hCf' : cenv.locals ∉ fp := fun h => Nat.lt_irrefl _ (hCf _ h)
  have hDC' : D ≠ cenv.locals := Nat.ne_of_lt hDC
  have hCw : cenv.locals ∉ wr := fun h => hCf' (W.sub _ h)
  have hDw : D ∉ wr := fun h => hDf (W.sub _ h)
  have hlow : ∀ b o, b ≠ cenv.locals → s.heap.get? b = some o → b < cenv.locals := fun b o hb e => by have := Heap.lt_size e; have hb' : ¬ b = cenv.locals := hb; simp only [Addr] at *; omega
  have h2w : ∀ b ∈ wr2, b ∉ wr := fun b hb h => (h2 b hb).1 (W.sub _ h)
  refine loop_go
    (fun k s' => ∃ h' tk m' ys i, s' = { s with heap := h', toks := tk } ∧ St i h' ∧ h'.PlainList D ys.toArray ∧ h'.Ns cenv.locals m' ∧ J i ys h' ∧ ys.length ≤ i ∧ i ≤ n ∧ k = n + 1 - i ∧
      (∀ b o, b ≠ cenv.locals → b ∉ wr → b ∉ wr2 → b ≠ D → s.heap.get? b = some o → h'.get? b = some o)) ?_ (n + 1)
    ⟨s.heap, s.toks, m, [], 0, rfl, hst, hacc, hn, hJ, Nat.le_refl _, Nat.zero_le _, rfl, fun _ _ _ _ _ _ e => e⟩
  rintro k s' ⟨H, tk, m', ys, i, rfl, hst', hacc', hn', hJ', hys, hi, rfl, hk⟩
  by_cases hlt : i < n
  · refine W.item i _ _ _ hlt hst' fun v h₁ tk₁ hMd hk₁ => ?_
    refine W.go i v _ _ _ hMd fun h₂ hP hst₂ hk₂ => ?_
    have up : ∀ b o, b ∉ wr → H.get? b = some o → h₂.get? b = some o := fun b o hb e => hk₂ b o hb (hk₁ b o hb e)
    have hn₂ : h₂.Ns cenv.locals m' := hn'.at' fun o e => up _ o hCw e
    have hacc₂ : h₂.PlainList D ys.toArray := hacc'.at fun o e => up _ o hDw e
    have hJ₂ : J i ys h₂ := Jf _ _ _ _ hJ' fun b hb o e => up b o (h2w b hb) e
    have fin : ∀ (ys' : List Value) (s₃ : Shared), ys' = ys → TurnEnd cenv.locals wr2 { s with heap := h₂, toks := tk₁ } s₃ (J (i + 1) ys') →
        ∃ m, m < n + 1 - i ∧ ∃ h' tk m' ys i, s₃ = { s with heap := h', toks := tk } ∧ St i h' ∧ h'.PlainList D ys.toArray ∧ h'.Ns cenv.locals m' ∧ J i ys h' ∧ ys.length ≤ i ∧ i ≤ n ∧ m = n + 1 - i ∧
          (∀ b o, b ≠ cenv.locals → b ∉ wr → b ∉ wr2 → b ≠ D → s.heap.get? b = some o → h'.get? b = some o) := by
      rintro ys' s₃ rfl ⟨h₃, tk₃, m₃, rfl, hn₃, hJ₃, hk₃⟩
      refine ⟨n + 1 - (i + 1), by omega, h₃, tk₃, m₃, ys', i + 1, rfl, ?_, ?_, hn₃, hJ₃, Nat.le_succ_of_le hys, hlt, rfl, fun b o hC hw hw2 hD e => hk₃ b o (hlow b o hC e) hw2 (up b o hw (hk b o hC hw hw2 hD e))⟩
      · exact W.frame _ _ _ hst₂ fun b hb o e => hk₃ b o (hCf b hb) (fun q => (h2 b q).1 hb) e
      · exact hacc₂.at fun o e => hk₃ D o hDC (fun q => (h2 D q).2.2 rfl) e
    refine wpAny_mono (step i v ys h₂ tk₁ m' hlt hP hJ₂ hys hn₂ fun b o hC hw hw2 hD e => up b o hw (hk b o hC hw hw2 hD e)) (fun _ s₃ h₃ => wpAny_mono h₃ (fun ok s₄ h₄ => ?_) fun _ _ e => e) fun _ _ e => e
    cases ok with
    | false => exact fin ys s₄ rfl h₄
    | true =>
      refine wpAny_mono h₄ (fun y s₅ h₅ => ?_) fun _ _ e => e
      obtain ⟨h₃, tk₃, m₃, rfl, hn₃, hJ₃, hk₃⟩ := h₅
      have hacc₃ : h₃.PlainList D ys.toArray := hacc₂.at fun o e => hk₃ D o hDC (fun q => (h2 D q).2.2 rfl) e
      refine wpAny_list_append_plain (hsz := by rw [List.size_toArray]; omega) hacc₃ fun h₄' hl₄ hs₄ => ?_
      refine ⟨n + 1 - (i + 1), by omega, h₄', tk₃, m₃, ys ++ [y], i + 1, rfl, ?_, ?_, hn₃.sameBut hs₄ (Ne.symm hDC'), Jf _ _ _ _ hJ₃ (fun b hb o e => hs₄.extBut b o (h2 b hb).2.2 e), (by rw [List.length_append, List.length_singleton]; omega), hlt, rfl,
        fun b o hC hw hw2 hD e => hs₄.extBut b o hD (hk₃ b o (hlow b o hC e) hw2 (up b o hw (hk b o hC hw hw2 hD e)))⟩
      · exact W.frame _ _ _ hst₂ fun b hb o e => hs₄.extBut b o (fun q => hDf (q ▸ hb)) (hk₃ b o (hCf b hb) (fun q => (h2 b q).1 hb) e)
      · have : (ys ++ [y]).toArray = ys.toArray.push y := by simp
        rw [this]; exact hl₄
  · have hin : i = n := by omega
    subst hin
    refine W.done _ _ _ hst' fun h₁ tk₁ hk₁ => ?_
    exact hR h₁ tk₁ m' ys (hn'.at' fun o e => hk₁ _ o hCw e) (hacc'.at fun o e => hk₁ _ o hDw e) (Jf _ _ _ _ hJ' fun b hb o e => hk₁ b o (h2w b hb) e) hys fun b o hC hw hw2 hD e => hk₁ b o hw (hk b o hC hw hw2 hD e)
end

section
variable {prog : Program} {w : World} {A : Around} {E : Value → Shared → Prop} {env : Env}

theorem ct_block {elt target iter : Expr} {ifs : List Expr} {scope : Scope} {cl : List (Str × Addr)} {pos : Pos} {s₂ : Shared} {I : Addr} {fp wr : List Addr} {n : Nat} {P Md : Nat → Value → Heap → Prop}
    {St : Nat → Heap → Prop} (W : CT prog w A target I fp wr n P Md St) (hsz : n ≤ sizeLine) {RR : Value → Addr → Result → Shared → Prop} (wr2 : List Addr) (J : Nat → List Value → Heap → Prop)
    (Jf : ∀ k ys h h', J k ys h → (∀ b ∈ wr2, ∀ o, h.get? b = some o → h'.get? b = some o) → J k ys h')
    (hcell : ∀ y ∈ scope.names, y.2 ≠ .cell) (hkind : scope.kind = .function) (hst : St 0 s₂.heap) (hfp : ∀ b ∈ fp, b < s₂.heap.objs.size) (h2 : ∀ b ∈ wr2, b ∉ fp ∧ b < s₂.heap.objs.size) (hJ : J 0 [] s₂.heap)
    (step : ∀ C k v ys h₃ tk m₃, s₂.heap.objs.size < C → k < n → P k v h₃ → J k ys h₃ → ys.length ≤ k → h₃.Ns C m₃ → (∀ b o, b ∉ wr → b ∉ wr2 → s₂.heap.get? b = some o → h₃.get? b = some o) →
      StepOf prog w A target elt ifs (compEnvC scope cl C env) wr2 J k ys v { s₂ with heap := h₃, toks := tk })
    (hRR : ∀ D C h' tk m' ys, s₂.heap.objs.size ≤ D → s₂.heap.objs.size ≤ C → D ≠ C → h'.Ns C m' → h'.PlainList D ys.toArray → J n ys h' → ys.length ≤ n →
      (∀ b o, b ∉ wr → b ∉ wr2 → s₂.heap.get? b = some o → h'.get? b = some o) → RR (.ref D) C (.ok .next) { s₂ with heap := h', toks := tk }) :
    wpAny (model prog w) A (newList []) (fun acc s₃ => wpAny (model prog w) A (newFunctionEnv scope env.globals cl [] env.qual none .none (some env)) (fun cenv s₄ =>
      codeAny (model prog w) A (.compStart (.ListComp elt [⟨target, iter, ifs, 0⟩] scope pos) 0 (.ref I) acc { cenv with scope := relabel scope env }) (RR acc cenv.locals) s₄) E s₃) E s₂ := by
  refine wpAny_newObj_type (wpAny_newFunctionEnv hcell (by intro y hy; simp at hy) (fun h₁ hns₁ hsb₁ => ?_) hkind)
  dsimp only at hns₁ hsb₁ ⊢
  generalize hH2 : s₂.heap.push { cls := .type "list", dict := none, data := .seq ([] : List Value).toArray } = H2 at hns₁ hsb₁ ⊢
  have hC : H2.objs.size = s₂.heap.objs.size + 1 := by rw [← hH2, Heap.size_push]
  have hDC : s₂.heap.objs.size ≠ H2.objs.size := by rw [hC]; exact Nat.ne_of_lt (Nat.lt_succ_self _)
  have hCle : s₂.heap.objs.size ≤ H2.objs.size := by rw [hC]; exact Nat.le_succ _
  have below : ∀ b, b < s₂.heap.objs.size → b ≠ H2.objs.size ∧ b ≠ s₂.heap.objs.size := fun b hb => ⟨by rw [hC]; exact Nat.ne_of_lt (Nat.lt_succ_of_lt hb), Nat.ne_of_lt hb⟩
  have hDf : s₂.heap.objs.size ∉ fp := fun hm => Nat.lt_irrefl _ (hfp _ hm)
  have hCf : H2.objs.size ∉ fp := fun hm => by have := hfp _ hm; rw [hC] at this; exact Nat.lt_irrefl _ (Nat.lt_of_succ_lt this)
  have old : ∀ b o, s₂.heap.get? b = some o → h₁.get? b = some o := fun b o e => hsb₁.extBut b o (below b (Heap.lt_size e)).1 (Heap.get?_push_of_some _ (hH2 ▸ Heap.get?_push_of_some _ e))
  have hacc : h₁.PlainList s₂.heap.objs.size #[] := ⟨_, hsb₁.extBut _ _ hDC (Heap.get?_push_of_some _ (hH2 ▸ Heap.get?_push_size _ rfl))⟩
  have hst₁ : St 0 h₁ := W.turns.frame _ _ _ hst fun b _ o e => old b o e
  have hsz₁ : h₁.objs.size ≤ H2.objs.size + 1 := by
    have := hsb₁.1
    rw [Heap.size_push] at this
    omega
  have loop : ∀ s₃ : Shared, s₃ = { s₂ with heap := h₁, toks := s₂.toks + ([] : List (Str × Value)).length } →
      codeAny (model prog w) A (.compLoop (.ListComp elt [⟨target, iter, ifs, 0⟩] scope pos) 0 (.ref I) (.ref s₂.heap.objs.size) (compEnvC scope cl H2.objs.size env))
        (RR (.ref s₂.heap.objs.size) H2.objs.size) s₃ := by
    rintro s₃ rfl
    have hCl : s₂.heap.objs.size < H2.objs.size := by rw [hC]; exact Nat.lt_succ_self _
    refine ct_loop (cenv := compEnvC scope cl H2.objs.size env) W.turns wr2 J Jf hCl hDf (fun b hb => Nat.lt_trans (hfp b hb) hCl) (fun b hb => ⟨(h2 b hb).1, (below b (h2 b hb).2).1, (below b (h2 b hb).2).2⟩) hsz₁ hst₁ hacc hns₁ (Jf _ _ _ _ hJ fun b _ o e => old b o e)
      (fun k v ys h₂ tk m₂ hkn hP hJ' hys hn hk => ?_) (fun h' tk m' ys hn hpl hJ' hys hk => ?_) hsz
    · exact step _ k v ys h₂ tk m₂ hCl hkn hP hJ' hys hn fun b o hw hw2 e => hk b o (below b (Heap.lt_size e)).1 hw hw2 (below b (Heap.lt_size e)).2 (old b o e)
    · exact hRR _ _ h' tk m' ys (Nat.le_refl _) hCle hDC hn hpl hJ' hys fun b o hw hw2 e => hk b o (below b (Heap.lt_size e)).1 hw hw2 (below b (Heap.lt_size e)).2 (old b o e)
  exact codeAny_compStart_list (loop _ rfl) (W.self 0 _ _ _ hst₁ (loop _ rfl))

/-- what a comprehension asks of its iterator: the turns, a word J over turns, made items, heap; `fin` what follows -/
structure CompIn (prog : Program) (w : World) (A : Around) (env : Env) (scope : Scope) (cl : List (Str × Addr)) (target elt : Expr) (ifs : List Expr) (wr2 : List Addr) (s₂ : Shared)
    (fin : List Addr → Nat → (Nat → List Value → Heap → Prop) → Prop) (it : Value) : Prop where
  ex : ∃ I fp wr n P Md St J, it = .ref I ∧ CT prog w A target I fp wr n P Md St ∧ n ≤ sizeLine ∧ St 0 s₂.heap ∧ (∀ b ∈ fp, b < s₂.heap.objs.size) ∧ (∀ b ∈ wr2, b ∉ fp ∧ b < s₂.heap.objs.size) ∧
    (∀ k ys h h', J k ys h → (∀ b ∈ wr2, ∀ o, h.get? b = some o → h'.get? b = some o) → J k ys h') ∧ J 0 [] s₂.heap ∧
    (∀ C k v ys h₃ tk m₃, s₂.heap.objs.size < C → k < n → P k v h₃ → J k ys h₃ → ys.length ≤ k → h₃.Ns C m₃ → (∀ b o, b ∉ wr → b ∉ wr2 → s₂.heap.get? b = some o → h₃.get? b = some o) →
      StepOf prog w A target elt ifs (compEnvC scope cl C env) wr2 J k ys v { s₂ with heap := h₃, toks := tk }) ∧ fin wr n J

theorem ListComp_ct {s : Shared} {elt target iter : Expr} {ifs : List Expr} {scope : Scope} {cl : List (Str × Addr)} {pos : Pos} {Q : Value → Shared → Prop} (wr2 : List Addr)
    (hclos : closureFor scope env = pure cl) (hcell : ∀ y ∈ scope.names, y.2 ≠ .cell) (hkind : scope.kind = .function)
    (hnames : ∀ y ∈ scope.names, y.2 = .local → scope.names.lookup y.1 = some .local)
    (h : wpAny (model prog w) A (eval iter env) (fun xv s₁ => wpAny (model prog w) A (pyIter xv) (fun it s₂ => CompIn prog w A env scope cl target elt ifs wr2 s₂ (fun wr n J =>
      ∀ D h' tk ys, s₂.heap.objs.size ≤ D → h'.PlainList D ys.toArray → J n ys h' → ys.length ≤ n → (∀ b o, b ∉ wr → b ∉ wr2 → s₂.heap.get? b = some o → h'.get? b = some o) → Q (.ref D) { s₂ with heap := h', toks := tk }) it) E s₁) E s)
    (hs : ∀ x, foldedSetIterable iter env x = pure x := by intro _; rfl) :
    wpAny (model prog w) A (eval (.ListComp elt [⟨target, iter, ifs, 0⟩] scope pos) env) Q E s := by
  rw [eval_ListComp]
  refine wpAny_comprehension_free (use := none) rfl hs hclos hkind hnames (wpAny_mono h (fun xv s₁ h₁ => wpAny_mono h₁ (fun it s₂ h₂ => ?_) fun _ _ e => e) fun _ _ e => e)
  obtain ⟨I, fp, wr, n, P, Md, St, J, rfl, W, hsz, hst, hfp, h2, Jf, hJ, step, hQ⟩ := h₂.ex
  refine ct_block (RR := fun acc C => compPost (model prog w) A E none Q acc C) W hsz wr2 J Jf hcell hkind hst hfp h2 hJ step ?_
  intro D C h' tk m' ys hD hC hDC hn hpl hJ' hys hk
  refine ⟨m', hn, fun h'' hs'' => hQ D h'' tk ys hD (hpl.extBut hs''.extBut hDC) (Jf _ _ _ _ hJ' fun b hb o e => hs''.extBut b o (fun q => Nat.lt_irrefl _ (Nat.lt_of_lt_of_le (q ▸ (h2 b hb).2) hC)) e) hys fun b o hw hw2 e => hs''.extBut b o (fun q => Nat.lt_irrefl _ (Nat.lt_of_lt_of_le (q ▸ Heap.lt_size e) hC)) (hk b o hw hw2 e)⟩

theorem Assign_ListComp_ct {s : Shared} {elt target iter : Expr} {y : Str} {py : Pos} {ifs : List Expr} {scope : Scope} {cl : List (Str × Addr)} {pos spos : Pos} {Q : Flow → Shared → Prop} (wr2 : List Addr)
    (hsw : swapsWith (.ListComp elt [⟨target, iter, ifs, 0⟩] scope pos) (some (.Name y py)) spos.line env = pure true)
    (hclos : closureFor scope env = pure cl) (hcell : ∀ z ∈ scope.names, z.2 ≠ .cell) (hkind : scope.kind = .function)
    (hnames : ∀ z ∈ scope.names, z.2 = .local → scope.names.lookup z.1 = some .local)
    (hy : env.kindOf y = some .local) (hp : (env.scope.kind == .class || (env.scope.kind == .module && env.locals != env.globals)) = false)
    (h : wpAny (model prog w) A (eval iter env) (fun xv s₁ => wpAny (model prog w) A (pyIter xv) (fun it s₂ => CompIn prog w A env scope cl target elt ifs wr2 s₂ (fun wr n J =>
      ∃ m, env.locals ∉ wr ∧ env.locals ∉ wr2 ∧ s₂.heap.Ns env.locals m ∧
      ∀ D h' tk ys, s₂.heap.objs.size ≤ D → h'.PlainList D ys.toArray → J n ys h' → ys.length ≤ n → h'.Ns env.locals (fun z => if z = y then some (.ref D) else m z) →
        (∀ b o, b ≠ env.locals → b ∉ wr → b ∉ wr2 → s₂.heap.get? b = some o → h'.get? b = some o) → Q .next { s₂ with heap := h', toks := tk }) it) E s₁) E s)
    (hs : ∀ x, foldedSetIterable iter env x = pure x := by intro _; rfl) :
    wpAny (model prog w) A (exec (.Assign [.Name y py] (.ListComp elt [⟨target, iter, ifs, 0⟩] scope pos) spos) env) Q E s := by
  rw [exec_Assign_Name_used _ _ _ _ hsw]
  refine wpAny_bind (wpAny_standAt (wpAny_bind ?_))
  show wpAny _ A (do let _ ← comprehension (.ListComp elt [⟨target, iter, ifs, 0⟩] scope pos) scope env _ (newList []) false (eval iter env) (some (assign (.Name y py) env))) _ _ s
  refine wpAny_bind (wpAny_mono (wpAny_comprehension_free (use := some (assign (.Name y py) env)) (Q := fun _ s' => Q .next s') rfl hs hclos hkind hnames
    (wpAny_mono h (fun xv s₁ h₁ => wpAny_mono h₁ (fun it s₂ h₂ => ?_) fun _ _ e => e) fun _ _ e => e)) (fun _ s' hq => wpAny_pure (wpAny_pure hq)) fun _ _ e => e)
  obtain ⟨I, fp, wr, n, P, Md, St, J, rfl, W, hsz, hst, hfp, h2, Jf, hJ, step, m, hLw, hLw2, hn, hQ⟩ := h₂.ex
  refine ct_block (RR := fun acc C => compPost (model prog w) A E (some (assign (.Name y py) env)) (fun _ s' => Q .next s') acc C) W hsz wr2 J Jf hcell hkind hst hfp h2 hJ step ?_
  intro D C h' tk m' ys hD hC hDC hnC hpl hJ' hys hk
  have hLs : env.locals < s₂.heap.objs.size := hn.lt
  have hLC : env.locals ≠ C := Nat.ne_of_lt (Nat.lt_of_lt_of_le hLs hC)
  have hLD : env.locals ≠ D := Nat.ne_of_lt (Nat.lt_of_lt_of_le hLs hD)
  show wpAny _ A (assign (.Name y py) env (.ref D)) _ _ _
  refine wpAny_assign_Name (wpAny_storeName_local hy (hn.at' fun o e => hk _ o hLw hLw2 e) (fun h₂ hn₂ hs₂ => ?_) hp)
  refine ⟨m', hnC.sameBut hs₂ (Ne.symm hLC), fun h₃ hs₃ => ?_⟩
  refine hQ D h₃ _ ys hD ((hpl.extBut hs₂.extBut (Ne.symm hLD)).extBut hs₃.extBut hDC) (Jf _ _ _ _ hJ' fun b hb o e => ?_) hys (hn₂.sameBut hs₃ hLC) fun b o hbL hw hw2 e =>
    hs₃.extBut b o (fun q => Nat.lt_irrefl _ (Nat.lt_of_lt_of_le (q ▸ Heap.lt_size e) hC)) (hs₂.extBut b o hbL (hk b o hw hw2 e))
  exact hs₃.extBut b o (fun q => Nat.lt_irrefl _ (Nat.lt_of_lt_of_le (q ▸ (h2 b hb).2) hC)) (hs₂.extBut b o (fun q => hLw2 (q ▸ hb)) e)
end
end
theorem off_Src : True := by
  w_top off
  trivial
section
/-- a source of turns: the tree T runs to an iterator -/
def SrcT (prog : Program) (w : World) (A : Around) (target : Expr) (T : (Value → Shared → Prop) → Prop) (s₁ : Shared) (n : Nat) (P : Nat → Value → Heap → Prop) (own : List Addr) : Prop :=
  ∀ Q : Value → Shared → Prop, (∀ I fp wr Md St h' tk, CT prog w A target I fp wr n P Md St → St 0 h' → s₁.heap.StaysIn h' → (s₁.heap.objs.size ≤ h'.objs.size) → (∀ b ∈ fp, b < h'.objs.size) → (∀ b ∈ fp, s₁.heap.objs.size ≤ b ∨ b ∈ own) →
    (∀ b ∈ wr, s₁.heap.objs.size ≤ b) → Q (.ref I) { s₁ with heap := h', toks := tk }) → T Q

section
variable {prog : Program} {w : World} {A : Around} {E : Value → Shared → Prop} {s : Shared}

theorem stays_push (h : Heap) (o : Obj) : h.StaysIn (h.push o) := fun b ob e => Heap.get?_push_of_some _ e

theorem CT.ofWalks {x : Str} {px : Pos} {I : Addr} {fp wr : List Addr} {n : Nat} {P : Nat → Value → Prop} {St : Nat → Heap → Prop} (W : Walks prog w A I fp wr n P St) :
    CT prog w A (.Name x px) I fp wr n (fun i v _ => P i v) (fun i v h => P i v ∧ St (i + 1) h) St :=
  ⟨KTurns.ofWalks W fun i v s Q E st hq => wpAny_pure hq, W.self⟩

theorem src_list {x : Str} {px : Pos} {l : Addr} {vs : List Value} (hh : A.handled = none) (hl : s.heap.IsList l vs.toArray) :
    SrcT prog w A (.Name x px) (fun Q => wpAny (model prog w) A (pyIter (.ref l)) Q E s) s vs.length (fun i v _ => vs[i]? = some v) [l] := by
  intro Q h
  have hlt : l < s.heap.objs.size := by obtain ⟨o, ho, _⟩ := hl; exact Heap.lt_size ho
  refine wpAny_pyIter_list hl ?_
  have W := CT.ofWalks (x := x) (px := px) (Walks.list (prog := prog) (w := w) hh s.heap.objs.size l (Nat.ne_of_lt hlt) vs.toArray)
  have e : (fun (i : Nat) (v : Value) (_ : Heap) => vs.toArray[i]? = some v) = fun i v _ => vs[i]? = some v := by funext i v _; rw [List.getElem?_toArray]
  rw [e, List.size_toArray] at W
  refine h _ _ _ _ _ _ s.toks W ⟨⟨_, Heap.get?_push_size _ rfl, rfl, rfl⟩, hl.at fun o e => Heap.get?_push_of_some _ e⟩ (stays_push _ _) (by rw [Heap.size_push]; exact Nat.le_succ _) ?_ ?_ ?_
  · intro b hb
    rw [Heap.size_push]
    have hb' : b = s.heap.objs.size ∨ b = l := by simpa using hb
    rcases hb' with rfl | rfl
    · exact Nat.lt_succ_self _
    · exact Nat.lt_succ_of_lt hlt
  · intro b hb
    have hb' : b = s.heap.objs.size ∨ b = l := by simpa using hb
    rcases hb' with rfl | rfl
    · exact .inl (Nat.le_refl _)
    · exact .inr (by simp)
  · intro b hb
    have hb' : b = s.heap.objs.size := by simpa using hb
    rw [hb']; exact Nat.le_refl _

theorem src_str {x : Str} {px : Pos} {y : Str} {t : Tok} (hh : A.handled = none) :
    SrcT prog w A (.Name x px) (fun Q => wpAny (model prog w) A (pyIter (.str y t)) Q E s) s y.cps.size (fun i v _ => SignAt y i v) [] := by
  intro Q h
  refine wpAny_pyIter_str fun o St W st => ?_
  refine h _ _ _ _ _ _ s.toks (CT.ofWalks (W A hh)) st (stays_push _ _) (by rw [Heap.size_push]; exact Nat.le_succ _) ?_ ?_ ?_
  · intro b hb
    rw [Heap.size_push]
    have hb' : b = s.heap.objs.size := by simpa using hb
    rw [hb']; exact Nat.lt_succ_self _
  · intro b hb
    have hb' : b = s.heap.objs.size := by simpa using hb
    exact .inl (Nat.le_of_eq hb'.symm)
  · intro b hb
    have hb' : b = s.heap.objs.size := by simpa using hb
    exact Nat.le_of_eq hb'.symm

theorem rangeSize_nat (n : Nat) : Builtin.Range.rangeSize 0 (n : Int) 1 = n := by
  unfold Builtin.Range.rangeSize
  have e0 : (0 : Int) < n ↔ 0 < n := by omega
  have e1 : ((n : Int) - 0 - 1) / 1 = n - 1 := by omega
  by_cases hn : 0 < n
  · simp; omega
  · have : n = 0 := by omega
    subst this; simp

theorem fits_small {i : Int} (h0 : -1000 ≤ i) (h1 : i ≤ 3000) : Builtin.Range.rangeFitsLong i = true := by
  unfold Builtin.Range.rangeFitsLong
  rw [decide_eq_true (by omega), decide_eq_true (by omega)]; rfl
theorem small_nat {n : Nat} (hn : n ≤ 1000) : Builtin.Range.small 0 (n : Int) 1 = true := by
  unfold Builtin.Range.small
  rw [rangeSize_nat, fits_small (i := 0) (by omega) (by omega), fits_small (i := (n : Int)) (by omega) (by omega), fits_small (i := 1) (by omega) (by omega), if_pos (by decide), fits_small (i := (n : Int) + (1 - 1)) (by omega) (by omega), Bool.or_true]
  rfl

theorem src_range {x : Str} {px : Pos} {n : Nat} {t : Tok} (hh : A.handled = none) (hn : n ≤ 1000) :
    SrcT prog w A (.Name x px) (fun Q => wpAny (model prog w) A (call (.type "range") [.int (n : Int) t]) (fun xv s₁ => wpAny (model prog w) A (pyIter xv) Q E s₁) E s) s n (fun i v _ => ∃ t, v = .int (i : Int) t) [] := by
  intro Q h
  refine call_range_1 ?_
  refine wpAny_pyIter_range (IsRange.new _ _ _ _ _ _ _) (small_nat hn) ?_
  have W := CT.ofWalks (x := x) (px := px) (Walks.range (prog := prog) (w := w) hh (s.heap.objs.size + 1) 0 1 n)
  have e : (fun (i : Nat) (v : Value) (_ : Heap) => ∃ t, v = Value.int (0 + (i : Int) * 1) t) = fun (i : Nat) v _ => ∃ t, v = Value.int (i : Int) t := by funext i v _; rw [Int.mul_one, Int.zero_add]
  rw [e] at W
  dsimp only
  have hz : ∀ o : Obj, (s.heap.push o).objs.size = s.heap.objs.size + 1 := fun o => Heap.size_push ..
  rw [hz]
  refine h _ _ _ _ _ _ _ W ?_ (fun b ob e => stays_push _ _ _ _ (stays_push _ _ _ _ e)) (by rw [Heap.size_push, hz]; exact Nat.le_succ_of_le (Nat.le_succ _)) ?_ ?_ ?_
  · show IsRangeIter _ _ _ _ _
    have := Heap.get?_push_size (s.heap.push { cls := .type "range", data := .fields #[.int 0 s.toks, .int n t, .int 1 (s.toks + 1)] }) (o := { cls := .type "range_iterator", data := .fields #[rawInt 0, rawInt (Builtin.Range.rangeSize 0 (n : Int) 1), rawInt 1] }) rfl
    rw [hz, rangeSize_nat] at this
    rw [rangeSize_nat]
    simpa [IsRangeIter] using this
  · intro b hb
    rw [Heap.size_push, hz]
    have hb' : b = s.heap.objs.size + 1 := by simpa using hb
    rw [hb']; exact Nat.lt_succ_self _
  · intro b hb
    have hb' : b = s.heap.objs.size + 1 := by simpa using hb
    exact .inl (hb' ▸ Nat.le_succ _)
  · intro b hb
    have hb' : b = s.heap.objs.size + 1 := by simpa using hb
    exact hb' ▸ Nat.le_succ _

theorem src_zip {elts : List Expr} {k : Nat} {pos : Pos} {l1 l2 : Addr} {xs ys : List Value} (hh : A.handled = none) (hl1 : s.heap.IsList l1 xs.toArray) (hl2 : s.heap.IsList l2 ys.toArray) :
    SrcT prog w A (.Tuple elts k pos) (fun Q => wpAny (model prog w) A (call (.type "zip") [.ref l1, .ref l2]) (fun xv s₁ => wpAny (model prog w) A (pyIter xv) Q E s₁) E s) s (min xs.length ys.length)
      (fun i v h => ∃ T x y, v = .ref T ∧ xs[i]? = some x ∧ ys[i]? = some y ∧ h.IsTuple T #[x, y]) [l1, l2] := by
  intro Q h
  have hlt1 : l1 < s.heap.objs.size := by obtain ⟨o, ho, _⟩ := hl1; exact Heap.lt_size ho
  have hlt2 : l2 < s.heap.objs.size := by obtain ⟨o, ho, _⟩ := hl2; exact Heap.lt_size ho
  have D : ZipApart (s.heap.objs.size + 4) (s.heap.objs.size + 2) (s.heap.objs.size + 3) s.heap.objs.size (s.heap.objs.size + 1) l1 l2 := ktu_apart _ _ _ hlt1 hlt2
  refine call_zip_2 hl1 hl2 fun h' hz hTI hTO hi1 hi2 hsz hk => ?_
  refine wpAny_pyIter_zip hz ?_
  have U := (WalksT.zip2 (prog := prog) (w := w) hh _ _ _ _ _ _ _ D xs.toArray ys.toArray).toU
  have W : CT prog w A (.Tuple elts k pos) _ _ _ _ _ _ _ := ⟨KTurns.ofWalksU U, U.self⟩
  have e : (fun (i : Nat) (v : Value) (h : Heap) => ∃ T vals, v = Value.ref T ∧ (∃ x y, xs.toArray[i]? = some x ∧ ys.toArray[i]? = some y ∧ vals = #[x, y]) ∧ h.IsTuple T vals) =
      fun i v h => ∃ T x y, v = .ref T ∧ xs[i]? = some x ∧ ys[i]? = some y ∧ h.IsTuple T #[x, y] := by
    funext i v h
    simp only [List.getElem?_toArray]
    apply propext
    constructor
    · rintro ⟨T, vals, rfl, ⟨x, y, h1, h2, rfl⟩, hT⟩; exact ⟨T, x, y, rfl, h1, h2, hT⟩
    · rintro ⟨T, x, y, rfl, h1, h2, hT⟩; exact ⟨T, _, rfl, ⟨x, y, h1, h2, rfl⟩, hT⟩
  rw [e, List.size_toArray, List.size_toArray] at W
  refine h _ _ _ _ _ _ s.toks W ⟨hz, hTI, ⟨_, _, hTO⟩, hi1, hi2, hl1.at fun o e => hk _ o e, hl2.at fun o e => hk _ o e⟩ hk (by rw [hsz]; exact Nat.le_add_right _ _) ?_ ?_ ?_
  · intro b hb
    rw [hsz]
    have hb' : b = s.heap.objs.size + 4 ∨ b = s.heap.objs.size + 2 ∨ b = s.heap.objs.size + 3 ∨ b = s.heap.objs.size ∨ b = s.heap.objs.size + 1 ∨ b = l1 ∨ b = l2 := by simpa using hb
    simp only [Addr] at *
    omega
  · intro b hb
    have hb' : b = s.heap.objs.size + 4 ∨ b = s.heap.objs.size + 2 ∨ b = s.heap.objs.size + 3 ∨ b = s.heap.objs.size ∨ b = s.heap.objs.size + 1 ∨ b = l1 ∨ b = l2 := by simpa using hb
    by_cases q : b = l1 ∨ b = l2
    · exact .inr (by simpa using q)
    · left; simp only [Addr] at *; omega
  · intro b hb
    have hb' : b = s.heap.objs.size + 4 ∨ b = s.heap.objs.size + 3 ∨ b = s.heap.objs.size ∨ b = s.heap.objs.size + 1 := by simpa using hb
    simp only [Addr] at *
    omega
end

/-- an end that no line of the walk opens -/
structure Endd (P : Prop) : Prop where
  out : P
/-- what an element's walk ends in, pure -/
def EltEnd (g : Heap) (C : Addr) (s₁ : Shared) (s' : Shared) : Prop := ∃ h' tk' m', s' = { s₁ with heap := h', toks := tk' } ∧ Fr g C h' m'
theorem EltEnd.mk {g : Heap} {C : Addr} {s₁ : Shared} {h' : Heap} {tk' : Nat} {m' : Str → Option Value} (F : Fr g C h' m') : EltEnd g C s₁ { s₁ with heap := h', toks := tk' } := ⟨h', tk', m', rfl, F⟩
def EltEndD (b₀ g : Heap) (C d : Addr) (s₁ : Shared) (s' : Shared) : Prop := ∃ h' tk' m' o', s' = { s₁ with heap := h', toks := tk' } ∧ Fr g C h' m' ∧ News g C h' [(d, o')] ∧ DealO b₀ o'
theorem EltEndD.mk {b₀ g : Heap} {C d : Addr} {s₁ : Shared} {h' : Heap} {tk' : Nat} {m' : Str → Option Value} {o' : Obj} (F : Fr g C h' m') (N : News g C h' [(d, o')]) (D : DealO b₀ o') : EltEndD b₀ g C d s₁ { s₁ with heap := h', toks := tk' } := ⟨h', tk', m', o', rfl, F, N, D⟩

theorem above_of {h₀ h : Heap} {L D : Addr} {m : Str → Option Value} (F : Fr h₀ L h m) (hD : h.objs.size ≤ D) : h₀.objs.size ≤ D := Nat.le_trans F.above (Nat.le_trans (Nat.le_of_lt F.ns.lt) hD)
theorem stays_trunc {h h' : Heap} {C : Addr} (hC : h.objs.size ≤ C) (st : h.StaysIn h') : h.StaysIn (trunc h' C) := fun b o e => (trunc_lt (Nat.lt_of_lt_of_le (Heap.lt_size e) hC)).trans (st b o e)
theorem fr_trunc {h : Heap} {C : Addr} {m : Str → Option Value} (hn : h.Ns C m) : Fr (trunc h C) C h m := ⟨hn, fun b o e => (trunc_some e).2, trunc_size _ _⟩

section
variable {prog : Program} {w : World} {A : Around} {E : Value → Shared → Prop} {env : Env} {scope : Scope} {cl : List (Str × Addr)} {x : Str} {px : Pos} {elt : Expr} {s₁ : Shared} {n : Nat} {own : List Addr}
  {h₀ : Heap} {L : Addr} {m : Str → Option Value} {news : List (Addr × Obj)} {T : (Value → Shared → Prop) → Prop}

/-- a pure comprehension's word: as many as turns, each in R -/
abbrev JP (R : Nat → Value → Prop) : Nat → List Value → Heap → Prop := fun k ys _ => ys.length = k ∧ ∀ i y, ys[i]? = some y → R i y
theorem JP.snoc {R : Nat → Value → Prop} {k : Nat} {ys : List Value} {y : Value} {h h' : Heap} (j : JP R k ys h) (r : R k y) : JP R (k + 1) (ys ++ [y]) h' := by
  refine ⟨by rw [List.length_append, List.length_singleton, j.1], fun i z e => ?_⟩
  rcases Nat.lt_trichotomy i ys.length with q | q | q
  · exact j.2 i z (by rwa [List.getElem?_append_left q] at e)
  · subst q
    simp at e
    rw [← e, j.1]; exact r
  · rw [List.getElem?_eq_none (by rw [List.length_append, List.length_singleton]; omega)] at e; cases e

theorem core_pure {P : Nat → Value → Prop} (src : SrcT prog w A (.Name x px) T s₁ n (fun i v _ => P i v) own) (hsz : n ≤ sizeLine)
    (hx : scope.names.lookup x = some .local) (hkind : scope.kind = .function) (R : Nat → Value → Prop)
    (helt : ∀ C k v h₃ tk (m' : Str → Option Value), s₁.heap.objs.size < C → k < n → P k v → s₁.heap.StaysIn (trunc h₃ C) → Fr (trunc h₃ C) C h₃ (fun y => if y = x then some v else m' y) → News (trunc h₃ C) C h₃ [] →
      wpAny (model prog w) A (eval elt (compEnvC scope cl C env)) (fun y s' => Endd (R k y ∧ EltEnd (trunc h₃ C) C s₁ s')) (fun _ _ => False) { s₁ with heap := h₃, toks := tk })
    {fin : Shared → List Addr → Nat → (Nat → List Value → Heap → Prop) → Prop}
    (hfin : ∀ h₂ tk wr, s₁.heap.StaysIn h₂ → s₁.heap.objs.size ≤ h₂.objs.size → (∀ b ∈ wr, s₁.heap.objs.size ≤ b) → fin { s₁ with heap := h₂, toks := tk } wr n (JP R)) :
    T (fun it s₂ => CompIn prog w A env scope cl (.Name x px) elt [] [] s₂ (fin s₂) it) := by
  refine src _ fun I fp wr Md St h₂ tk₂ W hst st hs2 hfp _ hwr => ?_
  refine ⟨⟨I, fp, wr, n, _, Md, St, JP R, rfl, W, hsz, hst, hfp, (fun b hb => nomatch hb), (fun k ys h h' j _ => j), ⟨rfl, fun i y e => by simp at e⟩, ?_, hfin h₂ tk₂ wr st hs2 hwr⟩⟩
  intro C k v ys h₃ tk m₃ hC hkn hP hJ hys hn hk
  unfold StepOf
  have hstay : s₁.heap.StaysIn h₃ := fun b o e => hk b o (fun q => Nat.lt_irrefl _ (Nat.lt_of_lt_of_le (Heap.lt_size e) (hwr b q))) (fun q => nomatch q) (st b o e)
  refine wpAny_assign_Name (wpAny_storeName_local (lookup_relabel_local hx) hn (fun h₄ hn₄ hs₄ => ?_) (by simp [compEnvC, relabel, hkind]))
  refine wpAny_tests_nil ?_
  rw [if_pos rfl]
  have hC₁ : s₁.heap.objs.size < C := Nat.lt_of_le_of_lt hs2 hC
  have hstay₄ : s₁.heap.StaysIn h₄ := fun b o e => hs₄.extBut b o (Nat.ne_of_lt (Nat.lt_trans (Heap.lt_size e) hC₁)) (hstay b o e)
  refine wpAny_mono (helt C k v h₄ (tk + 1) m₃ hC₁ hkn hP (stays_trunc (Nat.le_of_lt hC₁) hstay₄) (fr_trunc hn₄) (News.nil)) (fun y s' hq => ?_) fun _ _ e => e
  obtain ⟨hR, h', tk', m', rfl, F'⟩ := hq.out
  refine ⟨h', tk', m', rfl, F'.ns, hJ.snoc hR, fun b o hb _ e => F'.keep b o ((trunc_lt hb).trans (hs₄.extBut b o (Nat.ne_of_lt hb) e))⟩

/-- behind a pure comprehension, as an expression -/
theorem fin_E {R : Nat → Value → Prop} {Q : Value → Shared → Prop} (F : Fr h₀ L s₁.heap m) (N : News h₀ L s₁.heap news)
    (ret : ∀ D h' tk (ys : List Value) kk, ys.length = n → (∀ i y, ys[i]? = some y → R i y) → Fr h₀ L h' m → News h₀ L h' ((D, listOf ys.toArray kk) :: news) → AllLt D news → s₁.heap.objs.size ≤ D → Q (.ref D) { s₁ with heap := h', toks := tk })
    (h₂ : Heap) (tk₂ : Nat) (wr : List Addr) (st : s₁.heap.StaysIn h₂) (hs : s₁.heap.objs.size ≤ h₂.objs.size) (hwr : ∀ b ∈ wr, s₁.heap.objs.size ≤ b) :
    ∀ D h' tk (ys : List Value), ({ s₁ with heap := h₂, toks := tk₂ } : Shared).heap.objs.size ≤ D → h'.PlainList D ys.toArray → JP R n ys h' → ys.length ≤ n →
      (∀ b o, b ∉ wr → b ∉ ([] : List Addr) → ({ s₁ with heap := h₂, toks := tk₂ } : Shared).heap.get? b = some o → h'.get? b = some o) → Q (.ref D) { ({ s₁ with heap := h₂, toks := tk₂ } : Shared) with heap := h', toks := tk } := by
  intro D h' tk ys hD hpl hJ hys hk
  obtain ⟨kk, hpl⟩ := hpl
  have stay : s₁.heap.StaysIn h' := fun b o e => hk b o (fun q => Nat.lt_irrefl _ (Nat.lt_of_lt_of_le (Heap.lt_size e) (hwr b q))) (fun q => nomatch q) (st b o e)
  obtain ⟨F', N'⟩ := grown_of F N stay
  have hD' : s₁.heap.objs.size ≤ D := Nat.le_trans hs hD
  exact ret D h' tk ys kk hJ.1 hJ.2 F' (news_new F N' hD' hpl) (lt_new N hD') hD'

/-- behind a pure comprehension that a name takes -/
theorem fin_A {R : Nat → Value → Prop} {y : Str} {Q : Flow → Shared → Prop} (hL : env.locals = L) (F : Fr h₀ L s₁.heap m) (N : News h₀ L s₁.heap news)
    (ret : ∀ D h' tk (ys : List Value) kk, ys.length = n → (∀ i y, ys[i]? = some y → R i y) → Fr h₀ L h' (fun z => if z = y then some (.ref D) else m z) → News h₀ L h' ((D, listOf ys.toArray kk) :: news) → AllLt D news → s₁.heap.objs.size ≤ D → Q .next { s₁ with heap := h', toks := tk })
    (h₂ : Heap) (tk₂ : Nat) (wr : List Addr) (st : s₁.heap.StaysIn h₂) (hs : s₁.heap.objs.size ≤ h₂.objs.size) (hwr : ∀ b ∈ wr, s₁.heap.objs.size ≤ b) :
    ∃ m, env.locals ∉ wr ∧ env.locals ∉ ([] : List Addr) ∧ ({ s₁ with heap := h₂, toks := tk₂ } : Shared).heap.Ns env.locals m ∧
      ∀ D h' tk (ys : List Value), ({ s₁ with heap := h₂, toks := tk₂ } : Shared).heap.objs.size ≤ D → h'.PlainList D ys.toArray → JP R n ys h' → ys.length ≤ n → h'.Ns env.locals (fun z => if z = y then some (.ref D) else m z) →
        (∀ b o, b ≠ env.locals → b ∉ wr → b ∉ ([] : List Addr) → ({ s₁ with heap := h₂, toks := tk₂ } : Shared).heap.get? b = some o → h'.get? b = some o) → Q .next { ({ s₁ with heap := h₂, toks := tk₂ } : Shared) with heap := h', toks := tk } := by
  subst hL
  have hLs := F.ns.lt
  refine ⟨m, fun q => Nat.lt_irrefl _ (Nat.lt_of_lt_of_le hLs (hwr _ q)), (fun q => nomatch q), F.ns.keeps st, ?_⟩
  intro D h' tk ys hD hpl hJ hys hns hk
  obtain ⟨kk, hpl⟩ := hpl
  have stay : ∀ b o, b ≠ env.locals → s₁.heap.get? b = some o → h'.get? b = some o := fun b o hb e => hk b o hb (fun q => Nat.lt_irrefl _ (Nat.lt_of_lt_of_le (Heap.lt_size e) (hwr b q))) (fun q => nomatch q) (st b o e)
  have hD' : s₁.heap.objs.size ≤ D := Nat.le_trans hs hD
  have F' : Fr h₀ env.locals h' (fun z => if z = y then some (.ref D) else m z) :=
    ⟨hns, fun b o e => stay b o (Nat.ne_of_lt (Nat.lt_of_lt_of_le (Heap.lt_size e) F.above)) (F.keep b o e), F.above⟩
  have N' : News h₀ env.locals h' news := fun p hp => ⟨stay _ _ (N p hp).2.1 (N p hp).1, (N p hp).2⟩
  exact ret D h' tk ys kk hJ.1 hJ.2 F' (news_new F N' hD' hpl) (lt_new N hD') hD'

/-- the same where the elements turn the deal at d -/
abbrev JD (b₀ : Heap) (d : Addr) (R : Nat → Value → Prop) : Nat → List Value → Heap → Prop := fun k ys h => JP R k ys h ∧ ∃ o, h.get? d = some o ∧ DealO b₀ o

theorem core_deal {P : Nat → Value → Prop} {b₀ : Heap} {d : Addr} {o : Obj} (src : SrcT prog w A (.Name x px) T s₁ n (fun i v _ => P i v) []) (hsz : n ≤ sizeLine)
    (hx : scope.names.lookup x = some .local) (hkind : scope.kind = .function) (R : Nat → Value → Prop) (hd : s₁.heap.get? d = some o) (D : DealO b₀ o)
    (helt : ∀ C k v h₃ tk (m' : Str → Option Value) o, s₁.heap.objs.size < C → k < n → P k v → (s₁.heap.hide d).StaysIn ((trunc h₃ C).hide d) → Fr ((trunc h₃ C).hide d) C h₃ (fun y => if y = x then some v else m' y) → News ((trunc h₃ C).hide d) C h₃ [(d, o)] → DealO b₀ o →
      wpAny (model prog w) A (eval elt (compEnvC scope cl C env)) (fun y s' => Endd (R k y ∧ EltEndD b₀ ((trunc h₃ C).hide d) C d s₁ s')) (fun _ _ => False) { s₁ with heap := h₃, toks := tk })
    {fin : Shared → List Addr → Nat → (Nat → List Value → Heap → Prop) → Prop}
    (hfin : ∀ h₂ tk wr, s₁.heap.StaysIn h₂ → s₁.heap.objs.size ≤ h₂.objs.size → (∀ b ∈ wr, s₁.heap.objs.size ≤ b) → fin { s₁ with heap := h₂, toks := tk } wr n (JD b₀ d R)) :
    T (fun it s₂ => CompIn prog w A env scope cl (.Name x px) elt [] [d] s₂ (fin s₂) it) := by
  refine src _ fun I fp wr Md St h₂ tk₂ W hst st hs2 hfp hfn hwr => ?_
  have hdl : d < s₁.heap.objs.size := Heap.lt_size hd
  refine ⟨⟨I, fp, wr, n, _, Md, St, JD b₀ d R, rfl, W, hsz, hst, hfp, (fun b hb => ?_), (fun k ys h h' j hb => ⟨j.1, let ⟨o', ho', D'⟩ := j.2; ⟨o', hb d (by simp) o' ho', D'⟩⟩), ⟨⟨rfl, fun i y e => by simp at e⟩, o, st _ _ hd, D⟩, ?_, hfin h₂ tk₂ wr st hs2 hwr⟩⟩
  · have e : b = d := by simpa using hb
    subst e
    refine ⟨fun q => ?_, Nat.lt_of_lt_of_le hdl hs2⟩
    rcases hfn b q with q | q
    · exact Nat.lt_irrefl _ (Nat.lt_of_lt_of_le hdl q)
    · cases q
  intro C k v ys h₃ tk m₃ hC hkn hP hJ hys hn hk
  unfold StepOf
  have hstay : ∀ b o, b ≠ d → s₁.heap.get? b = some o → h₃.get? b = some o := fun b o hb e => hk b o (fun q => Nat.lt_irrefl _ (Nat.lt_of_lt_of_le (Heap.lt_size e) (hwr b q))) (fun q => hb (by simpa using q)) (st b o e)
  refine wpAny_assign_Name (wpAny_storeName_local (lookup_relabel_local hx) hn (fun h₄ hn₄ hs₄ => ?_) (by simp [compEnvC, relabel, hkind]))
  refine wpAny_tests_nil ?_
  rw [if_pos rfl]
  have hC₁ : s₁.heap.objs.size < C := Nat.lt_of_le_of_lt hs2 hC
  have hdC : d ≠ C := Nat.ne_of_lt (Nat.lt_trans hdl hC₁)
  obtain ⟨o₃, ho₃, D₃⟩ := hJ.2
  have ho₄ : h₄.get? d = some o₃ := hs₄.extBut d o₃ hdC ho₃
  have hstay₄ : (s₁.heap.hide d).StaysIn ((trunc h₄ C).hide d) := fun b ob e => by
    have hb : b ≠ d := fun q => by rw [q, Heap.hide_self] at e; cases e
    have e' := Heap.of_hide e
    have hbC : b < C := Nat.lt_trans (Heap.lt_size e') hC₁
    exact (Heap.hide_ne _ hb).trans ((trunc_lt hbC).trans (hs₄.extBut b ob (Nat.ne_of_lt hbC) (hstay b ob hb e')))
  have Fg : Fr ((trunc h₄ C).hide d) C h₄ (fun y => if y = x then some v else m₃ y) := ⟨hn₄, fun b ob e => (trunc_some (Heap.of_hide e)).2, by rw [Heap.hide_size]; exact trunc_size _ _⟩
  have Ng : News ((trunc h₄ C).hide d) C h₄ [(d, o₃)] := fun p hp => by
    have e : p = (d, o₃) := by simpa using hp
    subst e
    exact ⟨ho₄, hdC, Heap.hide_self _ _⟩
  refine wpAny_mono (helt C k v h₄ (tk + 1) m₃ o₃ hC₁ hkn hP hstay₄ Fg Ng D₃) (fun y s' hq => ?_) fun _ _ e => e
  obtain ⟨hR, h', tk', m', o', rfl, F', N', D'⟩ := hq.out
  refine ⟨h', tk', m', rfl, F'.ns, ⟨hJ.1.snoc hR, o', (N' _ (.head _)).1, D'⟩, fun b o hb hw e => F'.keep b o ((Heap.hide_ne _ (fun q => hw (by simp [q]))).trans ((trunc_lt hb).trans (hs₄.extBut b o (Nat.ne_of_lt hb) e)))⟩

theorem fin_DE {R : Nat → Value → Prop} {Q : Value → Shared → Prop} {b₀ : Heap} {d : Addr} {o : Obj} {upd : Obj → List (Addr × Obj)} (F : Fr h₀ L s₁.heap m) (N : News h₀ L s₁.heap news) (U : UpdF d o news upd)
    (ret : ∀ D h' tk (ys : List Value) kk o', ys.length = n → (∀ i y, ys[i]? = some y → R i y) → Fr h₀ L h' m → News h₀ L h' ((D, listOf ys.toArray kk) :: upd o') → DealO b₀ o' → AllLt D news → s₁.heap.objs.size ≤ D → Q (.ref D) { s₁ with heap := h', toks := tk })
    (h₂ : Heap) (tk₂ : Nat) (wr : List Addr) (st : s₁.heap.StaysIn h₂) (hs : s₁.heap.objs.size ≤ h₂.objs.size) (hwr : ∀ b ∈ wr, s₁.heap.objs.size ≤ b) :
    ∀ D h' tk (ys : List Value), ({ s₁ with heap := h₂, toks := tk₂ } : Shared).heap.objs.size ≤ D → h'.PlainList D ys.toArray → JD b₀ d R n ys h' → ys.length ≤ n →
      (∀ b o, b ∉ wr → b ∉ [d] → ({ s₁ with heap := h₂, toks := tk₂ } : Shared).heap.get? b = some o → h'.get? b = some o) → Q (.ref D) { ({ s₁ with heap := h₂, toks := tk₂ } : Shared) with heap := h', toks := tk } := by
  intro D h' tk ys hD hpl hJ hys hk
  obtain ⟨kk, hpl⟩ := hpl
  have P := part_of F N U
  obtain ⟨⟨hl, hR⟩, o', ho', D'⟩ := hJ
  have stay : (s₁.heap.hide d).StaysIn h' := fun b ob e => by
    have hb : b ≠ d := fun q => by rw [q, Heap.hide_self] at e; cases e
    have e' := Heap.of_hide e
    exact hk b ob (fun q => Nat.lt_irrefl _ (Nat.lt_of_lt_of_le (Heap.lt_size e') (hwr b q))) (fun q => hb (by simpa using q)) (st b ob e')
  obtain ⟨F', N'⟩ := P.back h' o' stay ho'
  have hD' : s₁.heap.objs.size ≤ D := Nat.le_trans hs hD
  exact ret D h' tk ys kk o' hl hR F' (news_new F N' hD' hpl) D' (lt_new N hD') hD'

theorem fin_DA {R : Nat → Value → Prop} {y : Str} {Q : Flow → Shared → Prop} {b₀ : Heap} {d : Addr} {o : Obj} {upd : Obj → List (Addr × Obj)} (hL : env.locals = L) (F : Fr h₀ L s₁.heap m) (N : News h₀ L s₁.heap news) (U : UpdF d o news upd)
    (ret : ∀ D h' tk (ys : List Value) kk o', ys.length = n → (∀ i y, ys[i]? = some y → R i y) → Fr h₀ L h' (fun z => if z = y then some (.ref D) else m z) → News h₀ L h' ((D, listOf ys.toArray kk) :: upd o') → DealO b₀ o' → AllLt D news → s₁.heap.objs.size ≤ D → Q .next { s₁ with heap := h', toks := tk })
    (h₂ : Heap) (tk₂ : Nat) (wr : List Addr) (st : s₁.heap.StaysIn h₂) (hs : s₁.heap.objs.size ≤ h₂.objs.size) (hwr : ∀ b ∈ wr, s₁.heap.objs.size ≤ b) :
    ∃ m, env.locals ∉ wr ∧ env.locals ∉ [d] ∧ ({ s₁ with heap := h₂, toks := tk₂ } : Shared).heap.Ns env.locals m ∧
      ∀ D h' tk (ys : List Value), ({ s₁ with heap := h₂, toks := tk₂ } : Shared).heap.objs.size ≤ D → h'.PlainList D ys.toArray → JD b₀ d R n ys h' → ys.length ≤ n → h'.Ns env.locals (fun z => if z = y then some (.ref D) else m z) →
        (∀ b o, b ≠ env.locals → b ∉ wr → b ∉ [d] → ({ s₁ with heap := h₂, toks := tk₂ } : Shared).heap.get? b = some o → h'.get? b = some o) → Q .next { ({ s₁ with heap := h₂, toks := tk₂ } : Shared) with heap := h', toks := tk } := by
  subst hL
  have hLs := F.ns.lt
  obtain ⟨pre, post, rfl, hg, h1, h2⟩ := U.split
  have hmem := N (d, o) (List.mem_append_right _ (.head _))
  refine ⟨m, fun q => Nat.lt_irrefl _ (Nat.lt_of_lt_of_le hLs (hwr _ q)), (fun q => hmem.2.1 (by simpa using Eq.symm (by simpa using q : env.locals = d))), F.ns.keeps st, ?_⟩
  intro D h' tk ys hD hpl hJ hys hns hk
  obtain ⟨kk, hpl⟩ := hpl
  obtain ⟨⟨hl, hR⟩, o', ho', D'⟩ := hJ
  have stay : ∀ b ob, b ≠ env.locals → b ≠ d → s₁.heap.get? b = some ob → h'.get? b = some ob := fun b ob hb hbd e => hk b ob hb (fun q => Nat.lt_irrefl _ (Nat.lt_of_lt_of_le (Heap.lt_size e) (hwr b q))) (fun q => hbd (by simpa using q)) (st b ob e)
  have hD' : s₁.heap.objs.size ≤ D := Nat.le_trans hs hD
  have F' : Fr h₀ env.locals h' (fun z => if z = y then some (.ref D) else m z) :=
    ⟨hns, fun b ob e => stay b ob (Nat.ne_of_lt (Nat.lt_of_lt_of_le (Heap.lt_size e) F.above)) (fun q => by rw [q, hmem.2.2] at e; cases e) (F.keep b ob e), F.above⟩
  have N' : News h₀ env.locals h' (upd o') := by
    rw [hg]
    intro p hp
    rcases List.mem_append.mp hp with q | q
    · have P := N p (List.mem_append_left _ q)
      exact ⟨stay _ _ P.2.1 (h1 p q) P.1, P.2⟩
    · rcases List.mem_cons.mp q with rfl | q
      · exact ⟨ho', hmem.2⟩
      · have P := N p (List.mem_append_right _ (.tail _ q))
        exact ⟨stay _ _ P.2.1 (h2 p q) P.1, P.2⟩
  exact ret D h' tk ys kk o' hl hR F' (news_new F N' hD' hpl) D' (lt_new N hD') hD'

/-- pairs out of two lists; a test where there is one -/
theorem core_zip {a b : Str} {pa pb pos : Pos} {kx : Nat} {xs ys : List Value} {ifs : List Expr} {l1 l2 : Addr} (hh : A.handled = none)
    (src : SrcT prog w A (.Tuple [.Name a pa, .Name b pb] kx pos) T s₁ n (fun i v h => ∃ T x y, v = .ref T ∧ xs[i]? = some x ∧ ys[i]? = some y ∧ h.IsTuple T #[x, y]) own) (hsz : n ≤ sizeLine)
    (ha : scope.names.lookup a = some .local) (hb : scope.names.lookup b = some .local) (hkind : scope.kind = .function) (J : Nat → List Value → Prop) (h0 : J 0 [])
    (helt : ∀ C k h₃ tk (m' : Str → Option Value) zs x y, s₁.heap.objs.size < C → k < n → xs[k]? = some x → ys[k]? = some y → J k zs → s₁.heap.StaysIn (trunc h₃ C) → Fr (trunc h₃ C) C h₃ (fun z => if z = b then some y else if z = a then some x else m' z) → News (trunc h₃ C) C h₃ [] →
      wpAny (model prog w) A (testsOf ifs (compEnvC scope cl C env)) (fun ok s₄ =>
        if ok = true then wpAny (model prog w) A (eval elt (compEnvC scope cl C env)) (fun z s' => Endd (J (k + 1) (zs ++ [z]) ∧ EltEnd (trunc h₃ C) C s₁ s')) (fun _ _ => False) s₄
        else Endd (J (k + 1) zs ∧ EltEnd (trunc h₃ C) C s₁ s₄)) (fun _ _ => False) { s₁ with heap := h₃, toks := tk })
    {fin : Shared → List Addr → Nat → (Nat → List Value → Heap → Prop) → Prop}
    (hfin : ∀ h₂ tk wr, s₁.heap.StaysIn h₂ → s₁.heap.objs.size ≤ h₂.objs.size → (∀ b ∈ wr, s₁.heap.objs.size ≤ b) → fin { s₁ with heap := h₂, toks := tk } wr n (fun k zs _ => J k zs)) :
    T (fun it s₂ => CompIn prog w A env scope cl (.Tuple [.Name a pa, .Name b pb] kx pos) elt ifs [] s₂ (fin s₂) it) := by
  refine src _ fun I fp wr Md St h₂ tk₂ W hst st hs2 hfp _ hwr => ?_
  refine ⟨⟨I, fp, wr, n, _, Md, St, fun k zs _ => J k zs, rfl, W, hsz, hst, hfp, (fun b hb => nomatch hb), (fun k zs h h' j _ => j), h0, ?_, hfin h₂ tk₂ wr st hs2 hwr⟩⟩
  rintro C k v zs h₃ tk m₃ hC hkn ⟨Tu, x, y, rfl, hxk, hyk, hT⟩ hJ hys hn hk
  unfold StepOf
  have hC₁ : s₁.heap.objs.size < C := Nat.lt_of_le_of_lt hs2 hC
  have hstay : s₁.heap.StaysIn h₃ := fun b o e => hk b o (fun q => Nat.lt_irrefl _ (Nat.lt_of_lt_of_le (Heap.lt_size e) (hwr b q))) (fun q => nomatch q) (st b o e)
  have hstay : s₁.heap.StaysIn h₃ := fun b o e => hk b o (fun q => Nat.lt_irrefl _ (Nat.lt_of_lt_of_le (Heap.lt_size e) (hwr b q))) (fun q => nomatch q) (st b o e)
  have hp : ((compEnvC scope cl C env).scope.kind == .class || ((compEnvC scope cl C env).scope.kind == .module && (compEnvC scope cl C env).locals != (compEnvC scope cl C env).globals)) = false := by simp [compEnvC, relabel, hkind]
  refine wpAny_assign_Tuple hh hT rfl rfl fun h₄ hx₄ => ?_
  have hCs : C < h₃.objs.size := hn.lt
  have up₄ : ∀ b o, h₃.get? b = some o → h₄.get? b = some o := fun b o e => hx₄ b o (Nat.ne_of_lt (Heap.lt_size e)) e
  show wpAny _ _ (assignInOrder [assign (.Name a pa) (compEnvC scope cl C env), assign (.Name b pb) (compEnvC scope cl C env)] [x, y]) _ _ _
  refine wpAny_bind (wpAny_holding (wpAny_assign_Name (wpAny_storeName_local (lookup_relabel_local ha) (hn.keeps up₄) (fun h₅ hn₅ hs₅ => ?_) hp)))
  refine wpAny_bind (wpAny_holding (wpAny_assign_Name (wpAny_storeName_local (lookup_relabel_local hb) hn₅ (fun h₆ hn₆ hs₆ => ?_) hp)))
  refine wpAny_pure ?_
  have up₆ : ∀ b o, b ≠ C → h₃.get? b = some o → h₆.get? b = some o := fun b o hb e => hs₆.extBut b o hb (hs₅.extBut b o hb (up₄ b o e))
  have hstay₆ : s₁.heap.StaysIn h₆ := fun b o e => up₆ b o (Nat.ne_of_lt (Nat.lt_trans (Heap.lt_size e) hC₁)) (hstay b o e)
  have fin : ∀ (zs' : List Value) (s' : Shared), J (k + 1) zs' → EltEnd (trunc h₆ C) C s₁ s' → TurnEnd C [] { ({ s₁ with heap := h₂, toks := tk₂ } : Shared) with heap := h₃, toks := tk } s' (fun _ => J (k + 1) zs') := by
    rintro zs' s' j ⟨h', tk', m', rfl, F'⟩
    exact ⟨h', tk', m', rfl, F'.ns, j, fun b o hb _ e => F'.keep b o ((trunc_lt hb).trans (up₆ b o (Nat.ne_of_lt hb) e))⟩
  refine wpAny_mono (helt C k h₆ (tk + 1 + 1) m₃ zs x y hC₁ hkn hxk hyk hJ (stays_trunc (Nat.le_of_lt hC₁) hstay₆) (fr_trunc hn₆) News.nil) (fun ok s₄ h₄' => ?_) fun _ _ e => e
  cases ok with
  | false => exact fin _ _ h₄'.out.1 h₄'.out.2
  | true => exact wpAny_mono h₄' (fun z s' hq => fin _ _ hq.out.1 hq.out.2) fun _ _ e => e
end
end
theorem off_Nam : True := by
  w_top off
  trivial
section
section
variable {M : Model} {A : Around} {E : Value → Shared → Prop} {s : Shared} {K : Frag} {h₀ : Heap} {L : Addr} {m mg mb : Str → Option Value} {p : Program} {loose : List Str} {mean : ExcName → Option Value}
  {x : Str} {pos : Pos} {v : Value} {Q : Value → Shared → Prop} {news : List (Addr × Obj)} {c : Addr} {o : Obj} {env : Env}
/-- names in any block: a local, a captured one, a global of the text, a built-in -/
theorem nmL (F : Fr h₀ L s.heap m) (hL : env.locals = L) (hk : env.scope.kind = .function) (hx : env.kindOf x = some .local) (hv : m x = some v) (h : Q v s) (hd : (x == ("__debug__" : Str)) = false) :
    wpAny M A (eval (.Name x pos) env) Q E s := by
  subst hL
  exact wpAny_Name (wpAny_loadName_local hk hx F.ns hv h) hd
theorem nmC (N : News h₀ L s.heap news) (hk : env.scope.kind = .function) (hx : env.kindOf x = some .cell) (hc : env.cells.lookup x = some c) (hm : (c, o) ∈ news) (hd : o.data = .cell (some v)) (h : Q v s) (hb : (x == ("__debug__" : Str)) = false) :
    wpAny M A (eval (.Name x pos) env) Q E s := wpAny_Name (wpAny_loadName_cell hk hx hc ⟨o, N.get hm, hd⟩ h) hb
theorem nmB₀ (F : Fr h₀ L s.heap m) (hk : env.scope.kind = .function) (hx : env.kindOf x = some .cell) (hc : env.cells.lookup x = some c) (ho : h₀.get? c = some o) (hd : o.data = .cell (some v)) (h : Q v s) (hb : (x == ("__debug__" : Str)) = false) :
    wpAny M A (eval (.Name x pos) env) Q E s := wpAny_Name (wpAny_loadName_cell hk hx hc ⟨o, F.keep _ _ ho, hd⟩ h) hb
theorem nmK (F : Fr h₀ L s.heap m) (X : K.In h₀) (T : Top p loose mean mg mb h₀) (hg : env.globals = mainGlobals) (hk : env.scope.kind = .function) (hx : env.kindOf x = some .globalImplicit) (e : nsIn K mainGlobals x = some (some v)) (h : Q v s)
    (hd : (x == ("__debug__" : Str)) = false) : wpAny M A (eval (.Name x pos) env) Q E s :=
  Name_function_global hk hx (loadGlobal_global (env := env) (by rw [hg]; exact T.g.keeps F.keep) (mg_of X T.g e) h) hd
theorem nmB (F : Fr h₀ L s.heap m) (X : K.In h₀) (T : Top p loose mean mg mb h₀) (hg : env.globals = mainGlobals) (hbn : env.builtins = builtinsNs) (hk : env.scope.kind = .function) (hx : env.kindOf x = some .globalImplicit) (e : nsIn K mainGlobals x = some none)
    (hv : bootBuiltins x = some v) (hn : x ≠ "__name__") (h : Q v s) (hd : (x == ("__debug__" : Str)) = false) : wpAny M A (eval (.Name x pos) env) Q E s :=
  Name_function_global hk hx (loadGlobal_builtin (env := env) (by rw [hg]; exact T.g.keeps F.keep) (mg_none_of X T.g e) (by rw [hbn]; exact T.b.keeps F.keep) ((T.builtins x hn).trans hv) h) hd
end
theorem compEnvC_eq (scope : Scope) (cl : List (Str × Addr)) (C : Addr) (env : Env) : compEnvC scope cl C env = { scope := relabel scope env, locals := C, globals := env.globals, cells := cl, qual := env.qual, func := none, code := env.code, frame := env.frame, builtins := env.builtins } := rfl
end
theorem off_Bt : True := by
  w_top off
  trivial
section
open PySem.Builtin

section
variable {prog : Program} {w : World} {A : Around} {E : Value → Shared → Prop} {s : Shared}

theorem gives_bytes_in {b : Array UInt8} {u t : Tok} {x : Int} (h0 : 0 ≤ x) (h1 : x < 256) : Gives («bytes.__contains__» ⟨[.bytes b u, .int x t], []⟩) (.val (.bool (b.contains x.toNat.toUInt8))) := by
  refine .of_wp fun M A E s Q hq => ?_
  show wpAny M A (Bytes.containsIn "bytes.__contains__" (.bytes b u) (.int x t) >>= fun r => ret (.bool r)) _ E s
  refine wpAny_bind ?_
  unfold Bytes.containsIn
  refine wpAny_bind (wpAny_attempt (wpAny_of_eq (a := x) rfl ?_))
  refine wpAny_bind (wpAny_of_eq KBy.buffer_eq ?_)
  dsimp only
  have e : (decide (x < 0) || decide (x ≥ 256)) = false := by rw [decide_eq_false (by omega), decide_eq_false (by omega)]; rfl
  rw [e]
  exact wpAny_pure (wpAny_pure ⟨_, rfl, hq⟩)
theorem in_bytes {b : Array UInt8} {u t : Tok} {x : Int} {Q : Value → Shared → Prop} (h0 : 0 ≤ x) (h1 : x < 256) (h : Q (.bool (b.contains x.toNat.toUInt8)) s) : wpAny (model prog w) A (compareOp .In (.int x t) (.bytes b u)) Q E s :=
  in_gives (typeIs_bytes s b u) FB.slot_bytes_contains FB.entry_bytes_contains (FB.args_bytes_contains_2 _ _) (gives_bytes_in h0 h1) h
theorem notIn_bytes {b : Array UInt8} {u t : Tok} {x : Int} {Q : Value → Shared → Prop} (h0 : 0 ≤ x) (h1 : x < 256) (h : Q (.bool (!b.contains x.toNat.toUInt8)) s) : wpAny (model prog w) A (compareOp .NotIn (.int x t) (.bytes b u)) Q E s :=
  notIn_gives (typeIs_bytes s b u) FB.slot_bytes_contains FB.entry_bytes_contains (FB.args_bytes_contains_2 _ _) (gives_bytes_in h0 h1) h

-- rstrip of bytes
theorem slot_bytes_rstrip : Slot "bytes" "rstrip" "bytes.rstrip" :=
  .of (owner := "bytes") (n := "rstrip") (by rw [typeLookup_type, builtinLookup_eq_fast]; kernel_rfl) (by decide +kernel) (by decide +kernel) (by decide +kernel)
    (by first | exact .inl (by decide +kernel) | exact .inr (by decide +kernel)) (by rw [isSubtype_type]; kernel_rfl)
theorem type_bytes_rstrip : typeOf (.builtin "bytes.rstrip") = pure (.type "method_descriptor") := by show builtinType _ = _; rw [builtinType_eq_fast]; kernel_rfl
theorem entry_bytes_rstrip : entryFor table "bytes.rstrip" = some Builtin.«bytes.rstrip» := entryFor_of_tree (by kernel_rfl)
theorem args_bytes_rstrip_2 (a b : Value) : argsOk "bytes.rstrip" ⟨[a, b], []⟩ := by
  unfold argsOk; rw [signature?_of (id := "bytes.rstrip") (n := ['p', 'i', 'r', 't', 's', 'r']) (o := ['s', 'e', 't', 'y', 'b']) (by kernel_rfl) FB.owner_bytes]; kernel_rfl
def rstripA (b c : Array UInt8) : Array UInt8 := (b.toList.reverse.dropWhile c.contains).reverse.toArray
theorem gives_bytes_rstrip {b c : Array UInt8} {t u : Tok} (hb : b.size ≤ 1000) : Gives («bytes.rstrip» ⟨[.bytes b t, .bytes c u], []⟩)
    (if (rstripA b c).toList.length == b.size then .val (.bytes b t) else .bytes (rstripA b c)) := by
  refine .of_wp fun M A E s Q hq => ?_
  unfold «bytes.rstrip» Bytes.stripM
  refine wpAny_bind (wpAny_of_eq (a := (Value.bytes b t, [Value.bytes c u])) (by kernel_rfl) ?_)
  dsimp only
  refine wpAny_bind (wpAny_of_eq KBd.like_eq ?_)
  refine wpAny_bind (wpAny_pure ?_)
  refine wpAny_bind (wpAny_of_eq (a := b) rfl ?_)
  simp only [Bool.false_eq_true, if_false, if_true]
  have e : (List.dropWhile c.contains b.toList.reverse).reverse = (rstripA b c).toList := by simp [rstripA]
  rw [e]
  by_cases hl : ((rstripA b c).toList.length == b.size) = true
  · rw [if_pos hl] at hq ⊢
    refine wpAny_bind (wpAny_rule ?_)
    refine wpAny_bind ?_
    show wpAny _ _ (typeOf (.bytes b t) >>= _) _ _ _
    refine wpAny_bind (wpAny_typeOf (typeIs_bytes s b t) ?_)
    exact wpAny_pure (wpAny_pure ⟨_, rfl, hq⟩)
  · rw [if_neg hl] at hq ⊢
    refine wpAny_bind (wpAny_mkBytes (wpAny_pure ⟨_, rfl, ?_⟩) ?_)
    · have := hq.2; simpa using this
    · have := hq.1; simpa using this
theorem rstripA_size (b c : Array UInt8) : (rstripA b c).size ≤ b.size := by
  have : (b.toList.reverse.dropWhile c.contains).length ≤ b.toList.reverse.length := (List.dropWhile_sublist _).length_le
  simpa [rstripA] using this
theorem rstrip_bytes {b c : Array UInt8} {t u : Tok} {Q : Value → Shared → Prop} (hb : b.size ≤ 1000) (h : ∀ t' k, Q (.bytes (rstripA b c) t') { s with toks := k }) :
    wpAny (model prog w) A (call (.builtin "bytes.rstrip") [.bytes b t, .bytes c u]) Q E s := by
  refine call_gives slot_bytes_rstrip (typeIs_bytes _ _ _) entry_bytes_rstrip (args_bytes_rstrip_2 _ _) (gives_bytes_rstrip hb) ?_
  by_cases hl : ((rstripA b c).toList.length == b.size) = true
  · rw [if_pos hl]
    have e : rstripA b c = b := by
      apply Array.toList_inj.mp
      have h1 : (rstripA b c).toList = (b.toList.reverse.dropWhile c.contains).reverse := by simp [rstripA]
      have h2 : (b.toList.reverse.dropWhile c.contains) = b.toList.reverse := (List.dropWhile_sublist _).eq_of_length (by have := beq_iff_eq.mp hl; rw [h1] at this; simpa using this)
      rw [h1, h2, List.reverse_reverse]
    have := h t s.toks
    rw [e] at this
    exact this
  · rw [if_neg hl]
    exact ⟨by rw [sizeLine_eq]; have := rstripA_size b c; omega, h s.toks (s.toks + 1)⟩
theorem getMethod_bytes_rstrip {M : Model} {b : Array UInt8} {t : Tok} {pl : Sem Bool} {Q : Value × List Value → Shared → Prop} (h : Q (.builtin "bytes.rstrip", [.bytes b t]) s) : wpAny M A (getMethod (.bytes b t) "rstrip" pl) Q E s := by
  with_reducible exact KBd.method_of (.bytes b t) (typeIs_bytes _ _ _) slot_bytes_rstrip type_bytes_rstrip KBd.noRef h

-- list of bytes
theorem extend_bytes {R : Result → Shared → Prop} (hh : A.handled = none) (x : Array UInt8) (t : Tok) (S : Addr) (res : Value) (c₀ : Nat) (hS : s.heap.get? S = some { cls := .type "list", data := .seq #[] c₀ })
    (hR : ∀ h' tk acc' c', (∀ b o, b ≠ S → s.heap.get? b = some o → h'.get? b = some o) → h'.get? S = some { cls := .type "list", dict := none, data := .seq acc' c', slots := #[] } →
      ItemsOf (fun i v => ∃ c u, x[i]? = some c ∧ v = .int (c.toNat : Int) u) acc' x.size → R (.ok (.ret res)) { s with heap := h', toks := tk }) (hn : x.size ≤ 1000) :
    wpAny (model prog w) A.in1 (Builtin.List.listExtendWith (.ref S) (.bytes x t) res)
      (fun fin s' => match fin with | .done f => R (.ok f) s' | .again c' => c'.quiet = true ∧ codeAny (model prog w) A c' R s') (fun e s' => R (.error e) s') s := by
  have hSI : S ≠ s.heap.objs.size := Nat.ne_of_lt (Heap.lt_size hS)
  have hSf : S ∉ [s.heap.objs.size] := fun hm => hSI (List.mem_singleton.mp hm)
  have hnl : x.size ≤ sizeLine := by rw [sizeLine_eq]; omega
  unfold Builtin.List.listExtendWith
  refine wpAny_bind (wpAny_typeOf (T := "bytes") (v := .bytes x t) rfl ?_)
  have h1 : Builtin.List.listSameRef (.ref S) (.bytes x t) = false := rfl
  have h2 : (Value.type "bytes" == Value.type "list") = false := by decide
  have h3 : (Value.type "bytes" == Value.type "tuple") = false := by decide
  simp only [h1, h2, h3, Bool.or_false, Bool.false_eq_true, if_false]
  refine wpAny_bind (KBw.pyIter_bytes ?_)
  refine wpAny_bind (wpAny_holding ?_)
  unfold Builtin.List.listLengthHint
  refine wpAny_bind (wpAny_specialOf (T := "bytes") (v := .bytes x t) rfl FB.slot_bytes_len.lookup ?_)
  wp_delta
  refine wpAny_bind (wpAny_isInstance (T := "bytes") (v := .bytes x t) (b := true) rfl (by rw [isSubtype_type]; kernel_rfl) ?_)
  show wpAny _ _ (typeOf (Value.bytes x t) >>= _) _ _ _
  refine wpAny_bind (wpAny_typeOf (T := "bytes") (v := .bytes x t) rfl ?_)
  refine wpAny_pure ?_
  rw [if_neg (by decide)]
  refine wpAny_pure ⟨plainId_quiet F.plain_extend_loop _, codeAny_extend_loopS (hn := hnl) (KBw.walks (A := A.in1) hh s.heap.objs.size x t).toS _ hSf _ x.size 0 _ _ _ rfl (Nat.zero_le _) ⟨_, Heap.get?_push_size _ rfl, rfl, rfl⟩ (Heap.get?_push_of_some _ hS) (ItemsOf.nil _) fun s' acc' c' hm hS' hacc => ?_⟩
  rw [Moved.eq_with hm]
  refine hR s'.heap s'.toks acc' c' (fun b ob hb e => hm.heap b ob (fun hmem => ?_) (Heap.get?_push_of_some _ e)) hS' hacc
  rcases List.mem_cons.mp hmem with e' | hmem
  · exact hb e'
  · exact absurd (Heap.lt_size e) (by rw [List.mem_singleton.mp hmem]; exact Nat.lt_irrefl _)

theorem list_init_bytes {R : Result → Shared → Prop} (hh : A.handled = none) (x : Array UInt8) (t : Tok) (S : Addr) (hS : s.heap.get? S = some { cls := .type "list", data := .seq #[] })
    (hR : ∀ h' tk acc' c', (∀ b o, b ≠ S → s.heap.get? b = some o → h'.get? b = some o) → h'.get? S = some { cls := .type "list", dict := none, data := .seq acc' c', slots := #[] } →
      ItemsOf (fun i v => ∃ c u, x[i]? = some c ∧ v = .int (c.toNat : Int) u) acc' x.size → R (.ok (.ret .none)) { s with heap := h', toks := tk }) (hn : x.size ≤ 1000) :
    wpAny (model prog w) A.in1 (Builtin.«list.__init__» ⟨[.ref S, .bytes x t], []⟩)
      (fun fin s' => match fin with | .done f => R (.ok f) s' | .again c' => c'.quiet = true ∧ codeAny (model prog w) A c' R s') (fun e s' => R (.error e) s') s := by
  show wpAny _ _ (do let old ← Builtin.List.listItems (.ref S); Builtin.List.listUpdate (.ref S) (fun _ => #[]); letGo old.toList.reverse; Builtin.List.listExtendWith (.ref S) (.bytes x t) .none) _ _ s
  refine wpAny_bind ?_
  unfold Builtin.List.listItems
  refine wpAny_bind (wpAny_seqItems hS rfl (wpAny_pure ?_))
  show wpAny _ _ (updateSeq S (fun _ => #[]) >>= fun _ => letGo (#[] : Array Value).toList.reverse >>= fun _ => Builtin.List.listExtendWith (.ref S) (.bytes x t) .none) _ _ s
  refine wpAny_bind (wpAny_updateSeq hS rfl ?_)
  have hS₂ := Heap.get?_update_self (Obj.mapSeq (fun _ => (#[] : Array Value))) hS rfl
  have oth : ∀ b o, b ≠ S → s.heap.get? b = some o → (s.heap.update S (Obj.mapSeq (fun _ => (#[] : Array Value)))).get? b = some o :=
    fun b o hb e => (Heap.get?_update_other _ _ (Ne.symm hb)).trans e
  refine wpAny_bind (wpAny_letGo ?_)
  refine extend_bytes (hn := hn) hh x t S .none _ hS₂ fun h' tk acc' c' hk hS' hacc => ?_
  exact hR h' tk acc' c' (fun b o hb e => hk b o hb (oth b o hb e)) hS' hacc

theorem list_bytes {Q : Value → Shared → Prop} (hh : A.handled = none) (x : Array UInt8) (t : Tok)
    (hQ : ∀ h' tk acc' c', (∀ b o, s.heap.get? b = some o → h'.get? b = some o) →
      h'.get? s.heap.objs.size = some { cls := .type "list", dict := none, data := .seq acc' c', slots := #[] } → ItemsOf (fun i v => ∃ c u, x[i]? = some c ∧ v = .int (c.toNat : Int) u) acc' x.size → Q (.ref s.heap.objs.size) { s with heap := h', toks := tk }) (hn : x.size ≤ 1000) :
    wpAny (model prog w) A (call (.type "list") [.bytes x t]) Q E s := by
  refine callType_codes (Q₁ := fun obj s₁ => obj = .ref s.heap.objs.size ∧ s₁ = { s with heap := s.heap.push { cls := .type "list", data := .seq #[] } }) F.called_list (F.typeCall_list_1 _) F.entry_list_init
    (code_list_new _ ⟨rfl, rfl⟩) fun obj s₁ h₁ => ?_
  obtain ⟨rfl, rfl⟩ := h₁
  have hS : (s.heap.push { cls := .type "list", data := .seq #[] }).get? s.heap.objs.size = some { cls := .type "list", data := .seq #[] } := Heap.get?_push_size _ rfl
  refine ⟨⟨_, hS, rfl⟩, F.args_list_init_2 _ _, list_init_bytes (A := A.in1) (hn := hn) hh x t _ hS fun h' tk acc' c' hk hS' hacc => ?_⟩
  exact ⟨rfl, hQ h' tk acc' c' (fun b o e => hk b o (Nat.ne_of_lt (Heap.lt_size e)) (Heap.get?_push_of_some _ e)) hS' hacc⟩
end
end
theorem off_Fors : True := by
  w_top off
  trivial
section
def SrcW (prog : Program) (w : World) (A : Around) (T : (Value → Shared → Prop) → Prop) (s₁ : Shared) (n : Nat) (P : Nat → Value → Prop) (own : List Addr) : Prop :=
  ∀ Q : Value → Shared → Prop, (∀ I St h' tk, Walks prog w A I (I :: own) [I] n P St → St 0 h' → s₁.heap.StaysIn h' → s₁.heap.objs.size ≤ I → h'.get? I ≠ none → (∀ i h, St i h → h.get? I ≠ none) → Q (.ref I) { s₁ with heap := h', toks := tk }) → T Q

/-- what a turn of a for leaves -/
def ForEnd (h₀ : Heap) (L : Addr) (s₁ : Shared) (I : Addr) (o : Obj) (J : (Str → Option Value) → List (Addr × Obj) → Prop) (Q : Flow → Shared → Prop) (f : Flow) (s₃ : Shared) : Prop :=
  match f with
  | .ret v => Q (.ret v) s₃
  | .brk => Q .next s₃
  | _ => Endd (∃ h' tk' m' news', s₃ = { s₁ with heap := h', toks := tk' } ∧ Fr h₀ L h' m' ∧ News h₀ L h' ((I, o) :: news') ∧ (∀ p ∈ news', p.1 ≠ I) ∧ J m' news')

section
variable {prog : Program} {w : World} {A : Around} {E : Value → Shared → Prop} {s : Shared} {env : Env}

theorem srcw_list {l : Addr} {vs : List Value} (hh : A.handled = none) (hl : s.heap.IsList l vs.toArray) :
    SrcW prog w A (fun Q => wpAny (model prog w) A (pyIter (.ref l)) Q E s) s vs.length (fun i v => vs[i]? = some v) [l] := by
  intro Q h
  have hlt : l < s.heap.objs.size := by obtain ⟨o, ho, _⟩ := hl; exact Heap.lt_size ho
  refine wpAny_pyIter_list hl ?_
  have W := Walks.list (prog := prog) (w := w) hh s.heap.objs.size l (Nat.ne_of_lt hlt) vs.toArray
  have e : (fun (i : Nat) (v : Value) => vs.toArray[i]? = some v) = fun i v => vs[i]? = some v := by funext i v; rw [List.getElem?_toArray]
  rw [e, List.size_toArray] at W
  refine h _ _ _ s.toks W ⟨⟨_, Heap.get?_push_size _ rfl, rfl, rfl⟩, hl.at fun o e => Heap.get?_push_of_some _ e⟩ (stays_push _ _) (Nat.le_refl _) ?_ ?_
  · rw [Heap.get?_push_size _ rfl]; exact fun q => nomatch q
  · intro i h' hst q
    have := hst.1
    obtain ⟨o, ho, _⟩ := this
    exact nomatch (q.symm.trans ho)

theorem srcw_bytes {b : Array UInt8} {t : Tok} (hh : A.handled = none) :
    SrcW prog w A (fun Q => wpAny (model prog w) A (pyIter (.bytes b t)) Q E s) s b.size (fun i v => ∃ c u, b[i]? = some c ∧ v = .int (c.toNat : Int) u) [] := by
  intro Q h
  refine KBw.pyIter_bytes ?_
  refine h _ _ _ s.toks (KBw.walks hh s.heap.objs.size b t) ⟨_, Heap.get?_push_size _ rfl, rfl, rfl⟩ (stays_push _ _) (Nat.le_refl _) ?_ ?_
  · rw [Heap.get?_push_size _ rfl]; exact fun q => nomatch q
  · intro i h' hst q
    obtain ⟨o, ho, _⟩ := hst
    exact nomatch (q.symm.trans ho)

theorem srcw_range {n : Nat} {t : Tok} (hh : A.handled = none) (hn : n ≤ 1000) :
    SrcW prog w A (fun Q => wpAny (model prog w) A (call (.type "range") [.int (n : Int) t]) (fun xv s₁ => wpAny (model prog w) A (pyIter xv) Q E s₁) E s) s n (fun i v => ∃ t, v = .int (i : Int) t) [] := by
  intro Q h
  refine call_range_1 ?_
  refine wpAny_pyIter_range (IsRange.new _ _ _ _ _ _ _) (small_nat hn) ?_
  have W := Walks.range (prog := prog) (w := w) hh (s.heap.objs.size + 1) 0 1 n
  have e : (fun (i : Nat) (v : Value) => ∃ t, v = Value.int (0 + (i : Int) * 1) t) = fun (i : Nat) v => ∃ t, v = Value.int (i : Int) t := by funext i v; rw [Int.mul_one, Int.zero_add]
  rw [e] at W
  dsimp only
  have hz : ∀ o : Obj, (s.heap.push o).objs.size = s.heap.objs.size + 1 := fun o => Heap.size_push ..
  rw [hz]
  have hg := Heap.get?_push_size (s.heap.push { cls := .type "range", data := .fields #[.int 0 s.toks, .int n t, .int 1 (s.toks + 1)] }) (o := { cls := .type "range_iterator", data := .fields #[rawInt 0, rawInt (Builtin.Range.rangeSize 0 (n : Int) 1), rawInt 1] }) rfl
  rw [hz] at hg
  refine h _ _ _ _ W ?_ (fun b ob e => stays_push _ _ _ _ (stays_push _ _ _ _ e)) (Nat.le_succ _) ?_ ?_
  · show IsRangeIter _ _ _ _ _
    rw [rangeSize_nat] at hg ⊢
    simpa [IsRangeIter] using hg
  · rw [hg]; exact fun q => nomatch q
  · intro i h' st; rw [st]; exact fun q => nomatch q

/-- for_src, the count of tokens told -/
theorem for_srcT {T : (Value → Shared → Prop) → Prop} {s₁ : Shared} {n : Nat} {P : Nat → Value → Prop} {own : List Addr} {x : Str} {px : Pos} {body : List Stmt} {h₀ : Heap} {L : Addr} {m : Str → Option Value} {news : List (Addr × Obj)} {Q : Flow → Shared → Prop}
    (src : SrcW prog w A T s₁ n P own) (hL : env.locals = L) (F : Fr h₀ L s₁.heap m) (N : News h₀ L s₁.heap news) (hx : env.kindOf x = some .local) (hp : (env.scope.kind == .class || (env.scope.kind == .module && env.locals != env.globals)) = false)
    (J : Nat → (Str → Option Value) → List (Addr × Obj) → Prop) (h0 : J 0 m news)
    (hkeep : ∀ b ∈ own, b ≠ L ∧ ∀ o, s₁.heap.get? b = some o → h₀.get? b = some o ∨ ∀ i m₁ news₁, J i m₁ news₁ → (b, o) ∈ news₁) (hin : ∀ b ∈ own, ∃ o, s₁.heap.get? b = some o)
    (step : ∀ i v m₁ news₁ I o h₁ tk₁, 1 ≤ tk₁ → i < n → P i v → J i m₁ news₁ → Fr h₀ L h₁ (fun y => if y = x then some v else m₁ y) → News h₀ L h₁ ((I, o) :: news₁) → (∀ p ∈ news₁, p.1 ≠ I) → s₁.heap.objs.size ≤ I →
      wpAny (model prog w) A (execs body env) (ForEnd h₀ L s₁ I o (J (i + 1)) Q) (fun _ _ => False) { s₁ with heap := h₁, toks := tk₁ })
    (done : ∀ h' tk' m' news', Fr h₀ L h' m' → News h₀ L h' news' → J n m' news' → Q .next { s₁ with heap := h', toks := tk' }) :
    T (fun it s₂ => codeAny (model prog w) A (.forLoop (.Name x px) it body [] env) (fun r s' => match r with | .ok f => Q f s' | .error e => cameBackBy (model prog w) A env E e s') s₂) := by
  subst hL
  refine src _ fun I St h₂ tk₂ W hst st hI hIn hStI => ?_
  have hLs := F.ns.lt
  have hLI : env.locals ≠ I := fun q => Nat.lt_irrefl _ (Nat.lt_of_lt_of_le (q ▸ hLs) hI)
  have hbI : ∀ b o, s₁.heap.get? b = some o → b ≠ I := fun b o e q => Nat.lt_irrefl _ (Nat.lt_of_lt_of_le (q ▸ Heap.lt_size e) hI)
  have h0I : h₀.get? I = none := by
    cases e : h₀.get? I with
    | none => rfl
    | some o => exact absurd rfl (hbI I o (F.keep _ _ e))
  obtain ⟨F₂, N₂⟩ := grown_of F N st
  refine codeAny_forLoop_any
    (fun k s' => ∃ h' tk m' news' i, s' = { s₁ with heap := h', toks := tk } ∧ St i h' ∧ Fr h₀ env.locals h' m' ∧ News h₀ env.locals h' news' ∧ (∀ p ∈ news', p.1 ≠ I) ∧ J i m' news' ∧ i ≤ n ∧ k = n + 1 - i) ?_ (n + 1)
    ⟨h₂, tk₂, m, news, 0, rfl, hst, F₂, N₂, fun p hp => hbI _ _ (N p hp).1, h0, Nat.zero_le _, rfl⟩
  rintro k s' ⟨h', tk, m', news', i, rfl, hst', F', N', hnw', hJ, hi, rfl⟩
  have next : ∀ h₁ : Heap, (∀ b o, b ∉ [I] → h'.get? b = some o → h₁.get? b = some o) → Fr h₀ env.locals h₁ m' ∧ News h₀ env.locals h₁ news' := fun h₁ hk₁ =>
    ⟨⟨F'.ns.at' fun o e => hk₁ _ o (by simpa using hLI) e, fun b o e => hk₁ b o (by simp; exact fun q => by rw [q, h0I] at e; cases e) (F'.keep b o e), F'.above⟩, fun p hp => ⟨hk₁ _ _ (by simpa using hnw' p hp) (N' p hp).1, (N' p hp).2⟩⟩
  by_cases hlt : i < n
  · refine W.item i _ _ _ hlt hst' fun v h₁ tk₁ hP hst₁ hk₁ => ?_
    obtain ⟨F₁, N₁⟩ := next h₁ hk₁
    refine wpAny_pure ?_
    refine wpAny_assign_Name (wpAny_storeName_local hx F₁.ns (fun h₃ hn₃ hs₃ => ?_) hp)
    have F₃ := F₁.set hn₃ hs₃
    have N₃ := N₁.set hs₃
    obtain ⟨o, ho⟩ : ∃ o, h₁.get? I = some o := Option.ne_none_iff_exists'.mp (hStI _ _ hst₁)
    have ho₃ : h₃.get? I = some o := (hs₃.2 I (Ne.symm hLI)).trans ho
    have N₄ : News h₀ env.locals h₃ ((I, o) :: news') := fun p hp => by
      rcases List.mem_cons.mp hp with rfl | hp
      · exact ⟨ho₃, Ne.symm hLI, h0I⟩
      · exact N₃ p hp
    have hst₃ : St (i + 1) h₃ := W.frame _ _ _ hst₁ fun b hb ob e => by
      refine (hs₃.2 b fun q => ?_).trans e
      rcases List.mem_cons.mp hb with rfl | hb
      · exact hLI q.symm
      · exact (hkeep b hb).1 q
    refine wpAny_mono (step i v m' news' I o h₃ (tk₁ + 1) (Nat.succ_le_succ (Nat.zero_le _)) hlt hP hJ F₃ N₄ hnw' hI) (fun f s₃ h₄ => ?_) fun _ _ e => e.elim
    have fin : Endd (∃ h' tk' m' news', s₃ = { s₁ with heap := h', toks := tk' } ∧ Fr h₀ env.locals h' m' ∧ News h₀ env.locals h' ((I, o) :: news') ∧ (∀ p ∈ news', p.1 ≠ I) ∧ J (i + 1) m' news') →
        ∃ m, m < n + 1 - i ∧ ∃ h' tk m' news' i, s₃ = { s₁ with heap := h', toks := tk } ∧ St i h' ∧ Fr h₀ env.locals h' m' ∧ News h₀ env.locals h' news' ∧ (∀ p ∈ news', p.1 ≠ I) ∧ J i m' news' ∧ i ≤ n ∧ m = n + 1 - i := by
      rintro ⟨h₅, tk₅, m₅, news₅, rfl, F₅, N₅, hn₅, J₅⟩
      refine ⟨n + 1 - (i + 1), by omega, h₅, tk₅, m₅, news₅, i + 1, rfl, ?_, F₅, fun p hp => N₅ p (.tail _ hp), hn₅, J₅, hlt, rfl⟩
      refine W.frame _ _ _ hst₃ fun b hb ob e => ?_
      rcases List.mem_cons.mp hb with rfl | hb
      · rw [ho₃] at e; cases e; exact (N₅ _ (.head _)).1
      · obtain ⟨ob', hob'⟩ := hin b hb
        rcases (hkeep b hb).2 ob' hob' with q | q
        · have := F₃.keep _ _ q; rw [e] at this; cases this; exact F₅.keep _ _ q
        · have := (N₃ _ (q _ _ _ hJ)).1; rw [e] at this; cases this; exact (N₅ _ (.tail _ (q _ _ _ J₅))).1
    cases f with
    | ret v => exact h₄
    | brk => exact h₄
    | cont => exact fin h₄
    | next => exact fin h₄
  · have hin' : i = n := by omega
    subst hin'
    refine W.done _ _ _ hst' fun h₁ tk₁ hk₁ => wpAny_execs_nil ?_
    obtain ⟨F₁, N₁⟩ := next h₁ hk₁
    exact done h₁ tk₁ m' news' F₁ N₁ hJ

theorem for_src {T : (Value → Shared → Prop) → Prop} {s₁ : Shared} {n : Nat} {P : Nat → Value → Prop} {own : List Addr} {x : Str} {px : Pos} {body : List Stmt} {h₀ : Heap} {L : Addr} {m : Str → Option Value} {news : List (Addr × Obj)} {Q : Flow → Shared → Prop}
    (src : SrcW prog w A T s₁ n P own) (hL : env.locals = L) (F : Fr h₀ L s₁.heap m) (N : News h₀ L s₁.heap news) (hx : env.kindOf x = some .local) (hp : (env.scope.kind == .class || (env.scope.kind == .module && env.locals != env.globals)) = false)
    (J : Nat → (Str → Option Value) → List (Addr × Obj) → Prop) (h0 : J 0 m news)
    (hkeep : ∀ b ∈ own, b ≠ L ∧ ∀ o, s₁.heap.get? b = some o → h₀.get? b = some o ∨ ∀ i m₁ news₁, J i m₁ news₁ → (b, o) ∈ news₁) (hin : ∀ b ∈ own, ∃ o, s₁.heap.get? b = some o)
    (step : ∀ i v m₁ news₁ I o h₁ tk₁, i < n → P i v → J i m₁ news₁ → Fr h₀ L h₁ (fun y => if y = x then some v else m₁ y) → News h₀ L h₁ ((I, o) :: news₁) → (∀ p ∈ news₁, p.1 ≠ I) → s₁.heap.objs.size ≤ I →
      wpAny (model prog w) A (execs body env) (ForEnd h₀ L s₁ I o (J (i + 1)) Q) (fun _ _ => False) { s₁ with heap := h₁, toks := tk₁ })
    (done : ∀ h' tk' m' news', Fr h₀ L h' m' → News h₀ L h' news' → J n m' news' → Q .next { s₁ with heap := h', toks := tk' }) :
    T (fun it s₂ => codeAny (model prog w) A (.forLoop (.Name x px) it body [] env) (fun r s' => match r with | .ok f => Q f s' | .error e => cameBackBy (model prog w) A env E e s') s₂) :=
  for_srcT src hL F N hx hp J h0 hkeep hin (fun i v m₁ news₁ I o h₁ tk₁ _ => step i v m₁ news₁ I o h₁ tk₁) done

theorem over_over (m₀ : Str → Option Value) (x : Str) (a u : Option Value) : (fun y => if y = x then a else (if y = x then u else m₀ y)) = fun y => if y = x then a else m₀ y := by
  funext y; split <;> rfl
theorem over_self (m₀ : Str → Option Value) (x : Str) : m₀ = fun y => if y = x then m₀ x else m₀ y := by
  funext y; split
  · rename_i h; rw [h]
  · rfl

def AppEnd (h₀ : Heap) (L : Addr) (s₁ : Shared) (x : Str) (m : Str → Option Value) (news : List (Addr × Obj)) (fl I : Addr) (o : Obj) (J : List Value → Prop) (Q : Flow → Shared → Prop) (f : Flow) (s₃ : Shared) : Prop :=
  match f with
  | .ret v => Q (.ret v) s₃
  | .brk => Q .next s₃
  | _ => Endd (∃ h' tk' u vs' kk', s₃ = { s₁ with heap := h', toks := tk' } ∧ Fr h₀ L h' (fun y => if y = x then u else m y) ∧ News h₀ L h' ((I, o) :: (fl, listOf (List.toArray vs') kk') :: news) ∧ J vs')

/-- a for whose body stores no name and may append to one list of the call's own -/
theorem for_app {T : (Value → Shared → Prop) → Prop} {s₁ : Shared} {n : Nat} {P : Nat → Value → Prop} {x : Str} {px : Pos} {body : List Stmt} {h₀ : Heap} {L fl : Addr} {m : Str → Option Value} {news : List (Addr × Obj)} {vs : List Value} {kk : Nat} {Q : Flow → Shared → Prop}
    (src : SrcW prog w A T s₁ n P []) (hL : env.locals = L) (F : Fr h₀ L s₁.heap m) (N : News h₀ L s₁.heap ((fl, listOf vs.toArray kk) :: news)) (hx : env.kindOf x = some .local) (hp : (env.scope.kind == .class || (env.scope.kind == .module && env.locals != env.globals)) = false)
    (J : Nat → List Value → Prop) (h0 : J 0 vs)
    (step : ∀ i v vs kk I o h₁ tk₁, i < n → P i v → J i vs → Fr h₀ L h₁ (fun y => if y = x then some v else m y) → News h₀ L h₁ ((I, o) :: (fl, listOf (List.toArray vs) kk) :: news) → fl ≠ I → (∀ p ∈ news, p.1 ≠ I) → s₁.heap.objs.size ≤ I →
      wpAny (model prog w) A (execs body env) (AppEnd h₀ L s₁ x m news fl I o (J (i + 1)) Q) (fun _ _ => False) { s₁ with heap := h₁, toks := tk₁ })
    (done : ∀ h' tk' u vs' kk', Fr h₀ L h' (fun y => if y = x then u else m y) → News h₀ L h' ((fl, listOf (List.toArray vs') kk') :: news) → J n vs' → Q .next { s₁ with heap := h', toks := tk' }) :
    T (fun it s₂ => codeAny (model prog w) A (.forLoop (.Name x px) it body [] env) (fun r s' => match r with | .ok f => Q f s' | .error e => cameBackBy (model prog w) A env E e s') s₂) := by
  refine for_src src hL F N hx hp (fun i m₁ news₁ => (∃ u, m₁ = fun y => if y = x then u else m y) ∧ ∃ vs kk, news₁ = (fl, listOf (List.toArray vs) kk) :: news ∧ J i vs) ⟨⟨_, over_self _ _⟩, vs, kk, rfl, h0⟩ (fun _ h => nomatch h) (fun _ h => nomatch h) ?_ ?_
  · rintro i v m₁ news₁ I o h₁ tk₁ hin hP ⟨⟨u, rfl⟩, vs, kk, rfl, hJ⟩ F₁ N₁ hne hI
    rw [over_over] at F₁
    refine wpAny_mono (step i v vs kk I o h₁ tk₁ hin hP hJ F₁ N₁ (hne _ (.head _)) (fun p hp => hne p (.tail _ hp)) hI) (fun f s₃ h₃ => ?_) fun _ _ e => e
    have hflI : fl ≠ I := hne _ (.head _)
    have fin : Endd (∃ h' tk' u vs' kk', s₃ = { s₁ with heap := h', toks := tk' } ∧ Fr h₀ L h' (fun y => if y = x then u else m y) ∧ News h₀ L h' ((I, o) :: (fl, listOf (List.toArray vs') kk') :: news) ∧ J (i + 1) vs') →
        Endd (∃ h' tk' m' news', s₃ = { s₁ with heap := h', toks := tk' } ∧ Fr h₀ L h' m' ∧ News h₀ L h' ((I, o) :: news') ∧ (∀ p ∈ news', p.1 ≠ I) ∧ (∃ u, m' = fun y => if y = x then u else m y) ∧ ∃ vs kk, news' = (fl, listOf (List.toArray vs) kk) :: news ∧ J (i + 1) vs) := by
      rintro ⟨h', tk', u, vs', kk', e, F', N', j⟩
      refine ⟨h', tk', _, _, e, F', N', fun p hp => ?_, ⟨u, rfl⟩, vs', kk', rfl, j⟩
      rcases List.mem_cons.mp hp with rfl | hp
      · exact hflI
      · exact hne p (.tail _ hp)
    cases f with
    | ret v => exact h₃
    | brk => exact h₃
    | cont => exact fin h₃
    | next => exact fin h₃
  · rintro h' tk' m' news' F' N' ⟨⟨u, rfl⟩, vs', kk', rfl, hJ⟩
    exact done h' tk' u vs' kk' F' N' hJ

theorem ints_items {b : Array UInt8} {acc : Array Value} (h : ItemsOf (fun i v => ∃ c u, b[i]? = some c ∧ v = Value.int (c.toNat : Int) u) acc b.size) : IntsAre acc.toList (KBw.bInts b) := by
  have hl : acc.toList.length = (KBw.bInts b).length := by rw [Array.length_toList, h.1, KBw.ints_length]
  have hg : ∀ (i : Nat) (y : Value), acc.toList[i]? = some y → ∃ t, y = Value.int ((KBw.bInts b).getD i 0) t := by
    intro i y e
    obtain ⟨c, u, hc, rfl⟩ := h.2 i y (by simpa using e)
    refine ⟨u, ?_⟩
    rw [List.getD_eq_getElem?_getD, KBw.ints_get hc]; rfl
  generalize acc.toList = vs at hl hg
  generalize KBw.bInts b = ks at hl hg
  induction ks generalizing vs with
  | nil => cases vs with
    | nil => exact .nil
    | cons y r => simp at hl
  | cons k ks ih =>
    cases vs with
    | nil => simp at hl
    | cons y r =>
      obtain ⟨t, rfl⟩ := hg 0 y rfl
      exact .cons _ _ (ih _ (by simpa using hl) fun i y e => by simpa using hg (i + 1) y (by simpa using e))
theorem list_bytesF {b : Array UInt8} {t : Tok} {h₀ : Heap} {L : Addr} {m : Str → Option Value} {news : List (Addr × Obj)} {Q : Value → Shared → Prop} (F : Fr h₀ L s.heap m) (N : News h₀ L s.heap news) (hh : A.handled = none)
    (h : ∀ l vs kk h' tk, Fr h₀ L h' m → News h₀ L h' ((l, listOf (List.toArray vs) kk) :: news) → IntsAre vs (KBw.bInts b) → (∀ p ∈ news, p.1 < l) → Q (.ref l) { s with heap := h', toks := tk }) (hn : b.size ≤ 1000) :
    wpAny (model prog w) A (call (.type "list") [.bytes b t]) Q E s := by
  refine list_bytes hh b t (fun h' tk acc c hk hg hi => ?_) hn
  obtain ⟨F', N'⟩ := grown_of F N hk
  refine h _ acc.toList c h' tk F' (news_new F N' (Nat.le_refl _) ?_) (ints_items hi) fun p hp => Heap.lt_size (N p hp).1
  rw [hg, Array.toArray_toList]
end
end
theorem off_Enc : True := by
  w_top off
  trivial
section
open PySem.Builtin PySem.Builtin._codecs
def mkS (l : List Nat) : Str := ⟨l.toArray⟩
theorem clean_none {l : List Nat} (h : ∀ c ∈ l, c < 128) : (l.toArray.extract 0 l.toArray.size).findIdx? utf8Codec.bad = none := by
  rw [Array.extract_eq_self_of_le (Nat.le_refl _), Array.findIdx?_eq_none_iff]
  intro x hx
  have := h x (by simpa using hx)
  show Str.isSurrogate x = false
  unfold Str.isSurrogate
  simp; omega
theorem fold_aux : ∀ (l : List Nat) (acc : Array UInt8), (∀ c ∈ l, c < 128) → l.foldl (fun acc y => acc ++ (utf8Codec.bytesOf y).toArray) acc = acc ++ (l.map (·.toUInt8)).toArray
  | [], acc, _ => by simp
  | c :: r, acc, h => by
    rw [List.foldl_cons, fold_aux r _ fun x hx => h x (.tail _ hx)]
    have e : utf8Codec.bytesOf c = [c.toUInt8] := by
      have := h c (.head _)
      show Str.utf8Of c = _
      unfold Str.utf8Of
      rw [if_pos (by omega)]
    rw [e]; simp
theorem fold_ascii (l : List Nat) (h : ∀ c ∈ l, c < 128) : (l.toArray.extract 0 l.toArray.size).foldl (fun acc y => acc ++ (utf8Codec.bytesOf y).toArray) #[] = (l.map (·.toUInt8)).toArray := by
  rw [Array.extract_eq_self_of_le (Nat.le_refl _), List.foldl_toArray, fold_aux l _ h]; simp
theorem forIn_two {β : Type} {n : Nat} {init b1 : β} {f : Nat → β → Sem (ForInStep β)} (h1 : f 0 init = pure (.yield b1)) (h2 : ∀ i, f i b1 = pure (.done b1)) : forIn [:n + 1] init f = pure b1 := by
  rw [Std.Legacy.Range.forIn_eq_forIn_range']
  have e : List.range' ([:n + 1] : Std.Legacy.Range).start ([:n + 1] : Std.Legacy.Range).size ([:n + 1] : Std.Legacy.Range).step = 0 :: List.range' 1 n := by
    simp [Std.Legacy.Range.size, List.range'_succ]
  rw [e, List.forIn_cons, h1]
  show forIn (List.range' 1 n) b1 f = pure b1
  cases n with
  | zero => rfl
  | succ n =>
    rw [List.range'_succ, List.forIn_cons, h2]
    rfl
theorem narrow_ascii {id : String} {self : Value} {l : List Nat} (h : ∀ c ∈ l, c < 128) (hl : l.length ≤ 1000) : encodeNarrow id utf8Codec none self (mkS l) = pure ((l.toArray.extract 0 l.toArray.size).foldl (fun acc y => acc ++ (utf8Codec.bytesOf y).toArray) #[]) := by
  cases l with
  | nil =>
    unfold encodeNarrow
    show (forIn [:0] _ _ >>= _) = _
    rw [Std.Legacy.Range.forIn_eq_forIn_range']
    rfl
  | cons c r =>
    unfold encodeNarrow
    have hlen : (mkS (c :: r)).length = r.length + 1 := by simp [mkS, Str.length]
    rw [hlen]
    have hb : utf8Codec.bad c = false := by
      have := h c (.head _)
      show Str.isSurrogate c = false
      unfold Str.isSurrogate
      simp; omega
    dsimp only
    rw [forIn_two (b1 := ((c :: r).toArray.size, ((c :: r).toArray.extract 0 (c :: r).toArray.size).foldl (fun acc y => acc ++ (utf8Codec.bytesOf y).toArray) #[], {}))]
    · rfl
    · dsimp only
      have hs : (#[] : Array UInt8).size > sizeLine ↔ False := by rw [sizeLine_eq]; simp
      simp only [hs, if_false]
      have hc : (mkS (c :: r)).cps[0]? = some c := by simp [mkS]
      rw [hc]
      dsimp only
      rw [hb]
      simp only [Bool.not_false, if_true]
      have hn : Array.findIdx? utf8Codec.bad ((mkS (c :: r)).cps.extract 0) = none := clean_none h
      rw [hn]
      simp [mkS]
    · intro i
      dsimp only
      have hz : ¬ (((c :: r).toArray.extract 0 (c :: r).toArray.size).foldl (fun acc y => acc ++ (utf8Codec.bytesOf y).toArray) #[]).size > sizeLine := by
        rw [fold_ascii _ (by simpa using h), sizeLine_eq]; simp at hl ⊢; omega
      rw [if_neg hz]
      have hc : (mkS (c :: r)).cps[(c :: r).toArray.size]? = none := by simp [mkS]
      rw [hc]
end
theorem off_Txts : True := by
  w_top off
  trivial
section
open PySem.Builtin PySem.Builtin.Str
theorem mkS_len (l : List Nat) : (mkS l).length = l.length := by simp [mkS, Str.length]
theorem mkS_cps (x : Str) : mkS x.cps.toList = x := by simp [mkS]
theorem mkS_list (l : List Nat) : (mkS l).cps.toList = l := by simp [mkS]
theorem upper_mk {l : List Nat} (h : ∀ c ∈ l, c < 128) : Txt.upper (mkS l) = mkS (l.map up1) := by
  rw [upper_ascii (by simpa [mkS] using h)]; simp [mkS]
theorem append_mk (a b : List Nat) : mkS a ++ mkS b = mkS (a ++ b) := by
  show (⟨a.toArray ++ b.toArray⟩ : Str) = _
  simp [mkS]
theorem tw_ne {c : Nat} : ∀ {l : List Nat}, c ∉ l → l.takeWhile (· != c) = l
  | [], _ => rfl
  | x :: r, h => by
    have hx : x ≠ c := fun e => h (e ▸ .head _)
    rw [List.takeWhile_cons_of_pos (by simpa using hx), tw_ne fun q => h (.tail _ q)]
theorem tw_at {c : Nat} : ∀ {l : List Nat} {i : Nat}, l[i]? = some c → (∀ k, k < i → l[k]? ≠ some c) → l.takeWhile (· != c) = l.take i
  | [], i, h, _ => by simp at h
  | x :: r, 0, h, _ => by
    have e : x = c := by simpa using h
    rw [e, List.takeWhile_cons_of_neg (by simp)]; rfl
  | x :: r, i + 1, h, hk => by
    have hx : x ≠ c := fun e => hk 0 (Nat.succ_pos _) (by rw [e]; rfl)
    rw [List.takeWhile_cons_of_pos (by simpa using hx), tw_at (i := i) (by simpa using h) fun k hki => by simpa using hk (k + 1) (by omega)]; rfl
theorem part_mk {l : List Nat} {c : Nat} : (Txt.partition (mkS l) (mkS [c])).1 = mkS (l.takeWhile (· != c)) ∧ (Txt.partition (mkS l) (mkS [c])).2.1 = mkS (if c ∈ l then [c] else []) := by
  have hl : (mkS l).cps.toList = l := mkS_list l
  rcases partition_whole (mkS l) (mkS [c]) with ⟨hp, hn⟩ | ⟨i, hp, hi, hk⟩
  · have hm : c ∉ l := fun hm => by
      rw [← hl] at hm
      obtain ⟨i, hi⟩ := (mem_iff_at (mkS l) c).mp hm
      exact hn i hi
    rw [hp, tw_ne hm, if_neg hm]
    exact ⟨rfl, rfl⟩
  · have hg := (StrLaws.subAt_one (mkS l) c i).mp hi
    have hkk : ∀ k, k < i → l[k]? ≠ some c := fun k hki e => hk k hki ((StrLaws.subAt_one (mkS l) c k).mpr (by rw [hl]; exact e))
    rw [hl] at hg
    rw [hp, tw_at hg hkk, if_pos (List.mem_of_getElem? hg)]
    refine ⟨?_, rfl⟩
    apply PySem.Str.ext'
    apply Array.toList_inj.mp
    show (strSub (mkS l) 0 i).cps.toList = _
    rw [StrLaws.strSub_toList, hl, mkS_list]; simp
theorem mul_mk (c : Nat) (n : Int) : Txt.mul (mkS [c]) n = mkS (List.replicate n.toNat c) := by
  unfold Txt.mul
  by_cases h : n < 1
  · rw [if_pos h, show n.toNat = 0 by omega]; rfl
  · rw [if_neg h]
    by_cases h1 : n = 1
    · subst h1; rfl
    · have : (n == 1 || (mkS [c]).length == 0) = false := by rw [mkS_len]; simp [h1]
      rw [this, if_neg (by decide)]
      have key : ∀ (k : Nat) (acc : Array Nat), (List.replicate k (mkS [c]).cps).foldl (· ++ ·) acc = acc ++ (List.replicate k c).toArray := by
        intro k
        induction k with
        | zero => intro acc; simp
        | succ k ih => intro acc; rw [List.replicate_succ, List.foldl_cons, ih]; apply Array.toList_inj.mp; simp [mkS, List.replicate_succ]
      rw [key]; simp [mkS]
theorem slice_mk (l : List Nat) (n : Nat) : Txt.slice (mkS l) none (some (n : Int)) = mkS (l.take n) := by
  have hr : strSliceIndices none (some (n : Int)) 1 l.length = List.range (min n l.length) := by
    unfold strSliceIndices sliceRange
    simp only [show (1 : Int) > 0 by decide, if_true, if_neg (show ¬ (n : Int) < 0 by omega)]
    have e : (if (0 : Int) < max 0 (min (n : Int) (l.length : Int)) then (max 0 (min (n : Int) (l.length : Int)) - 0 + 1 - 1) / 1 else 0).toNat = min n l.length := by
      rw [Int.ediv_one]; split <;> omega
    rw [e]
    have : (fun k : Nat => ((0 : Int) + 1 * (k : Int)).toNat) = _root_.id := by funext k; simp
    rw [this, List.map_id]
  unfold Txt.slice
  rw [mkS_len, hr, List.length_range]
  by_cases h : l.length ≤ n
  · rw [if_pos (by simp [Nat.min_eq_right h]), List.take_of_length_le h]
  · rw [if_neg (by simp; omega)]
    have key : ∀ (m : Nat), m ≤ l.length → (List.range m).filterMap ((mkS l).cps[·]?) = l.take m := by
      intro m
      induction m with
      | zero => intro _; simp
      | succ m ih =>
        intro hm
        rw [List.range_succ, List.filterMap_append, ih (by omega), List.take_add_one]
        congr 1
        have : (mkS l).cps[m]? = l[m]? := by simp [mkS]
        rw [List.filterMap_cons, this]
        cases l[m]? <;> rfl
    rw [key _ (Nat.min_le_right _ _), Nat.min_eq_left (by omega)]; rfl
theorem slice_mk1 (l : List Nat) : Txt.slice (mkS l) none (some 1) = mkS (l.take 1) := slice_mk l 1
end
theorem off_Rul : True := by
  w_top off
  trivial
section
open PySem.Builtin
theorem gives_encode {l : List Nat} {t : Tok} (h : ∀ c ∈ l, c < 128) (hl : l.length ≤ 1000) : Gives («str.encode» ⟨[.str (mkS l) t], []⟩) (.bytes (l.map (·.toUInt8)).toArray) := by
  refine .of_wp fun M A E s Q hq => ?_
  rw [encode_tree]
  rw [encodeRoad_utf8, narrow_ascii h hl, fold_ascii l h]
  refine wpAny_bind (wpAny_bind (wpAny_pure ?_))
  refine wpAny_mkBytes (wpAny_pure ⟨_, rfl, ?_⟩) ?_
  · exact hq.2
  · exact hq.1
section
variable {prog : Program} {w : World} {A : Around} {E : Value → Shared → Prop} {s : Shared} {Q : Value → Shared → Prop}
theorem encode_R {l : List Nat} {t : Tok} (h : ∀ c ∈ l, c < 128) (hl : l.length ≤ 1000) (hq : ∀ t' k, Q (.bytes (l.map (·.toUInt8)).toArray t') { s with toks := k }) :
    wpAny (model prog w) A (call (.builtin "str.encode") [.str (mkS l) t]) Q E s := by
  refine call_gives F.slot_str_encode (typeIs_str _ _ _) F.entry_str_encode (F.args_str_encode_1 _) (gives_encode h hl) ?_
  exact ⟨by rw [sizeLine_eq, List.size_toArray, List.length_map]; omega, hq _ _⟩
theorem encode_M {M : Model} {x : Str} {t : Tok} {pl : Sem Bool} {Q : Value × List Value → Shared → Prop} (h : Q (.builtin "str.encode", [.str x t]) s) : wpAny M A (getMethod (.str x t) "encode" pl) Q E s :=
  getMethod_builtin (typeIs_str _ _ _) F.plainAttrs_str F.slot_str_encode F.type_str_encode (fun _ e => nomatch e) h
theorem upper_R {l : List Nat} {t : Tok} (h : ∀ c ∈ l, c < 128) (hl : l.length ≤ 1000) (hq : ∀ t' k, Q (.str (mkS (l.map up1)) t') { s with toks := k }) :
    wpAny (model prog w) A (call (.builtin "str.upper") [.str (mkS l) t]) Q E s := by
  refine KXw.upper (upper_mk h) ?_ hq
  exact fit_upper (by rw [mkS_len]; omega)
theorem mul_R {c : Nat} {x : Str} {n : Int} {t u : Tok} (hx : x = mkS [c]) (h0 : -1000 ≤ n) (h1 : n ≤ 1000) (hq : ∀ t' k, Q (.str (mkS (List.replicate n.toNat c)) t') { s with toks := k }) :
    wpAny (model prog w) A (binaryOp .Mult (.str x t) (.int n u)) Q E s := by
  subst hx
  refine SB.mul (mulOk_of 16 1048576 (by rw [mkS_len]; simp) (by omega) (by omega) (by decide) (by decide)) fun t' k => ?_
  rw [mul_mk]; exact hq t' k
theorem add_R {a b : List Nat} {x y : Str} {t u : Tok} (hx : x = mkS a) (hy : y = mkS b) (ha : a.length ≤ 1000) (hb : b.length ≤ 1000) (hq : ∀ t' k, Q (.str (mkS (a ++ b)) t') { s with toks := k }) :
    wpAny (model prog w) A (binaryOp .Add (.str x t) (.str y u)) Q E s := by
  subst hx hy
  refine SBL.add (hsz := by rw [mkS_len, mkS_len, sizeLine_eq]; omega) fun t' k _ => ?_
  rw [append_mk]; exact hq t' k
theorem len_R {l : List Nat} {t : Tok} (hl : l.length ≤ 1000) (hq : ∀ t' k, Q (.int (l.length : Int) t') { s with toks := k }) : wpAny (model prog w) A (call (.builtin "len") [.str (mkS l) t]) Q E s := by
  refine SBL.len (by rw [mkS_len]; omega) ?_
  rw [mkS_len]; exact hq _ _
theorem part_star {l : List Nat} : (Txt.partition (mkS l) (Str.ofString "*")).1 = mkS (l.takeWhile (· != 42)) ∧ (Txt.partition (mkS l) (Str.ofString "*")).2.1 = mkS (if 42 ∈ l then [42] else []) := part_mk (c := 42)
theorem lit_q : Str.ofString "?" = mkS [63] := by decide +kernel
theorem lit_e : Str.ofString "" = mkS [] := by decide +kernel
theorem lit_dot : Str.ofString "." = mkS [46] := by decide +kernel
theorem lit_colon : Str.ofString ":" = mkS [58] := by decide +kernel
theorem lit_a : Str.ofString "a" = mkS [97] := by decide +kernel
theorem lit_P : Str.ofString "P" = mkS [80] := by decide +kernel
theorem lit_qq : Str.ofString "q" = mkS [113] := by decide +kernel
theorem lit_b : Str.ofString " " = mkS [32] := by decide +kernel
end
end
theorem off_Tk : True := by
  w_top off
  trivial
section
/-- the count of tokens never falls -/
theorem runs_toks {M : Model} {Γ : Ctx} {p : Pos} {t : Sem Fin} {fs : List Frame} {s s' : Shared} {e : End} (h : Runs M Γ p t fs s e s') : s.toks ≤ s'.toks := by
  induction h <;> ((try simp only [Shared.setGen] at *); first | assumption | exact Nat.le_refl _ | omega)
theorem wakes_toks {M : Model} {Γ : Ctx} {p : Pos} {g : Nat} {r : Resume} {s s' : Shared} {res : GenResult} (h : Wakes M Γ p g r s res s') : s.toks ≤ s'.toks := by
  unfold Wakes at h
  split at h
  · exact h.elim
  · split at h
    · obtain ⟨e₁, s₁, h1, -, -, rfl⟩ := h; have h2 := runs_toks h1; exact h2
    · rw [h.2]; exact Nat.le_refl _
    · rw [h.2]; exact Nat.le_refl _
  · obtain ⟨e₁, s₁, h1, -, -, rfl⟩ := h; have h2 := runs_toks h1; exact h2
  · rw [h.2]; exact Nat.le_refl _
  · rw [h.2]; exact Nat.le_refl _
theorem wp_toks {α : Type} {M : Model} {Γ : Ctx} {n : Nat} {E : Value → Pos → Shared → Prop} {Q : α → Pos → Shared → Prop} (t : Sem α) (p : Pos) (s : Shared) (hn : n ≤ s.toks)
    (h : Sem.wp M Γ t (fun a p s' => n ≤ s'.toks → Q a p s') E p s) : Sem.wp M Γ t Q E p s := by
  induction t generalizing p s with
  | pure a => exact h hn
  | raise e => exact h
  | unsupported w => exact h
  | finish e => exact h
  | rule tag k ih => exact ih _ _ _ hn h
  | «at» p' k ih => exact ih _ _ _ hn h
  | load a l k ih => obtain ⟨o, ho, h⟩ := h; exact ⟨o, ho, ih _ _ _ hn h⟩
  | update a l f k ih => exact ⟨h.1, ih _ _ _ hn h.2⟩
  | loadIfAlive a k ih => exact ih _ _ _ hn h
  | point l k ih => exact ih _ _ _ hn h
  | register a k ih => exact h
  | alloc o k ih => exact ih _ _ _ hn h
  | fresh k ih => exact ih _ _ _ (Nat.le_succ_of_le hn) h
  | ask k ih => exact ih _ _ _ hn h
  | choose src m k ih => exact ⟨h.1, ih _ _ _ hn h.2⟩
  | os q l k ih => exact ih _ _ _ hn h
  | call c hh g l k ih => obtain ⟨r, s', hr, h⟩ := h; exact ⟨r, s', hr, ih _ _ _ (Nat.le_trans hn (runs_toks hr)) h⟩
  | handled own k ih => exact ih _ _ _ hn h
  | genState g k ih => obtain ⟨st, hs, h⟩ := h; exact ⟨st, hs, ih _ _ _ hn h⟩
  | newGen c k ih => exact ih _ _ _ hn h
  | resume g r l k ih => obtain ⟨res, s', hr, h⟩ := h; exact ⟨res, s', hr, ih _ _ _ (Nat.le_trans hn (wakes_toks hr)) h⟩
  | yield => exact h
  | stack k ih => exact ih _ _ _ hn h
  | fork => exact h
  | thread k ih => exact ih _ _ _ hn h
  | await => exact h
theorem wp_grow {α : Type} {M : Model} {A : Around} {t : Sem α} {n : Nat} {Q : α → Shared → Prop} {E : Value → Shared → Prop} {s : Shared} (hn : n ≤ s.toks) (h : wpAny M A t (fun v s' => n ≤ s'.toks → Q v s') E s) : wpAny M A t Q E s :=
  fun Γ p hΓ => wp_toks t p s hn (h Γ p hΓ)
/-- enterCC with the count of tokens -/
theorem enterCCT {prog : Program} {w : World} {A : Around} {s : Shared} {g : Heap} {K : Frag} {sub : List (Addr × Obj)} {p : Program} {loose : List Str} {mean : ExcName → Option Value} {mg mb : Str → Option Value}
    {name qual : Str} {params : Arguments} {body : List Stmt} {scope : Scope} {dV kV doc pm cdv ct oc : Value} {an od : Option Addr} {osl : Array (Option Value)} {f : Addr} {vs : List Value} {kw : List (Str × Value)} {binds : List (Str × Value)} {Q E : Value → Shared → Prop}
    (k : g.StaysIn s.heap) (hsz : g.objs.size ≤ s.heap.objs.size) (X : K.In g) (T : Top p loose mean mg mb g)
    (S : ∀ q ∈ sub, s.heap.get? q.1 = some q.2 ∧ g.get? q.1 = none)
    (ho : K.lookup f = some ⟨oc, od, .func (fnOf name qual params body scope dV kV doc pm an cdv ct), osl⟩) (hcd : codeIn K cdv qual = true) (hroom : A.depth < recursionLimit)
    (hbind : BindsTo s (fnOf name qual params body scope dV kV doc pm an cdv ct) ⟨vs, kw⟩ binds)
    (hkind : (binds.all fun y => scope.names.lookup y.1 == some .local || scope.names.lookup y.1 == some .cell) = true)
    (hnd : ((cellsFrom 0 scope.names []).map (·.1)).Nodup) (hco : scope.isCoroutine = false) (hgen : scope.isGenerator = false) (hk : scope.kind = .function)
    (h : ∀ L' h₁ tk cells, s.toks ≤ tk → Fr g L' h₁ (bindL (envOfC qual scope L' f cdv).kindOf binds fun _ => none) → News g L' h₁ (cells ++ sub) →
      CellsAre (bindC (envOfC qual scope L' f cdv).kindOf binds fun _ => none) (cellsFrom (L' + 1) scope.names []) cells → AllLt L' sub →
      wpAny (model prog w) (A.deeper (envOfC qual scope L' f cdv)) (execs body (envOfC qual scope L' f cdv))
        (fun fl s' => Q (match fl with | .ret v => v | _ => .none) s') (fun _ _ => False)
        { s with heap := h₁, toks := tk }) : wpAny (model prog w) A (call (.ref f) vs kw) Q E s := by
  refine wpAny_call ?_
  have X' : K.In s.heap := X.keeps k
  refine codeAny_call_function hroom (X' _ _ ho) rfl hco hgen rfl (codeRec_of X' hcd) (hbind _ _ _ _ ?_)
  refine wp_grow (Nat.le_refl _) (wpAny_newFunctionEnv_cells hk (kindsX hkind _) fun env' he s' x hgr => ?_)
  subst he
  refine ⟨(T.nolimit.keeps k).keeps x.toInCall.keep, codeAny_func ?_⟩
  obtain ⟨h₁, tk, rfl, _⟩ := x.done
  have hk₁ := x.toInCall.keep
  obtain ⟨cells, NC, Y⟩ := Cl.news (h₀ := s.heap) (Nat.le_refl _) fun n c hm => ⟨x.cell n c (lookup_of_mem_nodup (cellsFrom_names scope.names 0 (s.heap.objs.size + 1) [] [] rfl ▸ hnd) hm), x.above n c hm⟩
  refine wpAny_mono (h s.heap.objs.size h₁ tk cells hgr ⟨x.toInCall.ns, fun b o e => hk₁ b o (k b o e), hsz⟩ (fun q hq => ?_) Y (allLt_of fun q hq => Heap.lt_size (S q hq).1)) (fun fl s' hq => hq) fun _ _ x => x.elim
  rcases List.mem_append.mp hq with hq | hq
  · refine ⟨(NC q hq).1, (NC q hq).2.1, ?_⟩
    cases e : g.get? q.1 with
    | none => rfl
    | some o => have := k _ _ e; rw [(NC q hq).2.2] at this; cases this
  · exact ⟨hk₁ _ _ (S q hq).1, Nat.ne_of_lt (Heap.lt_size (S q hq).1), (S q hq).2⟩
end
theorem off_R2 : True := by
  w_top off
  trivial
section
open PySem.Builtin PySem.Builtin.Str
def NeB (b : Bool) (x y : Int) (ns ms : List Int) : Prop := b = true ↔ ¬ (x = y ∧ ns = ms)
theorem tup_eqv (x y : Int) (ns ms : List Int) : PyData.eqv (.tuple [.int x, .list (ns.map PyData.int)]) (.tuple [.int y, .list (ms.map PyData.int)]) = decide (x = y ∧ ns = ms) := by
  have key : ∀ ns ms : List Int, PyData.eqvAll (ns.map PyData.int) (ms.map PyData.int) = decide (ns = ms) := by
    intro ns
    induction ns with
    | nil => intro ms; cases ms <;> simp [PyData.eqvAll]
    | cons a r ih =>
      intro ms
      cases ms with
      | nil => simp [PyData.eqvAll]
      | cons b t =>
        simp only [List.map_cons, PyData.eqvAll, PyData.eqv, ih]
        by_cases h : a = b <;> by_cases h' : r = t <;> simp [h, h']
  simp only [PyData.eqv, PyData.eqvAll, key]
  by_cases h : x = y <;> by_cases h' : ns = ms <;> simp [h, h']
section
variable {prog : Program} {w : World} {A : Around} {E : Value → Shared → Prop} {s : Shared} {Q : Value → Shared → Prop}
theorem ne_tupI {a b l l' : Addr} {n n' : Nat} {oa ob : Obj} {xs ys : List Value} {ns ms : List Int} {x y : Int} {t u : Tok}
    (ha : s.heap.get? a = some oa) (ca : oa.cls = .type "tuple") (da : oa.data = .seq #[.int x t, .ref l] n)
    (hb : s.heap.get? b = some ob) (cb : ob.cls = .type "tuple") (db : ob.data = .seq #[.int y u, .ref l'] n')
    (hl : s.heap.IsList l xs.toArray) (hl' : s.heap.IsList l' ys.toArray) (hi : IntsAre xs ns) (hj : IntsAre ys ms) (hu : A.units + 64 < cLine) (h : ∀ b, NeB b x y ns ms → Q (.bool b) s) :
    wpAny (model prog w) A (compareOp .NotEq (.ref a) (.ref b)) Q E s := by
  replace h := h (!decide (x = y ∧ ns = ms)) (by unfold NeB; rw [Bool.not_eq_true', decide_eq_false_iff_not])
  refine ne_dataH (reads_tuple_at ha ca da (.cons (Reads.int x t) (.cons (reads_newData hl (ke_carried hi)) .nil))) (reads_tuple_at hb cb db (.cons (Reads.int y u) (.cons (reads_newData hl' (ke_carried hj)) .nil))) ?_ ?_ hu (by rw [tup_eqv]; exact h)
  · simp [SeqAt.shaped, PyData.canLay0, PyData.canLayAll0, PyData.depth, PyData.depthAll, ke_canLayAll0, ke_depthAll]
  · simp [SeqAt.shaped, PyData.canLay0, PyData.canLayAll0, PyData.depth, PyData.depthAll, ke_canLayAll0, ke_depthAll]
end
theorem lstrip_mk (l : List Nat) : Txt.lstripChars (mkS l) (mkS [32]) = mkS (l.drop (l.takeWhile (· == 32)).length) := by
  unfold Txt.lstripChars
  rw [PyProof.Rows.stripBy_eq]
  apply PySem.Str.ext'
  apply Array.toList_inj.mp
  have e : (mkS [32]).cps.contains = fun x : Nat => x == 32 := by funext x; by_cases h : x = 32 <;> simp [mkS, h]
  rw [StrLaws.strSub_toList, mkS_list, mkS_list, e]
  unfold stripLo stripHi
  simp only [if_true, Bool.false_eq_true, if_false, mkS_list, mkS_len]
  rw [List.take_of_length_le (by rw [List.length_drop]; omega)]
theorem lstrip_R {prog : Program} {w : World} {A : Around} {E : Value → Shared → Prop} {s : Shared} {Q : Value → Shared → Prop} {l : List Nat} {x : Str} {t u : Tok} (hx : x = mkS [32]) (hl : l.length ≤ 1000) (hq : ∀ t' k, Q (.str (mkS (l.drop (l.takeWhile (· == 32)).length)) t') { s with toks := k }) :
    wpAny (model prog w) A (call (.builtin "str.lstrip") [.str (mkS l) t, .str x u]) Q E s := by
  subst hx
  refine SCL.lstripChars (fun t' k _ => ?_) (by rw [mkS_len, sizeLine_eq]; omega)
  rw [lstrip_mk]; exact hq t' k
theorem lead_len (l : List Nat) : ((l.drop (l.takeWhile (· == 32)).length).length : Int) = (l.length : Int) - ((l.takeWhile (· == 32)).length : Int) := by
  have := (List.takeWhile_sublist (fun x : Nat => x == 32) (l := l)).length_le
  rw [List.length_drop]; omega
theorem join_map (c d : Nat) (parts : List Str) (h : ∀ p ∈ parts, c ∉ p.cps.toList) : (Str.join (mkS [d]) parts).cps.toList = (Str.join (mkS [c]) parts).cps.toList.map (fun x => if x = c then d else x) := by
  have fr : ∀ l : List Nat, c ∉ l → l.map (fun x => if x = c then d else x) = l := by
    intro l hl
    refine (List.map_congr_left fun x hx => ?_).trans (List.map_id l)
    have hxc : x ≠ c := fun e => hl (by rw [← e]; exact hx)
    exact if_neg hxc
  match parts, h with
  | [], _ => rfl
  | [p], h => exact (fr _ (h p (.head _))).symm
  | p :: q :: r, h =>
    have ih := join_map c d (q :: r) fun a ha => h a (.tail _ ha)
    show (p ++ mkS [d] ++ Str.join (mkS [d]) (q :: r)).cps.toList = ((p ++ mkS [c] ++ Str.join (mkS [c]) (q :: r)).cps.toList).map _
    simp only [Str.cps_append, Array.toList_append, List.map_append]
    rw [ih, fr _ (h p (.head _))]
    simp [mkS]
theorem replace_map (l : List Nat) (c d : Nat) : Txt.replace (mkS l) (mkS [c]) (mkS [d]) = mkS (l.map (fun x => if x = c then d else x)) := by
  apply PySem.Str.ext'
  apply Array.toList_inj.mp
  have e : mkS [c] = ⟨#[c]⟩ := rfl
  rw [e, StrLaws.replace_one, join_map c d _ (StrLaws.split_free _ c), mkS_list, e, StrLaws.join_split, mkS_list]
theorem replace_out (l : List Nat) (c : Nat) : Txt.replace (mkS l) (mkS [c]) (mkS []) = mkS (l.filter (· != c)) := by
  apply PySem.Str.ext'
  apply Array.toList_inj.mp
  have e : mkS [c] = ⟨#[c]⟩ := rfl
  have e2 : mkS [] = ⟨#[]⟩ := rfl
  rw [e, e2, PyProof.Rows.replace_strikes, mkS_list, mkS_list]
section
variable {prog : Program} {w : World} {A : Around} {E : Value → Shared → Prop} {s : Shared} {Q : Value → Shared → Prop}
theorem replace_R {l m : List Nat} {x y z : Str} {t u v : Tok} (e : Txt.replace (mkS l) y z = mkS m) (hu : u ≠ 0) (hv : v ≠ 0) (huv : u ≠ v) (hyz : (y == z) = false) (hl : l.length ≤ 1000) (hz : z.length ≤ 14) (hq : ∀ t' k, Q (.str (mkS m) t') { s with toks := k }) :
    wpAny (model prog w) A (call (.builtin "str.replace") [.str (mkS l) t, .str y u, .str z v]) Q E s := by
  refine SC.replaceW hu hv huv hyz (by rw [mkS_len]; omega) hz fun t' k => ?_
  rw [e]; exact hq t' k
theorem strike_R {l : List Nat} {t u v : Tok} (hu : u ≠ 0) (hv : v ≠ 0) (huv : u ≠ v) (hl : l.length ≤ 1000) (hq : ∀ t' k, s.toks ≤ k → Q (.str (mkS (l.filter (· != 42))) t') { s with toks := k }) :
    wpAny (model prog w) A (call (.builtin "str.replace") [.str (mkS l) t, .str (Str.ofString "*") u, .str (Str.ofString "") v]) Q E s :=
  wp_grow (Nat.le_refl _) (replace_R (x := mkS []) (replace_out l 42) hu hv huv (by decide +kernel) hl (by decide +kernel) hq)
theorem queryQ_R {l : List Nat} {t u v : Tok} (hu : u ≠ 0) (hv : v ≠ 0) (huv : u ≠ v) (hl : l.length ≤ 1000) (hq : ∀ t' k, s.toks ≤ k → Q (.str (mkS (l.map (fun x => if x = 63 then 81 else x))) t') { s with toks := k }) :
    wpAny (model prog w) A (call (.builtin "str.replace") [.str (mkS l) t, .str (Str.ofString "?") u, .str (Str.ofString "Q") v]) Q E s :=
  wp_grow (Nat.le_refl _) (replace_R (x := mkS []) (replace_map l 63 81) hu hv huv (by decide +kernel) hl (by decide +kernel) hq)
end
theorem item_A (j : Nat) (h : j < 6) : Txt.item (Str.ofString "ABZ09$") (j : Int) = mkS [[65, 66, 90, 48, 57, 36].getD j 0] := by
  have key : ∀ j : Fin 6, Txt.item (Str.ofString "ABZ09$") (j.val : Int) = mkS [[65, 66, 90, 48, 57, 36].getD j.val 0] := by decide +kernel
  exact key ⟨j, h⟩
end
local macro_rules | `(tactic| walk_at "eval Name") => `(tactic| (k_here; k_dflt (first
  | (refine' nmL ?F ?L ?a ?b ?v ?_ ?c; (case F => k_asm); (case L => exact rfl); (case a => exact rfl); (case b => exact rfl); (case v => exact rfl); (case c => decide); k_whole)
  | (refine' nmK ?F ?X ?T ?g ?k ?x ?e ?_ ?c; (case F => k_asm); (case X => k_asm); (case T => k_asm); (case g => exact rfl); (case k => exact rfl); (case x => exact rfl); (case e => k_is); (case c => decide); k_whole)
  | (refine' nmB ?F ?X ?T ?g ?b ?k ?x ?e ?v ?n ?_ ?c; (case F => k_asm); (case X => k_asm); (case T => k_asm); (case g => exact rfl); (case b => exact rfl); (case k => exact rfl); (case x => exact rfl); (case e => k_is); (case v => boot_fast); (case n => decide); (case c => decide); k_whole)
  | (refine' nmC ?N ?k ?x ?c ?m ?d ?_ ?b; (case N => k_asm); (case k => exact rfl); (case x => exact rfl); (case c => exact rfl); (case m => k_mem); (case d => k_asm); (case b => decide); k_whole)
  | (refine' nmB₀ ?F ?k ?x ?c ?m ?d ?_ ?b; (case F => k_asm); (case k => exact rfl); (case x => exact rfl); (case c => exact rfl); (case m => k_asm); (case d => k_asm); (case b => decide); k_whole))))
local macro_rules | `(tactic| walk_at "call ref") => `(tactic| (
  refine' wp_top (upper_P ?X ?T ?_) ?h ?d ?u
  (case h => exact rfl)
  (case d => exact rfl)
  (case u => exact rfl)
  (case X => k_in)
  (case T => exact Top.keeps (by assumption) (Fr.keep (by assumption)))
  intro t' h' tk st'
  (have FN' := grown_of (by assumption) (by assumption) st')
  obtain ⟨F', N'⟩ := FN'))
theorem off_F1 : True := by
  w_top off
  trivial
section
theorem ints_map {vs ys : List Value} {ns : List Int} (f : Int → Int) (hi : IntsAre vs ns) (hl : ys.length = vs.length) (h : ∀ (i : Nat) (y : Value), ys[i]? = some y → ∃ t, y = Value.int (f (ns.getD i 0)) t) : IntsAre ys (ns.map f) := by
  induction hi generalizing ys with
  | nil => cases ys with
    | nil => exact .nil
    | cons y r => simp at hl
  | cons n t hr ih =>
    cases ys with
    | nil => simp at hl
    | cons y r =>
      obtain ⟨t', rfl⟩ := h 0 y rfl
      refine .cons _ _ (ih (by simpa using hl) fun i y e => ?_)
      simpa using h (i + 1) y (by simpa using e)

section
variable {prog : Program} {w : World} {mean : ExcName → Option Value} {mg mb : Str → Option Value} {s : Shared} {Q E : Value → Shared → Prop} (X : (hd.heap_1 w.params).In s.heap) (T : Top qv (looseW qv []) mean mg mb s.heap)
include X T
theorem great_P {l : Addr} {vs : List Value} {ns : List Int} (hl : s.heap.IsList l vs.toArray) (hi : IntsAre vs ns) (hlen : ns.length ≤ 1000)
    (ret : ∀ l' vs' n h' tk, s.heap.StaysIn h' → s.heap.get? l' = none → h'.get? l' = some (listOf vs'.toArray n) → IntsAre vs' (ns.map up) → Q (.ref l') { s with heap := h', toks := tk }) :
    wpAny (model prog w) (At 700 7000) (call (.ref 97) [.ref l]) Q E s := by
  (refine' enterC (g := _) (sub := _) ?k_7 ?sz_7 ?X_7 ?T_7 ?S_7 ?ho_7 ?hcd_7 ?hroom_7 ?hb_7 ?hloc_7 ?hcell_7 ?c1_7 ?c2_7 ?c3_7 ?_; (case k_7 => first | assumption | exact stays_refl _); (case X_7 => with_reducible assumption); (case sz_7 => first | assumption | exact Nat.le_refl _); (case T_7 => with_reducible assumption); (case S_7 => first | assumption | exact List.forall_mem_nil _); (case ho_7 => k_is); (case hcd_7 => k_is); (case hroom_7 => exact Nat.le_of_ble_eq_true rfl); (case hb_7 => exact BindsTo.of_eq rfl); (case hloc_7 => exact locs rfl); (case hcell_7 => decide); (case c1_7 => exact rfl); (case c2_7 => exact rfl); (case c3_7 => exact rfl); intro xL xh xF xN xl; (try dsimp only at xF); (try simp only [AllLt, and_true] at xl); (try dsimp only); k_fold)
  ((repeat' (first | (k_unfold; (try dsimp only)) | (((fail_if_success (with_reducible show wpAny _ _ (eval (Expr.ListComp _ _ _ _) _) _ _ _)); (fail_if_success (with_reducible show wpAny _ _ (exec (Stmt.While _ _ _ _) _) _ _ _)); (fail_if_success (with_reducible show wpAny _ _ (exec (Stmt.For _ _ _ _ _) _) _ _ _)); (fail_if_success (with_reducible show wpAny _ _ (exec (Stmt.Assign [Expr.Name _ _] (Expr.ListComp _ _ _ _) _) _) _ _ _)); (fail_if_success (with_reducible show wpAny _ _ (pyIter _) _ _ _)); (fail_if_success (with_reducible show wpAny _ _ (call (Value.type "range") _ _) _ _ _)); (fail_if_success (with_reducible show wpAny _ _ (call (Value.type "zip") _ _) _ _ _))); walk1) | (((fail_if_success (with_reducible show wpAny _ _ (eval (Expr.ListComp _ _ _ _) _) _ _ _)); (fail_if_success (with_reducible show wpAny _ _ (exec (Stmt.While _ _ _ _) _) _ _ _)); (fail_if_success (with_reducible show wpAny _ _ (exec (Stmt.For _ _ _ _ _) _) _ _ _)); (fail_if_success (with_reducible show wpAny _ _ (exec (Stmt.Assign [Expr.Name _ _] (Expr.ListComp _ _ _ _) _) _) _ _ _)); (fail_if_success (with_reducible show wpAny _ _ (pyIter _) _ _ _)); (fail_if_success (with_reducible show wpAny _ _ (call (Value.type "range") _ _) _ _ _)); (fail_if_success (with_reducible show wpAny _ _ (call (Value.type "zip") _ _) _ _ _))); dsimp only; walk1))); (all_goals try dsimp only))
  ((try (k_unmd; k_fold)); refine' ListComp_ct (cl := _) [] ?hc_9 ?h1_9 ?h2_9 ?h3_9 ?_ ?hs_9; (case hc_9 => exact rfl); (case h1_9 => decide); (case h2_9 => exact rfl); (case h3_9 => decide); (case hs_9 => intro _; exact rfl))
  ((repeat' (first | (k_unfold; (try dsimp only)) | (((fail_if_success (with_reducible show wpAny _ _ (eval (Expr.ListComp _ _ _ _) _) _ _ _)); (fail_if_success (with_reducible show wpAny _ _ (exec (Stmt.While _ _ _ _) _) _ _ _)); (fail_if_success (with_reducible show wpAny _ _ (exec (Stmt.For _ _ _ _ _) _) _ _ _)); (fail_if_success (with_reducible show wpAny _ _ (exec (Stmt.Assign [Expr.Name _ _] (Expr.ListComp _ _ _ _) _) _) _ _ _)); (fail_if_success (with_reducible show wpAny _ _ (pyIter _) _ _ _)); (fail_if_success (with_reducible show wpAny _ _ (call (Value.type "range") _ _) _ _ _)); (fail_if_success (with_reducible show wpAny _ _ (call (Value.type "zip") _ _) _ _ _))); walk1) | (((fail_if_success (with_reducible show wpAny _ _ (eval (Expr.ListComp _ _ _ _) _) _ _ _)); (fail_if_success (with_reducible show wpAny _ _ (exec (Stmt.While _ _ _ _) _) _ _ _)); (fail_if_success (with_reducible show wpAny _ _ (exec (Stmt.For _ _ _ _ _) _) _ _ _)); (fail_if_success (with_reducible show wpAny _ _ (exec (Stmt.Assign [Expr.Name _ _] (Expr.ListComp _ _ _ _) _) _) _ _ _)); (fail_if_success (with_reducible show wpAny _ _ (pyIter _) _ _ _)); (fail_if_success (with_reducible show wpAny _ _ (call (Value.type "range") _ _) _ _ _)); (fail_if_success (with_reducible show wpAny _ _ (call (Value.type "zip") _ _) _ _ _))); dsimp only; walk1))); (all_goals try dsimp only))
  rename Fr _ _ _ _ => F
  rename News _ _ _ _ => N
  have hsz : vs.length ≤ sizeLine := by rw [sizeLine_eq, hi.length]; omega
  refine core_pure (T := fun Q => wpAny _ _ (pyIter (.ref l)) Q _ _) (P := fun i v => vs[i]? = some v) (src_list rfl (by exact stays_list F.keep hl)) hsz rfl rfl (fun (i : Nat) (y : Value) => ∃ t, y = Value.int (up (ns.getD i 0)) t) ?_ fun h₂ tk wr st hs hwr => fin_E F N ?_ h₂ tk wr st hs hwr
  · intro C k v h₃ tk m' hC hk hv st F₃ N₃
    obtain ⟨z, t, rfl, hz⟩ := hi.at k v hv
    have X₃ := X.keeps fun b o e => st b o (F.keep b o e)
    have T₃ := T.keeps fun b o e => st b o (F.keep b o e)
    clear F N
    k_unmd; k_fold
    dsimp only [compEnvC]
    ((repeat' (first | (k_unfold; (try dsimp only)) | (((fail_if_success (with_reducible show wpAny _ _ (eval (Expr.ListComp _ _ _ _) _) _ _ _)); (fail_if_success (with_reducible show wpAny _ _ (exec (Stmt.While _ _ _ _) _) _ _ _)); (fail_if_success (with_reducible show wpAny _ _ (exec (Stmt.For _ _ _ _ _) _) _ _ _)); (fail_if_success (with_reducible show wpAny _ _ (exec (Stmt.Assign [Expr.Name _ _] (Expr.ListComp _ _ _ _) _) _) _ _ _)); (fail_if_success (with_reducible show wpAny _ _ (pyIter _) _ _ _)); (fail_if_success (with_reducible show wpAny _ _ (call (Value.type "range") _ _) _ _ _)); (fail_if_success (with_reducible show wpAny _ _ (call (Value.type "zip") _ _) _ _ _))); walk1) | (((fail_if_success (with_reducible show wpAny _ _ (eval (Expr.ListComp _ _ _ _) _) _ _ _)); (fail_if_success (with_reducible show wpAny _ _ (exec (Stmt.While _ _ _ _) _) _ _ _)); (fail_if_success (with_reducible show wpAny _ _ (exec (Stmt.For _ _ _ _ _) _) _ _ _)); (fail_if_success (with_reducible show wpAny _ _ (exec (Stmt.Assign [Expr.Name _ _] (Expr.ListComp _ _ _ _) _) _) _ _ _)); (fail_if_success (with_reducible show wpAny _ _ (pyIter _) _ _ _)); (fail_if_success (with_reducible show wpAny _ _ (call (Value.type "range") _ _) _ _ _)); (fail_if_success (with_reducible show wpAny _ _ (call (Value.type "zip") _ _) _ _ _))); dsimp only; walk1))); (all_goals try dsimp only))
    rename Fr _ _ _ _ => F'
    refine ⟨⟨?_, EltEnd.mk F'⟩⟩
    rw [show ns.getD k 0 = z from by rw [List.getD_eq_getElem?_getD, hz]; rfl]
    exact ⟨_, rfl⟩
  · intro D h' tk ys kk hlen' hR F' N' _ hD
    exact ret _ _ _ _ _ F'.keep (N' _ (.head _)).2.2 (N' _ (.head _)).1 (ints_map up hi hlen' hR)
end
end

local macro_rules | `(tactic| walk_at "compareOp NotIn int bytes") => `(tactic| (
  refine' notIn_bytes ?a ?b ?_
  (case a => first | omega | (simp only [bitAnd_m7]; omega))
  (case b => first | omega | (simp only [bitAnd_m7]; omega))))
local macro_rules | `(tactic| walk_at "getMethod bytes") => `(tactic| (with_reducible refine getMethod_bytes_rstrip ?_))
local macro_rules | `(tactic| walk_at "call builtin:bytes.rstrip") => `(tactic| (
  refine' rstrip_bytes ?a ?_
  (case a => first | (simp only [byteArr_size, List.length_take, List.length_drop, List.length_map]; omega) | (simp; omega))
  intro t' k'))
local macro_rules | `(tactic| walk_at "binaryOp Add bytes bytes") => `(tactic| (
  refine' KBy.add_bytes ?a ?_
  (case a => (simp only [Array.size_append, List.size_toArray, List.length_cons, List.length_nil]; omega))
  intro t' k'))
local macro_rules | `(tactic| walk_at "call builtin:len") => `(tactic| (
  (with_reducible show wpAny _ _ (call (Value.builtin "len") [Value.bytes _ _]) _ _ _)
  refine' len_bytes ?a ?_
  (case a => first | omega | (simp only [Array.size_append, List.size_toArray, List.length_cons, List.length_nil]; omega))))
local macro_rules | `(tactic| walk_at "call builtin:list.append") => `(tactic| (
  k_dflt (refine' append_K ?k1 ?k2 ?k3 ?_ ?z)
  (case k1 => k_asm)
  (case k2 => k_asm)
  (case k3 => k_upd)
  (case z => (rw [sizeLine_eq, List.size_toArray]; omega))
  intro h' F' N'
  (try k_sweep)))
local macro_rules | `(tactic| walk_at "call type:list") => `(tactic| (
  (with_reducible show wpAny _ _ (call (Value.type "list") [Value.bytes _ _]) _ _ _)
  refine' list_bytesF ?F ?N ?h ?_ ?n
  (case F => k_asm)
  (case N => k_asm)
  (case h => exact rfl)
  (case n => omega)
  intro l' vs' kk' h' tk' F' N' hi' l1
  (try k_lt l1)
  (try k_sweep)))
theorem off_F2 : True := by
  w_top off
  trivial
section
theorem ints_sub {ns : List Int} {P : Int → Prop} (h : ∀ x ∈ ns, P x) (k : Nat) : ∀ x ∈ ns.take k, P x := fun x hx => h x (List.mem_of_mem_take hx)
theorem getD_at {ns : List Int} {k : Nat} {z : Int} (h : ns[k]? = some z) : ns.getD k 0 = z := by rw [List.getD_eq_getElem?_getD, h]; rfl
theorem bools_of {ys : List Value} {ns : List Int} (p : Int → Bool) (hl : ys.length = ns.length) (h : ∀ (i : Nat) (y : Value), ys[i]? = some y → y = Value.bool (p (ns.getD i 0))) : LSm.BoolsAre ys (ns.map p) := by
  induction ns generalizing ys with
  | nil => cases ys with
    | nil => exact .nil
    | cons y r => simp at hl
  | cons n ns ih =>
    cases ys with
    | nil => simp at hl
    | cons y r =>
      have e := h 0 y rfl
      subst e
      exact .cons _ (ih (by simpa using hl) fun i y e => by simpa using h (i + 1) y (by simpa using e))
theorem bools_zip {ys : List Value} {ns ms : List Int} (f : Int → Int → Bool) (hl : ys.length = min ns.length ms.length) (h : ∀ (i : Nat) (y : Value), ys[i]? = some y → y = Value.bool (f (ns.getD i 0) (ms.getD i 0))) : LSm.BoolsAre ys (List.zipWith f ns ms) := by
  induction ns generalizing ys ms with
  | nil => cases ys with
    | nil => exact .nil
    | cons y r => simp at hl
  | cons n ns ih =>
    cases ms with
    | nil => cases ys with
      | nil => exact .nil
      | cons y r => simp at hl
    | cons m ms =>
      cases ys with
      | nil => simp at hl
      | cons y r =>
        have e := h 0 y rfl
        subst e
        exact .cons _ (ih (by simp only [List.length_cons] at hl; omega) fun i y e => by simpa using h (i + 1) y (by simpa using e))
def oddSign (x : Int) : Bool := (#[60, 62, 46, 44, 59, 58, 61, 63, 42, 91, 93] : Array UInt8).contains x.toNat.toUInt8
def plainSign (x : Int) : Bool := decide (31 < x % 128) && !oddSign (x % 128)
section
variable {prog : Program} {w : World} {mean : ExcName → Option Value} {mg mb : Str → Option Value} {s : Shared} {Q E : Value → Shared → Prop} (X : (hd.heap_1 w.params).In s.heap) (T : Top qv (looseW qv []) mean mg mb s.heap)
include X T
theorem plain_word_P {l : Addr} {vs : List Value} {ns : List Int} (hl : s.heap.IsList l vs.toArray) (hi : IntsAre vs ns) (hlen : ns.length ≤ 1000) (hr : ∀ x ∈ ns, 0 ≤ x ∧ x < 256)
    (ret : ∀ h' t' tk, s.heap.StaysIn h' → Q (.bytes (rstripA (byteArr (ns.take 8)) #[32]) t') { s with heap := h', toks := tk }) :
    wpAny (model prog w) (At 800 8000) (call (.ref 132) [.ref l]) Q E s := by
  (refine' enterC (g := _) (sub := _) ?k_12 ?sz_12 ?X_12 ?T_12 ?S_12 ?ho_12 ?hcd_12 ?hroom_12 ?hb_12 ?hloc_12 ?hcell_12 ?c1_12 ?c2_12 ?c3_12 ?_; (case k_12 => first | assumption | exact stays_refl _); (case X_12 => with_reducible assumption); (case sz_12 => first | assumption | exact Nat.le_refl _); (case T_12 => with_reducible assumption); (case S_12 => first | assumption | exact List.forall_mem_nil _); (case ho_12 => k_is); (case hcd_12 => k_is); (case hroom_12 => exact Nat.le_of_ble_eq_true rfl); (case hb_12 => exact BindsTo.of_eq rfl); (case hloc_12 => exact locs rfl); (case hcell_12 => decide); (case c1_12 => exact rfl); (case c2_12 => exact rfl); (case c3_12 => exact rfl); intro xL xh xF xN xl; (try dsimp only at xF); (try simp only [AllLt, and_true] at xl); (try dsimp only); k_fold)
  ((repeat' (first | (k_unfold; (try dsimp only)) | (((fail_if_success (with_reducible show wpAny _ _ (eval (Expr.ListComp _ _ _ _) _) _ _ _)); (fail_if_success (with_reducible show wpAny _ _ (exec (Stmt.While _ _ _ _) _) _ _ _)); (fail_if_success (with_reducible show wpAny _ _ (exec (Stmt.For _ _ _ _ _) _) _ _ _)); (fail_if_success (with_reducible show wpAny _ _ (exec (Stmt.Assign [Expr.Name _ _] (Expr.ListComp _ _ _ _) _) _) _ _ _)); (fail_if_success (with_reducible show wpAny _ _ (pyIter _) _ _ _)); (fail_if_success (with_reducible show wpAny _ _ (call (Value.type "range") _ _) _ _ _)); (fail_if_success (with_reducible show wpAny _ _ (call (Value.type "zip") _ _) _ _ _))); walk1) | (((fail_if_success (with_reducible show wpAny _ _ (eval (Expr.ListComp _ _ _ _) _) _ _ _)); (fail_if_success (with_reducible show wpAny _ _ (exec (Stmt.While _ _ _ _) _) _ _ _)); (fail_if_success (with_reducible show wpAny _ _ (exec (Stmt.For _ _ _ _ _) _) _ _ _)); (fail_if_success (with_reducible show wpAny _ _ (exec (Stmt.Assign [Expr.Name _ _] (Expr.ListComp _ _ _ _) _) _) _ _ _)); (fail_if_success (with_reducible show wpAny _ _ (pyIter _) _ _ _)); (fail_if_success (with_reducible show wpAny _ _ (call (Value.type "range") _ _) _ _ _)); (fail_if_success (with_reducible show wpAny _ _ (call (Value.type "zip") _ _) _ _ _))); dsimp only; walk1))); (all_goals try dsimp only))
  rename Fr _ _ _ _ => F
  rename News _ _ _ _ => N
  rename IntsAre _ (List.take _ ns) => hi'
  refine call_bytes_ints (News.isList N (.head _)) hi' (ints_sub hr _) (by rw [hi'.length, sizeLine_eq, List.length_take]; omega) rfl fun h' t' k hk => ?_
  obtain ⟨F', N'⟩ := grown_of F N hk
  clear F N
  ((repeat' (first | (k_unfold; (try dsimp only)) | (((fail_if_success (with_reducible show wpAny _ _ (eval (Expr.ListComp _ _ _ _) _) _ _ _)); (fail_if_success (with_reducible show wpAny _ _ (exec (Stmt.While _ _ _ _) _) _ _ _)); (fail_if_success (with_reducible show wpAny _ _ (exec (Stmt.For _ _ _ _ _) _) _ _ _)); (fail_if_success (with_reducible show wpAny _ _ (exec (Stmt.Assign [Expr.Name _ _] (Expr.ListComp _ _ _ _) _) _) _ _ _)); (fail_if_success (with_reducible show wpAny _ _ (pyIter _) _ _ _)); (fail_if_success (with_reducible show wpAny _ _ (call (Value.type "range") _ _) _ _ _)); (fail_if_success (with_reducible show wpAny _ _ (call (Value.type "zip") _ _) _ _ _))); walk1) | (((fail_if_success (with_reducible show wpAny _ _ (eval (Expr.ListComp _ _ _ _) _) _ _ _)); (fail_if_success (with_reducible show wpAny _ _ (exec (Stmt.While _ _ _ _) _) _ _ _)); (fail_if_success (with_reducible show wpAny _ _ (exec (Stmt.For _ _ _ _ _) _) _ _ _)); (fail_if_success (with_reducible show wpAny _ _ (exec (Stmt.Assign [Expr.Name _ _] (Expr.ListComp _ _ _ _) _) _) _ _ _)); (fail_if_success (with_reducible show wpAny _ _ (pyIter _) _ _ _)); (fail_if_success (with_reducible show wpAny _ _ (call (Value.type "range") _ _) _ _ _)); (fail_if_success (with_reducible show wpAny _ _ (call (Value.type "zip") _ _) _ _ _))); dsimp only; walk1))); (all_goals try dsimp only))
  rename Fr _ _ _ _ => F
  exact ret _ _ _ F.keep
theorem bare_P {l : Addr} {vs : List Value} {ns : List Int} (hl : s.heap.IsList l vs.toArray) (hi : IntsAre vs ns) (hlen : ns.length ≤ 1000)
    (ret : ∀ l' vs' n h' tk, s.heap.StaysIn h' → s.heap.get? l' = none → h'.get? l' = some (listOf vs'.toArray n) → IntsAre vs' (ns.map (· % 128)) → Q (.ref l') { s with heap := h', toks := tk }) :
    wpAny (model prog w) (At 800 8000) (call (.ref 45) [.ref l]) Q E s := by
  (refine' enterC (g := _) (sub := _) ?k_15 ?sz_15 ?X_15 ?T_15 ?S_15 ?ho_15 ?hcd_15 ?hroom_15 ?hb_15 ?hloc_15 ?hcell_15 ?c1_15 ?c2_15 ?c3_15 ?_; (case k_15 => first | assumption | exact stays_refl _); (case X_15 => with_reducible assumption); (case sz_15 => first | assumption | exact Nat.le_refl _); (case T_15 => with_reducible assumption); (case S_15 => first | assumption | exact List.forall_mem_nil _); (case ho_15 => k_is); (case hcd_15 => k_is); (case hroom_15 => exact Nat.le_of_ble_eq_true rfl); (case hb_15 => exact BindsTo.of_eq rfl); (case hloc_15 => exact locs rfl); (case hcell_15 => decide); (case c1_15 => exact rfl); (case c2_15 => exact rfl); (case c3_15 => exact rfl); intro xL xh xF xN xl; (try dsimp only at xF); (try simp only [AllLt, and_true] at xl); (try dsimp only); k_fold)
  ((repeat' (first | (k_unfold; (try dsimp only)) | (((fail_if_success (with_reducible show wpAny _ _ (eval (Expr.ListComp _ _ _ _) _) _ _ _)); (fail_if_success (with_reducible show wpAny _ _ (exec (Stmt.While _ _ _ _) _) _ _ _)); (fail_if_success (with_reducible show wpAny _ _ (exec (Stmt.For _ _ _ _ _) _) _ _ _)); (fail_if_success (with_reducible show wpAny _ _ (exec (Stmt.Assign [Expr.Name _ _] (Expr.ListComp _ _ _ _) _) _) _ _ _)); (fail_if_success (with_reducible show wpAny _ _ (pyIter _) _ _ _)); (fail_if_success (with_reducible show wpAny _ _ (call (Value.type "range") _ _) _ _ _)); (fail_if_success (with_reducible show wpAny _ _ (call (Value.type "zip") _ _) _ _ _))); walk1) | (((fail_if_success (with_reducible show wpAny _ _ (eval (Expr.ListComp _ _ _ _) _) _ _ _)); (fail_if_success (with_reducible show wpAny _ _ (exec (Stmt.While _ _ _ _) _) _ _ _)); (fail_if_success (with_reducible show wpAny _ _ (exec (Stmt.For _ _ _ _ _) _) _ _ _)); (fail_if_success (with_reducible show wpAny _ _ (exec (Stmt.Assign [Expr.Name _ _] (Expr.ListComp _ _ _ _) _) _) _ _ _)); (fail_if_success (with_reducible show wpAny _ _ (pyIter _) _ _ _)); (fail_if_success (with_reducible show wpAny _ _ (call (Value.type "range") _ _) _ _ _)); (fail_if_success (with_reducible show wpAny _ _ (call (Value.type "zip") _ _) _ _ _))); dsimp only; walk1))); (all_goals try dsimp only))
  ((try (k_unmd; k_fold)); refine' ListComp_ct (cl := _) [] ?hc_17 ?h1_17 ?h2_17 ?h3_17 ?_ ?hs_17; (case hc_17 => exact rfl); (case h1_17 => decide); (case h2_17 => exact rfl); (case h3_17 => decide); (case hs_17 => intro _; exact rfl))
  ((repeat' (first | (k_unfold; (try dsimp only)) | (((fail_if_success (with_reducible show wpAny _ _ (eval (Expr.ListComp _ _ _ _) _) _ _ _)); (fail_if_success (with_reducible show wpAny _ _ (exec (Stmt.While _ _ _ _) _) _ _ _)); (fail_if_success (with_reducible show wpAny _ _ (exec (Stmt.For _ _ _ _ _) _) _ _ _)); (fail_if_success (with_reducible show wpAny _ _ (exec (Stmt.Assign [Expr.Name _ _] (Expr.ListComp _ _ _ _) _) _) _ _ _)); (fail_if_success (with_reducible show wpAny _ _ (pyIter _) _ _ _)); (fail_if_success (with_reducible show wpAny _ _ (call (Value.type "range") _ _) _ _ _)); (fail_if_success (with_reducible show wpAny _ _ (call (Value.type "zip") _ _) _ _ _))); walk1) | (((fail_if_success (with_reducible show wpAny _ _ (eval (Expr.ListComp _ _ _ _) _) _ _ _)); (fail_if_success (with_reducible show wpAny _ _ (exec (Stmt.While _ _ _ _) _) _ _ _)); (fail_if_success (with_reducible show wpAny _ _ (exec (Stmt.For _ _ _ _ _) _) _ _ _)); (fail_if_success (with_reducible show wpAny _ _ (exec (Stmt.Assign [Expr.Name _ _] (Expr.ListComp _ _ _ _) _) _) _ _ _)); (fail_if_success (with_reducible show wpAny _ _ (pyIter _) _ _ _)); (fail_if_success (with_reducible show wpAny _ _ (call (Value.type "range") _ _) _ _ _)); (fail_if_success (with_reducible show wpAny _ _ (call (Value.type "zip") _ _) _ _ _))); dsimp only; walk1))); (all_goals try dsimp only))
  rename Fr _ _ _ _ => F
  rename News _ _ _ _ => N
  have hsz : vs.length ≤ sizeLine := by rw [sizeLine_eq, hi.length]; omega
  refine core_pure (T := fun Q => wpAny _ _ (pyIter (.ref l)) Q _ _) (P := fun i v => vs[i]? = some v) (src_list rfl (by exact stays_list F.keep hl)) hsz rfl rfl (fun (i : Nat) (y : Value) => ∃ t, y = Value.int ((ns.getD i 0) % 128) t) ?_ fun h₂ tk wr st hs hwr => fin_E F N ?_ h₂ tk wr st hs hwr
  · intro C k v h₃ tk m' hC hk hv st F₃ N₃
    obtain ⟨z, t, rfl, hz⟩ := hi.at k v hv
    have X₃ := X.keeps fun b o e => st b o (F.keep b o e)
    have T₃ := T.keeps fun b o e => st b o (F.keep b o e)
    clear F N
    k_unmd; k_fold
    dsimp only [compEnvC]
    ((repeat' (first | (k_unfold; (try dsimp only)) | (((fail_if_success (with_reducible show wpAny _ _ (eval (Expr.ListComp _ _ _ _) _) _ _ _)); (fail_if_success (with_reducible show wpAny _ _ (exec (Stmt.While _ _ _ _) _) _ _ _)); (fail_if_success (with_reducible show wpAny _ _ (exec (Stmt.For _ _ _ _ _) _) _ _ _)); (fail_if_success (with_reducible show wpAny _ _ (exec (Stmt.Assign [Expr.Name _ _] (Expr.ListComp _ _ _ _) _) _) _ _ _)); (fail_if_success (with_reducible show wpAny _ _ (pyIter _) _ _ _)); (fail_if_success (with_reducible show wpAny _ _ (call (Value.type "range") _ _) _ _ _)); (fail_if_success (with_reducible show wpAny _ _ (call (Value.type "zip") _ _) _ _ _))); walk1) | (((fail_if_success (with_reducible show wpAny _ _ (eval (Expr.ListComp _ _ _ _) _) _ _ _)); (fail_if_success (with_reducible show wpAny _ _ (exec (Stmt.While _ _ _ _) _) _ _ _)); (fail_if_success (with_reducible show wpAny _ _ (exec (Stmt.For _ _ _ _ _) _) _ _ _)); (fail_if_success (with_reducible show wpAny _ _ (exec (Stmt.Assign [Expr.Name _ _] (Expr.ListComp _ _ _ _) _) _) _ _ _)); (fail_if_success (with_reducible show wpAny _ _ (pyIter _) _ _ _)); (fail_if_success (with_reducible show wpAny _ _ (call (Value.type "range") _ _) _ _ _)); (fail_if_success (with_reducible show wpAny _ _ (call (Value.type "zip") _ _) _ _ _))); dsimp only; walk1))); (all_goals try dsimp only))
    rename Fr _ _ _ _ => F'
    refine ⟨⟨?_, EltEnd.mk F'⟩⟩
    rw [getD_at hz, bitAnd_m7]
    exact ⟨_, rfl⟩
  · intro D h' tk ys kk hlen' hR F' N' _ hD
    exact ret _ _ _ _ _ F'.keep (N' _ (.head _)).2.2 (N' _ (.head _)).1 (ints_map (· % 128) hi hlen' hR)
theorem is_plain_P {l : Addr} {vs : List Value} {ns : List Int} (hl : s.heap.IsList l vs.toArray) (hi : IntsAre vs ns) (hlen : ns.length = 11)
    (ret : ∀ h' tk, s.heap.StaysIn h' → Q (.bool (decide (ns.getD 0 0 % 128 ≠ 32) && (ns.map plainSign).all id)) { s with heap := h', toks := tk }) :
    wpAny (model prog w) (At 800 8000) (call (.ref 40) [.ref l]) Q E s := by
  (refine' enterC (g := _) (sub := _) ?k_20 ?sz_20 ?X_20 ?T_20 ?S_20 ?ho_20 ?hcd_20 ?hroom_20 ?hb_20 ?hloc_20 ?hcell_20 ?c1_20 ?c2_20 ?c3_20 ?_; (case k_20 => first | assumption | exact stays_refl _); (case X_20 => with_reducible assumption); (case sz_20 => first | assumption | exact Nat.le_refl _); (case T_20 => with_reducible assumption); (case S_20 => first | assumption | exact List.forall_mem_nil _); (case ho_20 => k_is); (case hcd_20 => k_is); (case hroom_20 => exact Nat.le_of_ble_eq_true rfl); (case hb_20 => exact BindsTo.of_eq rfl); (case hloc_20 => exact locs rfl); (case hcell_20 => decide); (case c1_20 => exact rfl); (case c2_20 => exact rfl); (case c3_20 => exact rfl); intro xL xh xF xN xl; (try dsimp only at xF); (try simp only [AllLt, and_true] at xl); (try dsimp only); k_fold)
  ((repeat' (first | (k_unfold; (try dsimp only)) | (((fail_if_success (with_reducible show wpAny _ _ (eval (Expr.ListComp _ _ _ _) _) _ _ _)); (fail_if_success (with_reducible show wpAny _ _ (exec (Stmt.While _ _ _ _) _) _ _ _)); (fail_if_success (with_reducible show wpAny _ _ (exec (Stmt.For _ _ _ _ _) _) _ _ _)); (fail_if_success (with_reducible show wpAny _ _ (exec (Stmt.Assign [Expr.Name _ _] (Expr.ListComp _ _ _ _) _) _) _ _ _)); (fail_if_success (with_reducible show wpAny _ _ (pyIter _) _ _ _)); (fail_if_success (with_reducible show wpAny _ _ (call (Value.type "range") _ _) _ _ _)); (fail_if_success (with_reducible show wpAny _ _ (call (Value.type "zip") _ _) _ _ _))); walk1) | (((fail_if_success (with_reducible show wpAny _ _ (eval (Expr.ListComp _ _ _ _) _) _ _ _)); (fail_if_success (with_reducible show wpAny _ _ (exec (Stmt.While _ _ _ _) _) _ _ _)); (fail_if_success (with_reducible show wpAny _ _ (exec (Stmt.For _ _ _ _ _) _) _ _ _)); (fail_if_success (with_reducible show wpAny _ _ (exec (Stmt.Assign [Expr.Name _ _] (Expr.ListComp _ _ _ _) _) _) _ _ _)); (fail_if_success (with_reducible show wpAny _ _ (pyIter _) _ _ _)); (fail_if_success (with_reducible show wpAny _ _ (call (Value.type "range") _ _) _ _ _)); (fail_if_success (with_reducible show wpAny _ _ (call (Value.type "zip") _ _) _ _ _))); dsimp only; walk1))); (all_goals try dsimp only))
  · rename Builtin.bitAnd _ _ = 32 => e
    rename Fr _ _ _ _ => F
    rw [bitAnd_m7] at e
    have e' : ns.getD 0 0 % 128 = 32 := e
    rw [decide_eq_false (fun q => q e'), Bool.false_and] at ret
    exact ret _ _ F.keep
  rename Builtin.bitAnd _ _ ≠ 32 => e
  rw [bitAnd_m7] at e
  have e' : ns.getD 0 0 % 128 ≠ 32 := e
  rw [decide_eq_true e', Bool.true_and] at ret
  ((try (k_unmd; k_fold)); refine' ListComp_ct (cl := _) [] ?hc_22 ?h1_22 ?h2_22 ?h3_22 ?_ ?hs_22; (case hc_22 => exact rfl); (case h1_22 => decide); (case h2_22 => exact rfl); (case h3_22 => decide); (case hs_22 => intro _; exact rfl))
  ((repeat' (first | (k_unfold; (try dsimp only)) | (((fail_if_success (with_reducible show wpAny _ _ (eval (Expr.ListComp _ _ _ _) _) _ _ _)); (fail_if_success (with_reducible show wpAny _ _ (exec (Stmt.While _ _ _ _) _) _ _ _)); (fail_if_success (with_reducible show wpAny _ _ (exec (Stmt.For _ _ _ _ _) _) _ _ _)); (fail_if_success (with_reducible show wpAny _ _ (exec (Stmt.Assign [Expr.Name _ _] (Expr.ListComp _ _ _ _) _) _) _ _ _)); (fail_if_success (with_reducible show wpAny _ _ (pyIter _) _ _ _)); (fail_if_success (with_reducible show wpAny _ _ (call (Value.type "range") _ _) _ _ _)); (fail_if_success (with_reducible show wpAny _ _ (call (Value.type "zip") _ _) _ _ _))); walk1) | (((fail_if_success (with_reducible show wpAny _ _ (eval (Expr.ListComp _ _ _ _) _) _ _ _)); (fail_if_success (with_reducible show wpAny _ _ (exec (Stmt.While _ _ _ _) _) _ _ _)); (fail_if_success (with_reducible show wpAny _ _ (exec (Stmt.For _ _ _ _ _) _) _ _ _)); (fail_if_success (with_reducible show wpAny _ _ (exec (Stmt.Assign [Expr.Name _ _] (Expr.ListComp _ _ _ _) _) _) _ _ _)); (fail_if_success (with_reducible show wpAny _ _ (pyIter _) _ _ _)); (fail_if_success (with_reducible show wpAny _ _ (call (Value.type "range") _ _) _ _ _)); (fail_if_success (with_reducible show wpAny _ _ (call (Value.type "zip") _ _) _ _ _))); dsimp only; walk1))); (all_goals try dsimp only))
  rename Fr _ _ _ _ => F
  rename News _ _ _ _ => N
  have hsz : vs.length ≤ sizeLine := by rw [sizeLine_eq, hi.length]; omega
  refine core_pure (T := fun Q => wpAny _ _ (pyIter (.ref l)) Q _ _) (P := fun i v => vs[i]? = some v) (src_list rfl (by exact stays_list F.keep hl)) hsz rfl rfl (fun (i : Nat) (y : Value) => y = Value.bool (plainSign (ns.getD i 0))) ?_ fun h₂ tk wr st hs hwr => fin_E F N ?_ h₂ tk wr st hs hwr
  · intro C k v h₃ tk m' hC hk hv st F₃ N₃
    obtain ⟨z, t, rfl, hz⟩ := hi.at k v hv
    have X₃ := X.keeps fun b o e => st b o (F.keep b o e)
    have T₃ := T.keeps fun b o e => st b o (F.keep b o e)
    clear F N
    k_unmd; k_fold
    dsimp only [compEnvC]
    ((repeat' (first | (k_unfold; (try dsimp only)) | (((fail_if_success (with_reducible show wpAny _ _ (eval (Expr.ListComp _ _ _ _) _) _ _ _)); (fail_if_success (with_reducible show wpAny _ _ (exec (Stmt.While _ _ _ _) _) _ _ _)); (fail_if_success (with_reducible show wpAny _ _ (exec (Stmt.For _ _ _ _ _) _) _ _ _)); (fail_if_success (with_reducible show wpAny _ _ (exec (Stmt.Assign [Expr.Name _ _] (Expr.ListComp _ _ _ _) _) _) _ _ _)); (fail_if_success (with_reducible show wpAny _ _ (pyIter _) _ _ _)); (fail_if_success (with_reducible show wpAny _ _ (call (Value.type "range") _ _) _ _ _)); (fail_if_success (with_reducible show wpAny _ _ (call (Value.type "zip") _ _) _ _ _))); walk1) | (((fail_if_success (with_reducible show wpAny _ _ (eval (Expr.ListComp _ _ _ _) _) _ _ _)); (fail_if_success (with_reducible show wpAny _ _ (exec (Stmt.While _ _ _ _) _) _ _ _)); (fail_if_success (with_reducible show wpAny _ _ (exec (Stmt.For _ _ _ _ _) _) _ _ _)); (fail_if_success (with_reducible show wpAny _ _ (exec (Stmt.Assign [Expr.Name _ _] (Expr.ListComp _ _ _ _) _) _) _ _ _)); (fail_if_success (with_reducible show wpAny _ _ (pyIter _) _ _ _)); (fail_if_success (with_reducible show wpAny _ _ (call (Value.type "range") _ _) _ _ _)); (fail_if_success (with_reducible show wpAny _ _ (call (Value.type "zip") _ _) _ _ _))); dsimp only; walk1))); (all_goals try dsimp only))
    all_goals rename Fr _ _ _ _ => F'
    all_goals refine ⟨⟨?_, EltEnd.mk F'⟩⟩
    all_goals clear F' N₃ X₃ T₃ st hlen ret
    all_goals simp only [bitAnd_m7, getD_at hz, plainSign, oddSign] at *
    all_goals (simp_all <;> (intro _; exfalso; omega))
  · intro D h' tk ys kk hlen' hR F' N' _ hD
    have hb := bools_of plainSign (by rw [hlen', hi.length]) hR
    clear F N
    ((repeat' (first | (k_unfold; (try dsimp only)) | (((fail_if_success (with_reducible show wpAny _ _ (eval (Expr.ListComp _ _ _ _) _) _ _ _)); (fail_if_success (with_reducible show wpAny _ _ (exec (Stmt.While _ _ _ _) _) _ _ _)); (fail_if_success (with_reducible show wpAny _ _ (exec (Stmt.For _ _ _ _ _) _) _ _ _)); (fail_if_success (with_reducible show wpAny _ _ (exec (Stmt.Assign [Expr.Name _ _] (Expr.ListComp _ _ _ _) _) _) _ _ _)); (fail_if_success (with_reducible show wpAny _ _ (pyIter _) _ _ _)); (fail_if_success (with_reducible show wpAny _ _ (call (Value.type "range") _ _) _ _ _)); (fail_if_success (with_reducible show wpAny _ _ (call (Value.type "zip") _ _) _ _ _))); walk1) | (((fail_if_success (with_reducible show wpAny _ _ (eval (Expr.ListComp _ _ _ _) _) _ _ _)); (fail_if_success (with_reducible show wpAny _ _ (exec (Stmt.While _ _ _ _) _) _ _ _)); (fail_if_success (with_reducible show wpAny _ _ (exec (Stmt.For _ _ _ _ _) _) _ _ _)); (fail_if_success (with_reducible show wpAny _ _ (exec (Stmt.Assign [Expr.Name _ _] (Expr.ListComp _ _ _ _) _) _) _ _ _)); (fail_if_success (with_reducible show wpAny _ _ (pyIter _) _ _ _)); (fail_if_success (with_reducible show wpAny _ _ (call (Value.type "range") _ _) _ _ _)); (fail_if_success (with_reducible show wpAny _ _ (call (Value.type "zip") _ _) _ _ _))); dsimp only; walk1))); (all_goals try dsimp only))
    refine LSm.all_bools F' N' rfl (News.isList N' (.head _)) hb fun h₅ tk₅ F₅ N₅ => ?_
    clear F' N'
    ((repeat' (first | (k_unfold; (try dsimp only)) | (((fail_if_success (with_reducible show wpAny _ _ (eval (Expr.ListComp _ _ _ _) _) _ _ _)); (fail_if_success (with_reducible show wpAny _ _ (exec (Stmt.While _ _ _ _) _) _ _ _)); (fail_if_success (with_reducible show wpAny _ _ (exec (Stmt.For _ _ _ _ _) _) _ _ _)); (fail_if_success (with_reducible show wpAny _ _ (exec (Stmt.Assign [Expr.Name _ _] (Expr.ListComp _ _ _ _) _) _) _ _ _)); (fail_if_success (with_reducible show wpAny _ _ (pyIter _) _ _ _)); (fail_if_success (with_reducible show wpAny _ _ (call (Value.type "range") _ _) _ _ _)); (fail_if_success (with_reducible show wpAny _ _ (call (Value.type "zip") _ _) _ _ _))); walk1) | (((fail_if_success (with_reducible show wpAny _ _ (eval (Expr.ListComp _ _ _ _) _) _ _ _)); (fail_if_success (with_reducible show wpAny _ _ (exec (Stmt.While _ _ _ _) _) _ _ _)); (fail_if_success (with_reducible show wpAny _ _ (exec (Stmt.For _ _ _ _ _) _) _ _ _)); (fail_if_success (with_reducible show wpAny _ _ (exec (Stmt.Assign [Expr.Name _ _] (Expr.ListComp _ _ _ _) _) _) _ _ _)); (fail_if_success (with_reducible show wpAny _ _ (pyIter _) _ _ _)); (fail_if_success (with_reducible show wpAny _ _ (call (Value.type "range") _ _) _ _ _)); (fail_if_success (with_reducible show wpAny _ _ (call (Value.type "zip") _ _) _ _ _))); dsimp only; walk1))); (all_goals try dsimp only))
    rename Fr _ _ _ _ => F
    exact ret _ _ F.keep
theorem matches_P {l : Addr} {vs : List Value} {ns : List Int} {l' : Addr} {vs' : List Value} {ns' : List Int} (hl : s.heap.IsList l vs.toArray) (hi : IntsAre vs ns) (hlen : ns.length = 11) (hl' : s.heap.IsList l' vs'.toArray) (hi' : IntsAre vs' ns') (hlen' : ns'.length = 11)
    (ret : ∀ h' tk, s.heap.StaysIn h' → Q (.bool ((List.zipWith (fun a b => decide (a % 128 = 63) || decide (a % 128 = b % 128)) ns ns').all id)) { s with heap := h', toks := tk }) :
    wpAny (model prog w) (At 800 8000) (call (.ref 57) [.ref l, .ref l']) Q E s := by
  (refine' enterC (g := _) (sub := _) ?k_27 ?sz_27 ?X_27 ?T_27 ?S_27 ?ho_27 ?hcd_27 ?hroom_27 ?hb_27 ?hloc_27 ?hcell_27 ?c1_27 ?c2_27 ?c3_27 ?_; (case k_27 => first | assumption | exact stays_refl _); (case X_27 => with_reducible assumption); (case sz_27 => first | assumption | exact Nat.le_refl _); (case T_27 => with_reducible assumption); (case S_27 => first | assumption | exact List.forall_mem_nil _); (case ho_27 => k_is); (case hcd_27 => k_is); (case hroom_27 => exact Nat.le_of_ble_eq_true rfl); (case hb_27 => exact BindsTo.of_eq rfl); (case hloc_27 => exact locs rfl); (case hcell_27 => decide); (case c1_27 => exact rfl); (case c2_27 => exact rfl); (case c3_27 => exact rfl); intro xL xh xF xN xl; (try dsimp only at xF); (try simp only [AllLt, and_true] at xl); (try dsimp only); k_fold)
  ((repeat' (first | (k_unfold; (try dsimp only)) | (((fail_if_success (with_reducible show wpAny _ _ (eval (Expr.ListComp _ _ _ _) _) _ _ _)); (fail_if_success (with_reducible show wpAny _ _ (exec (Stmt.While _ _ _ _) _) _ _ _)); (fail_if_success (with_reducible show wpAny _ _ (exec (Stmt.For _ _ _ _ _) _) _ _ _)); (fail_if_success (with_reducible show wpAny _ _ (exec (Stmt.Assign [Expr.Name _ _] (Expr.ListComp _ _ _ _) _) _) _ _ _)); (fail_if_success (with_reducible show wpAny _ _ (pyIter _) _ _ _)); (fail_if_success (with_reducible show wpAny _ _ (call (Value.type "range") _ _) _ _ _)); (fail_if_success (with_reducible show wpAny _ _ (call (Value.type "zip") _ _) _ _ _))); walk1) | (((fail_if_success (with_reducible show wpAny _ _ (eval (Expr.ListComp _ _ _ _) _) _ _ _)); (fail_if_success (with_reducible show wpAny _ _ (exec (Stmt.While _ _ _ _) _) _ _ _)); (fail_if_success (with_reducible show wpAny _ _ (exec (Stmt.For _ _ _ _ _) _) _ _ _)); (fail_if_success (with_reducible show wpAny _ _ (exec (Stmt.Assign [Expr.Name _ _] (Expr.ListComp _ _ _ _) _) _) _ _ _)); (fail_if_success (with_reducible show wpAny _ _ (pyIter _) _ _ _)); (fail_if_success (with_reducible show wpAny _ _ (call (Value.type "range") _ _) _ _ _)); (fail_if_success (with_reducible show wpAny _ _ (call (Value.type "zip") _ _) _ _ _))); dsimp only; walk1))); (all_goals try dsimp only))
  ((try (k_unmd; k_fold)); refine' ListComp_ct (cl := _) [] ?hc_29 ?h1_29 ?h2_29 ?h3_29 ?_ ?hs_29; (case hc_29 => exact rfl); (case h1_29 => decide); (case h2_29 => exact rfl); (case h3_29 => decide); (case hs_29 => intro _; exact rfl))
  ((repeat' (first | (k_unfold; (try dsimp only)) | (((fail_if_success (with_reducible show wpAny _ _ (eval (Expr.ListComp _ _ _ _) _) _ _ _)); (fail_if_success (with_reducible show wpAny _ _ (exec (Stmt.While _ _ _ _) _) _ _ _)); (fail_if_success (with_reducible show wpAny _ _ (exec (Stmt.For _ _ _ _ _) _) _ _ _)); (fail_if_success (with_reducible show wpAny _ _ (exec (Stmt.Assign [Expr.Name _ _] (Expr.ListComp _ _ _ _) _) _) _ _ _)); (fail_if_success (with_reducible show wpAny _ _ (pyIter _) _ _ _)); (fail_if_success (with_reducible show wpAny _ _ (call (Value.type "range") _ _) _ _ _)); (fail_if_success (with_reducible show wpAny _ _ (call (Value.type "zip") _ _) _ _ _))); walk1) | (((fail_if_success (with_reducible show wpAny _ _ (eval (Expr.ListComp _ _ _ _) _) _ _ _)); (fail_if_success (with_reducible show wpAny _ _ (exec (Stmt.While _ _ _ _) _) _ _ _)); (fail_if_success (with_reducible show wpAny _ _ (exec (Stmt.For _ _ _ _ _) _) _ _ _)); (fail_if_success (with_reducible show wpAny _ _ (exec (Stmt.Assign [Expr.Name _ _] (Expr.ListComp _ _ _ _) _) _) _ _ _)); (fail_if_success (with_reducible show wpAny _ _ (pyIter _) _ _ _)); (fail_if_success (with_reducible show wpAny _ _ (call (Value.type "range") _ _) _ _ _)); (fail_if_success (with_reducible show wpAny _ _ (call (Value.type "zip") _ _) _ _ _))); dsimp only; walk1))); (all_goals try dsimp only))
  rename Fr _ _ _ _ => F
  rename News _ _ _ _ => N
  have hsz : min vs.length vs'.length ≤ sizeLine := by rw [sizeLine_eq, hi.length, hi'.length]; omega
  refine core_zip (T := fun Q => wpAny _ _ (call (.type "zip") [.ref l, .ref l']) (fun xv s₁ => wpAny _ _ (pyIter xv) Q _ s₁) _ _) (l1 := l) (l2 := l') (xs := vs) (ys := vs') rfl (src_zip rfl (by exact stays_list F.keep hl) (by exact stays_list F.keep hl')) hsz rfl rfl rfl
    (fun k zs => zs.length = k ∧ ∀ (i : Nat) (y : Value), zs[i]? = some y → y = Value.bool (decide (ns.getD i 0 % 128 = 63) || decide (ns.getD i 0 % 128 = ns'.getD i 0 % 128))) ⟨rfl, fun i y e => by simp at e⟩ ?_ fun h₂ tk wr st hs hwr => fin_E (R := fun (i : Nat) (y : Value) => y = Value.bool (decide (ns.getD i 0 % 128 = 63) || decide (ns.getD i 0 % 128 = ns'.getD i 0 % 128))) F N ?_ h₂ tk wr st hs hwr
  · intro C k h₃ tk m' zs x y hC hk hx hy hJ st F₃ N₃
    obtain ⟨z, t, rfl, hz⟩ := hi.at k x hx
    obtain ⟨z', t', rfl, hz'⟩ := hi'.at k y hy
    have X₃ := X.keeps fun b o e => st b o (F.keep b o e)
    have T₃ := T.keeps fun b o e => st b o (F.keep b o e)
    clear F N
    refine wpAny_tests_nil ?_
    rw [if_pos rfl]
    k_unmd; k_fold
    dsimp only [compEnvC]
    ((repeat' (first | (k_unfold; (try dsimp only)) | (((fail_if_success (with_reducible show wpAny _ _ (eval (Expr.ListComp _ _ _ _) _) _ _ _)); (fail_if_success (with_reducible show wpAny _ _ (exec (Stmt.While _ _ _ _) _) _ _ _)); (fail_if_success (with_reducible show wpAny _ _ (exec (Stmt.For _ _ _ _ _) _) _ _ _)); (fail_if_success (with_reducible show wpAny _ _ (exec (Stmt.Assign [Expr.Name _ _] (Expr.ListComp _ _ _ _) _) _) _ _ _)); (fail_if_success (with_reducible show wpAny _ _ (pyIter _) _ _ _)); (fail_if_success (with_reducible show wpAny _ _ (call (Value.type "range") _ _) _ _ _)); (fail_if_success (with_reducible show wpAny _ _ (call (Value.type "zip") _ _) _ _ _))); walk1) | (((fail_if_success (with_reducible show wpAny _ _ (eval (Expr.ListComp _ _ _ _) _) _ _ _)); (fail_if_success (with_reducible show wpAny _ _ (exec (Stmt.While _ _ _ _) _) _ _ _)); (fail_if_success (with_reducible show wpAny _ _ (exec (Stmt.For _ _ _ _ _) _) _ _ _)); (fail_if_success (with_reducible show wpAny _ _ (exec (Stmt.Assign [Expr.Name _ _] (Expr.ListComp _ _ _ _) _) _) _ _ _)); (fail_if_success (with_reducible show wpAny _ _ (pyIter _) _ _ _)); (fail_if_success (with_reducible show wpAny _ _ (call (Value.type "range") _ _) _ _ _)); (fail_if_success (with_reducible show wpAny _ _ (call (Value.type "zip") _ _) _ _ _))); dsimp only; walk1))); (all_goals try dsimp only))
    all_goals rename Fr _ _ _ _ => F'
    all_goals refine ⟨⟨JP.snoc (R := fun (i : Nat) (y : Value) => y = Value.bool (decide (ns.getD i 0 % 128 = 63) || decide (ns.getD i 0 % 128 = ns'.getD i 0 % 128))) (h := h₃) (h' := h₃) hJ ?_, EltEnd.mk F'⟩⟩
    all_goals clear F' N₃ X₃ T₃ st hlen ret hJ
    all_goals simp only [bitAnd_m7, getD_at hz, getD_at hz'] at *
    all_goals (simp_all <;> rfl)
  · intro D h' tk ys kk hlen₂ hR F' N' _ hD
    have hb := bools_zip (fun a b => decide (a % 128 = 63) || decide (a % 128 = b % 128)) (by rw [hlen₂, hi.length, hi'.length]) hR
    clear F N
    ((repeat' (first | (k_unfold; (try dsimp only)) | (((fail_if_success (with_reducible show wpAny _ _ (eval (Expr.ListComp _ _ _ _) _) _ _ _)); (fail_if_success (with_reducible show wpAny _ _ (exec (Stmt.While _ _ _ _) _) _ _ _)); (fail_if_success (with_reducible show wpAny _ _ (exec (Stmt.For _ _ _ _ _) _) _ _ _)); (fail_if_success (with_reducible show wpAny _ _ (exec (Stmt.Assign [Expr.Name _ _] (Expr.ListComp _ _ _ _) _) _) _ _ _)); (fail_if_success (with_reducible show wpAny _ _ (pyIter _) _ _ _)); (fail_if_success (with_reducible show wpAny _ _ (call (Value.type "range") _ _) _ _ _)); (fail_if_success (with_reducible show wpAny _ _ (call (Value.type "zip") _ _) _ _ _))); walk1) | (((fail_if_success (with_reducible show wpAny _ _ (eval (Expr.ListComp _ _ _ _) _) _ _ _)); (fail_if_success (with_reducible show wpAny _ _ (exec (Stmt.While _ _ _ _) _) _ _ _)); (fail_if_success (with_reducible show wpAny _ _ (exec (Stmt.For _ _ _ _ _) _) _ _ _)); (fail_if_success (with_reducible show wpAny _ _ (exec (Stmt.Assign [Expr.Name _ _] (Expr.ListComp _ _ _ _) _) _) _ _ _)); (fail_if_success (with_reducible show wpAny _ _ (pyIter _) _ _ _)); (fail_if_success (with_reducible show wpAny _ _ (call (Value.type "range") _ _) _ _ _)); (fail_if_success (with_reducible show wpAny _ _ (call (Value.type "zip") _ _) _ _ _))); dsimp only; walk1))); (all_goals try dsimp only))
    refine LSm.all_bools F' N' rfl (News.isList N' (.head _)) hb fun h₅ tk₅ F₅ N₅ => ?_
    clear F' N'
    ((repeat' (first | (k_unfold; (try dsimp only)) | (((fail_if_success (with_reducible show wpAny _ _ (eval (Expr.ListComp _ _ _ _) _) _ _ _)); (fail_if_success (with_reducible show wpAny _ _ (exec (Stmt.While _ _ _ _) _) _ _ _)); (fail_if_success (with_reducible show wpAny _ _ (exec (Stmt.For _ _ _ _ _) _) _ _ _)); (fail_if_success (with_reducible show wpAny _ _ (exec (Stmt.Assign [Expr.Name _ _] (Expr.ListComp _ _ _ _) _) _) _ _ _)); (fail_if_success (with_reducible show wpAny _ _ (pyIter _) _ _ _)); (fail_if_success (with_reducible show wpAny _ _ (call (Value.type "range") _ _) _ _ _)); (fail_if_success (with_reducible show wpAny _ _ (call (Value.type "zip") _ _) _ _ _))); walk1) | (((fail_if_success (with_reducible show wpAny _ _ (eval (Expr.ListComp _ _ _ _) _) _ _ _)); (fail_if_success (with_reducible show wpAny _ _ (exec (Stmt.While _ _ _ _) _) _ _ _)); (fail_if_success (with_reducible show wpAny _ _ (exec (Stmt.For _ _ _ _ _) _) _ _ _)); (fail_if_success (with_reducible show wpAny _ _ (exec (Stmt.Assign [Expr.Name _ _] (Expr.ListComp _ _ _ _) _) _) _ _ _)); (fail_if_success (with_reducible show wpAny _ _ (pyIter _) _ _ _)); (fail_if_success (with_reducible show wpAny _ _ (call (Value.type "range") _ _) _ _ _)); (fail_if_success (with_reducible show wpAny _ _ (call (Value.type "zip") _ _) _ _ _))); dsimp only; walk1))); (all_goals try dsimp only))
    rename Fr _ _ _ _ => F
    exact ret _ _ F.keep
end
end
theorem off_F3 : True := by
  w_top off
  trivial
section
def showName (ns : List Int) : Array UInt8 :=
  let nm := rstripA (byteArr ((ns.map (· % 128)).take 8)) #[32]
  let kd := rstripA (byteArr ((ns.map (· % 128)).drop 8)) #[32]
  if 0 < kd.size then nm ++ #[46] ++ kd else nm
theorem mod_range (ns : List Int) : ∀ x ∈ ns.map (· % 128), 0 ≤ x ∧ x < 256 := by
  intro x hx
  obtain ⟨y, _, rfl⟩ := List.mem_map.mp hx
  omega
section
variable {prog : Program} {w : World} {mean : ExcName → Option Value} {mg mb : Str → Option Value} {s : Shared} {Q E : Value → Shared → Prop} (X : (hd.heap_1 w.params).In s.heap) (T : Top qv (looseW qv []) mean mg mb s.heap)
include X T
theorem show_name_P {l : Addr} {vs : List Value} {ns : List Int} (hl : s.heap.IsList l vs.toArray) (hi : IntsAre vs ns) (hlen : ns.length = 11)
    (ret : ∀ h' t' tk, s.heap.StaysIn h' → Q (.bytes (showName ns) t') { s with heap := h', toks := tk }) :
    wpAny (model prog w) (At 700 7000) (call (.ref 52) [.ref l]) Q E s := by
  (refine' enterC (g := _) (sub := _) ?k_34 ?sz_34 ?X_34 ?T_34 ?S_34 ?ho_34 ?hcd_34 ?hroom_34 ?hb_34 ?hloc_34 ?hcell_34 ?c1_34 ?c2_34 ?c3_34 ?_; (case k_34 => first | assumption | exact stays_refl _); (case X_34 => with_reducible assumption); (case sz_34 => first | assumption | exact Nat.le_refl _); (case T_34 => with_reducible assumption); (case S_34 => first | assumption | exact List.forall_mem_nil _); (case ho_34 => k_is); (case hcd_34 => k_is); (case hroom_34 => exact Nat.le_of_ble_eq_true rfl); (case hb_34 => exact BindsTo.of_eq rfl); (case hloc_34 => exact locs rfl); (case hcell_34 => decide); (case c1_34 => exact rfl); (case c2_34 => exact rfl); (case c3_34 => exact rfl); intro xL xh xF xN xl; (try dsimp only at xF); (try simp only [AllLt, and_true] at xl); (try dsimp only); k_fold)
  ((repeat' (first | (k_unfold; (try dsimp only)) | (((fail_if_success (with_reducible show wpAny _ _ (eval (Expr.ListComp _ _ _ _) _) _ _ _)); (fail_if_success (with_reducible show wpAny _ _ (exec (Stmt.While _ _ _ _) _) _ _ _)); (fail_if_success (with_reducible show wpAny _ _ (exec (Stmt.For _ _ _ _ _) _) _ _ _)); (fail_if_success (with_reducible show wpAny _ _ (exec (Stmt.Assign [Expr.Name _ _] (Expr.ListComp _ _ _ _) _) _) _ _ _)); (fail_if_success (with_reducible show wpAny _ _ (pyIter _) _ _ _)); (fail_if_success (with_reducible show wpAny _ _ (call (Value.type "range") _ _) _ _ _)); (fail_if_success (with_reducible show wpAny _ _ (call (Value.type "zip") _ _) _ _ _))); walk1) | (((fail_if_success (with_reducible show wpAny _ _ (eval (Expr.ListComp _ _ _ _) _) _ _ _)); (fail_if_success (with_reducible show wpAny _ _ (exec (Stmt.While _ _ _ _) _) _ _ _)); (fail_if_success (with_reducible show wpAny _ _ (exec (Stmt.For _ _ _ _ _) _) _ _ _)); (fail_if_success (with_reducible show wpAny _ _ (exec (Stmt.Assign [Expr.Name _ _] (Expr.ListComp _ _ _ _) _) _) _ _ _)); (fail_if_success (with_reducible show wpAny _ _ (pyIter _) _ _ _)); (fail_if_success (with_reducible show wpAny _ _ (call (Value.type "range") _ _) _ _ _)); (fail_if_success (with_reducible show wpAny _ _ (call (Value.type "zip") _ _) _ _ _))); dsimp only; walk1))); (all_goals try dsimp only))
  rename Fr _ _ _ _ => F
  rename News _ _ _ _ => N
  refine wp_top (bare_P (X.keeps F.keep) (T.keeps F.keep) (stays_list F.keep hl) hi (by omega) fun l' vs' n h' tk st hD hl' hi' => ?_) rfl rfl rfl
  obtain ⟨F', N'⟩ := grown_of F N st
  have N' := news_fresh F N' hD hl'
  clear F N
  ((repeat' (first | (k_unfold; (try dsimp only)) | (((fail_if_success (with_reducible show wpAny _ _ (eval (Expr.ListComp _ _ _ _) _) _ _ _)); (fail_if_success (with_reducible show wpAny _ _ (exec (Stmt.While _ _ _ _) _) _ _ _)); (fail_if_success (with_reducible show wpAny _ _ (exec (Stmt.For _ _ _ _ _) _) _ _ _)); (fail_if_success (with_reducible show wpAny _ _ (exec (Stmt.Assign [Expr.Name _ _] (Expr.ListComp _ _ _ _) _) _) _ _ _)); (fail_if_success (with_reducible show wpAny _ _ (pyIter _) _ _ _)); (fail_if_success (with_reducible show wpAny _ _ (call (Value.type "range") _ _) _ _ _)); (fail_if_success (with_reducible show wpAny _ _ (call (Value.type "zip") _ _) _ _ _))); walk1) | (((fail_if_success (with_reducible show wpAny _ _ (eval (Expr.ListComp _ _ _ _) _) _ _ _)); (fail_if_success (with_reducible show wpAny _ _ (exec (Stmt.While _ _ _ _) _) _ _ _)); (fail_if_success (with_reducible show wpAny _ _ (exec (Stmt.For _ _ _ _ _) _) _ _ _)); (fail_if_success (with_reducible show wpAny _ _ (exec (Stmt.Assign [Expr.Name _ _] (Expr.ListComp _ _ _ _) _) _) _ _ _)); (fail_if_success (with_reducible show wpAny _ _ (pyIter _) _ _ _)); (fail_if_success (with_reducible show wpAny _ _ (call (Value.type "range") _ _) _ _ _)); (fail_if_success (with_reducible show wpAny _ _ (call (Value.type "zip") _ _) _ _ _))); dsimp only; walk1))); (all_goals try dsimp only))
  rename Fr _ _ _ _ => F
  rename News _ _ _ _ => N
  rename IntsAre _ (List.take _ _) => hi₂
  refine call_bytes_ints (News.isList N (.head _)) hi₂ (ints_sub (mod_range ns) _) (by rw [hi₂.length, sizeLine_eq, List.length_take]; omega) rfl fun h' t' k hk => ?_
  obtain ⟨F', N'⟩ := grown_of F N hk
  clear F N
  have z1 : (rstripA (byteArr ((ns.map (· % 128)).take 8)) #[32]).size ≤ 8 := Nat.le_trans (rstripA_size _ _) (by rw [byteArr_size, List.length_take]; omega)
  ((repeat' (first | (k_unfold; (try dsimp only)) | (((fail_if_success (with_reducible show wpAny _ _ (eval (Expr.ListComp _ _ _ _) _) _ _ _)); (fail_if_success (with_reducible show wpAny _ _ (exec (Stmt.While _ _ _ _) _) _ _ _)); (fail_if_success (with_reducible show wpAny _ _ (exec (Stmt.For _ _ _ _ _) _) _ _ _)); (fail_if_success (with_reducible show wpAny _ _ (exec (Stmt.Assign [Expr.Name _ _] (Expr.ListComp _ _ _ _) _) _) _ _ _)); (fail_if_success (with_reducible show wpAny _ _ (pyIter _) _ _ _)); (fail_if_success (with_reducible show wpAny _ _ (call (Value.type "range") _ _) _ _ _)); (fail_if_success (with_reducible show wpAny _ _ (call (Value.type "zip") _ _) _ _ _))); walk1) | (((fail_if_success (with_reducible show wpAny _ _ (eval (Expr.ListComp _ _ _ _) _) _ _ _)); (fail_if_success (with_reducible show wpAny _ _ (exec (Stmt.While _ _ _ _) _) _ _ _)); (fail_if_success (with_reducible show wpAny _ _ (exec (Stmt.For _ _ _ _ _) _) _ _ _)); (fail_if_success (with_reducible show wpAny _ _ (exec (Stmt.Assign [Expr.Name _ _] (Expr.ListComp _ _ _ _) _) _) _ _ _)); (fail_if_success (with_reducible show wpAny _ _ (pyIter _) _ _ _)); (fail_if_success (with_reducible show wpAny _ _ (call (Value.type "range") _ _) _ _ _)); (fail_if_success (with_reducible show wpAny _ _ (call (Value.type "zip") _ _) _ _ _))); dsimp only; walk1))); (all_goals try dsimp only))
  rename Fr _ _ _ _ => F
  rename News _ _ _ _ => N
  refine wp_top (bare_P (X.keeps F.keep) (T.keeps F.keep) (stays_list F.keep hl) hi (by omega) fun l' vs' n h' tk st hD hl' hi' => ?_) rfl rfl rfl
  obtain ⟨F', N'⟩ := grown_of F N st
  have N' := news_fresh F N' hD hl'
  clear F N hi₂
  ((repeat' (first | (k_unfold; (try dsimp only)) | (((fail_if_success (with_reducible show wpAny _ _ (eval (Expr.ListComp _ _ _ _) _) _ _ _)); (fail_if_success (with_reducible show wpAny _ _ (exec (Stmt.While _ _ _ _) _) _ _ _)); (fail_if_success (with_reducible show wpAny _ _ (exec (Stmt.For _ _ _ _ _) _) _ _ _)); (fail_if_success (with_reducible show wpAny _ _ (exec (Stmt.Assign [Expr.Name _ _] (Expr.ListComp _ _ _ _) _) _) _ _ _)); (fail_if_success (with_reducible show wpAny _ _ (pyIter _) _ _ _)); (fail_if_success (with_reducible show wpAny _ _ (call (Value.type "range") _ _) _ _ _)); (fail_if_success (with_reducible show wpAny _ _ (call (Value.type "zip") _ _) _ _ _))); walk1) | (((fail_if_success (with_reducible show wpAny _ _ (eval (Expr.ListComp _ _ _ _) _) _ _ _)); (fail_if_success (with_reducible show wpAny _ _ (exec (Stmt.While _ _ _ _) _) _ _ _)); (fail_if_success (with_reducible show wpAny _ _ (exec (Stmt.For _ _ _ _ _) _) _ _ _)); (fail_if_success (with_reducible show wpAny _ _ (exec (Stmt.Assign [Expr.Name _ _] (Expr.ListComp _ _ _ _) _) _) _ _ _)); (fail_if_success (with_reducible show wpAny _ _ (pyIter _) _ _ _)); (fail_if_success (with_reducible show wpAny _ _ (call (Value.type "range") _ _) _ _ _)); (fail_if_success (with_reducible show wpAny _ _ (call (Value.type "zip") _ _) _ _ _))); dsimp only; walk1))); (all_goals try dsimp only))
  rename Fr _ _ _ _ => F
  rename News _ _ _ _ => N
  rename IntsAre _ (List.drop _ _) => hi₂
  refine call_bytes_ints (News.isList N (.head _)) hi₂ (fun x hx => mod_range ns x (List.mem_of_mem_drop hx)) (by rw [hi₂.length, sizeLine_eq, List.length_drop, List.length_map]; omega) rfl fun h' t' k hk => ?_
  obtain ⟨F', N'⟩ := grown_of F N hk
  clear F N
  have z2 : (rstripA (byteArr ((ns.map (· % 128)).drop 8)) #[32]).size ≤ 3 := Nat.le_trans (rstripA_size _ _) (by rw [byteArr_size, List.length_drop, List.length_map]; omega)
  ((repeat' (first | (k_unfold; (try dsimp only)) | (((fail_if_success (with_reducible show wpAny _ _ (eval (Expr.ListComp _ _ _ _) _) _ _ _)); (fail_if_success (with_reducible show wpAny _ _ (exec (Stmt.While _ _ _ _) _) _ _ _)); (fail_if_success (with_reducible show wpAny _ _ (exec (Stmt.For _ _ _ _ _) _) _ _ _)); (fail_if_success (with_reducible show wpAny _ _ (exec (Stmt.Assign [Expr.Name _ _] (Expr.ListComp _ _ _ _) _) _) _ _ _)); (fail_if_success (with_reducible show wpAny _ _ (pyIter _) _ _ _)); (fail_if_success (with_reducible show wpAny _ _ (call (Value.type "range") _ _) _ _ _)); (fail_if_success (with_reducible show wpAny _ _ (call (Value.type "zip") _ _) _ _ _))); walk1) | (((fail_if_success (with_reducible show wpAny _ _ (eval (Expr.ListComp _ _ _ _) _) _ _ _)); (fail_if_success (with_reducible show wpAny _ _ (exec (Stmt.While _ _ _ _) _) _ _ _)); (fail_if_success (with_reducible show wpAny _ _ (exec (Stmt.For _ _ _ _ _) _) _ _ _)); (fail_if_success (with_reducible show wpAny _ _ (exec (Stmt.Assign [Expr.Name _ _] (Expr.ListComp _ _ _ _) _) _) _ _ _)); (fail_if_success (with_reducible show wpAny _ _ (pyIter _) _ _ _)); (fail_if_success (with_reducible show wpAny _ _ (call (Value.type "range") _ _) _ _ _)); (fail_if_success (with_reducible show wpAny _ _ (call (Value.type "zip") _ _) _ _ _))); dsimp only; walk1))); (all_goals try dsimp only))
  · rename (0 : Int) < _ => e
    rename Fr _ _ _ _ => F
    unfold showName at ret
    simp only at ret
    rw [if_pos (by omega)] at ret
    exact ret _ _ _ F.keep
  · rename ¬ (0 : Int) < _ => e
    rename Fr _ _ _ _ => F
    unfold showName at ret
    simp only at ret
    rw [if_neg (by omega)] at ret
    exact ret _ _ _ F.keep
end
end
theorem off_F4 : True := by
  w_top off
  trivial
section
def fillF (ks : List Int) (size : Nat) : List Int :=
  if 42 ∈ ks then ((ks.takeWhile (· ≠ 42)).map up ++ List.replicate size 63).take size else (ks.map up ++ List.replicate size 32).take size
theorem takeWhile_take {α : Type} (p : α → Bool) : ∀ (ks : List α) (i : Nat), (∀ x ∈ ks.take i, p x = true) → (∃ x, ks[i]? = some x ∧ p x = false) → ks.takeWhile p = ks.take i
  | [], i, _, ⟨x, h, _⟩ => by simp at h
  | k :: ks, 0, _, ⟨x, h, hp⟩ => by simp at h; subst h; simp [hp]
  | k :: ks, i + 1, h1, ⟨x, h, hp⟩ => by
    have hk : p k = true := h1 k (by simp)
    have ih := takeWhile_take p ks i (fun y hy => h1 y (by simp [hy])) ⟨x, by simpa using h, hp⟩
    simp [hk, ih]
theorem take_snoc {α : Type} {ks : List α} {i : Nat} {x : α} (h : ks[i]? = some x) : ks.take (i + 1) = ks.take i ++ [x] := by
  rw [List.take_add_one, h]; rfl
section
variable {prog : Program} {w : World} {mean : ExcName → Option Value} {mg mb : Str → Option Value} {s : Shared} {Q E : Value → Shared → Prop} (X : (hd.heap_1 w.params).In s.heap) (T : Top qv (looseW qv []) mean mg mb s.heap)
include X T
theorem filled_P {b : Array UInt8} {t t' : Tok} {sz : Nat} (hb : b.size ≤ 100) (hs : sz ≤ 8)
    (ret : ∀ l' vs' n h' tk, s.heap.StaysIn h' → s.heap.get? l' = none → h'.get? l' = some (listOf vs'.toArray n) → IntsAre vs' (fillF (KBw.bInts b) sz) → Q (.ref l') { s with heap := h', toks := tk }) :
    wpAny (model prog w) (At 700 7000) (call (.ref 28) [.bytes b t, .int (sz : Int) t']) Q E s := by
  (refine' enterC (g := _) (sub := _) ?k_40 ?sz_40 ?X_40 ?T_40 ?S_40 ?ho_40 ?hcd_40 ?hroom_40 ?hb_40 ?hloc_40 ?hcell_40 ?c1_40 ?c2_40 ?c3_40 ?_; (case k_40 => first | assumption | exact stays_refl _); (case X_40 => with_reducible assumption); (case sz_40 => first | assumption | exact Nat.le_refl _); (case T_40 => with_reducible assumption); (case S_40 => first | assumption | exact List.forall_mem_nil _); (case ho_40 => k_is); (case hcd_40 => k_is); (case hroom_40 => exact Nat.le_of_ble_eq_true rfl); (case hb_40 => exact BindsTo.of_eq rfl); (case hloc_40 => exact locs rfl); (case hcell_40 => decide); (case c1_40 => exact rfl); (case c2_40 => exact rfl); (case c3_40 => exact rfl); intro xL xh xF xN xl; (try dsimp only at xF); (try simp only [AllLt, and_true] at xl); (try dsimp only); k_fold)
  ((repeat' (first | (k_unfold; (try dsimp only)) | (((fail_if_success (with_reducible show wpAny _ _ (eval (Expr.ListComp _ _ _ _) _) _ _ _)); (fail_if_success (with_reducible show wpAny _ _ (exec (Stmt.While _ _ _ _) _) _ _ _)); (fail_if_success (with_reducible show wpAny _ _ (exec (Stmt.For _ _ _ _ _) _) _ _ _)); (fail_if_success (with_reducible show wpAny _ _ (exec (Stmt.Assign [Expr.Name _ _] (Expr.ListComp _ _ _ _) _) _) _ _ _)); (fail_if_success (with_reducible show wpAny _ _ (pyIter _) _ _ _)); (fail_if_success (with_reducible show wpAny _ _ (call (Value.type "range") _ _) _ _ _)); (fail_if_success (with_reducible show wpAny _ _ (call (Value.type "zip") _ _) _ _ _))); walk1) | (((fail_if_success (with_reducible show wpAny _ _ (eval (Expr.ListComp _ _ _ _) _) _ _ _)); (fail_if_success (with_reducible show wpAny _ _ (exec (Stmt.While _ _ _ _) _) _ _ _)); (fail_if_success (with_reducible show wpAny _ _ (exec (Stmt.For _ _ _ _ _) _) _ _ _)); (fail_if_success (with_reducible show wpAny _ _ (exec (Stmt.Assign [Expr.Name _ _] (Expr.ListComp _ _ _ _) _) _) _ _ _)); (fail_if_success (with_reducible show wpAny _ _ (pyIter _) _ _ _)); (fail_if_success (with_reducible show wpAny _ _ (call (Value.type "range") _ _) _ _ _)); (fail_if_success (with_reducible show wpAny _ _ (call (Value.type "zip") _ _) _ _ _))); dsimp only; walk1))); (all_goals try dsimp only))
  refine wpAny_For ?_
  k_unmd; k_fold
  ((repeat' (first | (k_unfold; (try dsimp only)) | (((fail_if_success (with_reducible show wpAny _ _ (eval (Expr.ListComp _ _ _ _) _) _ _ _)); (fail_if_success (with_reducible show wpAny _ _ (exec (Stmt.While _ _ _ _) _) _ _ _)); (fail_if_success (with_reducible show wpAny _ _ (exec (Stmt.For _ _ _ _ _) _) _ _ _)); (fail_if_success (with_reducible show wpAny _ _ (exec (Stmt.Assign [Expr.Name _ _] (Expr.ListComp _ _ _ _) _) _) _ _ _)); (fail_if_success (with_reducible show wpAny _ _ (pyIter _) _ _ _)); (fail_if_success (with_reducible show wpAny _ _ (call (Value.type "range") _ _) _ _ _)); (fail_if_success (with_reducible show wpAny _ _ (call (Value.type "zip") _ _) _ _ _))); walk1) | (((fail_if_success (with_reducible show wpAny _ _ (eval (Expr.ListComp _ _ _ _) _) _ _ _)); (fail_if_success (with_reducible show wpAny _ _ (exec (Stmt.While _ _ _ _) _) _ _ _)); (fail_if_success (with_reducible show wpAny _ _ (exec (Stmt.For _ _ _ _ _) _) _ _ _)); (fail_if_success (with_reducible show wpAny _ _ (exec (Stmt.Assign [Expr.Name _ _] (Expr.ListComp _ _ _ _) _) _) _ _ _)); (fail_if_success (with_reducible show wpAny _ _ (pyIter _) _ _ _)); (fail_if_success (with_reducible show wpAny _ _ (call (Value.type "range") _ _) _ _ _)); (fail_if_success (with_reducible show wpAny _ _ (call (Value.type "zip") _ _) _ _ _))); dsimp only; walk1))); (all_goals try dsimp only))
  rename Fr _ _ _ _ => F
  rename News _ _ _ _ => N
  refine for_app (T := fun Q => wpAny _ _ (pyIter (.bytes b t)) Q _ _) (srcw_bytes rfl) rfl F N rfl rfl
    (fun i vs => IntsAre vs (((KBw.bInts b).take i).map up) ∧ ∀ x ∈ (KBw.bInts b).take i, x ≠ 42) ⟨.nil, by simp⟩ ?_ ?_
  · rintro i v vs kk I o h₁ tk₁ hin ⟨c, u, hc, rfl⟩ ⟨hvs, hno⟩ F₁ N₁ hne _ hI
    have hvl : vs.length ≤ 100 := by rw [hvs.length, List.length_map, List.length_take, KBw.ints_length]; omega
    have hne := neN hne
    clear F N
    k_unmd; k_fold
    ((repeat' (first | (k_unfold; (try dsimp only)) | (((fail_if_success (with_reducible show wpAny _ _ (eval (Expr.ListComp _ _ _ _) _) _ _ _)); (fail_if_success (with_reducible show wpAny _ _ (exec (Stmt.While _ _ _ _) _) _ _ _)); (fail_if_success (with_reducible show wpAny _ _ (exec (Stmt.For _ _ _ _ _) _) _ _ _)); (fail_if_success (with_reducible show wpAny _ _ (exec (Stmt.Assign [Expr.Name _ _] (Expr.ListComp _ _ _ _) _) _) _ _ _)); (fail_if_success (with_reducible show wpAny _ _ (pyIter _) _ _ _)); (fail_if_success (with_reducible show wpAny _ _ (call (Value.type "range") _ _) _ _ _)); (fail_if_success (with_reducible show wpAny _ _ (call (Value.type "zip") _ _) _ _ _))); walk1) | (((fail_if_success (with_reducible show wpAny _ _ (eval (Expr.ListComp _ _ _ _) _) _ _ _)); (fail_if_success (with_reducible show wpAny _ _ (exec (Stmt.While _ _ _ _) _) _ _ _)); (fail_if_success (with_reducible show wpAny _ _ (exec (Stmt.For _ _ _ _ _) _) _ _ _)); (fail_if_success (with_reducible show wpAny _ _ (exec (Stmt.Assign [Expr.Name _ _] (Expr.ListComp _ _ _ _) _) _) _ _ _)); (fail_if_success (with_reducible show wpAny _ _ (pyIter _) _ _ _)); (fail_if_success (with_reducible show wpAny _ _ (call (Value.type "range") _ _) _ _ _)); (fail_if_success (with_reducible show wpAny _ _ (call (Value.type "zip") _ _) _ _ _))); dsimp only; walk1))); (all_goals try dsimp only))
    · rename Fr _ _ _ _ => F
      rename News _ _ _ _ => N
      rename IntsAre _ (List.take _ _) => hi
      refine ret _ _ _ _ _ F.keep (N _ (.head _)).2.2 (N _ (.head _)).1 ?_
      have e42 : (c.toNat : Int) = 42 := by assumption
      have hg := KBw.ints_get hc
      rw [e42] at hg
      have hm : (42 : Int) ∈ KBw.bInts b := List.mem_of_getElem? hg
      have ht : (KBw.bInts b).takeWhile (· ≠ 42) = (KBw.bInts b).take i := takeWhile_take _ _ _ (fun x hx => by simpa using hno x hx) ⟨42, hg, by simp⟩
      unfold fillF
      rw [if_pos hm, ht]
      simpa using hi
    · rename Fr _ _ _ _ => F
      rename News _ _ _ _ => N
      have e42 : (c.toNat : Int) ≠ 42 := by assumption
      have hg := KBw.ints_get hc
      rw [List.push_toArray] at N
      show Endd _
      refine ⟨⟨_, _, _, _, _, rfl, F, N, ?_, ?_⟩⟩
      · rw [take_snoc hg, List.map_append]
        exact hvs.append (.cons _ _ .nil)
      · rw [take_snoc hg]
        intro x hx
        rcases List.mem_append.mp hx with q | q
        · exact hno x q
        · rw [List.mem_singleton.mp q]; exact e42
  · intro h' tk' u vs' kk' F' N' hJ
    obtain ⟨hvs, hno⟩ := hJ
    clear F N
    ((repeat' (first | (k_unfold; (try dsimp only)) | (((fail_if_success (with_reducible show wpAny _ _ (eval (Expr.ListComp _ _ _ _) _) _ _ _)); (fail_if_success (with_reducible show wpAny _ _ (exec (Stmt.While _ _ _ _) _) _ _ _)); (fail_if_success (with_reducible show wpAny _ _ (exec (Stmt.For _ _ _ _ _) _) _ _ _)); (fail_if_success (with_reducible show wpAny _ _ (exec (Stmt.Assign [Expr.Name _ _] (Expr.ListComp _ _ _ _) _) _) _ _ _)); (fail_if_success (with_reducible show wpAny _ _ (pyIter _) _ _ _)); (fail_if_success (with_reducible show wpAny _ _ (call (Value.type "range") _ _) _ _ _)); (fail_if_success (with_reducible show wpAny _ _ (call (Value.type "zip") _ _) _ _ _))); walk1) | (((fail_if_success (with_reducible show wpAny _ _ (eval (Expr.ListComp _ _ _ _) _) _ _ _)); (fail_if_success (with_reducible show wpAny _ _ (exec (Stmt.While _ _ _ _) _) _ _ _)); (fail_if_success (with_reducible show wpAny _ _ (exec (Stmt.For _ _ _ _ _) _) _ _ _)); (fail_if_success (with_reducible show wpAny _ _ (exec (Stmt.Assign [Expr.Name _ _] (Expr.ListComp _ _ _ _) _) _) _ _ _)); (fail_if_success (with_reducible show wpAny _ _ (pyIter _) _ _ _)); (fail_if_success (with_reducible show wpAny _ _ (call (Value.type "range") _ _) _ _ _)); (fail_if_success (with_reducible show wpAny _ _ (call (Value.type "zip") _ _) _ _ _))); dsimp only; walk1))); (all_goals try dsimp only))
    rename Fr _ _ _ _ => F
    rename News _ _ _ _ => N
    rename IntsAre _ (List.take _ _) => hi
    refine ret _ _ _ _ _ F.keep (N _ (.head _)).2.2 (N _ (.head _)).1 ?_
    rw [← KBw.ints_length, List.take_length] at hno hi
    unfold fillF
    rw [if_neg fun q => hno _ q rfl]
    simpa using hi
end
end
theorem off_F5 : True := by
  w_top off
  trivial
section
theorem kfints {vs : List Value} {ks : List Int} (h : IntsAre vs ks) : kf_ints vs = true := by
  induction h with
  | nil => rfl
  | cons n t _ ih => simpa [kf_ints] using ih
theorem kfat {vs : List Value} {ks : List Int} {k : Int} (h : IntsAre vs ks) (hk : k ∈ ks) : kf_at k vs = some ((ks.takeWhile (· ≠ k)).length) := by
  induction h with
  | nil => cases hk
  | cons n t hr ih =>
    unfold kf_at
    by_cases e : n = k
    · subst e; simp [isInt]
    · have hk' := (List.mem_cons.mp hk).resolve_left (Ne.symm e)
      have : (n == k) = false := by simpa using e
      simp [isInt, e, ih hk', this]
theorem takeWhile_all {α : Type} {p : α → Bool} : ∀ (ks : List α), (∀ x ∈ ks, p x = true) → ks.takeWhile p = ks
  | [], _ => rfl
  | k :: ks, h => by rw [List.takeWhile_cons, h k (.head _)]; exact congrArg _ (takeWhile_all ks fun x hx => h x (.tail _ hx))
theorem not_eq46 : (fun x : Int => !decide (x = 46)) = (fun x => decide (x ≠ 46)) := by funext x; simp
theorem clip_drop (ks : List Int) (n : Nat) : List.take (ks.length - clipAt ks.length ((n : Int) + 1)) (List.drop (clipAt ks.length ((n : Int) + 1)) ks) = ks.drop (n + 1) := by
  have h : clipAt ks.length ((n : Int) + 1) = min ks.length (n + 1) := by unfold clipAt; split <;> omega
  rw [h]
  rcases Nat.le_total ks.length (n + 1) with q | q
  · rw [Nat.min_eq_left q, List.drop_length, List.drop_eq_nil_of_le q]; simp
  · rw [Nat.min_eq_right q]; exact List.take_of_length_le (by simp)
theorem fill_len (ks : List Int) (n : Nat) (h : n ≤ 100) : (fillF ks n).length ≤ 100 := by
  unfold fillF; split <;> (rw [List.length_take]; omega)
section
variable {prog : Program} {w : World} {mean : ExcName → Option Value} {mg mb : Str → Option Value} {s : Shared} {Q E : Value → Shared → Prop} (X : (hd.heap_1 w.params).In s.heap) (T : Top qv (looseW qv []) mean mg mb s.heap)
include X T
def parseN (ks : List Int) : List Int := fillF (ks.take (ks.takeWhile (· ≠ 46)).length) 8 ++ fillF (ks.drop ((ks.takeWhile (· ≠ 46)).length + 1)) 3
theorem parse_name_P {b : Array UInt8} {t : Tok} (hb : b.size ≤ 100)
    (ret : ∀ l' vs' n h' tk, s.heap.StaysIn h' → s.heap.get? l' = none → h'.get? l' = some (listOf vs'.toArray n) → IntsAre vs' (parseN (KBw.bInts b)) → Q (.ref l') { s with heap := h', toks := tk }) :
    wpAny (model prog w) (At 600 6000) (call (.ref 35) [.bytes b t]) Q E s := by
  (refine' enterC (g := _) (sub := _) ?k_45 ?sz_45 ?X_45 ?T_45 ?S_45 ?ho_45 ?hcd_45 ?hroom_45 ?hb_45 ?hloc_45 ?hcell_45 ?c1_45 ?c2_45 ?c3_45 ?_; (case k_45 => first | assumption | exact stays_refl _); (case X_45 => with_reducible assumption); (case sz_45 => first | assumption | exact Nat.le_refl _); (case T_45 => with_reducible assumption); (case S_45 => first | assumption | exact List.forall_mem_nil _); (case ho_45 => k_is); (case hcd_45 => k_is); (case hroom_45 => exact Nat.le_of_ble_eq_true rfl); (case hb_45 => exact BindsTo.of_eq rfl); (case hloc_45 => exact locs rfl); (case hcell_45 => decide); (case c1_45 => exact rfl); (case c2_45 => exact rfl); (case c3_45 => exact rfl); intro xL xh xF xN xl; (try dsimp only at xF); (try simp only [AllLt, and_true] at xl); (try dsimp only); k_fold)
  have hk : KBw.bInts b = KBw.bInts b := rfl
  have hlen : (KBw.bInts b).length = b.size := KBw.ints_length b
  ((repeat' (first | (k_unfold; (try dsimp only)) | (((fail_if_success (with_reducible show wpAny _ _ (eval (Expr.ListComp _ _ _ _) _) _ _ _)); (fail_if_success (with_reducible show wpAny _ _ (exec (Stmt.While _ _ _ _) _) _ _ _)); (fail_if_success (with_reducible show wpAny _ _ (exec (Stmt.For _ _ _ _ _) _) _ _ _)); (fail_if_success (with_reducible show wpAny _ _ (exec (Stmt.Assign [Expr.Name _ _] (Expr.ListComp _ _ _ _) _) _) _ _ _)); (fail_if_success (with_reducible show wpAny _ _ (pyIter _) _ _ _)); (fail_if_success (with_reducible show wpAny _ _ (call (Value.type "range") _ _) _ _ _)); (fail_if_success (with_reducible show wpAny _ _ (call (Value.type "zip") _ _) _ _ _))); walk1) | (((fail_if_success (with_reducible show wpAny _ _ (eval (Expr.ListComp _ _ _ _) _) _ _ _)); (fail_if_success (with_reducible show wpAny _ _ (exec (Stmt.While _ _ _ _) _) _ _ _)); (fail_if_success (with_reducible show wpAny _ _ (exec (Stmt.For _ _ _ _ _) _) _ _ _)); (fail_if_success (with_reducible show wpAny _ _ (exec (Stmt.Assign [Expr.Name _ _] (Expr.ListComp _ _ _ _) _) _) _ _ _)); (fail_if_success (with_reducible show wpAny _ _ (pyIter _) _ _ _)); (fail_if_success (with_reducible show wpAny _ _ (call (Value.type "range") _ _) _ _ _)); (fail_if_success (with_reducible show wpAny _ _ (call (Value.type "zip") _ _) _ _ _))); dsimp only; walk1))); (all_goals try dsimp only))
  · rename News _ _ _ _ => N
    rename (List.any _ _) = true => hany
    rename IntsAre _ (KBw.bInts b) => hi
    have hm : (46 : Int) ∈ KBw.bInts b := by
      obtain ⟨x, hx, e⟩ := List.any_eq_true.mp hany
      have e' : x = 46 := by simpa using e
      exact e' ▸ hx
    have hle : ((KBw.bInts b).takeWhile (· ≠ 46)).length ≤ b.size := by rw [← hlen]; exact (List.takeWhile_sublist _).length_le
    refine kf_index N (.head _) (by simpa using kfints hi) (by simpa using kfat hi hm) rfl (by rw [sizeLine_eq]; simp only [List.toList_toArray]; rw [hi.length]; omega) ?_
    ((repeat' (first | (k_unfold; (try dsimp only)) | (((fail_if_success (with_reducible show wpAny _ _ (eval (Expr.ListComp _ _ _ _) _) _ _ _)); (fail_if_success (with_reducible show wpAny _ _ (exec (Stmt.While _ _ _ _) _) _ _ _)); (fail_if_success (with_reducible show wpAny _ _ (exec (Stmt.For _ _ _ _ _) _) _ _ _)); (fail_if_success (with_reducible show wpAny _ _ (exec (Stmt.Assign [Expr.Name _ _] (Expr.ListComp _ _ _ _) _) _) _ _ _)); (fail_if_success (with_reducible show wpAny _ _ (pyIter _) _ _ _)); (fail_if_success (with_reducible show wpAny _ _ (call (Value.type "range") _ _) _ _ _)); (fail_if_success (with_reducible show wpAny _ _ (call (Value.type "zip") _ _) _ _ _))); walk1) | (((fail_if_success (with_reducible show wpAny _ _ (eval (Expr.ListComp _ _ _ _) _) _ _ _)); (fail_if_success (with_reducible show wpAny _ _ (exec (Stmt.While _ _ _ _) _) _ _ _)); (fail_if_success (with_reducible show wpAny _ _ (exec (Stmt.For _ _ _ _ _) _) _ _ _)); (fail_if_success (with_reducible show wpAny _ _ (exec (Stmt.Assign [Expr.Name _ _] (Expr.ListComp _ _ _ _) _) _) _ _ _)); (fail_if_success (with_reducible show wpAny _ _ (pyIter _) _ _ _)); (fail_if_success (with_reducible show wpAny _ _ (call (Value.type "range") _ _) _ _ _)); (fail_if_success (with_reducible show wpAny _ _ (call (Value.type "zip") _ _) _ _ _))); dsimp only; walk1))); (all_goals try dsimp only))
    rename Fr _ _ _ _ => F
    rename News _ _ _ _ => N
    clear hi
    rename KBw.bInts _ = _ => hp
    have hp := hp.trans (show _ = (KBw.bInts b).take ((KBw.bInts b).takeWhile (· ≠ 46)).length from by rw [not_eq46, Nat.min_eq_left (by rw [hlen]; exact hle)])
    refine wp_top (filled_P (sz := 8) (X.keeps F.keep) (T.keeps F.keep) ?_ (by decide) fun l₁ vs₁ n₁ h₁ tk₁ st₁ hD₁ hl₁ hi₁ => ?_) rfl rfl rfl
    · rw [← KBw.ints_length, hp]; simp; omega
    rw [hp] at hi₁
    obtain ⟨F', N'⟩ := grown_of F N st₁
    have N' := news_fresh F N' hD₁ hl₁
    clear F N
    ((repeat' (first | (k_unfold; (try dsimp only)) | (((fail_if_success (with_reducible show wpAny _ _ (eval (Expr.ListComp _ _ _ _) _) _ _ _)); (fail_if_success (with_reducible show wpAny _ _ (exec (Stmt.While _ _ _ _) _) _ _ _)); (fail_if_success (with_reducible show wpAny _ _ (exec (Stmt.For _ _ _ _ _) _) _ _ _)); (fail_if_success (with_reducible show wpAny _ _ (exec (Stmt.Assign [Expr.Name _ _] (Expr.ListComp _ _ _ _) _) _) _ _ _)); (fail_if_success (with_reducible show wpAny _ _ (pyIter _) _ _ _)); (fail_if_success (with_reducible show wpAny _ _ (call (Value.type "range") _ _) _ _ _)); (fail_if_success (with_reducible show wpAny _ _ (call (Value.type "zip") _ _) _ _ _))); walk1) | (((fail_if_success (with_reducible show wpAny _ _ (eval (Expr.ListComp _ _ _ _) _) _ _ _)); (fail_if_success (with_reducible show wpAny _ _ (exec (Stmt.While _ _ _ _) _) _ _ _)); (fail_if_success (with_reducible show wpAny _ _ (exec (Stmt.For _ _ _ _ _) _) _ _ _)); (fail_if_success (with_reducible show wpAny _ _ (exec (Stmt.Assign [Expr.Name _ _] (Expr.ListComp _ _ _ _) _) _) _ _ _)); (fail_if_success (with_reducible show wpAny _ _ (pyIter _) _ _ _)); (fail_if_success (with_reducible show wpAny _ _ (call (Value.type "range") _ _) _ _ _)); (fail_if_success (with_reducible show wpAny _ _ (call (Value.type "zip") _ _) _ _ _))); dsimp only; walk1))); (all_goals try dsimp only))
    rename Fr _ _ _ _ => F
    rename News _ _ _ _ => N
    rename KBw.bInts (KBy.picked _ _ _) = _ => hp2
    have hcl : KBw.bInts (KBy.picked b (some (↑(List.takeWhile (fun x => !decide (x = 46)) (KBw.bInts b)).length + 1)) none) = (KBw.bInts b).drop (((KBw.bInts b).takeWhile (· ≠ 46)).length + 1) := by
      rw [hp2, not_eq46]; exact clip_drop _ _
    refine wp_top (filled_P (sz := 3) (X.keeps F.keep) (T.keeps F.keep) ?_ (by decide) fun l₂ vs₂ n₂ h₂ tk₂ st₂ hD₂ hl₂ hi₂ => ?_) rfl rfl rfl
    · rw [← KBw.ints_length, hcl]; simp; omega
    rw [hcl] at hi₂
    obtain ⟨F', N'⟩ := grown_of F N st₂
    have N' := news_fresh F N' hD₂ hl₂
    clear F N
    have s1 : vs₁.length ≤ 100 := by rw [hi₁.length]; exact fill_len _ _ (by decide)
    have s2 : vs₂.length ≤ 100 := by rw [hi₂.length]; exact fill_len _ _ (by decide)
    ((repeat' (first | (k_unfold; (try dsimp only)) | (((fail_if_success (with_reducible show wpAny _ _ (eval (Expr.ListComp _ _ _ _) _) _ _ _)); (fail_if_success (with_reducible show wpAny _ _ (exec (Stmt.While _ _ _ _) _) _ _ _)); (fail_if_success (with_reducible show wpAny _ _ (exec (Stmt.For _ _ _ _ _) _) _ _ _)); (fail_if_success (with_reducible show wpAny _ _ (exec (Stmt.Assign [Expr.Name _ _] (Expr.ListComp _ _ _ _) _) _) _ _ _)); (fail_if_success (with_reducible show wpAny _ _ (pyIter _) _ _ _)); (fail_if_success (with_reducible show wpAny _ _ (call (Value.type "range") _ _) _ _ _)); (fail_if_success (with_reducible show wpAny _ _ (call (Value.type "zip") _ _) _ _ _))); walk1) | (((fail_if_success (with_reducible show wpAny _ _ (eval (Expr.ListComp _ _ _ _) _) _ _ _)); (fail_if_success (with_reducible show wpAny _ _ (exec (Stmt.While _ _ _ _) _) _ _ _)); (fail_if_success (with_reducible show wpAny _ _ (exec (Stmt.For _ _ _ _ _) _) _ _ _)); (fail_if_success (with_reducible show wpAny _ _ (exec (Stmt.Assign [Expr.Name _ _] (Expr.ListComp _ _ _ _) _) _) _ _ _)); (fail_if_success (with_reducible show wpAny _ _ (pyIter _) _ _ _)); (fail_if_success (with_reducible show wpAny _ _ (call (Value.type "range") _ _) _ _ _)); (fail_if_success (with_reducible show wpAny _ _ (call (Value.type "zip") _ _) _ _ _))); dsimp only; walk1))); (all_goals try dsimp only))
    rename Fr _ _ _ _ => F
    rename News _ _ _ _ => N
    refine ret _ _ _ _ _ F.keep (N _ (.head _)).2.2 (N _ (.head _)).1 ?_
    exact hi₁.append hi₂
  · rename Fr _ _ _ _ => F
    rename News _ _ _ _ => N
    rename (List.any _ _) = false => hany
    have hm : ¬ (46 : Int) ∈ KBw.bInts b := by
      intro q
      have := List.any_eq_false.mp hany 46 q
      simp at this
    have hk46 : (KBw.bInts b).takeWhile (· ≠ 46) = KBw.bInts b := by
      exact takeWhile_all _ fun x hx => by
        have : x ≠ 46 := fun q => hm (q ▸ hx)
        simpa using this
    rename KBw.bInts (KBy.picked _ _ _) = _ => hp
    have hp : KBw.bInts (KBy.picked b none (some (b.size : Int))) = (KBw.bInts b).take ((KBw.bInts b).takeWhile (· ≠ 46)).length := by
      rw [hp, hk46, hlen, Nat.min_self]
    refine wp_top (filled_P (sz := 8) (X.keeps F.keep) (T.keeps F.keep) ?_ (by decide) fun l₁ vs₁ n₁ h₁ tk₁ st₁ hD₁ hl₁ hi₁ => ?_) rfl rfl rfl
    · rw [← KBw.ints_length, hp]; simp; omega
    rw [hp] at hi₁
    obtain ⟨F', N'⟩ := grown_of F N st₁
    have N' := news_fresh F N' hD₁ hl₁
    clear F N
    ((repeat' (first | (k_unfold; (try dsimp only)) | (((fail_if_success (with_reducible show wpAny _ _ (eval (Expr.ListComp _ _ _ _) _) _ _ _)); (fail_if_success (with_reducible show wpAny _ _ (exec (Stmt.While _ _ _ _) _) _ _ _)); (fail_if_success (with_reducible show wpAny _ _ (exec (Stmt.For _ _ _ _ _) _) _ _ _)); (fail_if_success (with_reducible show wpAny _ _ (exec (Stmt.Assign [Expr.Name _ _] (Expr.ListComp _ _ _ _) _) _) _ _ _)); (fail_if_success (with_reducible show wpAny _ _ (pyIter _) _ _ _)); (fail_if_success (with_reducible show wpAny _ _ (call (Value.type "range") _ _) _ _ _)); (fail_if_success (with_reducible show wpAny _ _ (call (Value.type "zip") _ _) _ _ _))); walk1) | (((fail_if_success (with_reducible show wpAny _ _ (eval (Expr.ListComp _ _ _ _) _) _ _ _)); (fail_if_success (with_reducible show wpAny _ _ (exec (Stmt.While _ _ _ _) _) _ _ _)); (fail_if_success (with_reducible show wpAny _ _ (exec (Stmt.For _ _ _ _ _) _) _ _ _)); (fail_if_success (with_reducible show wpAny _ _ (exec (Stmt.Assign [Expr.Name _ _] (Expr.ListComp _ _ _ _) _) _) _ _ _)); (fail_if_success (with_reducible show wpAny _ _ (pyIter _) _ _ _)); (fail_if_success (with_reducible show wpAny _ _ (call (Value.type "range") _ _) _ _ _)); (fail_if_success (with_reducible show wpAny _ _ (call (Value.type "zip") _ _) _ _ _))); dsimp only; walk1))); (all_goals try dsimp only))
    rename Fr _ _ _ _ => F
    rename News _ _ _ _ => N
    rename KBw.bInts (KBy.picked _ (some _) _) = _ => hp2
    have hcl : KBw.bInts (KBy.picked b (some ((b.size : Int) + 1)) none) = (KBw.bInts b).drop (((KBw.bInts b).takeWhile (· ≠ 46)).length + 1) := by
      rw [hp2, hk46, hlen, ← hlen]; exact clip_drop _ _
    refine wp_top (filled_P (sz := 3) (X.keeps F.keep) (T.keeps F.keep) ?_ (by decide) fun l₂ vs₂ n₂ h₂ tk₂ st₂ hD₂ hl₂ hi₂ => ?_) rfl rfl rfl
    · rw [← KBw.ints_length, hcl]; simp; omega
    rw [hcl] at hi₂
    obtain ⟨F', N'⟩ := grown_of F N st₂
    have N' := news_fresh F N' hD₂ hl₂
    clear F N
    have s1 : vs₁.length ≤ 100 := by rw [hi₁.length]; exact fill_len _ _ (by decide)
    have s2 : vs₂.length ≤ 100 := by rw [hi₂.length]; exact fill_len _ _ (by decide)
    ((repeat' (first | (k_unfold; (try dsimp only)) | (((fail_if_success (with_reducible show wpAny _ _ (eval (Expr.ListComp _ _ _ _) _) _ _ _)); (fail_if_success (with_reducible show wpAny _ _ (exec (Stmt.While _ _ _ _) _) _ _ _)); (fail_if_success (with_reducible show wpAny _ _ (exec (Stmt.For _ _ _ _ _) _) _ _ _)); (fail_if_success (with_reducible show wpAny _ _ (exec (Stmt.Assign [Expr.Name _ _] (Expr.ListComp _ _ _ _) _) _) _ _ _)); (fail_if_success (with_reducible show wpAny _ _ (pyIter _) _ _ _)); (fail_if_success (with_reducible show wpAny _ _ (call (Value.type "range") _ _) _ _ _)); (fail_if_success (with_reducible show wpAny _ _ (call (Value.type "zip") _ _) _ _ _))); walk1) | (((fail_if_success (with_reducible show wpAny _ _ (eval (Expr.ListComp _ _ _ _) _) _ _ _)); (fail_if_success (with_reducible show wpAny _ _ (exec (Stmt.While _ _ _ _) _) _ _ _)); (fail_if_success (with_reducible show wpAny _ _ (exec (Stmt.For _ _ _ _ _) _) _ _ _)); (fail_if_success (with_reducible show wpAny _ _ (exec (Stmt.Assign [Expr.Name _ _] (Expr.ListComp _ _ _ _) _) _) _ _ _)); (fail_if_success (with_reducible show wpAny _ _ (pyIter _) _ _ _)); (fail_if_success (with_reducible show wpAny _ _ (call (Value.type "range") _ _) _ _ _)); (fail_if_success (with_reducible show wpAny _ _ (call (Value.type "zip") _ _) _ _ _))); dsimp only; walk1))); (all_goals try dsimp only))
    rename Fr _ _ _ _ => F
    rename News _ _ _ _ => N
    refine ret _ _ _ _ _ F.keep (N _ (.head _)).2.2 (N _ (.head _)).1 ?_
    exact hi₁.append hi₂
end
end
theorem off_F6 : True := by
  w_top off
  trivial
section
def TwoEnd (h₀ : Heap) (L : Addr) (s : Shared) (x y : Str) (m : Str → Option Value) (J : Nat → Value → Value → List (Addr × Obj) → Prop) (n : Nat) (f : Flow) (s₃ : Shared) : Prop :=
  f = .next ∧ Endd (∃ h' tk m' news' n' vx vy, s₃ = { s with heap := h', toks := tk } ∧ Fr h₀ L h' m' ∧ News h₀ L h' news' ∧ m' x = some vx ∧ m' y = some vy ∧ (∀ z, z ≠ x → z ≠ y → m' z = m z) ∧ n' < n ∧ J n' vx vy news')
theorem two_of {x y : Str} {m m' : Str → Option Value} {vx vy : Value} (hx : m' x = some vx) (hy : m' y = some vy) (h : ∀ z, z ≠ x → z ≠ y → m' z = m z) : m' = fun z => if z = x then some vx else if z = y then some vy else m z := by
  funext z
  by_cases e : z = x
  · rw [if_pos e, e, hx]
  · rw [if_neg e]
    by_cases e' : z = y
    · rw [if_pos e', e', hy]
    · rw [if_neg e']; exact h z e e'
section
variable {prog : Program} {w : World} {A : Around} {E : Value → Shared → Prop} {Q : Flow → Shared → Prop} {s : Shared} {env : Env} {h₀ : Heap} {L : Addr}
theorem While_two {test : Expr} {body : List Stmt} {pos : Pos} {m : Str → Option Value} {news : List (Addr × Obj)} (x y : Str) (J : Nat → Value → Value → List (Addr × Obj) → Prop) {n₀ : Nat} {vx vy : Value}
    (F : Fr h₀ L s.heap m) (N : News h₀ L s.heap news) (hx : m x = some vx) (hy : m y = some vy) (hJ : J n₀ vx vy news)
    (turn : ∀ n vx vy news₁ h₁ tk₁, Fr h₀ L h₁ (fun z => if z = x then some vx else if z = y then some vy else m z) → News h₀ L h₁ news₁ → J n vx vy news₁ →
      wpAny (model prog w) A (isTrue test env (eval test env)) (fun b s₂ =>
        if b = true then wpAny (model prog w) A (execs body env) (TwoEnd h₀ L s x y m J n) E s₂ else Q .next s₂) E { s with heap := h₁, toks := tk₁ })
    (hE : PassesOwn (model prog w) A env E := by passes_own) :
    wpAny (model prog w) A (exec (.While test body [] pos) env) Q E s := by
  refine While_inv (fun n m₁ news₁ => ∃ vx vy, m₁ = (fun z => if z = x then some vx else if z = y then some vy else m z) ∧ J n vx vy news₁) (n₀ := n₀) F N ⟨vx, vy, two_of hx hy (fun _ _ _ => rfl), hJ⟩ ?_ hE
  rintro n m₁ news₁ h₁ tk₁ F₁ N₁ ⟨vx, vy, rfl, j⟩
  refine wpAny_mono (turn n vx vy news₁ h₁ tk₁ F₁ N₁ j) (fun b s₂ h₂ => ?_) fun _ _ e => e
  cases b with
  | false => exact h₂
  | true =>
    simp only [if_true] at h₂ ⊢
    refine wpAny_mono h₂ (fun f s₃ h₃ => ?_) fun _ _ e => e
    obtain ⟨rfl, h', tk, m', news', n', vx', vy', rfl, F', N', ex, ey, em, hn, j'⟩ := h₃
    exact ⟨rfl, h', tk, m', news', n', rfl, F', N', hn, vx', vy', two_of ex ey em, j'⟩
end
def skipB (ns : List Int) (k : Nat) : Nat := k + ((ns.drop k).takeWhile (· = 32)).length
theorem skipB_hit {ns : List Int} {k : Nat} (h : ns[k]? = some 32) : skipB ns (k + 1) = skipB ns k := by
  obtain ⟨hk, e⟩ := List.getElem?_eq_some_iff.mp h
  unfold skipB
  rw [List.drop_eq_getElem_cons hk, e]
  simp; omega
theorem skipB_miss {ns : List Int} {k : Nat} (h : ∀ x, ns[k]? = some x → x ≠ 32) : skipB ns k = k := by
  unfold skipB
  by_cases hk : k < ns.length
  · rw [List.drop_eq_getElem_cons hk]
    have := h _ (List.getElem?_eq_getElem hk)
    rw [List.takeWhile_cons_of_neg (by simpa using this)]; rfl
  · rw [List.drop_eq_nil_of_le (by omega)]; rfl
theorem getD_some {ns : List Int} {k : Nat} (h : (k : Int) < (ns.length : Int)) : ns[k]? = some (ns.getD ((k : Int)).toNat 0) := by
  rw [Int.toNat_natCast, List.getD_eq_getElem?_getD, List.getElem?_eq_getElem (by omega)]; rfl
section
variable {prog : Program} {w : World} {mean : ExcName → Option Value} {mg mb : Str → Option Value} {s : Shared} {Q E : Value → Shared → Prop} (X : (hd.heap_1 w.params).In s.heap) (T : Top qv (looseW qv []) mean mg mb s.heap)
include X T
theorem skip_P {l : Addr} {vs : List Value} {ns : List Int} {k : Nat} {t : Tok} (hl : s.heap.IsList l vs.toArray) (hi : IntsAre vs ns) (hlen : ns.length ≤ 200) (hk : k ≤ 200)
    (ret : ∀ t' h' tk, s.heap.StaysIn h' → Q (.int (skipB ns k : Int) t') { s with heap := h', toks := tk }) :
    wpAny (model prog w) (At 800 8000) (call (.ref 104) [.ref l, .int (k : Int) t]) Q E s := by
  (refine' enterC (g := _) (sub := _) ?k_52 ?sz_52 ?X_52 ?T_52 ?S_52 ?ho_52 ?hcd_52 ?hroom_52 ?hb_52 ?hloc_52 ?hcell_52 ?c1_52 ?c2_52 ?c3_52 ?_; (case k_52 => first | assumption | exact stays_refl _); (case X_52 => with_reducible assumption); (case sz_52 => first | assumption | exact Nat.le_refl _); (case T_52 => with_reducible assumption); (case S_52 => first | assumption | exact List.forall_mem_nil _); (case ho_52 => k_is); (case hcd_52 => k_is); (case hroom_52 => exact Nat.le_of_ble_eq_true rfl); (case hb_52 => exact BindsTo.of_eq rfl); (case hloc_52 => exact locs rfl); (case hcell_52 => decide); (case c1_52 => exact rfl); (case c2_52 => exact rfl); (case c3_52 => exact rfl); intro xL xh xF xN xl; (try dsimp only at xF); (try simp only [AllLt, and_true] at xl); (try dsimp only); k_fold)
  ((repeat' (first | (k_unfold; (try dsimp only)) | (((fail_if_success (with_reducible show wpAny _ _ (eval (Expr.ListComp _ _ _ _) _) _ _ _)); (fail_if_success (with_reducible show wpAny _ _ (exec (Stmt.While _ _ _ _) _) _ _ _)); (fail_if_success (with_reducible show wpAny _ _ (exec (Stmt.For _ _ _ _ _) _) _ _ _)); (fail_if_success (with_reducible show wpAny _ _ (exec (Stmt.Assign [Expr.Name _ _] (Expr.ListComp _ _ _ _) _) _) _ _ _)); (fail_if_success (with_reducible show wpAny _ _ (pyIter _) _ _ _)); (fail_if_success (with_reducible show wpAny _ _ (call (Value.type "range") _ _) _ _ _)); (fail_if_success (with_reducible show wpAny _ _ (call (Value.type "zip") _ _) _ _ _))); walk1) | (((fail_if_success (with_reducible show wpAny _ _ (eval (Expr.ListComp _ _ _ _) _) _ _ _)); (fail_if_success (with_reducible show wpAny _ _ (exec (Stmt.While _ _ _ _) _) _ _ _)); (fail_if_success (with_reducible show wpAny _ _ (exec (Stmt.For _ _ _ _ _) _) _ _ _)); (fail_if_success (with_reducible show wpAny _ _ (exec (Stmt.Assign [Expr.Name _ _] (Expr.ListComp _ _ _ _) _) _) _ _ _)); (fail_if_success (with_reducible show wpAny _ _ (pyIter _) _ _ _)); (fail_if_success (with_reducible show wpAny _ _ (call (Value.type "range") _ _) _ _ _)); (fail_if_success (with_reducible show wpAny _ _ (call (Value.type "zip") _ _) _ _ _))); dsimp only; walk1))); (all_goals try dsimp only))
  rename Fr _ _ _ _ => F
  rename News _ _ _ _ => N
  refine While_two (Str.ofString "at") (Str.ofString "row") (fun n vx vy news => ∃ (k' : Nat) (t : Tok), vx = .int (k' : Int) t ∧ vy = .ref l ∧ news = [] ∧ k' ≤ 200 ∧ skipB ns k' = skipB ns k ∧ n = 201 - k') F N rfl rfl ⟨k, t, rfl, rfl, rfl, hk, rfl, rfl⟩ ?_
  rintro n _ _ _ h₁ tk₁ F₁ N₁ ⟨k', t', rfl, rfl, rfl, hk', e', rfl⟩
  clear F N
  have hlv := hi.length
  ((repeat' (first | (k_unfold; (try dsimp only)) | (((fail_if_success (with_reducible show wpAny _ _ (eval (Expr.ListComp _ _ _ _) _) _ _ _)); (fail_if_success (with_reducible show wpAny _ _ (exec (Stmt.While _ _ _ _) _) _ _ _)); (fail_if_success (with_reducible show wpAny _ _ (exec (Stmt.For _ _ _ _ _) _) _ _ _)); (fail_if_success (with_reducible show wpAny _ _ (exec (Stmt.Assign [Expr.Name _ _] (Expr.ListComp _ _ _ _) _) _) _ _ _)); (fail_if_success (with_reducible show wpAny _ _ (pyIter _) _ _ _)); (fail_if_success (with_reducible show wpAny _ _ (call (Value.type "range") _ _) _ _ _)); (fail_if_success (with_reducible show wpAny _ _ (call (Value.type "zip") _ _) _ _ _))); walk1) | (((fail_if_success (with_reducible show wpAny _ _ (eval (Expr.ListComp _ _ _ _) _) _ _ _)); (fail_if_success (with_reducible show wpAny _ _ (exec (Stmt.While _ _ _ _) _) _ _ _)); (fail_if_success (with_reducible show wpAny _ _ (exec (Stmt.For _ _ _ _ _) _) _ _ _)); (fail_if_success (with_reducible show wpAny _ _ (exec (Stmt.Assign [Expr.Name _ _] (Expr.ListComp _ _ _ _) _) _) _ _ _)); (fail_if_success (with_reducible show wpAny _ _ (pyIter _) _ _ _)); (fail_if_success (with_reducible show wpAny _ _ (call (Value.type "range") _ _) _ _ _)); (fail_if_success (with_reducible show wpAny _ _ (call (Value.type "zip") _ _) _ _ _))); dsimp only; walk1))); (all_goals try dsimp only))
  all_goals rename Fr _ _ _ _ => F
  all_goals rename News _ _ _ _ => N
  · have hlt : (k' : Int) < (ns.length : Int) := by assumption
    have h32 : ns.getD ((k' : Int)).toNat 0 = 32 := by assumption
    have hg := getD_some hlt
    rw [h32] at hg
    exact ⟨rfl, ⟨_, _, _, _, 201 - (k' + 1), _, _, rfl, F, N, rfl, rfl, fun z hx hy => by simp only [if_neg hx, if_neg hy], by omega, k' + 1, _, rfl, rfl, rfl, by omega, (skipB_hit hg).trans e', rfl⟩⟩
  · have hlt : (k' : Int) < (ns.length : Int) := by assumption
    have h32 : ns.getD ((k' : Int)).toNat 0 ≠ 32 := by assumption
    have hg := getD_some hlt
    have e := (skipB_miss (fun x hx => by rw [hg] at hx; cases hx; exact h32)).symm.trans e'
    rw [← e] at ret
    exact ret _ _ _ F.keep
  · have hlt : ¬ (k' : Int) < (ns.length : Int) := by assumption
    have e := (skipB_miss (fun x hx => by have := (List.getElem?_eq_some_iff.mp hx).1; omega)).symm.trans e'
    rw [← e] at ret
    exact ret _ _ _ F.keep
end
end
theorem off_F7 : True := by
  w_top off
  trivial
section
def goOn (x : Int) : Bool := decide (x ∉ ([32, 61, 95, 46, 58, 59, 60, 62] : List Int)) && decide (32 < x)
def addS (size : Nat) (found : List Int) (x : Int) : List Int := if x = 42 then found ++ List.replicate (size - found.length) 63 else if found.length < size then found ++ [x] else found
def partL (size : Nat) (ns : List Int) (k : Nat) : List Int :=
  let f := ((ns.drop k).takeWhile goOn).foldl (addS size) []
  f ++ List.replicate (size - f.length) 32
def partN (ns : List Int) (k : Nat) : Nat := k + ((ns.drop k).takeWhile goOn).length
theorem ends_goOn {x : Int} (h0 : 0 ≤ x ∧ x < 256) : (#[32, 61, 95, 46, 58, 59, 60, 62] : Array UInt8).contains x.toNat.toUInt8 = decide (x ∈ ([32, 61, 95, 46, 58, 59, 60, 62] : List Int)) := by
  have key : ∀ n : Fin 256, (#[32, 61, 95, 46, 58, 59, 60, 62] : Array UInt8).contains n.val.toUInt8 = decide ((n.val : Int) ∈ ([32, 61, 95, 46, 58, 59, 60, 62] : List Int)) := by decide +kernel
  have := key ⟨x.toNat, by omega⟩
  rw [show x = (x.toNat : Int) by omega]
  exact this
theorem news_head {h₀ h : Heap} {L : Addr} {p : Addr × Obj} {news : List (Addr × Obj)} (N : News h₀ L h (p :: news)) : News h₀ L h [p] := fun q hq => by
  rw [List.mem_singleton.mp hq]; exact N _ (.head _)
theorem tw_stop {p : Int → Bool} {ns : List Int} {k : Nat} (h : ∀ x, ns[k]? = some x → p x = false) : (ns.drop k).takeWhile p = [] := by
  by_cases hk : k < ns.length
  · rw [List.drop_eq_getElem_cons hk]
    have := h _ (List.getElem?_eq_getElem hk)
    rw [List.takeWhile_cons_of_neg (by simpa using this)]
  · rw [List.drop_eq_nil_of_le (by omega)]; rfl
theorem tw_go {p : Int → Bool} {ns : List Int} {k : Nat} {x : Int} (h : ns[k]? = some x) (hp : p x = true) : (ns.drop k).takeWhile p = x :: (ns.drop (k + 1)).takeWhile p := by
  obtain ⟨hk, e⟩ := List.getElem?_eq_some_iff.mp h
  rw [List.drop_eq_getElem_cons hk, e, List.takeWhile_cons_of_pos hp]
section
variable {prog : Program} {w : World} {mean : ExcName → Option Value} {mg mb : Str → Option Value} {s : Shared} {Q E : Value → Shared → Prop} (X : (hd.heap_1 w.params).In s.heap) (T : Top qv (looseW qv []) mean mg mb s.heap)
include X T
theorem part_at_P {l : Addr} {vs : List Value} {ns : List Int} {k size : Nat} {t t' : Tok} (hl : s.heap.IsList l vs.toArray) (hi : IntsAre vs ns) (hlen : ns.length ≤ 200) (hk : k ≤ 200) (hs : size ≤ 8) (hr : ∀ x ∈ ns, 0 ≤ x ∧ x < 256)
    (ret : ∀ l' vs' n p h' tk t', s.heap.StaysIn h' → s.heap.get? l' = none → h'.get? l' = some (listOf vs'.toArray n) → IntsAre vs' (partL size ns k) → s.heap.get? p = none → h'.get? p = some { cls := .type "tuple", data := .seq #[.ref l', .int (partN ns k : Int) t'] } → Q (.ref p) { s with heap := h', toks := tk }) :
    wpAny (model prog w) (At 700 7000) (call (.ref 111) [.ref l, .int (k : Int) t, .int (size : Int) t']) Q E s := by
  (refine' enterC (g := _) (sub := _) ?k_55 ?sz_55 ?X_55 ?T_55 ?S_55 ?ho_55 ?hcd_55 ?hroom_55 ?hb_55 ?hloc_55 ?hcell_55 ?c1_55 ?c2_55 ?c3_55 ?_; (case k_55 => first | assumption | exact stays_refl _); (case X_55 => with_reducible assumption); (case sz_55 => first | assumption | exact Nat.le_refl _); (case T_55 => with_reducible assumption); (case S_55 => first | assumption | exact List.forall_mem_nil _); (case ho_55 => k_is); (case hcd_55 => k_is); (case hroom_55 => exact Nat.le_of_ble_eq_true rfl); (case hb_55 => exact BindsTo.of_eq rfl); (case hloc_55 => exact locs rfl); (case hcell_55 => decide); (case c1_55 => exact rfl); (case c2_55 => exact rfl); (case c3_55 => exact rfl); intro xL xh xF xN xl; (try dsimp only at xF); (try simp only [AllLt, and_true] at xl); (try dsimp only); k_fold)
  ((repeat' (first | (k_unfold; (try dsimp only)) | (((fail_if_success (with_reducible show wpAny _ _ (eval (Expr.ListComp _ _ _ _) _) _ _ _)); (fail_if_success (with_reducible show wpAny _ _ (exec (Stmt.While _ _ _ _) _) _ _ _)); (fail_if_success (with_reducible show wpAny _ _ (exec (Stmt.For _ _ _ _ _) _) _ _ _)); (fail_if_success (with_reducible show wpAny _ _ (exec (Stmt.Assign [Expr.Name _ _] (Expr.ListComp _ _ _ _) _) _) _ _ _)); (fail_if_success (with_reducible show wpAny _ _ (pyIter _) _ _ _)); (fail_if_success (with_reducible show wpAny _ _ (call (Value.type "range") _ _) _ _ _)); (fail_if_success (with_reducible show wpAny _ _ (call (Value.type "zip") _ _) _ _ _))); walk1) | (((fail_if_success (with_reducible show wpAny _ _ (eval (Expr.ListComp _ _ _ _) _) _ _ _)); (fail_if_success (with_reducible show wpAny _ _ (exec (Stmt.While _ _ _ _) _) _ _ _)); (fail_if_success (with_reducible show wpAny _ _ (exec (Stmt.For _ _ _ _ _) _) _ _ _)); (fail_if_success (with_reducible show wpAny _ _ (exec (Stmt.Assign [Expr.Name _ _] (Expr.ListComp _ _ _ _) _) _) _ _ _)); (fail_if_success (with_reducible show wpAny _ _ (pyIter _) _ _ _)); (fail_if_success (with_reducible show wpAny _ _ (call (Value.type "range") _ _) _ _ _)); (fail_if_success (with_reducible show wpAny _ _ (call (Value.type "zip") _ _) _ _ _))); dsimp only; walk1))); (all_goals try dsimp only))
  rename Fr _ _ _ _ => F
  rename News _ _ _ _ => N
  refine While_two (Str.ofString "at") (Str.ofString "found") (fun n vx vy news => ∃ (k' : Nat) (t : Tok) (fl : Addr) (vs' : List Value) (kk : Nat) (fs : List Int), vx = .int (k' : Int) t ∧ vy = .ref fl ∧ news = [(fl, listOf (List.toArray vs') kk)] ∧ IntsAre vs' fs ∧ fs.length ≤ size ∧ k' ≤ 200 ∧ partN ns k' = partN ns k ∧ ((ns.drop k').takeWhile goOn).foldl (addS size) fs = ((ns.drop k).takeWhile goOn).foldl (addS size) [] ∧ n = 201 - k') F N rfl rfl ⟨k, _, _, [], _, [], rfl, rfl, rfl, .nil, Nat.zero_le _, hk, rfl, rfl, rfl⟩ ?_
  rintro n _ _ _ h₁ tk₁ F₁ N₁ ⟨k', t', fl, vs', kk, fs, rfl, rfl, rfl, hi', hfs, hk', en, ef, rfl⟩
  clear F N
  have hlv := hi.length
  have hlv' := hi'.length
  have hx : 0 ≤ ns.getD ((k' : Int)).toNat 0 ∧ ns.getD ((k' : Int)).toNat 0 < 256 := by
    rw [List.getD_eq_getElem?_getD]
    cases e : ns[((k' : Int)).toNat]? with
    | none => simp
    | some y => exact hr y (List.mem_of_getElem? e)
  ((repeat' (first | (k_unfold; (try dsimp only)) | (((fail_if_success (with_reducible show wpAny _ _ (eval (Expr.ListComp _ _ _ _) _) _ _ _)); (fail_if_success (with_reducible show wpAny _ _ (exec (Stmt.While _ _ _ _) _) _ _ _)); (fail_if_success (with_reducible show wpAny _ _ (exec (Stmt.For _ _ _ _ _) _) _ _ _)); (fail_if_success (with_reducible show wpAny _ _ (exec (Stmt.Assign [Expr.Name _ _] (Expr.ListComp _ _ _ _) _) _) _ _ _)); (fail_if_success (with_reducible show wpAny _ _ (pyIter _) _ _ _)); (fail_if_success (with_reducible show wpAny _ _ (call (Value.type "range") _ _) _ _ _)); (fail_if_success (with_reducible show wpAny _ _ (call (Value.type "zip") _ _) _ _ _))); walk1) | (((fail_if_success (with_reducible show wpAny _ _ (eval (Expr.ListComp _ _ _ _) _) _ _ _)); (fail_if_success (with_reducible show wpAny _ _ (exec (Stmt.While _ _ _ _) _) _ _ _)); (fail_if_success (with_reducible show wpAny _ _ (exec (Stmt.For _ _ _ _ _) _) _ _ _)); (fail_if_success (with_reducible show wpAny _ _ (exec (Stmt.Assign [Expr.Name _ _] (Expr.ListComp _ _ _ _) _) _) _ _ _)); (fail_if_success (with_reducible show wpAny _ _ (pyIter _) _ _ _)); (fail_if_success (with_reducible show wpAny _ _ (call (Value.type "range") _ _) _ _ _)); (fail_if_success (with_reducible show wpAny _ _ (call (Value.type "zip") _ _) _ _ _))); dsimp only; walk1))); (all_goals try dsimp only))
  all_goals rename Fr _ _ _ _ => F
  all_goals rename News _ _ _ _ => N
  · have hlt : (k' : Int) < (ns.length : Int) := by assumption
    have hg := getD_some hlt
    rename (#[32, 61, 95, 46, 58, 59, 60, 62] : Array UInt8).contains _ = true => hc
    rename IntsAre _ (fs ++ _) => hj
    have ht : (ns.drop k').takeWhile goOn = [] := tw_stop (fun x hx' => by
      rw [hg] at hx'; cases hx'
      rw [ends_goOn hx] at hc
      unfold goOn
      have := of_decide_eq_true hc
      rw [decide_eq_false (fun q => q this)]; rfl)
    rw [ht] at ef
    have en : k' = partN ns k := by rw [← en]; unfold partN; rw [ht]; rfl
    rw [← en] at ret
    rw [List.flatten_replicate_singleton] at hj
    have e : ((size : Int) - (fs.length : Int)).toNat = size - fs.length := by omega
    rw [e, show fs ++ List.replicate (size - fs.length) 32 = partL size ns k from by unfold partL; rw [← ef]; rfl] at hj
    exact ret _ _ _ _ _ _ _ F.keep (N _ (.tail _ (.head _))).2.2 (N _ (.tail _ (.head _))).1 hj (N _ (.head _)).2.2 (N _ (.head _)).1
  · have hlt : (k' : Int) < (ns.length : Int) := by assumption
    have hg := getD_some hlt
    rename (#[32, 61, 95, 46, 58, 59, 60, 62] : Array UInt8).contains _ = false => hc
    rename IntsAre _ (fs ++ _) => hj
    have h42 : ns.getD ((k' : Int)).toNat 0 = 42 := by assumption
    have hgo : goOn (ns.getD ((k' : Int)).toNat 0) = true := by
      unfold goOn
      rw [ends_goOn hx] at hc
      rw [Bool.and_eq_true]
      exact ⟨by simpa using hc, by simp only [decide_eq_true_eq]; omega⟩
    have ht := tw_go hg hgo
    have en' : partN ns (k' + 1) = partN ns k := by rw [← en]; unfold partN; rw [ht, List.length_cons]; omega
    rw [ht, List.foldl_cons] at ef
    rw [List.flatten_replicate_singleton] at hj
    have e : ((size : Int) - (fs.length : Int)).toNat = size - fs.length := by omega
    rw [e] at hj
    have ea : addS size fs (ns.getD ((k' : Int)).toNat 0) = fs ++ List.replicate (size - fs.length) 63 := by unfold addS; rw [if_pos h42]
    rw [ea] at ef
    have JL : (fs ++ List.replicate (size - fs.length) 63).length ≤ size := by rw [List.length_append, List.length_replicate]; omega
    have NN := news_head N
    exact ⟨rfl, ⟨_, _, _, _, 201 - (k' + 1), _, _, rfl, F, NN, rfl, rfl, fun z hx hy => by simp only [if_neg hx, if_neg hy], by omega, k' + 1, _, _, _, _, _, rfl, rfl, rfl, hj, JL, by omega, en', ef, rfl⟩⟩
  · have hlt : (k' : Int) < (ns.length : Int) := by assumption
    have hg := getD_some hlt
    rename (#[32, 61, 95, 46, 58, 59, 60, 62] : Array UInt8).contains _ = false => hc
    have h42 : ns.getD ((k' : Int)).toNat 0 ≠ 42 := by assumption
    have hfl : fs.length < size := by omega
    have hgo : goOn (ns.getD ((k' : Int)).toNat 0) = true := by
      unfold goOn
      rw [ends_goOn hx] at hc
      rw [Bool.and_eq_true]
      exact ⟨by simpa using hc, by simp only [decide_eq_true_eq]; omega⟩
    have ht := tw_go hg hgo
    have en' : partN ns (k' + 1) = partN ns k := by rw [← en]; unfold partN; rw [ht, List.length_cons]; omega
    rw [ht, List.foldl_cons] at ef
    have ea : addS size fs (ns.getD ((k' : Int)).toNat 0) = fs ++ [ns.getD ((k' : Int)).toNat 0] := by unfold addS; rw [if_neg h42, if_pos hfl]
    rw [ea] at ef
    have JL : (fs ++ [ns.getD ((k' : Int)).toNat 0]).length ≤ size := by rw [List.length_append, List.length_singleton]; exact hfl
    rw [List.push_toArray] at N
    have hj := fun t => hi'.append (IntsAre.cons (ns.getD ((k' : Int)).toNat 0) t .nil)
    have NN := N
    exact ⟨rfl, ⟨_, _, _, _, 201 - (k' + 1), _, _, rfl, F, NN, rfl, rfl, fun z hx hy => by simp only [if_neg hx, if_neg hy], by omega, k' + 1, _, _, _, _, _, rfl, rfl, rfl, hj _, JL, by omega, en', ef, rfl⟩⟩
  · have hlt : (k' : Int) < (ns.length : Int) := by assumption
    have hg := getD_some hlt
    rename (#[32, 61, 95, 46, 58, 59, 60, 62] : Array UInt8).contains _ = false => hc
    have h42 : ns.getD ((k' : Int)).toNat 0 ≠ 42 := by assumption
    have hfl : ¬ fs.length < size := by omega
    have hgo : goOn (ns.getD ((k' : Int)).toNat 0) = true := by
      unfold goOn
      rw [ends_goOn hx] at hc
      rw [Bool.and_eq_true]
      exact ⟨by simpa using hc, by simp only [decide_eq_true_eq]; omega⟩
    have ht := tw_go hg hgo
    have en' : partN ns (k' + 1) = partN ns k := by rw [← en]; unfold partN; rw [ht, List.length_cons]; omega
    rw [ht, List.foldl_cons] at ef
    have ea : addS size fs (ns.getD ((k' : Int)).toNat 0) = fs := by unfold addS; rw [if_neg h42, if_neg hfl]
    rw [ea] at ef
    have hj := hi'
    have JL := hfs
    have NN := N
    exact ⟨rfl, ⟨_, _, _, _, 201 - (k' + 1), _, _, rfl, F, NN, rfl, rfl, fun z hx hy => by simp only [if_neg hx, if_neg hy], by omega, k' + 1, _, _, _, _, _, rfl, rfl, rfl, hj, JL, by omega, en', ef, rfl⟩⟩
  · have hlt : (k' : Int) < (ns.length : Int) := by assumption
    have hg := getD_some hlt
    rename (#[32, 61, 95, 46, 58, 59, 60, 62] : Array UInt8).contains _ = false => hc
    rename IntsAre _ (fs ++ _) => hj
    have ht : (ns.drop k').takeWhile goOn = [] := tw_stop (fun x hx' => by
      rw [hg] at hx'; cases hx'
      unfold goOn
      rw [decide_eq_false (p := (32 : Int) < _) (by omega), Bool.and_false])
    rw [ht] at ef
    have en : k' = partN ns k := by rw [← en]; unfold partN; rw [ht]; rfl
    rw [← en] at ret
    rw [List.flatten_replicate_singleton] at hj
    have e : ((size : Int) - (fs.length : Int)).toNat = size - fs.length := by omega
    rw [e, show fs ++ List.replicate (size - fs.length) 32 = partL size ns k from by unfold partL; rw [← ef]; rfl] at hj
    exact ret _ _ _ _ _ _ _ F.keep (N _ (.tail _ (.head _))).2.2 (N _ (.tail _ (.head _))).1 hj (N _ (.head _)).2.2 (N _ (.head _)).1
  · have hlt : ¬ (k' : Int) < (ns.length : Int) := by assumption
    rename IntsAre _ (fs ++ _) => hj
    have ht : (ns.drop k').takeWhile goOn = [] := tw_stop (fun x hx' => by have := (List.getElem?_eq_some_iff.mp hx').1; omega)
    rw [ht] at ef
    have en : k' = partN ns k := by rw [← en]; unfold partN; rw [ht]; rfl
    rw [← en] at ret
    rw [List.flatten_replicate_singleton] at hj
    have e : ((size : Int) - (fs.length : Int)).toNat = size - fs.length := by omega
    rw [e, show fs ++ List.replicate (size - fs.length) 32 = partL size ns k from by unfold partL; rw [← ef]; rfl] at hj
    exact ret _ _ _ _ _ _ _ F.keep (N _ (.tail _ (.head _))).2.2 (N _ (.tail _ (.head _))).1 hj (N _ (.head _)).2.2 (N _ (.head _)).1
end
end
theorem off_C1 : True := by
  w_top off
  trivial
section
theorem enterK {prog : Program} {w : World} {A : Around} {s : Shared} {g : Heap} {K : Frag} {sub : List (Addr × Obj)} {p : Program} {loose : List Str} {mean : ExcName → Option Value} {mg mb : Str → Option Value}
    {name qual : Str} {params : Arguments} {body : List Stmt} {scope : Scope} {dV kV doc pm cdv ct oc : Value} {an od : Option Addr} {osl : Array (Option Value)} {f : Addr} {args : Args} {binds : List (Str × Value)} {R : Result → Shared → Prop}
    (k : g.StaysIn s.heap) (hsz : g.objs.size ≤ s.heap.objs.size) (X : K.In g) (T : Top p loose mean mg mb g)
    (S : ∀ q ∈ sub, s.heap.get? q.1 = some q.2 ∧ g.get? q.1 = none)
    (ho : K.lookup f = some ⟨oc, od, .func (fnOf name qual params body scope dV kV doc pm an cdv ct), osl⟩) (hcd : codeIn K cdv qual = true) (hroom : A.depth < recursionLimit)
    (hbind : BindsTo s (fnOf name qual params body scope dV kV doc pm an cdv ct) args binds) (hloc : ∀ y ∈ binds, scope.names.lookup y.1 = some .local)
    (hcell : ∀ x ∈ scope.names, x.2 ≠ .cell) (hco : scope.isCoroutine = false) (hgen : scope.isGenerator = false) (hk : scope.kind = .function)
    (h : ∀ L' h₁, Fr g L' h₁ (fun y => binds.reverse.lookup y) → News g L' h₁ sub → AllLt L' sub →
      wpAny (model prog w) (A.deeper (envOf qual scope L' f cdv)) (execs body (envOf qual scope L' f cdv))
        (fun fl s' => R (.ok (.ret (match fl with | .ret v => v | _ => .none))) s') (fun _ _ => False)
        { s with heap := h₁, toks := s.toks + binds.length }) : codeAny (model prog w) A (.call (.ref f) args) R s := by
  have X' : K.In s.heap := X.keeps k
  refine codeAny_call_def (fd := fnOf name qual params body scope dV kV doc pm an cdv ct) (body := body) (binds := binds) hroom (X' _ _ ho) rfl (T.nolimit.keeps k) (codeRec_of X' hcd) rfl hbind hcell hloc (fun h₁ hns hk₁ => ?_) hco hgen hk
  refine wpAny_mono (h s.heap.objs.size h₁ ⟨hns, fun b o e => hk₁ b o (k b o e), hsz⟩ (fun q hq => ⟨hk₁ _ _ (S q hq).1, Nat.ne_of_lt (Heap.lt_size (S q hq).1), (S q hq).2⟩) (allLt_of fun q hq => Heap.lt_size (S q hq).1)) (fun fl s' hq => hq) fun _ _ x => x.elim
theorem get_out {h : Heap} {a : Addr} (hl : h.objs.size ≤ a) : h.get? a = none := by
  cases e : h.get? a with
  | none => rfl
  | some o => exact absurd (Heap.lt_size e) (Nat.not_lt.mpr hl)
theorem call_clsP {prog : Program} {w : World} {A : Around} {s : Shared} {K : Frag} {C fI : Addr} {pos : List Value} {kw : List (Str × Value)} {Q E : Value → Shared → Prop} (X : K.In s.heap) (hm : makesIn K C = true)
    (hi : findIn K (.ref C) "__init__" = some (some (.ref fI))) (hf : typeIn K (.ref fI) = some (.type "function"))
    (h : ∀ x dx h', s.heap.StaysIn h' → s.heap.objs.size ≤ h'.objs.size → h'.get? x = some (instObj C dx) → h'.get? dx = some (dictOf [] 0) → s.heap.get? x = none → s.heap.get? dx = none → dx < x →
      codeAny (model prog w) (A.under (.builtin "type.__call__" ⟨.ref C :: pos, kw⟩)) (.call (.ref fI) ⟨.ref x :: pos, kw⟩) (InitBack x fun r s' => match r with | .ok (.ret v) => Q v s' | .ok _ => False | .error e => E e s') { s with heap := h' }) :
    wpAny (model prog w) A (call (.ref C) pos kw) Q E s := by
  obtain ⟨hh, g, d, t, os⟩ := s
  refine wpAny_call (make_core (makes_of X hm) (looks_findIn X hi) (fun self => bind_fn X self hf) (.inl rfl) (h _ hh.objs.size _ ?_ ?_ ?_ ?_ ?_ ?_ (Nat.lt_succ_self _)))
  · exact fun b o e => Heap.get?_push_of_some _ (Heap.get?_push_of_some _ e)
  · rw [Heap.size_push, Heap.size_push]; exact Nat.le_succ_of_le (Nat.le_succ _)
  · have := Heap.get?_push_size (hh.push emptyDict) (o := instObj C hh.objs.size) rfl
    rwa [Heap.size_push] at this
  · exact Heap.get?_push_of_some _ (Heap.get?_push_size _ rfl)
  · exact get_out (Nat.le_succ _)
  · exact get_out (Nat.le_refl _)
section
variable {prog : Program} {w : World} {mean : ExcName → Option Value} {mg mb : Str → Option Value} {s : Shared} {Q E : Value → Shared → Prop} (X : (hd.heap_1 w.params).In s.heap) (T : Top qv (looseW qv []) mean mg mb s.heap)
include X T
def toldO (w : World) (d : Int) (nm : Addr) (e : Int) (o : Obj) : Prop := ∃ td te t1 t2 t3, o = dictOf [{ hash := PyData.keyHash w.params (Str.ofString "drive"), key := .str (Str.ofString "drive") t1, val := .int d td }, { hash := PyData.keyHash w.params (Str.ofString "name"), key := .str (Str.ofString "name") t2, val := .ref nm }, { hash := PyData.keyHash w.params (Str.ofString "end"), key := .str (Str.ofString "end") t3, val := .int e te }] 3
theorem NameTold_P {d e : Int} {nm : Addr} {td te : Tok}
    (ret : ∀ x dx o h' tk, s.heap.StaysIn h' → s.heap.get? x = none → s.heap.get? dx = none → h'.get? x = some (instObj 88 dx) → h'.get? dx = some o → toldO w d nm e o → Q (.ref x) { s with heap := h', toks := tk }) :
    wpAny (model prog w) (At 800 8000) (call (.ref 88) [.int d td, .ref nm, .int e te]) Q E s := by
  refine call_clsP X (by k_is) (by k_is) (by k_is) fun x dx h' st hsz hx hdx h0x h0dx hlt => ?_
  have S : ∀ q ∈ [(x, instObj 88 dx), (dx, dictOf [] 0)], h'.get? q.1 = some q.2 ∧ s.heap.get? q.1 = none := by
    intro q hq
    rcases List.mem_cons.mp hq with e | e
    · rw [e]; exact ⟨hx, h0x⟩
    · rw [List.mem_singleton.mp e]; exact ⟨hdx, h0dx⟩
  have hlt := ltN hlt
  (refine' enterK (g := _) (sub := _) ?k_61 ?sz_61 ?X_61 ?T_61 ?S_61 ?ho_61 ?hcd_61 ?hroom_61 ?hb_61 ?hloc_61 ?hcell_61 ?c1_61 ?c2_61 ?c3_61 ?_; (case k_61 => assumption); (case X_61 => with_reducible assumption); (case sz_61 => assumption); (case T_61 => with_reducible assumption); (case S_61 => assumption); (case ho_61 => k_is); (case hcd_61 => k_is); (case hroom_61 => exact Nat.le_of_ble_eq_true rfl); (case hb_61 => exact BindsTo.of_eq rfl); (case hloc_61 => exact locs rfl); (case hcell_61 => decide); (case c1_61 => exact rfl); (case c2_61 => exact rfl); (case c3_61 => exact rfl); intro xL xh xF xN xl; (try dsimp only at xF); (try simp only [AllLt, and_true] at xl); (try dsimp only); k_fold)
  ((repeat' (first | (k_unfold; (try dsimp only)) | (((fail_if_success (with_reducible show wpAny _ _ (eval (Expr.ListComp _ _ _ _) _) _ _ _)); (fail_if_success (with_reducible show wpAny _ _ (exec (Stmt.While _ _ _ _) _) _ _ _)); (fail_if_success (with_reducible show wpAny _ _ (exec (Stmt.For _ _ _ _ _) _) _ _ _)); (fail_if_success (with_reducible show wpAny _ _ (exec (Stmt.Assign [Expr.Name _ _] (Expr.ListComp _ _ _ _) _) _) _ _ _)); (fail_if_success (with_reducible show wpAny _ _ (pyIter _) _ _ _)); (fail_if_success (with_reducible show wpAny _ _ (call (Value.type "range") _ _) _ _ _)); (fail_if_success (with_reducible show wpAny _ _ (call (Value.type "zip") _ _) _ _ _))); walk1) | (((fail_if_success (with_reducible show wpAny _ _ (eval (Expr.ListComp _ _ _ _) _) _ _ _)); (fail_if_success (with_reducible show wpAny _ _ (exec (Stmt.While _ _ _ _) _) _ _ _)); (fail_if_success (with_reducible show wpAny _ _ (exec (Stmt.For _ _ _ _ _) _) _ _ _)); (fail_if_success (with_reducible show wpAny _ _ (exec (Stmt.Assign [Expr.Name _ _] (Expr.ListComp _ _ _ _) _) _) _ _ _)); (fail_if_success (with_reducible show wpAny _ _ (pyIter _) _ _ _)); (fail_if_success (with_reducible show wpAny _ _ (call (Value.type "range") _ _) _ _ _)); (fail_if_success (with_reducible show wpAny _ _ (call (Value.type "zip") _ _) _ _ _))); dsimp only; walk1))); (all_goals try dsimp only))
  rename Fr _ _ _ _ => F
  rename News _ _ _ _ => N
  exact ⟨rfl, ret _ _ _ _ _ F.keep h0x h0dx (N _ (.head _)).1 (N _ (.tail _ (.head _))).1 ⟨_, _, _, _, _, rfl⟩⟩
end
end
theorem off_F8 : True := by
  w_top off
  trivial
section
def toldAt (ns : List Int) (k : Nat) : Int × Nat :=
  let a := skipB ns k
  if a + 1 < ns.length ∧ ns.getD (a + 1) 0 = 58 ∧ 65 ≤ ns.getD a 0 ∧ ns.getD a 0 ≤ 90 then (ns.getD a 0 - 64, a + 2) else (0, a)
def toldKind (ns : List Int) (b : Nat) : List Int × Nat := if b < ns.length ∧ ns.getD b 0 = 46 then (partL 3 ns (b + 1), partN ns (b + 1)) else ([32, 32, 32], b)
def toldName (ns : List Int) (k : Nat) : List Int := partL 8 ns (toldAt ns k).2 ++ (toldKind ns (partN ns (toldAt ns k).2)).1
def toldEnd (ns : List Int) (k : Nat) : Nat := (toldKind ns (partN ns (toldAt ns k).2)).2
theorem skipB_le (ns : List Int) (k : Nat) (h : k ≤ 150) (hl : ns.length ≤ 150) : skipB ns k ≤ 150 := by
  unfold skipB
  have := (List.takeWhile_sublist (fun x : Int => decide (x = 32)) (l := ns.drop k)).length_le
  rw [List.length_drop] at this
  omega
def withL (l : List (Str × Value)) (m : Str → Option Value) : Str → Option Value := fun z => match l.lookup z with | some v => some v | none => m z
def AllIn (m : Str → Option Value) : List (Str × Value) → Prop
  | [] => True
  | (x, v) :: r => m x = some v ∧ AllIn m r
theorem withL_of : ∀ (l : List (Str × Value)) (m : Str → Option Value), AllIn m l → m = withL l m
  | [], m, _ => rfl
  | (x, v) :: r, m, h => by
    funext z
    have ih := congrFun (withL_of r m h.2) z
    unfold withL at ih ⊢
    rw [List.lookup_cons]
    by_cases e : z = x
    · subst e; rw [beq_self_eq_true]; exact h.1
    · rw [beq_false_of_ne e]; exact ih
theorem news_two {h₀ h : Heap} {L : Addr} {p q : Addr × Obj} {news : List (Addr × Obj)} (N : News h₀ L h news) (hp : p ∈ news) (hq : q ∈ news) : News h₀ L h [p, q] := fun r hr => by
  rcases List.mem_cons.mp hr with e | e
  · rw [e]; exact N _ hp
  · rw [List.mem_singleton.mp e]; exact N _ hq
theorem cut_at {M : Model} {A : Around} {st : Stmt} {env : Env} {h₀ : Heap} {L : Addr} {s : Shared} {Q : Flow → Shared → Prop} {E : Value → Shared → Prop} {m : Str → Option Value} (F : Fr h₀ L s.heap m) (P : Flow → (Str → Option Value) → List (Addr × Obj) → Prop)
    (h : ∀ C : Flow → Shared → Prop, (∀ f h' tk m' news', Fr h₀ L h' m' → News h₀ L h' news' → P f m' news' → C f { s with heap := h', toks := tk }) → wpAny M A (exec st env) C E s)
    (done : ∀ f h' tk m' news', Fr h₀ L h' m' → News h₀ L h' news' → P f m' news' → Q f { s with heap := h', toks := tk }) : wpAny M A (exec st env) Q E s := h Q done
theorem foldl_addS (size : Nat) : ∀ (xs fs : List Int), fs.length ≤ size → (xs.foldl (addS size) fs).length ≤ size
  | [], _, h => h
  | x :: xs, fs, h => by
    rw [List.foldl_cons]
    refine foldl_addS size xs _ ?_
    unfold addS
    split
    · rw [List.length_append, List.length_replicate]; omega
    · split
      · rw [List.length_append, List.length_singleton]; omega
      · exact h
theorem partL_len (size : Nat) (ns : List Int) (k : Nat) : (partL size ns k).length = size := by
  unfold partL
  have := foldl_addS size ((ns.drop k).takeWhile goOn) [] (Nat.zero_le _)
  dsimp only
  rw [List.length_append, List.length_replicate]; omega
theorem partN_le (ns : List Int) (k : Nat) (h : k ≤ 152) (hl : ns.length ≤ 152) : partN ns k ≤ 152 := by
  unfold partN
  have := (List.takeWhile_sublist goOn (l := ns.drop k)).length_le
  rw [List.length_drop] at this
  omega
section
variable {prog : Program} {w : World} {mean : ExcName → Option Value} {mg mb : Str → Option Value} {s : Shared} {Q E : Value → Shared → Prop} (X : (hd.heap_1 w.params).In s.heap) (T : Top qv (looseW qv []) mean mg mb s.heap)
include X T
theorem name_told_P {l : Addr} {vs : List Value} {ns : List Int} {k : Nat} {t : Tok} (hl : s.heap.IsList l vs.toArray) (hi : IntsAre vs ns) (hlen : ns.length ≤ 150) (hk : k ≤ 150) (hr : ∀ x ∈ ns, 0 ≤ x ∧ x < 256)
    (ret : ∀ x dx o l' vs' n h' tk, s.heap.StaysIn h' → s.heap.get? x = none → s.heap.get? dx = none → s.heap.get? l' = none → h'.get? x = some (instObj 88 dx) → h'.get? dx = some o → toldO w (toldAt ns k).1 l' (toldEnd ns k : Int) o → h'.get? l' = some (listOf (List.toArray vs') n) → IntsAre vs' (toldName ns k) → Q (.ref x) { s with heap := h', toks := tk }) :
    wpAny (model prog w) (At 600 6000) (call (.ref 118) [.ref l, .int (k : Int) t]) Q E s := by
  (refine' enterC (g := _) (sub := _) ?k_63 ?sz_63 ?X_63 ?T_63 ?S_63 ?ho_63 ?hcd_63 ?hroom_63 ?hb_63 ?hloc_63 ?hcell_63 ?c1_63 ?c2_63 ?c3_63 ?_; (case k_63 => first | assumption | exact stays_refl _); (case X_63 => with_reducible assumption); (case sz_63 => first | assumption | exact Nat.le_refl _); (case T_63 => with_reducible assumption); (case S_63 => first | assumption | exact List.forall_mem_nil _); (case ho_63 => k_is); (case hcd_63 => k_is); (case hroom_63 => exact Nat.le_of_ble_eq_true rfl); (case hb_63 => exact BindsTo.of_eq rfl); (case hloc_63 => exact locs rfl); (case hcell_63 => decide); (case c1_63 => exact rfl); (case c2_63 => exact rfl); (case c3_63 => exact rfl); intro xL xh xF xN xl; (try dsimp only at xF); (try simp only [AllLt, and_true] at xl); (try dsimp only); k_fold)
  ((repeat' (first | (k_unfold; (try dsimp only)) | (((((fail_if_success (with_reducible show wpAny _ _ (eval (Expr.ListComp _ _ _ _) _) _ _ _)); (fail_if_success (with_reducible show wpAny _ _ (exec (Stmt.While _ _ _ _) _) _ _ _)); (fail_if_success (with_reducible show wpAny _ _ (exec (Stmt.For _ _ _ _ _) _) _ _ _)); (fail_if_success (with_reducible show wpAny _ _ (exec (Stmt.Assign [Expr.Name _ _] (Expr.ListComp _ _ _ _) _) _) _ _ _)); (fail_if_success (with_reducible show wpAny _ _ (pyIter _) _ _ _)); (fail_if_success (with_reducible show wpAny _ _ (call (Value.type "range") _ _) _ _ _)); (fail_if_success (with_reducible show wpAny _ _ (call (Value.type "zip") _ _) _ _ _)))); (fail_if_success (with_reducible show wpAny _ _ (exec (Stmt.If _ _ _ _) _) _ _ _))); walk1) | (((((fail_if_success (with_reducible show wpAny _ _ (eval (Expr.ListComp _ _ _ _) _) _ _ _)); (fail_if_success (with_reducible show wpAny _ _ (exec (Stmt.While _ _ _ _) _) _ _ _)); (fail_if_success (with_reducible show wpAny _ _ (exec (Stmt.For _ _ _ _ _) _) _ _ _)); (fail_if_success (with_reducible show wpAny _ _ (exec (Stmt.Assign [Expr.Name _ _] (Expr.ListComp _ _ _ _) _) _) _ _ _)); (fail_if_success (with_reducible show wpAny _ _ (pyIter _) _ _ _)); (fail_if_success (with_reducible show wpAny _ _ (call (Value.type "range") _ _) _ _ _)); (fail_if_success (with_reducible show wpAny _ _ (call (Value.type "zip") _ _) _ _ _)))); (fail_if_success (with_reducible show wpAny _ _ (exec (Stmt.If _ _ _ _) _) _ _ _))); dsimp only; walk1))); (all_goals try dsimp only))
  rename Fr _ _ _ _ => F
  rename News _ _ _ _ => N
  refine wp_top (skip_P (X.keeps F.keep) (T.keeps F.keep) (stays_list F.keep hl) hi (by omega) (by omega) fun t' h' tk st => ?_) rfl rfl rfl
  obtain ⟨F', N'⟩ := grown_of F N st
  clear F N
  have hsk := skipB_le ns k hk hlen
  have hlv := hi.length
  ((repeat' (first | (k_unfold; (try dsimp only)) | (((((fail_if_success (with_reducible show wpAny _ _ (eval (Expr.ListComp _ _ _ _) _) _ _ _)); (fail_if_success (with_reducible show wpAny _ _ (exec (Stmt.While _ _ _ _) _) _ _ _)); (fail_if_success (with_reducible show wpAny _ _ (exec (Stmt.For _ _ _ _ _) _) _ _ _)); (fail_if_success (with_reducible show wpAny _ _ (exec (Stmt.Assign [Expr.Name _ _] (Expr.ListComp _ _ _ _) _) _) _ _ _)); (fail_if_success (with_reducible show wpAny _ _ (pyIter _) _ _ _)); (fail_if_success (with_reducible show wpAny _ _ (call (Value.type "range") _ _) _ _ _)); (fail_if_success (with_reducible show wpAny _ _ (call (Value.type "zip") _ _) _ _ _)))); (fail_if_success (with_reducible show wpAny _ _ (exec (Stmt.If _ _ _ _) _) _ _ _))); walk1) | (((((fail_if_success (with_reducible show wpAny _ _ (eval (Expr.ListComp _ _ _ _) _) _ _ _)); (fail_if_success (with_reducible show wpAny _ _ (exec (Stmt.While _ _ _ _) _) _ _ _)); (fail_if_success (with_reducible show wpAny _ _ (exec (Stmt.For _ _ _ _ _) _) _ _ _)); (fail_if_success (with_reducible show wpAny _ _ (exec (Stmt.Assign [Expr.Name _ _] (Expr.ListComp _ _ _ _) _) _) _ _ _)); (fail_if_success (with_reducible show wpAny _ _ (pyIter _) _ _ _)); (fail_if_success (with_reducible show wpAny _ _ (call (Value.type "range") _ _) _ _ _)); (fail_if_success (with_reducible show wpAny _ _ (call (Value.type "zip") _ _) _ _ _)))); (fail_if_success (with_reducible show wpAny _ _ (exec (Stmt.If _ _ _ _) _) _ _ _))); dsimp only; walk1))); (all_goals try dsimp only))
  rename Fr _ _ _ _ => F
  rename News _ _ _ _ => N
  refine cut_at F (fun f m' news' => f = .next ∧ news' = [] ∧ ∃ x y t1 t2 m₀, m' = withL [(Str.ofString "at", .int x t1), (Str.ofString "drive", .int y t2), (Str.ofString "row", .ref l)] m₀ ∧ x = ((toldAt ns k).2 : Int) ∧ y = (toldAt ns k).1) (fun CC hCC => ?_) ?_
  · ((repeat' (first | (k_unfold; (try dsimp only)) | (((fail_if_success (with_reducible show wpAny _ _ (eval (Expr.ListComp _ _ _ _) _) _ _ _)); (fail_if_success (with_reducible show wpAny _ _ (exec (Stmt.While _ _ _ _) _) _ _ _)); (fail_if_success (with_reducible show wpAny _ _ (exec (Stmt.For _ _ _ _ _) _) _ _ _)); (fail_if_success (with_reducible show wpAny _ _ (exec (Stmt.Assign [Expr.Name _ _] (Expr.ListComp _ _ _ _) _) _) _ _ _)); (fail_if_success (with_reducible show wpAny _ _ (pyIter _) _ _ _)); (fail_if_success (with_reducible show wpAny _ _ (call (Value.type "range") _ _) _ _ _)); (fail_if_success (with_reducible show wpAny _ _ (call (Value.type "zip") _ _) _ _ _))); walk1) | (((fail_if_success (with_reducible show wpAny _ _ (eval (Expr.ListComp _ _ _ _) _) _ _ _)); (fail_if_success (with_reducible show wpAny _ _ (exec (Stmt.While _ _ _ _) _) _ _ _)); (fail_if_success (with_reducible show wpAny _ _ (exec (Stmt.For _ _ _ _ _) _) _ _ _)); (fail_if_success (with_reducible show wpAny _ _ (exec (Stmt.Assign [Expr.Name _ _] (Expr.ListComp _ _ _ _) _) _) _ _ _)); (fail_if_success (with_reducible show wpAny _ _ (pyIter _) _ _ _)); (fail_if_success (with_reducible show wpAny _ _ (call (Value.type "range") _ _) _ _ _)); (fail_if_success (with_reducible show wpAny _ _ (call (Value.type "zip") _ _) _ _ _))); dsimp only; walk1))); (all_goals try dsimp only))
    all_goals rename Fr _ _ _ _ => F
    all_goals rename News _ _ _ _ => N
    · have e : toldAt ns k = (ns.getD (skipB ns k) 0 - 64, skipB ns k + 2) := by
        unfold toldAt
        exact if_pos ⟨by omega, by assumption, by assumption, by assumption⟩
      rw [e] at hCC
      exact hCC _ _ _ _ _ F N ⟨rfl, rfl, _, _, _, _, _, withL_of _ _ ⟨rfl, rfl, rfl, trivial⟩, rfl, rfl⟩
    all_goals
      have e : toldAt ns k = (0, skipB ns k) := by
        unfold toldAt
        refine if_neg ?_
        rintro ⟨q1, q2, q3, q4⟩
        first | exact absurd q4 (by assumption) | exact absurd q3 (by assumption) | exact absurd q2 (by assumption) | omega
      rw [e] at hCC
      exact hCC _ _ _ _ _ F N ⟨rfl, rfl, _, _, _, _, _, withL_of _ _ ⟨rfl, rfl, rfl, trivial⟩, rfl, rfl⟩
  · rintro _ h' tk m' _ F N ⟨rfl, rfl, x, y, t1, t2, m₀, rfl, rfl, rfl⟩
    have hA : (toldAt ns k).2 ≤ 152 := by unfold toldAt; dsimp only; split <;> dsimp only <;> omega
    ((repeat' (first | (k_unfold; (try dsimp only)) | (((((fail_if_success (with_reducible show wpAny _ _ (eval (Expr.ListComp _ _ _ _) _) _ _ _)); (fail_if_success (with_reducible show wpAny _ _ (exec (Stmt.While _ _ _ _) _) _ _ _)); (fail_if_success (with_reducible show wpAny _ _ (exec (Stmt.For _ _ _ _ _) _) _ _ _)); (fail_if_success (with_reducible show wpAny _ _ (exec (Stmt.Assign [Expr.Name _ _] (Expr.ListComp _ _ _ _) _) _) _ _ _)); (fail_if_success (with_reducible show wpAny _ _ (pyIter _) _ _ _)); (fail_if_success (with_reducible show wpAny _ _ (call (Value.type "range") _ _) _ _ _)); (fail_if_success (with_reducible show wpAny _ _ (call (Value.type "zip") _ _) _ _ _)))); (fail_if_success (with_reducible show wpAny _ _ (exec (Stmt.If _ _ _ _) _) _ _ _))); walk1) | (((((fail_if_success (with_reducible show wpAny _ _ (eval (Expr.ListComp _ _ _ _) _) _ _ _)); (fail_if_success (with_reducible show wpAny _ _ (exec (Stmt.While _ _ _ _) _) _ _ _)); (fail_if_success (with_reducible show wpAny _ _ (exec (Stmt.For _ _ _ _ _) _) _ _ _)); (fail_if_success (with_reducible show wpAny _ _ (exec (Stmt.Assign [Expr.Name _ _] (Expr.ListComp _ _ _ _) _) _) _ _ _)); (fail_if_success (with_reducible show wpAny _ _ (pyIter _) _ _ _)); (fail_if_success (with_reducible show wpAny _ _ (call (Value.type "range") _ _) _ _ _)); (fail_if_success (with_reducible show wpAny _ _ (call (Value.type "zip") _ _) _ _ _)))); (fail_if_success (with_reducible show wpAny _ _ (exec (Stmt.If _ _ _ _) _) _ _ _))); dsimp only; walk1))); (all_goals try dsimp only))
    rename Fr _ _ _ _ => F
    rename News _ _ _ _ => N
    refine wp_top (part_at_P (size := 8) (X.keeps F.keep) (T.keeps F.keep) (stays_list F.keep hl) hi (by omega) (by omega) (by decide) hr fun l₁ vs₁ n₁ p₁ h₁ tk₁ t₁ st₁ hD₁ hl₁ hi₁ hp₁ hq₁ => ?_) rfl rfl rfl
    obtain ⟨F', N'⟩ := grown_of F N st₁
    have N' := news_fresh F (news_fresh F N' hD₁ hl₁) hp₁ hq₁
    clear F N
    have hP := partN_le ns (toldAt ns k).2 hA (by omega)
    have hv₁ : vs₁.length = 8 := by rw [hi₁.length]; exact partL_len _ _ _
    ((repeat' (first | (k_unfold; (try dsimp only)) | (((((fail_if_success (with_reducible show wpAny _ _ (eval (Expr.ListComp _ _ _ _) _) _ _ _)); (fail_if_success (with_reducible show wpAny _ _ (exec (Stmt.While _ _ _ _) _) _ _ _)); (fail_if_success (with_reducible show wpAny _ _ (exec (Stmt.For _ _ _ _ _) _) _ _ _)); (fail_if_success (with_reducible show wpAny _ _ (exec (Stmt.Assign [Expr.Name _ _] (Expr.ListComp _ _ _ _) _) _) _ _ _)); (fail_if_success (with_reducible show wpAny _ _ (pyIter _) _ _ _)); (fail_if_success (with_reducible show wpAny _ _ (call (Value.type "range") _ _) _ _ _)); (fail_if_success (with_reducible show wpAny _ _ (call (Value.type "zip") _ _) _ _ _)))); (fail_if_success (with_reducible show wpAny _ _ (exec (Stmt.If _ _ _ _) _) _ _ _))); walk1) | (((((fail_if_success (with_reducible show wpAny _ _ (eval (Expr.ListComp _ _ _ _) _) _ _ _)); (fail_if_success (with_reducible show wpAny _ _ (exec (Stmt.While _ _ _ _) _) _ _ _)); (fail_if_success (with_reducible show wpAny _ _ (exec (Stmt.For _ _ _ _ _) _) _ _ _)); (fail_if_success (with_reducible show wpAny _ _ (exec (Stmt.Assign [Expr.Name _ _] (Expr.ListComp _ _ _ _) _) _) _ _ _)); (fail_if_success (with_reducible show wpAny _ _ (pyIter _) _ _ _)); (fail_if_success (with_reducible show wpAny _ _ (call (Value.type "range") _ _) _ _ _)); (fail_if_success (with_reducible show wpAny _ _ (call (Value.type "zip") _ _) _ _ _)))); (fail_if_success (with_reducible show wpAny _ _ (exec (Stmt.If _ _ _ _) _) _ _ _))); dsimp only; walk1))); (all_goals try dsimp only))
    rename Fr _ _ _ _ => F
    rename News _ _ _ _ => N
    refine cut_at F (fun f m' news' => f = .next ∧ ∃ l₂ vs₂ n₂ x t1 m₀, news' = [(l₂, listOf (List.toArray vs₂) n₂), (l₁, listOf (List.toArray vs₁) n₁)] ∧ IntsAre vs₂ (toldKind ns (partN ns (toldAt ns k).2)).1 ∧ m' = withL [(Str.ofString "at", .int x t1), (Str.ofString "drive", .int (toldAt ns k).1 t2), (Str.ofString "name", .ref l₁), (Str.ofString "kind", .ref l₂)] m₀ ∧ x = ((toldKind ns (partN ns (toldAt ns k).2)).2 : Int)) (fun CC hCC => ?_) ?_
    · ((repeat' (first | (k_unfold; (try dsimp only)) | (((fail_if_success (with_reducible show wpAny _ _ (eval (Expr.ListComp _ _ _ _) _) _ _ _)); (fail_if_success (with_reducible show wpAny _ _ (exec (Stmt.While _ _ _ _) _) _ _ _)); (fail_if_success (with_reducible show wpAny _ _ (exec (Stmt.For _ _ _ _ _) _) _ _ _)); (fail_if_success (with_reducible show wpAny _ _ (exec (Stmt.Assign [Expr.Name _ _] (Expr.ListComp _ _ _ _) _) _) _ _ _)); (fail_if_success (with_reducible show wpAny _ _ (pyIter _) _ _ _)); (fail_if_success (with_reducible show wpAny _ _ (call (Value.type "range") _ _) _ _ _)); (fail_if_success (with_reducible show wpAny _ _ (call (Value.type "zip") _ _) _ _ _))); walk1) | (((fail_if_success (with_reducible show wpAny _ _ (eval (Expr.ListComp _ _ _ _) _) _ _ _)); (fail_if_success (with_reducible show wpAny _ _ (exec (Stmt.While _ _ _ _) _) _ _ _)); (fail_if_success (with_reducible show wpAny _ _ (exec (Stmt.For _ _ _ _ _) _) _ _ _)); (fail_if_success (with_reducible show wpAny _ _ (exec (Stmt.Assign [Expr.Name _ _] (Expr.ListComp _ _ _ _) _) _) _ _ _)); (fail_if_success (with_reducible show wpAny _ _ (pyIter _) _ _ _)); (fail_if_success (with_reducible show wpAny _ _ (call (Value.type "range") _ _) _ _ _)); (fail_if_success (with_reducible show wpAny _ _ (call (Value.type "zip") _ _) _ _ _))); dsimp only; walk1))); (all_goals try dsimp only))
      all_goals rename Fr _ _ _ _ => F
      all_goals rename News _ _ _ _ => N
      · rw [show ((partN ns (toldAt ns k).2 : Int) + 1) = ((partN ns (toldAt ns k).2 + 1 : Nat) : Int) from by omega]
        refine wp_top (part_at_P (size := 3) (X.keeps F.keep) (T.keeps F.keep) (stays_list F.keep hl) hi (by omega) (by omega) (by decide) hr fun l₂ vs₂ n₂ p₂ h₂ tk₂ t₂ st₂ hD₂ hl₂ hi₂ hp₂ hq₂ => ?_) rfl rfl rfl
        obtain ⟨F', N'⟩ := grown_of F N st₂
        have N' := news_fresh F (news_fresh F N' hD₂ hl₂) hp₂ hq₂
        clear F N
        ((repeat' (first | (k_unfold; (try dsimp only)) | (((fail_if_success (with_reducible show wpAny _ _ (eval (Expr.ListComp _ _ _ _) _) _ _ _)); (fail_if_success (with_reducible show wpAny _ _ (exec (Stmt.While _ _ _ _) _) _ _ _)); (fail_if_success (with_reducible show wpAny _ _ (exec (Stmt.For _ _ _ _ _) _) _ _ _)); (fail_if_success (with_reducible show wpAny _ _ (exec (Stmt.Assign [Expr.Name _ _] (Expr.ListComp _ _ _ _) _) _) _ _ _)); (fail_if_success (with_reducible show wpAny _ _ (pyIter _) _ _ _)); (fail_if_success (with_reducible show wpAny _ _ (call (Value.type "range") _ _) _ _ _)); (fail_if_success (with_reducible show wpAny _ _ (call (Value.type "zip") _ _) _ _ _))); walk1) | (((fail_if_success (with_reducible show wpAny _ _ (eval (Expr.ListComp _ _ _ _) _) _ _ _)); (fail_if_success (with_reducible show wpAny _ _ (exec (Stmt.While _ _ _ _) _) _ _ _)); (fail_if_success (with_reducible show wpAny _ _ (exec (Stmt.For _ _ _ _ _) _) _ _ _)); (fail_if_success (with_reducible show wpAny _ _ (exec (Stmt.Assign [Expr.Name _ _] (Expr.ListComp _ _ _ _) _) _) _ _ _)); (fail_if_success (with_reducible show wpAny _ _ (pyIter _) _ _ _)); (fail_if_success (with_reducible show wpAny _ _ (call (Value.type "range") _ _) _ _ _)); (fail_if_success (with_reducible show wpAny _ _ (call (Value.type "zip") _ _) _ _ _))); dsimp only; walk1))); (all_goals try dsimp only))
        rename Fr _ _ _ _ => F
        rename News _ _ _ _ => N
        have e : toldKind ns (partN ns (toldAt ns k).2) = (partL 3 ns (partN ns (toldAt ns k).2 + 1), partN ns (partN ns (toldAt ns k).2 + 1)) := by
          unfold toldKind
          exact if_pos ⟨by omega, by assumption⟩
        rw [e] at hCC
        exact hCC _ _ _ _ _ F (news_two N (.tail _ (.head _)) (.tail _ (.tail _ (.tail _ (.tail _ (.tail _ (.head _))))))) ⟨rfl, _, _, _, _, _, _, rfl, hi₂, withL_of _ _ ⟨rfl, rfl, rfl, rfl, trivial⟩, rfl⟩
      all_goals
        have e : toldKind ns (partN ns (toldAt ns k).2) = ([32, 32, 32], partN ns (toldAt ns k).2) := by
          unfold toldKind
          refine if_neg ?_
          rintro ⟨q1, q2⟩
          first | exact absurd q2 (by assumption) | omega
        rw [e] at hCC
        rename IntsAre (List.flatten _) _ => hj
        exact hCC _ _ _ _ _ F (news_two N (.head _) (.tail _ (.tail _ (.tail _ (.head _))))) ⟨rfl, _, _, _, _, _, _, rfl, hj, withL_of _ _ ⟨rfl, rfl, rfl, rfl, trivial⟩, rfl⟩
    · rintro _ h' tk m' _ F N ⟨rfl, l₂, vs₂, n₂, x, t1, m₀, rfl, hi₂, rfl, rfl⟩
      have hv₂ : vs₂.length = 3 := by
        rw [hi₂.length]; unfold toldKind; split
        · exact partL_len _ _ _
        · rfl
      ((repeat' (first | (k_unfold; (try dsimp only)) | (((fail_if_success (with_reducible show wpAny _ _ (eval (Expr.ListComp _ _ _ _) _) _ _ _)); (fail_if_success (with_reducible show wpAny _ _ (exec (Stmt.While _ _ _ _) _) _ _ _)); (fail_if_success (with_reducible show wpAny _ _ (exec (Stmt.For _ _ _ _ _) _) _ _ _)); (fail_if_success (with_reducible show wpAny _ _ (exec (Stmt.Assign [Expr.Name _ _] (Expr.ListComp _ _ _ _) _) _) _ _ _)); (fail_if_success (with_reducible show wpAny _ _ (pyIter _) _ _ _)); (fail_if_success (with_reducible show wpAny _ _ (call (Value.type "range") _ _) _ _ _)); (fail_if_success (with_reducible show wpAny _ _ (call (Value.type "zip") _ _) _ _ _))); walk1) | (((fail_if_success (with_reducible show wpAny _ _ (eval (Expr.ListComp _ _ _ _) _) _ _ _)); (fail_if_success (with_reducible show wpAny _ _ (exec (Stmt.While _ _ _ _) _) _ _ _)); (fail_if_success (with_reducible show wpAny _ _ (exec (Stmt.For _ _ _ _ _) _) _ _ _)); (fail_if_success (with_reducible show wpAny _ _ (exec (Stmt.Assign [Expr.Name _ _] (Expr.ListComp _ _ _ _) _) _) _ _ _)); (fail_if_success (with_reducible show wpAny _ _ (pyIter _) _ _ _)); (fail_if_success (with_reducible show wpAny _ _ (call (Value.type "range") _ _) _ _ _)); (fail_if_success (with_reducible show wpAny _ _ (call (Value.type "zip") _ _) _ _ _))); dsimp only; walk1))); (all_goals try dsimp only))
      rename Fr _ _ _ _ => F
      rename News _ _ _ _ => N
      refine wp_top (NameTold_P (X.keeps F.keep) (T.keeps F.keep) fun x dx o h₃ tk₃ st₃ hx hdx hx' hdx' ho => ?_) rfl rfl rfl
      obtain ⟨F', N'⟩ := grown_of F N st₃
      have N₃ := news_fresh F (news_fresh F N' hdx hdx') hx hx'
      clear F N N'
      have N := N₃
      clear N₃
      ((repeat' (first | (k_unfold; (try dsimp only)) | (((fail_if_success (with_reducible show wpAny _ _ (eval (Expr.ListComp _ _ _ _) _) _ _ _)); (fail_if_success (with_reducible show wpAny _ _ (exec (Stmt.While _ _ _ _) _) _ _ _)); (fail_if_success (with_reducible show wpAny _ _ (exec (Stmt.For _ _ _ _ _) _) _ _ _)); (fail_if_success (with_reducible show wpAny _ _ (exec (Stmt.Assign [Expr.Name _ _] (Expr.ListComp _ _ _ _) _) _) _ _ _)); (fail_if_success (with_reducible show wpAny _ _ (pyIter _) _ _ _)); (fail_if_success (with_reducible show wpAny _ _ (call (Value.type "range") _ _) _ _ _)); (fail_if_success (with_reducible show wpAny _ _ (call (Value.type "zip") _ _) _ _ _))); walk1) | (((fail_if_success (with_reducible show wpAny _ _ (eval (Expr.ListComp _ _ _ _) _) _ _ _)); (fail_if_success (with_reducible show wpAny _ _ (exec (Stmt.While _ _ _ _) _) _ _ _)); (fail_if_success (with_reducible show wpAny _ _ (exec (Stmt.For _ _ _ _ _) _) _ _ _)); (fail_if_success (with_reducible show wpAny _ _ (exec (Stmt.Assign [Expr.Name _ _] (Expr.ListComp _ _ _ _) _) _) _ _ _)); (fail_if_success (with_reducible show wpAny _ _ (pyIter _) _ _ _)); (fail_if_success (with_reducible show wpAny _ _ (call (Value.type "range") _ _) _ _ _)); (fail_if_success (with_reducible show wpAny _ _ (call (Value.type "zip") _ _) _ _ _))); dsimp only; walk1))); (all_goals try dsimp only))
      rename Fr _ _ _ _ => F
      rename News _ _ _ _ => N
      exact ret _ _ _ _ _ _ _ _ F.keep (N _ (.head _)).2.2 (N _ (.tail _ (.head _))).2.2 (N _ (.tail _ (.tail _ (.head _)))).2.2 (N _ (.head _)).1 (N _ (.tail _ (.head _))).1 ho (N _ (.tail _ (.tail _ (.head _)))).1 (hi₁.append hi₂)
end
end
theorem off_F9 : True := by
  w_top off
  trivial
section
def isDig (x : Int) : Bool := decide (48 ≤ x) && decide (x ≤ 57)
def numE (ns : List Int) (k : Nat) : Nat := k + ((ns.drop k).takeWhile isDig).length
def numV (f : Int) (ds : List Int) : Int := ds.foldl (fun f d => f * 10 + d - 48) f
theorem numE_le (ns : List Int) (k : Nat) (h : k ≤ 150) (hl : ns.length ≤ 150) : numE ns k ≤ 150 := by
  unfold numE
  have := (List.takeWhile_sublist isDig (l := ns.drop k)).length_le
  rw [List.length_drop] at this
  omega
def numberTold (ns : List Int) (k : Nat) : Option Int :=
  let a := skipB ns k
  let e := numE ns a
  let f := numV 0 ((ns.drop a).takeWhile isDig)
  if a = e ∨ 255 < f ∨ (e < ns.length ∧ ns.getD e 0 ≠ 32) then none else some f
section
variable {prog : Program} {w : World} {mean : ExcName → Option Value} {mg mb : Str → Option Value} {s : Shared} {Q E : Value → Shared → Prop} (X : (hd.heap_1 w.params).In s.heap) (T : Top qv (looseW qv []) mean mg mb s.heap)
include X T
theorem number_told_P {l : Addr} {vs : List Value} {ns : List Int} {k : Nat} {t : Tok} (hl : s.heap.IsList l vs.toArray) (hi : IntsAre vs ns) (hlen : ns.length ≤ 150) (hk : k ≤ 150)
    (ret : ∀ v t' p h' tk, s.heap.StaysIn h' → (∀ f, numberTold ns k = some f → ∃ t, v = .int f t) → (numberTold ns k = none → v = .none) → s.heap.get? p = none → h'.get? p = some { cls := .type "tuple", data := .seq #[v, .int (numE ns (skipB ns k) : Int) t'] } → Q (.ref p) { s with heap := h', toks := tk }) :
    wpAny (model prog w) (At 600 6000) (call (.ref 125) [.ref l, .int (k : Int) t]) Q E s := by
  (refine' enterC (g := _) (sub := _) ?k_73 ?sz_73 ?X_73 ?T_73 ?S_73 ?ho_73 ?hcd_73 ?hroom_73 ?hb_73 ?hloc_73 ?hcell_73 ?c1_73 ?c2_73 ?c3_73 ?_; (case k_73 => first | assumption | exact stays_refl _); (case X_73 => with_reducible assumption); (case sz_73 => first | assumption | exact Nat.le_refl _); (case T_73 => with_reducible assumption); (case S_73 => first | assumption | exact List.forall_mem_nil _); (case ho_73 => k_is); (case hcd_73 => k_is); (case hroom_73 => exact Nat.le_of_ble_eq_true rfl); (case hb_73 => exact BindsTo.of_eq rfl); (case hloc_73 => exact locs rfl); (case hcell_73 => decide); (case c1_73 => exact rfl); (case c2_73 => exact rfl); (case c3_73 => exact rfl); intro xL xh xF xN xl; (try dsimp only at xF); (try simp only [AllLt, and_true] at xl); (try dsimp only); k_fold)
  ((repeat' (first | (k_unfold; (try dsimp only)) | (((((fail_if_success (with_reducible show wpAny _ _ (eval (Expr.ListComp _ _ _ _) _) _ _ _)); (fail_if_success (with_reducible show wpAny _ _ (exec (Stmt.While _ _ _ _) _) _ _ _)); (fail_if_success (with_reducible show wpAny _ _ (exec (Stmt.For _ _ _ _ _) _) _ _ _)); (fail_if_success (with_reducible show wpAny _ _ (exec (Stmt.Assign [Expr.Name _ _] (Expr.ListComp _ _ _ _) _) _) _ _ _)); (fail_if_success (with_reducible show wpAny _ _ (pyIter _) _ _ _)); (fail_if_success (with_reducible show wpAny _ _ (call (Value.type "range") _ _) _ _ _)); (fail_if_success (with_reducible show wpAny _ _ (call (Value.type "zip") _ _) _ _ _)))); (fail_if_success (with_reducible show wpAny _ _ (exec (Stmt.If _ _ _ _) _) _ _ _))); walk1) | (((((fail_if_success (with_reducible show wpAny _ _ (eval (Expr.ListComp _ _ _ _) _) _ _ _)); (fail_if_success (with_reducible show wpAny _ _ (exec (Stmt.While _ _ _ _) _) _ _ _)); (fail_if_success (with_reducible show wpAny _ _ (exec (Stmt.For _ _ _ _ _) _) _ _ _)); (fail_if_success (with_reducible show wpAny _ _ (exec (Stmt.Assign [Expr.Name _ _] (Expr.ListComp _ _ _ _) _) _) _ _ _)); (fail_if_success (with_reducible show wpAny _ _ (pyIter _) _ _ _)); (fail_if_success (with_reducible show wpAny _ _ (call (Value.type "range") _ _) _ _ _)); (fail_if_success (with_reducible show wpAny _ _ (call (Value.type "zip") _ _) _ _ _)))); (fail_if_success (with_reducible show wpAny _ _ (exec (Stmt.If _ _ _ _) _) _ _ _))); dsimp only; walk1))); (all_goals try dsimp only))
  rename Fr _ _ _ _ => F
  rename News _ _ _ _ => N
  refine wp_top (skip_P (X.keeps F.keep) (T.keeps F.keep) (stays_list F.keep hl) hi (by omega) (by omega) fun t' h' tk st => ?_) rfl rfl rfl
  obtain ⟨F', N'⟩ := grown_of F N st
  clear F N
  have hsk := skipB_le ns k hk hlen
  have hlv := hi.length
  ((repeat' (first | (k_unfold; (try dsimp only)) | (((((fail_if_success (with_reducible show wpAny _ _ (eval (Expr.ListComp _ _ _ _) _) _ _ _)); (fail_if_success (with_reducible show wpAny _ _ (exec (Stmt.While _ _ _ _) _) _ _ _)); (fail_if_success (with_reducible show wpAny _ _ (exec (Stmt.For _ _ _ _ _) _) _ _ _)); (fail_if_success (with_reducible show wpAny _ _ (exec (Stmt.Assign [Expr.Name _ _] (Expr.ListComp _ _ _ _) _) _) _ _ _)); (fail_if_success (with_reducible show wpAny _ _ (pyIter _) _ _ _)); (fail_if_success (with_reducible show wpAny _ _ (call (Value.type "range") _ _) _ _ _)); (fail_if_success (with_reducible show wpAny _ _ (call (Value.type "zip") _ _) _ _ _)))); (fail_if_success (with_reducible show wpAny _ _ (exec (Stmt.If _ _ _ _) _) _ _ _))); walk1) | (((((fail_if_success (with_reducible show wpAny _ _ (eval (Expr.ListComp _ _ _ _) _) _ _ _)); (fail_if_success (with_reducible show wpAny _ _ (exec (Stmt.While _ _ _ _) _) _ _ _)); (fail_if_success (with_reducible show wpAny _ _ (exec (Stmt.For _ _ _ _ _) _) _ _ _)); (fail_if_success (with_reducible show wpAny _ _ (exec (Stmt.Assign [Expr.Name _ _] (Expr.ListComp _ _ _ _) _) _) _ _ _)); (fail_if_success (with_reducible show wpAny _ _ (pyIter _) _ _ _)); (fail_if_success (with_reducible show wpAny _ _ (call (Value.type "range") _ _) _ _ _)); (fail_if_success (with_reducible show wpAny _ _ (call (Value.type "zip") _ _) _ _ _)))); (fail_if_success (with_reducible show wpAny _ _ (exec (Stmt.If _ _ _ _) _) _ _ _))); dsimp only; walk1))); (all_goals try dsimp only))
  rename Fr _ _ _ _ => F
  rename News _ _ _ _ => N
  refine While_two (Str.ofString "at") (Str.ofString "found") (fun n vx vy news => ∃ (k' : Nat) (t t₂ : Tok) (f : Int), vx = .int (k' : Int) t ∧ vy = .int f t₂ ∧ k' ≤ 200 ∧ skipB ns k ≤ k' ∧ numE ns k' = numE ns (skipB ns k) ∧ numV f ((ns.drop k').takeWhile isDig) = numV 0 ((ns.drop (skipB ns k)).takeWhile isDig) ∧ n = 201 - k') F N rfl rfl ⟨skipB ns k, _, _, _, rfl, rfl, by omega, Nat.le_refl _, rfl, rfl, rfl⟩ ?_
  rintro n _ _ _ h₁ tk₁ F₁ N₁ ⟨k', t', t₂, f, rfl, rfl, hk', hge, en, ev, rfl⟩
  clear F N
  ((repeat' (first | (k_unfold; (try dsimp only)) | (((fail_if_success (with_reducible show wpAny _ _ (eval (Expr.ListComp _ _ _ _) _) _ _ _)); (fail_if_success (with_reducible show wpAny _ _ (exec (Stmt.While _ _ _ _) _) _ _ _)); (fail_if_success (with_reducible show wpAny _ _ (exec (Stmt.For _ _ _ _ _) _) _ _ _)); (fail_if_success (with_reducible show wpAny _ _ (exec (Stmt.Assign [Expr.Name _ _] (Expr.ListComp _ _ _ _) _) _) _ _ _)); (fail_if_success (with_reducible show wpAny _ _ (pyIter _) _ _ _)); (fail_if_success (with_reducible show wpAny _ _ (call (Value.type "range") _ _) _ _ _)); (fail_if_success (with_reducible show wpAny _ _ (call (Value.type "zip") _ _) _ _ _))); walk1) | (((fail_if_success (with_reducible show wpAny _ _ (eval (Expr.ListComp _ _ _ _) _) _ _ _)); (fail_if_success (with_reducible show wpAny _ _ (exec (Stmt.While _ _ _ _) _) _ _ _)); (fail_if_success (with_reducible show wpAny _ _ (exec (Stmt.For _ _ _ _ _) _) _ _ _)); (fail_if_success (with_reducible show wpAny _ _ (exec (Stmt.Assign [Expr.Name _ _] (Expr.ListComp _ _ _ _) _) _) _ _ _)); (fail_if_success (with_reducible show wpAny _ _ (pyIter _) _ _ _)); (fail_if_success (with_reducible show wpAny _ _ (call (Value.type "range") _ _) _ _ _)); (fail_if_success (with_reducible show wpAny _ _ (call (Value.type "zip") _ _) _ _ _))); dsimp only; walk1))); (all_goals try dsimp only))
  all_goals rename Fr _ _ _ _ => F
  all_goals rename News _ _ _ _ => N
  · have hlt : (k' : Int) < (ns.length : Int) := by assumption
    have hg := getD_some hlt
    have hd : isDig (ns.getD ((k' : Int)).toNat 0) = true := by
      unfold isDig; rw [decide_eq_true (by assumption), decide_eq_true (by assumption)]; rfl
    have ht := tw_go hg hd
    have en' : numE ns (k' + 1) = numE ns (skipB ns k) := by rw [← en]; unfold numE; rw [ht, List.length_cons]; omega
    rw [ht] at ev
    exact ⟨rfl, ⟨_, _, _, _, 201 - (k' + 1), _, _, rfl, F, N, rfl, rfl, fun z hx hy => by simp only [if_neg hx, if_neg hy], by omega, k' + 1, _, _, _, rfl, rfl, by omega, by omega, en', ev, rfl⟩⟩
  all_goals
    have ht : (ns.drop k').takeWhile isDig = [] := tw_stop (fun x hx' => by
      first
        | (have := (List.getElem?_eq_some_iff.mp hx').1; omega)
        | (rw [getD_some (by assumption)] at hx'; cases hx'; unfold isDig; first | rw [decide_eq_false (by assumption), Bool.false_and] | rw [decide_eq_false (p := _ ≤ (57 : Int)) (by assumption), Bool.and_false]))
    have e1 : k' = numE ns (skipB ns k) := by rw [← en]; unfold numE; rw [ht]; rfl
    rw [ht] at ev
    have e2 : f = numV 0 ((ns.drop (skipB ns k)).takeWhile isDig) := ev
    rw [← e1] at ret
    simp only [Int.toNat_natCast] at *
    first
      | (have hN : numberTold ns k = none := by
          unfold numberTold; dsimp only; rw [← e1, ← e2]
          exact if_pos (by omega)
         exact ret _ _ _ _ _ F.keep (fun f' hf => by rw [hN] at hf; cases hf) (fun _ => rfl) (N _ (.head _)).2.2 (N _ (.head _)).1)
      | (have hN : numberTold ns k = some f := by
          unfold numberTold; dsimp only; rw [← e1, ← e2]
          exact if_neg (by omega)
         exact ret _ _ _ _ _ F.keep (fun f' hf => by rw [hN] at hf; cases hf; exact ⟨_, rfl⟩) (fun h => by rw [hN] at h; cases h) (N _ (.head _)).2.2 (N _ (.head _)).1)
end
end
theorem off_C2 : True := by
  w_top off
  trivial
section
theorem code_top {M : Model} {c : Code} {R : Result → Shared → Prop} {s : Shared} {A : Around} {d u : Nat}
    (h : codeAny M ⟨none, d, none, none, u⟩ c R s) (hh : A.handled = none) (hd : Nat.ble A.depth d = true) (hu : Nat.ble A.units u = true) : codeAny M A c R s :=
  fun Γ p hc hΓ => h Γ p hc ⟨hΓ.1.trans hh, Nat.le_trans hΓ.2.1 (Nat.le_of_ble_eq_true hd), (fun _ hl => nomatch hl), (fun _ hl => nomatch hl), Nat.le_trans hΓ.2.2.2.2 (Nat.le_of_ble_eq_true hu)⟩
theorem InstAt.stays {h h' : Heap} {x C : Addr} {ox : Obj} {od : Option Obj} (I : InstAt h x ox C od) (st : h.StaysIn h') : InstAt h' x ox C od := by
  obtain ⟨a, b, c, d⟩ := I
  refine ⟨st _ _ a, b, c, ?_⟩
  cases e : ox.dict with
  | none =>
    rw [e] at d
    cases od with
    | none => exact trivial
    | some o => exact d
  | some dx =>
    rw [e] at d
    cases od with
    | none => exact d
    | some o => exact st _ _ d
theorem noDict_of {h h' : Heap} {l : Addr} {vs : List Value} {n : Nat} (k : h.StaysIn h') (hl : h.get? l = some (listOf (List.toArray vs) n)) : h'.NoDictAt (.ref l) := ⟨_, k _ _ hl, rfl⟩
theorem isList_of {h : Heap} {l : Addr} {vs : List Value} {n : Nat} (hl : h.get? l = some (listOf (List.toArray vs) n)) : h.IsList l vs.toArray := ⟨_, hl, rfl, n, rfl⟩
local macro_rules | `(tactic| k_inst) => `(tactic| first | with_reducible assumption | exact InstAt.stays (by with_reducible assumption) (Fr.keep (by assumption)))
local macro_rules | `(tactic| walk_at "getMethod ref") => `(tactic| (
  (with_reducible show wpAny _ _ (getMethod (Value.ref _) (Str.ofString "count") _) _ _ _)
  with_unfolding_all refine getMethod_list_of PySem.F.slot_list_count PySem.F.type_list_count (stays_list (Fr.keep (by assumption)) (by assumption)) (noDict_of (Fr.keep (by assumption)) (by assumption)) ?_))
local macro_rules | `(tactic| walk_at "call builtin:list.count") => `(tactic| ((with_reducible show wpAny _ _ (call (Value.builtin _) [Value.ref _, Value.int _ _]) _ _ _); refine count_list_ints (stays_list (Fr.keep (by assumption)) (by assumption)) (by assumption) ?_))
section
variable {prog : Program} {w : World} {mean : ExcName → Option Value} {mg mb : Str → Option Value} {s : Shared} {R : Result → Shared → Prop} (X : (hd.heap_1 w.params).In s.heap) (T : Top qv (looseW qv []) mean mg mb s.heap)
include X T
theorem wild_P {x dx l : Addr} {o : Obj} {d e : Int} {vs : List Value} {ns : List Int} (hx : s.heap.get? x = some (instObj 88 dx)) (hdx : s.heap.get? dx = some o) (ho : toldO w d l e o) {n : Nat} (hll : s.heap.get? l = some (listOf (List.toArray vs) n)) (hi : IntsAre vs ns)
    (ret : ∀ t' h' tk, s.heap.StaysIn h' → R (.ok (.ret (.int (ns.count 63 : Nat) t'))) { s with heap := h', toks := tk }) :
    codeAny (model prog w) (At 700 7000) (.call (.ref 78) ⟨[.ref x], []⟩) R s := by
  obtain ⟨td, te, t1, t2, t3, rfl⟩ := ho
  have hl := isList_of hll
  have I : InstAt s.heap x (instObj 88 dx) 88 (some _) := ⟨hx, rfl, rfl, hdx⟩
  (refine' enterK (g := _) (sub := _) ?k_77 ?sz_77 ?X_77 ?T_77 ?S_77 ?ho_77 ?hcd_77 ?hroom_77 ?hb_77 ?hloc_77 ?hcell_77 ?c1_77 ?c2_77 ?c3_77 ?_; (case k_77 => exact stays_refl _); (case X_77 => with_reducible assumption); (case sz_77 => exact Nat.le_refl _); (case T_77 => with_reducible assumption); (case S_77 => exact List.forall_mem_nil _); (case ho_77 => k_is); (case hcd_77 => k_is); (case hroom_77 => exact Nat.le_of_ble_eq_true rfl); (case hb_77 => exact BindsTo.of_eq rfl); (case hloc_77 => exact locs rfl); (case hcell_77 => decide); (case c1_77 => exact rfl); (case c2_77 => exact rfl); (case c3_77 => exact rfl); intro xL xh xF xN xl; (try dsimp only at xF); (try simp only [AllLt, and_true] at xl); (try dsimp only); k_fold)
  ((repeat' (first | (k_unfold; (try dsimp only)) | (((fail_if_success (with_reducible show wpAny _ _ (eval (Expr.ListComp _ _ _ _) _) _ _ _)); (fail_if_success (with_reducible show wpAny _ _ (exec (Stmt.While _ _ _ _) _) _ _ _)); (fail_if_success (with_reducible show wpAny _ _ (exec (Stmt.For _ _ _ _ _) _) _ _ _)); (fail_if_success (with_reducible show wpAny _ _ (exec (Stmt.Assign [Expr.Name _ _] (Expr.ListComp _ _ _ _) _) _) _ _ _)); (fail_if_success (with_reducible show wpAny _ _ (pyIter _) _ _ _)); (fail_if_success (with_reducible show wpAny _ _ (call (Value.type "range") _ _) _ _ _)); (fail_if_success (with_reducible show wpAny _ _ (call (Value.type "zip") _ _) _ _ _))); walk1) | (((fail_if_success (with_reducible show wpAny _ _ (eval (Expr.ListComp _ _ _ _) _) _ _ _)); (fail_if_success (with_reducible show wpAny _ _ (exec (Stmt.While _ _ _ _) _) _ _ _)); (fail_if_success (with_reducible show wpAny _ _ (exec (Stmt.For _ _ _ _ _) _) _ _ _)); (fail_if_success (with_reducible show wpAny _ _ (exec (Stmt.Assign [Expr.Name _ _] (Expr.ListComp _ _ _ _) _) _) _ _ _)); (fail_if_success (with_reducible show wpAny _ _ (pyIter _) _ _ _)); (fail_if_success (with_reducible show wpAny _ _ (call (Value.type "range") _ _) _ _ _)); (fail_if_success (with_reducible show wpAny _ _ (call (Value.type "zip") _ _) _ _ _))); dsimp only; walk1))); (all_goals try dsimp only))
  rename Fr _ _ _ _ => F
  rename News _ _ _ _ => N
  exact ret _ _ _ F.keep
theorem blank_P {x dx l : Addr} {o : Obj} {d e : Int} {vs : List Value} {ns : List Int} (hx : s.heap.get? x = some (instObj 88 dx)) (hdx : s.heap.get? dx = some o) (ho : toldO w d l e o) {n : Nat} (hll : s.heap.get? l = some (listOf (List.toArray vs) n)) (hi : IntsAre vs ns) (hn : 0 < ns.length)
    (ret : ∀ h' tk, s.heap.StaysIn h' → R (.ok (.ret (.bool (ns.getD 0 0 == 32)))) { s with heap := h', toks := tk }) :
    codeAny (model prog w) (At 700 7000) (.call (.ref 85) ⟨[.ref x], []⟩) R s := by
  obtain ⟨td, te, t1, t2, t3, rfl⟩ := ho
  have hl := isList_of hll
  have I : InstAt s.heap x (instObj 88 dx) 88 (some _) := ⟨hx, rfl, rfl, hdx⟩
  have hlv := hi.length
  (refine' enterK (g := _) (sub := _) ?k_79 ?sz_79 ?X_79 ?T_79 ?S_79 ?ho_79 ?hcd_79 ?hroom_79 ?hb_79 ?hloc_79 ?hcell_79 ?c1_79 ?c2_79 ?c3_79 ?_; (case k_79 => exact stays_refl _); (case X_79 => with_reducible assumption); (case sz_79 => exact Nat.le_refl _); (case T_79 => with_reducible assumption); (case S_79 => exact List.forall_mem_nil _); (case ho_79 => k_is); (case hcd_79 => k_is); (case hroom_79 => exact Nat.le_of_ble_eq_true rfl); (case hb_79 => exact BindsTo.of_eq rfl); (case hloc_79 => exact locs rfl); (case hcell_79 => decide); (case c1_79 => exact rfl); (case c2_79 => exact rfl); (case c3_79 => exact rfl); intro xL xh xF xN xl; (try dsimp only at xF); (try simp only [AllLt, and_true] at xl); (try dsimp only); k_fold)
  ((repeat' (first | (k_unfold; (try dsimp only)) | (((fail_if_success (with_reducible show wpAny _ _ (eval (Expr.ListComp _ _ _ _) _) _ _ _)); (fail_if_success (with_reducible show wpAny _ _ (exec (Stmt.While _ _ _ _) _) _ _ _)); (fail_if_success (with_reducible show wpAny _ _ (exec (Stmt.For _ _ _ _ _) _) _ _ _)); (fail_if_success (with_reducible show wpAny _ _ (exec (Stmt.Assign [Expr.Name _ _] (Expr.ListComp _ _ _ _) _) _) _ _ _)); (fail_if_success (with_reducible show wpAny _ _ (pyIter _) _ _ _)); (fail_if_success (with_reducible show wpAny _ _ (call (Value.type "range") _ _) _ _ _)); (fail_if_success (with_reducible show wpAny _ _ (call (Value.type "zip") _ _) _ _ _))); walk1) | (((fail_if_success (with_reducible show wpAny _ _ (eval (Expr.ListComp _ _ _ _) _) _ _ _)); (fail_if_success (with_reducible show wpAny _ _ (exec (Stmt.While _ _ _ _) _) _ _ _)); (fail_if_success (with_reducible show wpAny _ _ (exec (Stmt.For _ _ _ _ _) _) _ _ _)); (fail_if_success (with_reducible show wpAny _ _ (exec (Stmt.Assign [Expr.Name _ _] (Expr.ListComp _ _ _ _) _) _) _ _ _)); (fail_if_success (with_reducible show wpAny _ _ (pyIter _) _ _ _)); (fail_if_success (with_reducible show wpAny _ _ (call (Value.type "range") _ _) _ _ _)); (fail_if_success (with_reducible show wpAny _ _ (call (Value.type "zip") _ _) _ _ _))); dsimp only; walk1))); (all_goals try dsimp only))
  rename Fr _ _ _ _ => F
  rename News _ _ _ _ => N
  exact ret _ _ F.keep
end
end
theorem off_D1 : True := by
  w_top off
  trivial
section
theorem ints_ex {ys : List Value} {P : Int → Prop} (h : ∀ (i : Nat) (y : Value), ys[i]? = some y → ∃ x t, y = Value.int x t ∧ P x) : ∃ ks, IntsAre ys ks ∧ ks.length = ys.length ∧ ∀ x ∈ ks, P x := by
  induction ys with
  | nil => exact ⟨[], .nil, rfl, fun x hx => nomatch hx⟩
  | cons y r ih =>
    obtain ⟨x, t, rfl, hx⟩ := h 0 y rfl
    obtain ⟨ks, a, b, c⟩ := ih fun i y e => h (i + 1) y (by simpa using e)
    exact ⟨x :: ks, .cons _ _ a, by simp [b], fun z hz => by rcases List.mem_cons.mp hz with rfl | hz; exact hx; exact c z hz⟩
end
theorem off_D2 : True := by
  w_top off
  trivial
section
theorem item_abz (j : Nat) (h : j < 8) : Txt.item (Str.ofString "aBz09$*?") (j : Int) = ⟨#[[97, 66, 122, 48, 57, 36, 42, 63].getD j 0]⟩ := by
  have key : ∀ j : Fin 8, Txt.item (Str.ofString "aBz09$*?") (j.val : Int) = ⟨#[[97, 66, 122, 48, 57, 36, 42, 63].getD j.val 0]⟩ := by decide +kernel
  exact key ⟨j, h⟩
theorem strs_ex {ys : List Value} {P : Str → Prop} (h : ∀ (i : Nat) (y : Value), ys[i]? = some y → ∃ x t, y = Value.str x t ∧ P x) : ∃ xs, StrsAre ys xs ∧ xs.length = ys.length ∧ ∀ x ∈ xs, P x := by
  induction ys with
  | nil => exact ⟨[], .nil, rfl, fun x hx => nomatch hx⟩
  | cons y r ih =>
    obtain ⟨x, t, rfl, hx⟩ := h 0 y rfl
    obtain ⟨ks, a, b, c⟩ := ih fun i y e => h (i + 1) y (by simpa using e)
    exact ⟨x :: ks, .cons _ _ a, by simp [b], fun z hz => by rcases List.mem_cons.mp hz with rfl | hz; exact hx; exact c z hz⟩
theorem join_empty : ∀ ys : List Str, (Txt.join (Str.ofString "") ys).cps.toList = (ys.map (·.cps.toList)).flatten := by
  intro ys
  show (PySem.Builtin.Str.glued (Str.ofString "") ys).cps.toList = _
  rw [StrLaws.glued_eq_join]
  induction ys with
  | nil => rfl
  | cons x r ih =>
    cases r with
    | nil => show x.cps.toList = x.cps.toList ++ []; rw [List.append_nil]
    | cons y r =>
      show (x ++ Str.ofString "" ++ Str.join (Str.ofString "") (y :: r)).cps.toList = x.cps.toList ++ _
      rw [← ih]
      show (x.cps ++ (Str.ofString "").cps ++ _).toList = _
      simp
      rfl
theorem join_ones {ys : List Str} (h : ∀ x ∈ ys, ∃ j : Nat, j < 8 ∧ x = ⟨#[[97, 66, 122, 48, 57, 36, 42, 63].getD j 0]⟩) :
    (∀ c ∈ (Txt.join (Str.ofString "") ys).cps.toList, c ∈ ([97, 66, 122, 48, 57, 36, 42, 63] : List Nat)) ∧ (ys.map (·.length)).sum = ys.length ∧ (Txt.join (Str.ofString "") ys).cps.size = ys.length := by
  rw [← Array.length_toList, join_empty]
  induction ys with
  | nil => exact ⟨(fun c h => nomatch h), rfl, rfl⟩
  | cons x r ih =>
    obtain ⟨a, b, c⟩ := ih fun y hy => h y (.tail _ hy)
    obtain ⟨j, hj, rfl⟩ := h x (.head _)
    refine ⟨fun z hz => ?_, ?_, ?_⟩
    · rw [List.map_cons, List.flatten_cons] at hz
      rcases List.mem_append.mp hz with q | q
      · have e : z = [97, 66, 122, 48, 57, 36, 42, 63].getD j 0 := by simpa using q
        have key : ∀ j : Fin 8, [97, 66, 122, 48, 57, 36, 42, 63].getD j.val 0 ∈ ([97, 66, 122, 48, 57, 36, 42, 63] : List Nat) := by decide
        rw [e]; exact key ⟨j, hj⟩
      · exact a z q
    · rw [List.map_cons, List.sum_cons, b, List.length_cons]; show 1 + r.length = r.length + 1; omega
    · rw [List.map_cons, List.flatten_cons, List.length_append, c, List.length_cons]; show 1 + r.length = r.length + 1; omega
theorem hide_stays {g h : Heap} {d : Addr} (k : g.StaysIn h) (hg : g.get? d = none) : g.StaysIn (h.hide d) := fun b o e => (Heap.hide_ne h (fun q => by rw [q, hg] at e; cases e)).trans (k b o e)
section
variable {prog : Program} {w : World} {mean : ExcName → Option Value} {mg mb : Str → Option Value} {s : Shared} {Q E : Value → Shared → Prop} {b₀ g : Heap} {d : Addr} {o : Obj} (k : g.StaysIn s.heap) (hsz : g.objs.size ≤ s.heap.objs.size)
    (X : (hd.heap_1 w.params).In g) (T : Top qv (looseW qv []) mean mg mb g) (ho : s.heap.get? d = some o) (hg : g.get? d = none) (hb : b₀.StaysIn g) (D : DealO b₀ o)
include k hsz X T ho hg hb D
def partStr (x : Str) (size : Nat) : Prop := (∀ c ∈ x.cps.toList, c ∈ ([97, 66, 122, 48, 57, 36, 42, 63] : List Nat)) ∧ x.cps.size ≤ size + 2
theorem part_P {size : Nat} {t : Tok} (hsize : size ≤ 8)
    (ret : ∀ x t' h' tk o', partStr x size → g.StaysIn h' → h'.get? d = some o' → DealO b₀ o' → Q (.str x t') { s with heap := h', toks := tk }) :
    wpAny (model prog w) (At 700 7000) (call (.ref 149) [.ref d, .int (size : Int) t]) Q E s := by
  have S : ∀ q ∈ [(d, o)], s.heap.get? q.1 = some q.2 ∧ g.get? q.1 = none := by
    intro q hq; cases hq with | head => exact ⟨ho, hg⟩ | tail _ h => cases h
  (refine' enterCC (g := _) (sub := _) ?k_81 ?sz_81 ?X_81 ?T_81 ?S_81 ?ho_81 ?hcd_81 ?hroom_81 ?hb_81 ?hkind_81 ?hnd_81 ?c1_81 ?c2_81 ?c3_81 ?_; (case k_81 => first | assumption | exact stays_refl _); (case X_81 => with_reducible assumption); (case sz_81 => first | assumption | exact Nat.le_refl _); (case T_81 => with_reducible assumption); (case S_81 => first | assumption | exact List.forall_mem_nil _); (case ho_81 => k_is); (case hcd_81 => k_is); (case hroom_81 => exact Nat.le_of_ble_eq_true rfl); (case hb_81 => exact BindsTo.of_eq rfl); (case hkind_81 => exact rfl); (case hnd_81 => decide +kernel); (case c1_81 => exact rfl); (case c2_81 => exact rfl); (case c3_81 => exact rfl); intro xL xh xtk xcells xF xN xY xl; k_cells xY; (try simp only [List.cons_append, List.nil_append] at xN); (try simp only [AllLt, and_true] at xl); (try dsimp only); (try k_unmd); k_fold)
  rename _ = Data.cell _ => hcell
  have hcell : _ = Data.cell (some (.ref d)) := hcell
  rename d < _ => hdl₀
  have hdl := ltN hdl₀
  ((repeat' (first | (k_unfold; (try dsimp only)) | (((fail_if_success (with_reducible show wpAny _ _ (eval (Expr.ListComp _ _ _ _) _) _ _ _)); (fail_if_success (with_reducible show wpAny _ _ (exec (Stmt.While _ _ _ _) _) _ _ _)); (fail_if_success (with_reducible show wpAny _ _ (exec (Stmt.For _ _ _ _ _) _) _ _ _)); (fail_if_success (with_reducible show wpAny _ _ (exec (Stmt.Assign [Expr.Name _ _] (Expr.ListComp _ _ _ _) _) _) _ _ _)); (fail_if_success (with_reducible show wpAny _ _ (pyIter _) _ _ _)); (fail_if_success (with_reducible show wpAny _ _ (call (Value.type "range") _ _) _ _ _)); (fail_if_success (with_reducible show wpAny _ _ (call (Value.type "zip") _ _) _ _ _))); walk1) | (((fail_if_success (with_reducible show wpAny _ _ (eval (Expr.ListComp _ _ _ _) _) _ _ _)); (fail_if_success (with_reducible show wpAny _ _ (exec (Stmt.While _ _ _ _) _) _ _ _)); (fail_if_success (with_reducible show wpAny _ _ (exec (Stmt.For _ _ _ _ _) _) _ _ _)); (fail_if_success (with_reducible show wpAny _ _ (exec (Stmt.Assign [Expr.Name _ _] (Expr.ListComp _ _ _ _) _) _) _ _ _)); (fail_if_success (with_reducible show wpAny _ _ (pyIter _) _ _ _)); (fail_if_success (with_reducible show wpAny _ _ (call (Value.type "range") _ _) _ _ _)); (fail_if_success (with_reducible show wpAny _ _ (call (Value.type "zip") _ _) _ _ _))); dsimp only; walk1))); (all_goals try dsimp only))
  (try (k_unmd; k_fold))
  refine' ListComp_ct (cl := _) [d] ?hc ?h1 ?h2 ?h3 ?_ ?hs
  (case hc => exact rfl)
  (case h1 => decide)
  (case h2 => exact rfl)
  (case h3 => decide)
  (case hs => intro _; exact rfl)
  ((repeat' (first | (k_unfold; (try dsimp only)) | (((fail_if_success (with_reducible show wpAny _ _ (eval (Expr.ListComp _ _ _ _) _) _ _ _)); (fail_if_success (with_reducible show wpAny _ _ (exec (Stmt.While _ _ _ _) _) _ _ _)); (fail_if_success (with_reducible show wpAny _ _ (exec (Stmt.For _ _ _ _ _) _) _ _ _)); (fail_if_success (with_reducible show wpAny _ _ (exec (Stmt.Assign [Expr.Name _ _] (Expr.ListComp _ _ _ _) _) _) _ _ _)); (fail_if_success (with_reducible show wpAny _ _ (pyIter _) _ _ _)); (fail_if_success (with_reducible show wpAny _ _ (call (Value.type "range") _ _) _ _ _)); (fail_if_success (with_reducible show wpAny _ _ (call (Value.type "zip") _ _) _ _ _))); walk1) | (((fail_if_success (with_reducible show wpAny _ _ (eval (Expr.ListComp _ _ _ _) _) _ _ _)); (fail_if_success (with_reducible show wpAny _ _ (exec (Stmt.While _ _ _ _) _) _ _ _)); (fail_if_success (with_reducible show wpAny _ _ (exec (Stmt.For _ _ _ _ _) _) _ _ _)); (fail_if_success (with_reducible show wpAny _ _ (exec (Stmt.Assign [Expr.Name _ _] (Expr.ListComp _ _ _ _) _) _) _ _ _)); (fail_if_success (with_reducible show wpAny _ _ (pyIter _) _ _ _)); (fail_if_success (with_reducible show wpAny _ _ (call (Value.type "range") _ _) _ _ _)); (fail_if_success (with_reducible show wpAny _ _ (call (Value.type "zip") _ _) _ _ _))); dsimp only; walk1))); (all_goals try dsimp only))
  rename Fr _ _ _ _ => F
  rename News _ _ _ _ => N
  refine take_F F N X T (by k_updF) hb D rfl rfl rfl (by omega) (by omega) fun r t' h' tk o' r0 r1 F' N' D' => ?_
  (try dsimp only at N')
  clear F N
  obtain ⟨n, rfl⟩ := Int.eq_ofNat_of_zero_le r0
  ((repeat' (first | (k_unfold; (try dsimp only)) | (((fail_if_success (with_reducible show wpAny _ _ (eval (Expr.ListComp _ _ _ _) _) _ _ _)); (fail_if_success (with_reducible show wpAny _ _ (exec (Stmt.While _ _ _ _) _) _ _ _)); (fail_if_success (with_reducible show wpAny _ _ (exec (Stmt.For _ _ _ _ _) _) _ _ _)); (fail_if_success (with_reducible show wpAny _ _ (exec (Stmt.Assign [Expr.Name _ _] (Expr.ListComp _ _ _ _) _) _) _ _ _)); (fail_if_success (with_reducible show wpAny _ _ (pyIter _) _ _ _)); (fail_if_success (with_reducible show wpAny _ _ (call (Value.type "range") _ _) _ _ _)); (fail_if_success (with_reducible show wpAny _ _ (call (Value.type "zip") _ _) _ _ _))); walk1) | (((fail_if_success (with_reducible show wpAny _ _ (eval (Expr.ListComp _ _ _ _) _) _ _ _)); (fail_if_success (with_reducible show wpAny _ _ (exec (Stmt.While _ _ _ _) _) _ _ _)); (fail_if_success (with_reducible show wpAny _ _ (exec (Stmt.For _ _ _ _ _) _) _ _ _)); (fail_if_success (with_reducible show wpAny _ _ (exec (Stmt.Assign [Expr.Name _ _] (Expr.ListComp _ _ _ _) _) _) _ _ _)); (fail_if_success (with_reducible show wpAny _ _ (pyIter _) _ _ _)); (fail_if_success (with_reducible show wpAny _ _ (call (Value.type "range") _ _) _ _ _)); (fail_if_success (with_reducible show wpAny _ _ (call (Value.type "zip") _ _) _ _ _))); dsimp only; walk1))); (all_goals try dsimp only))
  rename Fr _ _ _ _ => F
  rename News _ _ _ _ => N
  refine core_deal (T := fun Q => wpAny _ _ (call (.type "range") [.int (n : Int) _]) (fun xv s₁ => wpAny _ _ (pyIter xv) Q _ s₁) _ _) (P := _) (src_range rfl (by omega)) (by rw [sizeLine_eq]; omega) rfl rfl (fun (i : Nat) (y : Value) => ∃ (x : Str) (t : Tok), y = Value.str x t ∧ ∃ j : Nat, j < 8 ∧ x = ⟨#[[97, 66, 122, 48, 57, 36, 42, 63].getD j 0]⟩) (N _ (.tail _ (.head _))).1 D' ?_ fun h₂ tk wr st hs hwr => fin_DE F N (by k_updF) ?_ h₂ tk wr st hs hwr
  · intro C k v h₃ tk m' o₃ hC hkn hv st F₃ N₃ D₃
    obtain ⟨t, rfl⟩ := hv
    have st₃ : g.StaysIn ((trunc h₃ C).hide d) := fun b o e => st b o (hide_stays F.keep hg b o e)
    have X₃ := X.keeps st₃
    have T₃ := T.keeps st₃
    have hb₃ : b₀.StaysIn ((trunc h₃ C).hide d) := fun b o e => st₃ b o (hb b o e)
    have hc₃ := st _ _ ((Heap.hide_ne _ (Nat.ne_of_gt (Nat.lt_succ_of_lt hdl))).trans (N _ (.head _)).1)
    clear F N
    k_unmd; k_fold
    dsimp only [compEnvC]
    ((repeat' (first | (k_unfold; (try dsimp only)) | (((fail_if_success (with_reducible show wpAny _ _ (eval (Expr.ListComp _ _ _ _) _) _ _ _)); (fail_if_success (with_reducible show wpAny _ _ (exec (Stmt.While _ _ _ _) _) _ _ _)); (fail_if_success (with_reducible show wpAny _ _ (exec (Stmt.For _ _ _ _ _) _) _ _ _)); (fail_if_success (with_reducible show wpAny _ _ (exec (Stmt.Assign [Expr.Name _ _] (Expr.ListComp _ _ _ _) _) _) _ _ _)); (fail_if_success (with_reducible show wpAny _ _ (pyIter _) _ _ _)); (fail_if_success (with_reducible show wpAny _ _ (call (Value.type "range") _ _) _ _ _)); (fail_if_success (with_reducible show wpAny _ _ (call (Value.type "zip") _ _) _ _ _))); walk1) | (((fail_if_success (with_reducible show wpAny _ _ (eval (Expr.ListComp _ _ _ _) _) _ _ _)); (fail_if_success (with_reducible show wpAny _ _ (exec (Stmt.While _ _ _ _) _) _ _ _)); (fail_if_success (with_reducible show wpAny _ _ (exec (Stmt.For _ _ _ _ _) _) _ _ _)); (fail_if_success (with_reducible show wpAny _ _ (exec (Stmt.Assign [Expr.Name _ _] (Expr.ListComp _ _ _ _) _) _) _ _ _)); (fail_if_success (with_reducible show wpAny _ _ (pyIter _) _ _ _)); (fail_if_success (with_reducible show wpAny _ _ (call (Value.type "range") _ _) _ _ _)); (fail_if_success (with_reducible show wpAny _ _ (call (Value.type "zip") _ _) _ _ _))); dsimp only; walk1))); (all_goals try dsimp only))
    rename Fr _ _ _ _ => F
    rename News _ _ _ _ => N
    refine take_F F N X₃ T₃ (by k_updF) hb₃ D₃ rfl rfl rfl (by decide) (by decide) fun r t' h' tk o' r0 r1 F' N' D' => ?_
    clear F N
    obtain ⟨j, rfl⟩ := Int.eq_ofNat_of_zero_le r0
    ((repeat' (first | (k_unfold; (try dsimp only)) | (((fail_if_success (with_reducible show wpAny _ _ (eval (Expr.ListComp _ _ _ _) _) _ _ _)); (fail_if_success (with_reducible show wpAny _ _ (exec (Stmt.While _ _ _ _) _) _ _ _)); (fail_if_success (with_reducible show wpAny _ _ (exec (Stmt.For _ _ _ _ _) _) _ _ _)); (fail_if_success (with_reducible show wpAny _ _ (exec (Stmt.Assign [Expr.Name _ _] (Expr.ListComp _ _ _ _) _) _) _ _ _)); (fail_if_success (with_reducible show wpAny _ _ (pyIter _) _ _ _)); (fail_if_success (with_reducible show wpAny _ _ (call (Value.type "range") _ _) _ _ _)); (fail_if_success (with_reducible show wpAny _ _ (call (Value.type "zip") _ _) _ _ _))); walk1) | (((fail_if_success (with_reducible show wpAny _ _ (eval (Expr.ListComp _ _ _ _) _) _ _ _)); (fail_if_success (with_reducible show wpAny _ _ (exec (Stmt.While _ _ _ _) _) _ _ _)); (fail_if_success (with_reducible show wpAny _ _ (exec (Stmt.For _ _ _ _ _) _) _ _ _)); (fail_if_success (with_reducible show wpAny _ _ (exec (Stmt.Assign [Expr.Name _ _] (Expr.ListComp _ _ _ _) _) _) _ _ _)); (fail_if_success (with_reducible show wpAny _ _ (pyIter _) _ _ _)); (fail_if_success (with_reducible show wpAny _ _ (call (Value.type "range") _ _) _ _ _)); (fail_if_success (with_reducible show wpAny _ _ (call (Value.type "zip") _ _) _ _ _))); dsimp only; walk1))); (all_goals try dsimp only))
    rename Fr _ _ _ _ => F
    rename News _ _ _ _ => N
    exact ⟨⟨⟨_, _, rfl, j, by omega, item_abz j (by omega)⟩, EltEndD.mk F N D'⟩⟩
  · intro D h' tk ys kk o' hlen' hR F' N' D' hlt hD
    clear F N
    obtain ⟨xs, hxs, hxl, hxc⟩ := strs_ex (P := fun x => ∃ j : Nat, j < 8 ∧ x = ⟨#[[97, 66, 122, 48, 57, 36, 42, 63].getD j 0]⟩) hR
    have hj := join_ones hxc
    ((repeat' (first | (k_unfold; (try dsimp only)) | (((fail_if_success (with_reducible show wpAny _ _ (eval (Expr.ListComp _ _ _ _) _) _ _ _)); (fail_if_success (with_reducible show wpAny _ _ (exec (Stmt.While _ _ _ _) _) _ _ _)); (fail_if_success (with_reducible show wpAny _ _ (exec (Stmt.For _ _ _ _ _) _) _ _ _)); (fail_if_success (with_reducible show wpAny _ _ (exec (Stmt.Assign [Expr.Name _ _] (Expr.ListComp _ _ _ _) _) _) _ _ _)); (fail_if_success (with_reducible show wpAny _ _ (pyIter _) _ _ _)); (fail_if_success (with_reducible show wpAny _ _ (call (Value.type "range") _ _) _ _ _)); (fail_if_success (with_reducible show wpAny _ _ (call (Value.type "zip") _ _) _ _ _))); walk1) | (((fail_if_success (with_reducible show wpAny _ _ (eval (Expr.ListComp _ _ _ _) _) _ _ _)); (fail_if_success (with_reducible show wpAny _ _ (exec (Stmt.While _ _ _ _) _) _ _ _)); (fail_if_success (with_reducible show wpAny _ _ (exec (Stmt.For _ _ _ _ _) _) _ _ _)); (fail_if_success (with_reducible show wpAny _ _ (exec (Stmt.Assign [Expr.Name _ _] (Expr.ListComp _ _ _ _) _) _) _ _ _)); (fail_if_success (with_reducible show wpAny _ _ (pyIter _) _ _ _)); (fail_if_success (with_reducible show wpAny _ _ (call (Value.type "range") _ _) _ _ _)); (fail_if_success (with_reducible show wpAny _ _ (call (Value.type "zip") _ _) _ _ _))); dsimp only; walk1))); (all_goals try dsimp only))
    refine join_listC (News.isList N' (.head _)) hxs (by decide) (by rw [hj.2.1]; omega) fun t' k => ?_
    ((repeat' (first | (k_unfold; (try dsimp only)) | (((fail_if_success (with_reducible show wpAny _ _ (eval (Expr.ListComp _ _ _ _) _) _ _ _)); (fail_if_success (with_reducible show wpAny _ _ (exec (Stmt.While _ _ _ _) _) _ _ _)); (fail_if_success (with_reducible show wpAny _ _ (exec (Stmt.For _ _ _ _ _) _) _ _ _)); (fail_if_success (with_reducible show wpAny _ _ (exec (Stmt.Assign [Expr.Name _ _] (Expr.ListComp _ _ _ _) _) _) _ _ _)); (fail_if_success (with_reducible show wpAny _ _ (pyIter _) _ _ _)); (fail_if_success (with_reducible show wpAny _ _ (call (Value.type "range") _ _) _ _ _)); (fail_if_success (with_reducible show wpAny _ _ (call (Value.type "zip") _ _) _ _ _))); walk1) | (((fail_if_success (with_reducible show wpAny _ _ (eval (Expr.ListComp _ _ _ _) _) _ _ _)); (fail_if_success (with_reducible show wpAny _ _ (exec (Stmt.While _ _ _ _) _) _ _ _)); (fail_if_success (with_reducible show wpAny _ _ (exec (Stmt.For _ _ _ _ _) _) _ _ _)); (fail_if_success (with_reducible show wpAny _ _ (exec (Stmt.Assign [Expr.Name _ _] (Expr.ListComp _ _ _ _) _) _) _ _ _)); (fail_if_success (with_reducible show wpAny _ _ (pyIter _) _ _ _)); (fail_if_success (with_reducible show wpAny _ _ (call (Value.type "range") _ _) _ _ _)); (fail_if_success (with_reducible show wpAny _ _ (call (Value.type "zip") _ _) _ _ _))); dsimp only; walk1))); (all_goals try dsimp only))
    rename Fr _ _ _ _ => F
    rename News _ _ _ _ => N
    exact ret _ _ _ _ _ ⟨hj.1, by have := hj.2.2; omega⟩ F.keep (N _ (.tail _ (.tail _ (.head _)))).1 D'
end
end
local macro_rules | `(tactic| walk_at "call builtin:str.upper") => `(tactic| (refine upper_R (by assumption) (by omega) ?_; intro _ _))
local macro_rules | `(tactic| walk_at "call builtin:str.encode") => `(tactic| (refine encode_R (by assumption) (by (try simp only [List.length_append, List.length_replicate, List.length_take, List.length_map]); omega) ?_; intro _ _))
local macro_rules | `(tactic| walk_at "getMethod str") => `(tactic| ((with_reducible show wpAny _ _ (getMethod (Value.str _ _) (Str.ofString "encode") _) _ _ _); refine encode_M ?_))
local macro_rules | `(tactic| walk_at "binaryOp Mult str int") => `(tactic| ((first | refine mul_R lit_q (by omega) (by omega) ?_ | refine mul_R lit_b (by omega) (by omega) ?_); intro _ _))
local macro_rules | `(tactic| walk_at "binaryOp Add str str") => `(tactic| (refine' add_R ?hx ?hy ?ha ?hb ?_; (case hx => first | with_reducible exact rfl | with_reducible exact lit_e | with_reducible exact lit_dot | with_reducible exact lit_colon | with_reducible exact lit_a | with_reducible exact lit_P | with_reducible exact lit_qq | with_reducible exact lit_b); (case hy => first | with_reducible exact rfl | with_reducible exact lit_e | with_reducible exact lit_dot | with_reducible exact lit_colon | with_reducible exact lit_a | with_reducible exact lit_P | with_reducible exact lit_qq | with_reducible exact lit_b); (case ha => ((try simp only [List.length_append, List.length_replicate, List.length_take, List.length_map, List.length_cons, List.length_nil]); omega)); (case hb => ((try simp only [List.length_append, List.length_replicate, List.length_take, List.length_map, List.length_cons, List.length_nil]); omega)); intro _ _))
local macro_rules | `(tactic| walk_at "call builtin:len") => `(tactic| ((with_reducible show wpAny _ _ (call (Value.builtin "len") [Value.str (mkS _) _]) _ _ _); refine len_R (by (try simp only [List.length_append, List.length_replicate, List.length_take, List.length_map]); omega) ?_; intro _ _))
local macro_rules | `(tactic| walk_at "call builtin:str.partition") => `(tactic| (refine KXpa.partition (by k_asm) (by k_asm) (by decide) part_star.1 part_star.2 rfl (by rw [mkS_len, sizeLine_eq, List.length_map]; omega) ?_; intro D' _ _ _ _ _ F' N' l1; (try k_lt l1); (try k_sweep)))
local macro_rules | `(tactic| walk_at "subscriptTail Name Slice str ref") => `(tactic| (
  (with_reducible show wpAny _ _ (subscriptTail _ (Expr.Slice none (some _) none _) (Value.str (mkS _) _) _) _ _ _)
  (with_reducible rename Fr _ _ _ _ => F')
  (with_reducible rename News _ _ _ _ => N')
  (refine slice_strN_ns (hsz := ?hsz) (s := ⟨_, _, _, _, _⟩) F' N' ?_)
  (case hsz => (rw [mkS_len, sizeLine_eq]; (try simp only [List.length_append, List.length_replicate, List.length_take, List.length_map]); omega))
  intro _ _ _ F' N'
  (first | rw [slice_mk] | rw [slice_mk1])))
local macro_rules | `(tactic| walk_at "call type:list") => `(tactic| (
  (with_reducible show wpAny _ _ (call (Value.type "list") [Value.bytes (List.toArray _) _]) _ _ _)
  refine' list_bytesF ?F ?N ?h ?_ ?n
  (case F => k_asm)
  (case N => k_asm)
  (case h => exact rfl)
  (case n => (simp only [List.size_toArray, List.length_append, List.length_replicate, List.length_take, List.length_map]; omega))
  intro l' vs' kk' h' tk' F' N' hi' l1
  (try k_lt l1)
  (try k_sweep)))
theorem off_D3 : True := by
  w_top off
  trivial
section
theorem bInts_ascii {l : List Nat} (h : ∀ c ∈ l, c < 128) : KBw.bInts (l.map (·.toUInt8)).toArray = l.map (fun c : Nat => (c : Int)) := by
  unfold KBw.bInts
  rw [List.map_map]
  refine List.map_congr_left fun c hc => ?_
  have := h c hc
  show ((c.toUInt8.toNat : Nat) : Int) = _
  rw [show c.toUInt8.toNat = c from by simp; omega]
theorem up_cast (c : Nat) : up (c : Int) = (up1 c : Int) := by
  unfold up up1; split <;> split <;> omega
theorem up1_star {c : Nat} : up1 c = 42 ↔ c = 42 := by unfold up1; split <;> omega
theorem mem_up1 {l : List Nat} : 42 ∈ l.map up1 ↔ (42 : Int) ∈ l.map (fun c : Nat => (c : Int)) := by
  simp only [List.mem_map, up1_star]
  constructor
  · rintro ⟨a, h, rfl⟩; exact ⟨42, h, rfl⟩
  · rintro ⟨a, h, e⟩; exact ⟨a, h, by omega⟩
theorem tw_up : ∀ l : List Nat, ((l.map (fun c : Nat => (c : Int))).takeWhile (· ≠ 42)).map up = ((l.map up1).takeWhile (· != 42)).map (fun c : Nat => (c : Int))
  | [] => rfl
  | c :: r => by
    have ih := tw_up r
    by_cases h : c = 42
    · subst h; rfl
    · have h1 : up1 c ≠ 42 := fun q => h (up1_star.mp q)
      have h2 : (c : Int) ≠ 42 := by omega
      simp only [List.map_cons]
      rw [List.takeWhile_cons_of_pos (by simpa using h2), List.takeWhile_cons_of_pos (by simpa using h1), List.map_cons, List.map_cons, ih, up_cast]
theorem fill_pos {l : List Nat} {sz : Nat} (hm : 42 ∈ l.map up1) :
    ((((l.map up1).takeWhile (· != 42) ++ List.replicate sz 63).take sz) ++ List.replicate ((sz : Int) - ((((l.map up1).takeWhile (· != 42) ++ List.replicate sz 63).take sz).length : Int)).toNat 32).map (fun c : Nat => (c : Int)) = fillF (l.map (fun c : Nat => (c : Int))) sz := by
  unfold fillF
  rw [if_pos (mem_up1.mp hm), tw_up]
  have e : ((sz : Int) - ((((l.map up1).takeWhile (· != 42) ++ List.replicate sz 63).take sz).length : Int)).toNat = 0 := by
    rw [List.length_take, List.length_append, List.length_replicate]; omega
  rw [e]; simp [List.map_take]
theorem fill_neg {l : List Nat} {sz : Nat} (hm : 42 ∉ l.map up1) :
    ((((l.map up1).takeWhile (· != 42)).take sz) ++ List.replicate ((sz : Int) - ((((l.map up1).takeWhile (· != 42)).take sz).length : Int)).toNat 32).map (fun c : Nat => (c : Int)) = fillF (l.map (fun c : Nat => (c : Int))) sz := by
  unfold fillF
  rw [if_neg (fun q => hm (mem_up1.mpr q)), tw_ne hm]
  have e : (l.map (fun c : Nat => (c : Int))).map up = (l.map up1).map (fun c : Nat => (c : Int)) := by
    rw [List.map_map, List.map_map]
    exact List.map_congr_left fun c _ => up_cast c
  rw [e, List.take_append, List.map_append, List.map_take, List.length_take, List.length_map]
  congr 1
  rw [List.length_map, List.take_replicate, List.map_replicate, List.length_map]
  congr 1
  omega
section
variable {prog : Program} {w : World} {mean : ExcName → Option Value} {mg mb : Str → Option Value} {s : Shared} {Q E : Value → Shared → Prop} (X : (hd.heap_1 w.params).In s.heap) (T : Top qv (looseW qv []) mean mg mb s.heap)
include X T
theorem filledL_P {l : List Nat} {x : Str} {t t' : Tok} {sz : Nat} (hx : x = mkS l) (hA : ∀ c ∈ l, c < 128) (hl : l.length ≤ 100) (hs : sz ≤ 8)
    (ret : ∀ l' vs' n h' tk, s.heap.StaysIn h' → s.heap.get? l' = none → h'.get? l' = some (listOf vs'.toArray n) → IntsAre vs' (fillF (l.map (fun c : Nat => (c : Int))) sz) → Q (.ref l') { s with heap := h', toks := tk }) :
    wpAny (model prog w) (At 700 7000) (call (.ref 156) [.str x t, .int (sz : Int) t']) Q E s := by
  subst hx
  (refine' enterC (g := _) (sub := _) ?k_95 ?sz_95 ?X_95 ?T_95 ?S_95 ?ho_95 ?hcd_95 ?hroom_95 ?hb_95 ?hloc_95 ?hcell_95 ?c1_95 ?c2_95 ?c3_95 ?_; (case k_95 => first | assumption | exact stays_refl _); (case X_95 => with_reducible assumption); (case sz_95 => first | assumption | exact Nat.le_refl _); (case T_95 => with_reducible assumption); (case S_95 => first | assumption | exact List.forall_mem_nil _); (case ho_95 => k_is); (case hcd_95 => k_is); (case hroom_95 => exact Nat.le_of_ble_eq_true rfl); (case hb_95 => exact BindsTo.of_eq rfl); (case hloc_95 => exact locs rfl); (case hcell_95 => decide); (case c1_95 => exact rfl); (case c2_95 => exact rfl); (case c3_95 => exact rfl); intro xL xh xF xN xl; (try dsimp only at xF); (try simp only [AllLt, and_true] at xl); (try dsimp only); k_fold)
  ((repeat' (first | (k_unfold; (try dsimp only)) | (((((((fail_if_success (with_reducible show wpAny _ _ (eval (Expr.ListComp _ _ _ _) _) _ _ _)); (fail_if_success (with_reducible show wpAny _ _ (exec (Stmt.While _ _ _ _) _) _ _ _)); (fail_if_success (with_reducible show wpAny _ _ (exec (Stmt.For _ _ _ _ _) _) _ _ _)); (fail_if_success (with_reducible show wpAny _ _ (exec (Stmt.Assign [Expr.Name _ _] (Expr.ListComp _ _ _ _) _) _) _ _ _)); (fail_if_success (with_reducible show wpAny _ _ (pyIter _) _ _ _)); (fail_if_success (with_reducible show wpAny _ _ (call (Value.type "range") _ _) _ _ _)); (fail_if_success (with_reducible show wpAny _ _ (call (Value.type "zip") _ _) _ _ _)))); (fail_if_success (with_reducible show wpAny _ _ (exec (Stmt.If _ _ _ _) _) _ _ _)))); (fail_if_success (with_reducible show wpAny _ _ (exec (Stmt.Assign _ _ _) _) _ _ _))); walk1) | (((((((fail_if_success (with_reducible show wpAny _ _ (eval (Expr.ListComp _ _ _ _) _) _ _ _)); (fail_if_success (with_reducible show wpAny _ _ (exec (Stmt.While _ _ _ _) _) _ _ _)); (fail_if_success (with_reducible show wpAny _ _ (exec (Stmt.For _ _ _ _ _) _) _ _ _)); (fail_if_success (with_reducible show wpAny _ _ (exec (Stmt.Assign [Expr.Name _ _] (Expr.ListComp _ _ _ _) _) _) _ _ _)); (fail_if_success (with_reducible show wpAny _ _ (pyIter _) _ _ _)); (fail_if_success (with_reducible show wpAny _ _ (call (Value.type "range") _ _) _ _ _)); (fail_if_success (with_reducible show wpAny _ _ (call (Value.type "zip") _ _) _ _ _)))); (fail_if_success (with_reducible show wpAny _ _ (exec (Stmt.If _ _ _ _) _) _ _ _)))); (fail_if_success (with_reducible show wpAny _ _ (exec (Stmt.Assign _ _ _) _) _ _ _))); dsimp only; walk1))); (all_goals try dsimp only))
  rename Fr _ _ _ _ => F
  rename News _ _ _ _ => N
  refine cut_at F (fun f m' news' => f = .next ∧ news' = [] ∧ ∃ t1 t2 t3 m₀, m' = withL [(Str.ofString "head", .str (mkS ((l.map up1).takeWhile (· != 42))) t1), (Str.ofString "star", .str (mkS (if 42 ∈ l.map up1 then [42] else [])) t2), (Str.ofString "size", .int (sz : Int) t3)] m₀) (fun CC hCC => ?_) ?_
  · ((repeat' (first | (k_unfold; (try dsimp only)) | (((fail_if_success (with_reducible show wpAny _ _ (eval (Expr.ListComp _ _ _ _) _) _ _ _)); (fail_if_success (with_reducible show wpAny _ _ (exec (Stmt.While _ _ _ _) _) _ _ _)); (fail_if_success (with_reducible show wpAny _ _ (exec (Stmt.For _ _ _ _ _) _) _ _ _)); (fail_if_success (with_reducible show wpAny _ _ (exec (Stmt.Assign [Expr.Name _ _] (Expr.ListComp _ _ _ _) _) _) _ _ _)); (fail_if_success (with_reducible show wpAny _ _ (pyIter _) _ _ _)); (fail_if_success (with_reducible show wpAny _ _ (call (Value.type "range") _ _) _ _ _)); (fail_if_success (with_reducible show wpAny _ _ (call (Value.type "zip") _ _) _ _ _))); walk1) | (((fail_if_success (with_reducible show wpAny _ _ (eval (Expr.ListComp _ _ _ _) _) _ _ _)); (fail_if_success (with_reducible show wpAny _ _ (exec (Stmt.While _ _ _ _) _) _ _ _)); (fail_if_success (with_reducible show wpAny _ _ (exec (Stmt.For _ _ _ _ _) _) _ _ _)); (fail_if_success (with_reducible show wpAny _ _ (exec (Stmt.Assign [Expr.Name _ _] (Expr.ListComp _ _ _ _) _) _) _ _ _)); (fail_if_success (with_reducible show wpAny _ _ (pyIter _) _ _ _)); (fail_if_success (with_reducible show wpAny _ _ (call (Value.type "range") _ _) _ _ _)); (fail_if_success (with_reducible show wpAny _ _ (call (Value.type "zip") _ _) _ _ _))); dsimp only; walk1))); (all_goals try dsimp only))
    rename Fr _ _ _ _ => F
    rename News _ _ _ _ => N
    exact hCC _ _ _ _ _ F News.nil ⟨rfl, rfl, _, _, _, _, withL_of _ _ ⟨rfl, rfl, rfl, trivial⟩⟩
  · rintro _ h' tk m' _ F₁ N₁ ⟨rfl, rfl, t1, t2, t3, m₀, rfl⟩
    clear F N
    have hA1 : ∀ c ∈ l.map up1, c < 128 := by
      intro c hc
      obtain ⟨x, hx, rfl⟩ := List.mem_map.mp hc
      have := hA x hx
      unfold up1; split <;> omega
    generalize hu : (l.map up1).takeWhile (· != 42) = u at F₁
    by_cases hm : 42 ∈ l.map up1
    · rw [if_pos hm] at F₁
      have hul : u.length ≤ 100 := by rw [← hu]; have := (List.takeWhile_sublist (fun x : Nat => x != 42) (l := l.map up1)).length_le; rw [List.length_map] at this; omega
      have huA : ∀ c ∈ u, c < 128 := fun c hc => hA1 c ((List.takeWhile_sublist _).subset (hu ▸ hc))
      ((repeat' (first | (k_unfold; (try dsimp only)) | (((((((fail_if_success (with_reducible show wpAny _ _ (eval (Expr.ListComp _ _ _ _) _) _ _ _)); (fail_if_success (with_reducible show wpAny _ _ (exec (Stmt.While _ _ _ _) _) _ _ _)); (fail_if_success (with_reducible show wpAny _ _ (exec (Stmt.For _ _ _ _ _) _) _ _ _)); (fail_if_success (with_reducible show wpAny _ _ (exec (Stmt.Assign [Expr.Name _ _] (Expr.ListComp _ _ _ _) _) _) _ _ _)); (fail_if_success (with_reducible show wpAny _ _ (pyIter _) _ _ _)); (fail_if_success (with_reducible show wpAny _ _ (call (Value.type "range") _ _) _ _ _)); (fail_if_success (with_reducible show wpAny _ _ (call (Value.type "zip") _ _) _ _ _)))); (fail_if_success (with_reducible show wpAny _ _ (exec (Stmt.If _ _ _ _) _) _ _ _)))); (fail_if_success (with_reducible show wpAny _ _ (exec (Stmt.Assign _ _ _) _) _ _ _))); walk1) | (((((((fail_if_success (with_reducible show wpAny _ _ (eval (Expr.ListComp _ _ _ _) _) _ _ _)); (fail_if_success (with_reducible show wpAny _ _ (exec (Stmt.While _ _ _ _) _) _ _ _)); (fail_if_success (with_reducible show wpAny _ _ (exec (Stmt.For _ _ _ _ _) _) _ _ _)); (fail_if_success (with_reducible show wpAny _ _ (exec (Stmt.Assign [Expr.Name _ _] (Expr.ListComp _ _ _ _) _) _) _ _ _)); (fail_if_success (with_reducible show wpAny _ _ (pyIter _) _ _ _)); (fail_if_success (with_reducible show wpAny _ _ (call (Value.type "range") _ _) _ _ _)); (fail_if_success (with_reducible show wpAny _ _ (call (Value.type "zip") _ _) _ _ _)))); (fail_if_success (with_reducible show wpAny _ _ (exec (Stmt.If _ _ _ _) _) _ _ _)))); (fail_if_success (with_reducible show wpAny _ _ (exec (Stmt.Assign _ _ _) _) _ _ _))); dsimp only; walk1))); (all_goals try dsimp only))
      rename Fr _ _ _ _ => F
      rename News _ _ _ _ => N
      refine cut_at F (fun f m' news' => f = .next ∧ news' = [] ∧ ∃ t1 t2 m₀, m' = withL [(Str.ofString "row", .str (mkS ((u ++ List.replicate sz 63).take sz)) t1), (Str.ofString "size", .int (sz : Int) t2)] m₀) (fun CC hCC => ?_) ?_
      · ((repeat' (first | (k_unfold; (try dsimp only)) | (((fail_if_success (with_reducible show wpAny _ _ (eval (Expr.ListComp _ _ _ _) _) _ _ _)); (fail_if_success (with_reducible show wpAny _ _ (exec (Stmt.While _ _ _ _) _) _ _ _)); (fail_if_success (with_reducible show wpAny _ _ (exec (Stmt.For _ _ _ _ _) _) _ _ _)); (fail_if_success (with_reducible show wpAny _ _ (exec (Stmt.Assign [Expr.Name _ _] (Expr.ListComp _ _ _ _) _) _) _ _ _)); (fail_if_success (with_reducible show wpAny _ _ (pyIter _) _ _ _)); (fail_if_success (with_reducible show wpAny _ _ (call (Value.type "range") _ _) _ _ _)); (fail_if_success (with_reducible show wpAny _ _ (call (Value.type "zip") _ _) _ _ _))); walk1) | (((fail_if_success (with_reducible show wpAny _ _ (eval (Expr.ListComp _ _ _ _) _) _ _ _)); (fail_if_success (with_reducible show wpAny _ _ (exec (Stmt.While _ _ _ _) _) _ _ _)); (fail_if_success (with_reducible show wpAny _ _ (exec (Stmt.For _ _ _ _ _) _) _ _ _)); (fail_if_success (with_reducible show wpAny _ _ (exec (Stmt.Assign [Expr.Name _ _] (Expr.ListComp _ _ _ _) _) _) _ _ _)); (fail_if_success (with_reducible show wpAny _ _ (pyIter _) _ _ _)); (fail_if_success (with_reducible show wpAny _ _ (call (Value.type "range") _ _) _ _ _)); (fail_if_success (with_reducible show wpAny _ _ (call (Value.type "zip") _ _) _ _ _))); dsimp only; walk1))); (all_goals try dsimp only))
        rename Fr _ _ _ _ => F
        rename News _ _ _ _ => N
        exact hCC _ _ _ _ _ F News.nil ⟨rfl, rfl, _, _, _, withL_of _ _ ⟨rfl, rfl, trivial⟩⟩
      · rintro _ h' tk m' _ F₁ N₁ ⟨rfl, rfl, t1, t2, m₀, rfl⟩
        clear F N
        generalize hr : ((u ++ List.replicate sz 63).take sz) = r at F₁
        have hrl : r.length ≤ sz := by rw [← hr, List.length_take]; omega
        have hrA : ∀ c ∈ r ++ List.replicate ((sz : Int) - (r.length : Int)).toNat 32, c < 128 := by
          intro c hc
          rcases List.mem_append.mp hc with q | q
          · rw [← hr] at q; have q := List.mem_of_mem_take q; rcases List.mem_append.mp q with q | q; exact huA c q; rw [(List.mem_replicate.mp q).2]; decide
          · rw [(List.mem_replicate.mp q).2]; decide
        ((repeat' (first | (k_unfold; (try dsimp only)) | (((fail_if_success (with_reducible show wpAny _ _ (eval (Expr.ListComp _ _ _ _) _) _ _ _)); (fail_if_success (with_reducible show wpAny _ _ (exec (Stmt.While _ _ _ _) _) _ _ _)); (fail_if_success (with_reducible show wpAny _ _ (exec (Stmt.For _ _ _ _ _) _) _ _ _)); (fail_if_success (with_reducible show wpAny _ _ (exec (Stmt.Assign [Expr.Name _ _] (Expr.ListComp _ _ _ _) _) _) _ _ _)); (fail_if_success (with_reducible show wpAny _ _ (pyIter _) _ _ _)); (fail_if_success (with_reducible show wpAny _ _ (call (Value.type "range") _ _) _ _ _)); (fail_if_success (with_reducible show wpAny _ _ (call (Value.type "zip") _ _) _ _ _))); walk1) | (((fail_if_success (with_reducible show wpAny _ _ (eval (Expr.ListComp _ _ _ _) _) _ _ _)); (fail_if_success (with_reducible show wpAny _ _ (exec (Stmt.While _ _ _ _) _) _ _ _)); (fail_if_success (with_reducible show wpAny _ _ (exec (Stmt.For _ _ _ _ _) _) _ _ _)); (fail_if_success (with_reducible show wpAny _ _ (exec (Stmt.Assign [Expr.Name _ _] (Expr.ListComp _ _ _ _) _) _) _ _ _)); (fail_if_success (with_reducible show wpAny _ _ (pyIter _) _ _ _)); (fail_if_success (with_reducible show wpAny _ _ (call (Value.type "range") _ _) _ _ _)); (fail_if_success (with_reducible show wpAny _ _ (call (Value.type "zip") _ _) _ _ _))); dsimp only; walk1))); (all_goals try dsimp only))
        rename Fr _ _ _ _ => F
        rename News _ _ _ _ => N
        rename IntsAre _ (KBw.bInts _) => hj
        rw [bInts_ascii hrA, ← hr, ← hu, fill_pos hm] at hj
        exact ret _ _ _ _ _ F.keep (N _ (.head _)).2.2 (N _ (.head _)).1 hj
    · rw [if_neg hm] at F₁
      have hul : u.length ≤ 100 := by rw [← hu]; have := (List.takeWhile_sublist (fun x : Nat => x != 42) (l := l.map up1)).length_le; rw [List.length_map] at this; omega
      have huA : ∀ c ∈ u, c < 128 := fun c hc => hA1 c ((List.takeWhile_sublist _).subset (hu ▸ hc))
      ((repeat' (first | (k_unfold; (try dsimp only)) | (((((((fail_if_success (with_reducible show wpAny _ _ (eval (Expr.ListComp _ _ _ _) _) _ _ _)); (fail_if_success (with_reducible show wpAny _ _ (exec (Stmt.While _ _ _ _) _) _ _ _)); (fail_if_success (with_reducible show wpAny _ _ (exec (Stmt.For _ _ _ _ _) _) _ _ _)); (fail_if_success (with_reducible show wpAny _ _ (exec (Stmt.Assign [Expr.Name _ _] (Expr.ListComp _ _ _ _) _) _) _ _ _)); (fail_if_success (with_reducible show wpAny _ _ (pyIter _) _ _ _)); (fail_if_success (with_reducible show wpAny _ _ (call (Value.type "range") _ _) _ _ _)); (fail_if_success (with_reducible show wpAny _ _ (call (Value.type "zip") _ _) _ _ _)))); (fail_if_success (with_reducible show wpAny _ _ (exec (Stmt.If _ _ _ _) _) _ _ _)))); (fail_if_success (with_reducible show wpAny _ _ (exec (Stmt.Assign _ _ _) _) _ _ _))); walk1) | (((((((fail_if_success (with_reducible show wpAny _ _ (eval (Expr.ListComp _ _ _ _) _) _ _ _)); (fail_if_success (with_reducible show wpAny _ _ (exec (Stmt.While _ _ _ _) _) _ _ _)); (fail_if_success (with_reducible show wpAny _ _ (exec (Stmt.For _ _ _ _ _) _) _ _ _)); (fail_if_success (with_reducible show wpAny _ _ (exec (Stmt.Assign [Expr.Name _ _] (Expr.ListComp _ _ _ _) _) _) _ _ _)); (fail_if_success (with_reducible show wpAny _ _ (pyIter _) _ _ _)); (fail_if_success (with_reducible show wpAny _ _ (call (Value.type "range") _ _) _ _ _)); (fail_if_success (with_reducible show wpAny _ _ (call (Value.type "zip") _ _) _ _ _)))); (fail_if_success (with_reducible show wpAny _ _ (exec (Stmt.If _ _ _ _) _) _ _ _)))); (fail_if_success (with_reducible show wpAny _ _ (exec (Stmt.Assign _ _ _) _) _ _ _))); dsimp only; walk1))); (all_goals try dsimp only))
      rename Fr _ _ _ _ => F
      rename News _ _ _ _ => N
      refine cut_at F (fun f m' news' => f = .next ∧ news' = [] ∧ ∃ t1 t2 m₀, m' = withL [(Str.ofString "row", .str (mkS (u.take sz)) t1), (Str.ofString "size", .int (sz : Int) t2)] m₀) (fun CC hCC => ?_) ?_
      · ((repeat' (first | (k_unfold; (try dsimp only)) | (((fail_if_success (with_reducible show wpAny _ _ (eval (Expr.ListComp _ _ _ _) _) _ _ _)); (fail_if_success (with_reducible show wpAny _ _ (exec (Stmt.While _ _ _ _) _) _ _ _)); (fail_if_success (with_reducible show wpAny _ _ (exec (Stmt.For _ _ _ _ _) _) _ _ _)); (fail_if_success (with_reducible show wpAny _ _ (exec (Stmt.Assign [Expr.Name _ _] (Expr.ListComp _ _ _ _) _) _) _ _ _)); (fail_if_success (with_reducible show wpAny _ _ (pyIter _) _ _ _)); (fail_if_success (with_reducible show wpAny _ _ (call (Value.type "range") _ _) _ _ _)); (fail_if_success (with_reducible show wpAny _ _ (call (Value.type "zip") _ _) _ _ _))); walk1) | (((fail_if_success (with_reducible show wpAny _ _ (eval (Expr.ListComp _ _ _ _) _) _ _ _)); (fail_if_success (with_reducible show wpAny _ _ (exec (Stmt.While _ _ _ _) _) _ _ _)); (fail_if_success (with_reducible show wpAny _ _ (exec (Stmt.For _ _ _ _ _) _) _ _ _)); (fail_if_success (with_reducible show wpAny _ _ (exec (Stmt.Assign [Expr.Name _ _] (Expr.ListComp _ _ _ _) _) _) _ _ _)); (fail_if_success (with_reducible show wpAny _ _ (pyIter _) _ _ _)); (fail_if_success (with_reducible show wpAny _ _ (call (Value.type "range") _ _) _ _ _)); (fail_if_success (with_reducible show wpAny _ _ (call (Value.type "zip") _ _) _ _ _))); dsimp only; walk1))); (all_goals try dsimp only))
        rename Fr _ _ _ _ => F
        rename News _ _ _ _ => N
        exact hCC _ _ _ _ _ F News.nil ⟨rfl, rfl, _, _, _, withL_of _ _ ⟨rfl, rfl, trivial⟩⟩
      · rintro _ h' tk m' _ F₁ N₁ ⟨rfl, rfl, t1, t2, m₀, rfl⟩
        clear F N
        generalize hr : (u.take sz) = r at F₁
        have hrl : r.length ≤ sz := by rw [← hr, List.length_take]; omega
        have hrA : ∀ c ∈ r ++ List.replicate ((sz : Int) - (r.length : Int)).toNat 32, c < 128 := by
          intro c hc
          rcases List.mem_append.mp hc with q | q
          · rw [← hr] at q; exact huA c (List.mem_of_mem_take q)
          · rw [(List.mem_replicate.mp q).2]; decide
        ((repeat' (first | (k_unfold; (try dsimp only)) | (((fail_if_success (with_reducible show wpAny _ _ (eval (Expr.ListComp _ _ _ _) _) _ _ _)); (fail_if_success (with_reducible show wpAny _ _ (exec (Stmt.While _ _ _ _) _) _ _ _)); (fail_if_success (with_reducible show wpAny _ _ (exec (Stmt.For _ _ _ _ _) _) _ _ _)); (fail_if_success (with_reducible show wpAny _ _ (exec (Stmt.Assign [Expr.Name _ _] (Expr.ListComp _ _ _ _) _) _) _ _ _)); (fail_if_success (with_reducible show wpAny _ _ (pyIter _) _ _ _)); (fail_if_success (with_reducible show wpAny _ _ (call (Value.type "range") _ _) _ _ _)); (fail_if_success (with_reducible show wpAny _ _ (call (Value.type "zip") _ _) _ _ _))); walk1) | (((fail_if_success (with_reducible show wpAny _ _ (eval (Expr.ListComp _ _ _ _) _) _ _ _)); (fail_if_success (with_reducible show wpAny _ _ (exec (Stmt.While _ _ _ _) _) _ _ _)); (fail_if_success (with_reducible show wpAny _ _ (exec (Stmt.For _ _ _ _ _) _) _ _ _)); (fail_if_success (with_reducible show wpAny _ _ (exec (Stmt.Assign [Expr.Name _ _] (Expr.ListComp _ _ _ _) _) _) _ _ _)); (fail_if_success (with_reducible show wpAny _ _ (pyIter _) _ _ _)); (fail_if_success (with_reducible show wpAny _ _ (call (Value.type "range") _ _) _ _ _)); (fail_if_success (with_reducible show wpAny _ _ (call (Value.type "zip") _ _) _ _ _))); dsimp only; walk1))); (all_goals try dsimp only))
        rename Fr _ _ _ _ => F
        rename News _ _ _ _ => N
        rename IntsAre _ (KBw.bInts _) => hj
        rw [bInts_ascii hrA, ← hr, ← hu, fill_neg hm] at hj
        exact ret _ _ _ _ _ F.keep (N _ (.head _)).2.2 (N _ (.head _)).1 hj
end
end
theorem off_D4 : True := by
  w_top off
  trivial
section
def partOK (l : List Nat) (size : Nat) : Prop := (∀ c ∈ l, c ∈ ([97, 66, 122, 48, 57, 36, 42, 63] : List Nat)) ∧ l.length ≤ size + 2
theorem part_F {prog : Program} {w : World} {mean mg mb} {A : Around} {b₀ h₀ : Heap} {L : Addr} {m : Str → Option Value} {news : List (Addr × Obj)} {upd : Obj → List (Addr × Obj)} {s : Shared} {d : Addr} {o : Obj} {size : Nat} {t : Tok} {Q E : Value → Shared → Prop}
    (F : Fr h₀ L s.heap m) (N : News h₀ L s.heap news) (X : (hd.heap_1 w.params).In h₀) (T : Top qv (looseW qv []) mean mg mb h₀) (U : UpdF d o news upd) (hb : b₀.StaysIn h₀) (D : DealO b₀ o)
    (hh : A.handled = none) (hd : Nat.ble A.depth 700 = true) (hu : Nat.ble A.units 7000 = true) (hsize : size ≤ 8)
    (ret : ∀ l t' h' tk o', partOK l size → Fr h₀ L h' m → News h₀ L h' (upd o') → DealO b₀ o' → Q (.str (mkS l) t') { s with heap := h', toks := tk }) :
    wpAny (model prog w) A (call (.ref 149) [.ref d, .int (size : Int) t]) Q E s := by
  have P := part_of F N U
  refine wp_top (part_P P.stays P.size (X.keeps P.base) (T.keeps P.base) P.at_ P.hid (fun b ob e => P.base b ob (hb b ob e)) D hsize fun x t' h' tk o' hx st ho' D' => ?_) hh hd hu
  obtain ⟨F', N'⟩ := P.back h' o' st ho'
  have := ret x.cps.toList t' h' tk o' ⟨hx.1, by rw [Array.length_toList]; exact hx.2⟩ F' N' D'
  rwa [mkS_cps] at this
def preL (j : Nat) : List Nat := [[], [97, 58], [80, 58], [113, 58]].getD j []
theorem news_one {h₀ h : Heap} {L : Addr} {p : Addr × Obj} {news : List (Addr × Obj)} (N : News h₀ L h news) (hp : p ∈ news) : News h₀ L h [p] := fun q hq => by rw [List.mem_singleton.mp hq]; exact N _ hp
theorem part_lt {l : List Nat} {n : Nat} (h : partOK l n) : ∀ c ∈ l, c < 128 := fun c hc => by
  have := h.1 c hc
  simp only [List.mem_cons, List.not_mem_nil, or_false] at this
  omega
def letL (j : Nat) : List Nat := [[], [97], [80], [113]].getD j []
def nameRel (txt : List Nat) (j : Nat) (oct : List Int) : Prop := ∃ (nm kd : List Nat) (hk : Bool), j < 4 ∧ partOK nm 8 ∧ partOK kd 3 ∧ (hk = false → kd = []) ∧ txt = preL j ++ nm ++ (if hk then 46 :: kd else []) ∧ oct = fillF (nm.map (fun c : Nat => (c : Int))) 8 ++ fillF (kd.map (fun c : Nat => (c : Int))) 3
section
variable {prog : Program} {w : World} {mean : ExcName → Option Value} {mg mb : Str → Option Value} {s : Shared} {Q E : Value → Shared → Prop} {b₀ g : Heap} {d : Addr} {o : Obj} (k : g.StaysIn s.heap) (hsz : g.objs.size ≤ s.heap.objs.size)
    (X : (hd.heap_1 w.params).In g) (T : Top qv (looseW qv []) mean mg mb g) (ho : s.heap.get? d = some o) (hg : g.get? d = none) (hb : b₀.StaysIn g) (D : DealO b₀ o)
include k hsz X T ho hg hb D
theorem name_LP
    (ret : ∀ p l' j txt oct vs' n h' tk o' t1 t2, nameRel txt j oct → g.StaysIn h' → h'.get? d = some o' → DealO b₀ o' → g.get? p = none → g.get? l' = none →
      h'.get? p = some { cls := .type "tuple", data := .seq #[.str (mkS txt) t1, .int ([0, 1, 16, 17].getD j 0) t2, .ref l'] } → h'.get? l' = some (listOf (List.toArray vs') n) → IntsAre vs' oct → Q (.ref p) { s with heap := h', toks := tk }) :
    wpAny (model prog w) (At 600 6000) (call (.ref 163) [.ref d]) Q E s := by
  have S : ∀ q ∈ [(d, o)], s.heap.get? q.1 = some q.2 ∧ g.get? q.1 = none := by
    intro q hq; cases hq with | head => exact ⟨ho, hg⟩ | tail _ h => cases h
  (refine' enterC (g := _) (sub := _) ?k_104 ?sz_104 ?X_104 ?T_104 ?S_104 ?ho_104 ?hcd_104 ?hroom_104 ?hb_104 ?hloc_104 ?hcell_104 ?c1_104 ?c2_104 ?c3_104 ?_; (case k_104 => first | assumption | exact stays_refl _); (case X_104 => with_reducible assumption); (case sz_104 => first | assumption | exact Nat.le_refl _); (case T_104 => with_reducible assumption); (case S_104 => first | assumption | exact List.forall_mem_nil _); (case ho_104 => k_is); (case hcd_104 => k_is); (case hroom_104 => exact Nat.le_of_ble_eq_true rfl); (case hb_104 => exact BindsTo.of_eq rfl); (case hloc_104 => exact locs rfl); (case hcell_104 => decide); (case c1_104 => exact rfl); (case c2_104 => exact rfl); (case c3_104 => exact rfl); intro xL xh xF xN xl; (try dsimp only at xF); (try simp only [AllLt, and_true] at xl); (try dsimp only); k_fold)
  ((repeat' (first | (k_unfold; (try dsimp only)) | (((((((fail_if_success (with_reducible show wpAny _ _ (eval (Expr.ListComp _ _ _ _) _) _ _ _)); (fail_if_success (with_reducible show wpAny _ _ (exec (Stmt.While _ _ _ _) _) _ _ _)); (fail_if_success (with_reducible show wpAny _ _ (exec (Stmt.For _ _ _ _ _) _) _ _ _)); (fail_if_success (with_reducible show wpAny _ _ (exec (Stmt.Assign [Expr.Name _ _] (Expr.ListComp _ _ _ _) _) _) _ _ _)); (fail_if_success (with_reducible show wpAny _ _ (pyIter _) _ _ _)); (fail_if_success (with_reducible show wpAny _ _ (call (Value.type "range") _ _) _ _ _)); (fail_if_success (with_reducible show wpAny _ _ (call (Value.type "zip") _ _) _ _ _)))); (fail_if_success (with_reducible show wpAny _ _ (exec (Stmt.If _ _ _ _) _) _ _ _)))); (fail_if_success (with_reducible show wpAny _ _ (exec (Stmt.Assign _ _ _) _) _ _ _))); walk1) | (((((((fail_if_success (with_reducible show wpAny _ _ (eval (Expr.ListComp _ _ _ _) _) _ _ _)); (fail_if_success (with_reducible show wpAny _ _ (exec (Stmt.While _ _ _ _) _) _ _ _)); (fail_if_success (with_reducible show wpAny _ _ (exec (Stmt.For _ _ _ _ _) _) _ _ _)); (fail_if_success (with_reducible show wpAny _ _ (exec (Stmt.Assign [Expr.Name _ _] (Expr.ListComp _ _ _ _) _) _) _ _ _)); (fail_if_success (with_reducible show wpAny _ _ (pyIter _) _ _ _)); (fail_if_success (with_reducible show wpAny _ _ (call (Value.type "range") _ _) _ _ _)); (fail_if_success (with_reducible show wpAny _ _ (call (Value.type "zip") _ _) _ _ _)))); (fail_if_success (with_reducible show wpAny _ _ (exec (Stmt.If _ _ _ _) _) _ _ _)))); (fail_if_success (with_reducible show wpAny _ _ (exec (Stmt.Assign _ _ _) _) _ _ _))); dsimp only; walk1))); (all_goals try dsimp only))
  rename Fr _ _ _ _ => F
  rename News _ _ _ _ => N
  refine cut_at F (fun f m' news' => f = .next ∧ ∃ o₁, news' = [(d, o₁)] ∧ DealO b₀ o₁ ∧ ∃ j t1 m₀, j < 4 ∧ m' = withL [(Str.ofString "letter", .str (mkS (letL j)) t1), (Str.ofString "deal", .ref d)] m₀) (fun CC hCC => ?_) ?_
  · ((repeat' (first | (k_unfold; (try dsimp only)) | (((fail_if_success (with_reducible show wpAny _ _ (eval (Expr.ListComp _ _ _ _) _) _ _ _)); (fail_if_success (with_reducible show wpAny _ _ (exec (Stmt.While _ _ _ _) _) _ _ _)); (fail_if_success (with_reducible show wpAny _ _ (exec (Stmt.For _ _ _ _ _) _) _ _ _)); (fail_if_success (with_reducible show wpAny _ _ (exec (Stmt.Assign [Expr.Name _ _] (Expr.ListComp _ _ _ _) _) _) _ _ _)); (fail_if_success (with_reducible show wpAny _ _ (pyIter _) _ _ _)); (fail_if_success (with_reducible show wpAny _ _ (call (Value.type "range") _ _) _ _ _)); (fail_if_success (with_reducible show wpAny _ _ (call (Value.type "zip") _ _) _ _ _))); walk1) | (((fail_if_success (with_reducible show wpAny _ _ (eval (Expr.ListComp _ _ _ _) _) _ _ _)); (fail_if_success (with_reducible show wpAny _ _ (exec (Stmt.While _ _ _ _) _) _ _ _)); (fail_if_success (with_reducible show wpAny _ _ (exec (Stmt.For _ _ _ _ _) _) _ _ _)); (fail_if_success (with_reducible show wpAny _ _ (exec (Stmt.Assign [Expr.Name _ _] (Expr.ListComp _ _ _ _) _) _) _ _ _)); (fail_if_success (with_reducible show wpAny _ _ (pyIter _) _ _ _)); (fail_if_success (with_reducible show wpAny _ _ (call (Value.type "range") _ _) _ _ _)); (fail_if_success (with_reducible show wpAny _ _ (call (Value.type "zip") _ _) _ _ _))); dsimp only; walk1))); (all_goals try dsimp only))
    rename Fr _ _ _ _ => F
    rename News _ _ _ _ => N
    refine take_F F N X T (by k_updF) hb D rfl rfl rfl (by decide) (by decide) fun r t' h' tk o₁ r0 r1 F' N' D₁ => ?_
    clear F N
    have hr : r = 0 ∨ r = 1 ∨ r = 2 ∨ r = 3 := by omega
    rcases hr with rfl | rfl | rfl | rfl
    · ((repeat' (first | (k_unfold; (try dsimp only)) | (((fail_if_success (with_reducible show wpAny _ _ (eval (Expr.ListComp _ _ _ _) _) _ _ _)); (fail_if_success (with_reducible show wpAny _ _ (exec (Stmt.While _ _ _ _) _) _ _ _)); (fail_if_success (with_reducible show wpAny _ _ (exec (Stmt.For _ _ _ _ _) _) _ _ _)); (fail_if_success (with_reducible show wpAny _ _ (exec (Stmt.Assign [Expr.Name _ _] (Expr.ListComp _ _ _ _) _) _) _ _ _)); (fail_if_success (with_reducible show wpAny _ _ (pyIter _) _ _ _)); (fail_if_success (with_reducible show wpAny _ _ (call (Value.type "range") _ _) _ _ _)); (fail_if_success (with_reducible show wpAny _ _ (call (Value.type "zip") _ _) _ _ _))); walk1) | (((fail_if_success (with_reducible show wpAny _ _ (eval (Expr.ListComp _ _ _ _) _) _ _ _)); (fail_if_success (with_reducible show wpAny _ _ (exec (Stmt.While _ _ _ _) _) _ _ _)); (fail_if_success (with_reducible show wpAny _ _ (exec (Stmt.For _ _ _ _ _) _) _ _ _)); (fail_if_success (with_reducible show wpAny _ _ (exec (Stmt.Assign [Expr.Name _ _] (Expr.ListComp _ _ _ _) _) _) _ _ _)); (fail_if_success (with_reducible show wpAny _ _ (pyIter _) _ _ _)); (fail_if_success (with_reducible show wpAny _ _ (call (Value.type "range") _ _) _ _ _)); (fail_if_success (with_reducible show wpAny _ _ (call (Value.type "zip") _ _) _ _ _))); dsimp only; walk1))); (all_goals try dsimp only))
      rename Fr _ _ _ _ => F
      rename News _ _ _ _ => N
      exact hCC _ _ _ _ _ F (news_one N (.tail _ (.head _))) ⟨rfl, _, rfl, D₁, 0, _, _, by decide, withL_of _ _ ⟨congrArg (fun x => some (Value.str x _)) lit_e, rfl, trivial⟩⟩
    · ((repeat' (first | (k_unfold; (try dsimp only)) | (((fail_if_success (with_reducible show wpAny _ _ (eval (Expr.ListComp _ _ _ _) _) _ _ _)); (fail_if_success (with_reducible show wpAny _ _ (exec (Stmt.While _ _ _ _) _) _ _ _)); (fail_if_success (with_reducible show wpAny _ _ (exec (Stmt.For _ _ _ _ _) _) _ _ _)); (fail_if_success (with_reducible show wpAny _ _ (exec (Stmt.Assign [Expr.Name _ _] (Expr.ListComp _ _ _ _) _) _) _ _ _)); (fail_if_success (with_reducible show wpAny _ _ (pyIter _) _ _ _)); (fail_if_success (with_reducible show wpAny _ _ (call (Value.type "range") _ _) _ _ _)); (fail_if_success (with_reducible show wpAny _ _ (call (Value.type "zip") _ _) _ _ _))); walk1) | (((fail_if_success (with_reducible show wpAny _ _ (eval (Expr.ListComp _ _ _ _) _) _ _ _)); (fail_if_success (with_reducible show wpAny _ _ (exec (Stmt.While _ _ _ _) _) _ _ _)); (fail_if_success (with_reducible show wpAny _ _ (exec (Stmt.For _ _ _ _ _) _) _ _ _)); (fail_if_success (with_reducible show wpAny _ _ (exec (Stmt.Assign [Expr.Name _ _] (Expr.ListComp _ _ _ _) _) _) _ _ _)); (fail_if_success (with_reducible show wpAny _ _ (pyIter _) _ _ _)); (fail_if_success (with_reducible show wpAny _ _ (call (Value.type "range") _ _) _ _ _)); (fail_if_success (with_reducible show wpAny _ _ (call (Value.type "zip") _ _) _ _ _))); dsimp only; walk1))); (all_goals try dsimp only))
      rename Fr _ _ _ _ => F
      rename News _ _ _ _ => N
      exact hCC _ _ _ _ _ F (news_one N (.tail _ (.head _))) ⟨rfl, _, rfl, D₁, 1, _, _, by decide, withL_of _ _ ⟨congrArg (fun x => some (Value.str x _)) lit_a, rfl, trivial⟩⟩
    · ((repeat' (first | (k_unfold; (try dsimp only)) | (((fail_if_success (with_reducible show wpAny _ _ (eval (Expr.ListComp _ _ _ _) _) _ _ _)); (fail_if_success (with_reducible show wpAny _ _ (exec (Stmt.While _ _ _ _) _) _ _ _)); (fail_if_success (with_reducible show wpAny _ _ (exec (Stmt.For _ _ _ _ _) _) _ _ _)); (fail_if_success (with_reducible show wpAny _ _ (exec (Stmt.Assign [Expr.Name _ _] (Expr.ListComp _ _ _ _) _) _) _ _ _)); (fail_if_success (with_reducible show wpAny _ _ (pyIter _) _ _ _)); (fail_if_success (with_reducible show wpAny _ _ (call (Value.type "range") _ _) _ _ _)); (fail_if_success (with_reducible show wpAny _ _ (call (Value.type "zip") _ _) _ _ _))); walk1) | (((fail_if_success (with_reducible show wpAny _ _ (eval (Expr.ListComp _ _ _ _) _) _ _ _)); (fail_if_success (with_reducible show wpAny _ _ (exec (Stmt.While _ _ _ _) _) _ _ _)); (fail_if_success (with_reducible show wpAny _ _ (exec (Stmt.For _ _ _ _ _) _) _ _ _)); (fail_if_success (with_reducible show wpAny _ _ (exec (Stmt.Assign [Expr.Name _ _] (Expr.ListComp _ _ _ _) _) _) _ _ _)); (fail_if_success (with_reducible show wpAny _ _ (pyIter _) _ _ _)); (fail_if_success (with_reducible show wpAny _ _ (call (Value.type "range") _ _) _ _ _)); (fail_if_success (with_reducible show wpAny _ _ (call (Value.type "zip") _ _) _ _ _))); dsimp only; walk1))); (all_goals try dsimp only))
      rename Fr _ _ _ _ => F
      rename News _ _ _ _ => N
      exact hCC _ _ _ _ _ F (news_one N (.tail _ (.head _))) ⟨rfl, _, rfl, D₁, 2, _, _, by decide, withL_of _ _ ⟨congrArg (fun x => some (Value.str x _)) lit_P, rfl, trivial⟩⟩
    · ((repeat' (first | (k_unfold; (try dsimp only)) | (((fail_if_success (with_reducible show wpAny _ _ (eval (Expr.ListComp _ _ _ _) _) _ _ _)); (fail_if_success (with_reducible show wpAny _ _ (exec (Stmt.While _ _ _ _) _) _ _ _)); (fail_if_success (with_reducible show wpAny _ _ (exec (Stmt.For _ _ _ _ _) _) _ _ _)); (fail_if_success (with_reducible show wpAny _ _ (exec (Stmt.Assign [Expr.Name _ _] (Expr.ListComp _ _ _ _) _) _) _ _ _)); (fail_if_success (with_reducible show wpAny _ _ (pyIter _) _ _ _)); (fail_if_success (with_reducible show wpAny _ _ (call (Value.type "range") _ _) _ _ _)); (fail_if_success (with_reducible show wpAny _ _ (call (Value.type "zip") _ _) _ _ _))); walk1) | (((fail_if_success (with_reducible show wpAny _ _ (eval (Expr.ListComp _ _ _ _) _) _ _ _)); (fail_if_success (with_reducible show wpAny _ _ (exec (Stmt.While _ _ _ _) _) _ _ _)); (fail_if_success (with_reducible show wpAny _ _ (exec (Stmt.For _ _ _ _ _) _) _ _ _)); (fail_if_success (with_reducible show wpAny _ _ (exec (Stmt.Assign [Expr.Name _ _] (Expr.ListComp _ _ _ _) _) _) _ _ _)); (fail_if_success (with_reducible show wpAny _ _ (pyIter _) _ _ _)); (fail_if_success (with_reducible show wpAny _ _ (call (Value.type "range") _ _) _ _ _)); (fail_if_success (with_reducible show wpAny _ _ (call (Value.type "zip") _ _) _ _ _))); dsimp only; walk1))); (all_goals try dsimp only))
      rename Fr _ _ _ _ => F
      rename News _ _ _ _ => N
      exact hCC _ _ _ _ _ F (news_one N (.tail _ (.head _))) ⟨rfl, _, rfl, D₁, 3, _, _, by decide, withL_of _ _ ⟨congrArg (fun x => some (Value.str x _)) lit_qq, rfl, trivial⟩⟩
  rintro _ h' tk m' _ F₁ N₁ ⟨rfl, o₁, rfl, D₁, j, t1, m₀, hj, rfl⟩
  clear F N
  ((repeat' (first | (k_unfold; (try dsimp only)) | (((((((fail_if_success (with_reducible show wpAny _ _ (eval (Expr.ListComp _ _ _ _) _) _ _ _)); (fail_if_success (with_reducible show wpAny _ _ (exec (Stmt.While _ _ _ _) _) _ _ _)); (fail_if_success (with_reducible show wpAny _ _ (exec (Stmt.For _ _ _ _ _) _) _ _ _)); (fail_if_success (with_reducible show wpAny _ _ (exec (Stmt.Assign [Expr.Name _ _] (Expr.ListComp _ _ _ _) _) _) _ _ _)); (fail_if_success (with_reducible show wpAny _ _ (pyIter _) _ _ _)); (fail_if_success (with_reducible show wpAny _ _ (call (Value.type "range") _ _) _ _ _)); (fail_if_success (with_reducible show wpAny _ _ (call (Value.type "zip") _ _) _ _ _)))); (fail_if_success (with_reducible show wpAny _ _ (exec (Stmt.If _ _ _ _) _) _ _ _)))); (fail_if_success (with_reducible show wpAny _ _ (exec (Stmt.Assign _ _ _) _) _ _ _))); walk1) | (((((((fail_if_success (with_reducible show wpAny _ _ (eval (Expr.ListComp _ _ _ _) _) _ _ _)); (fail_if_success (with_reducible show wpAny _ _ (exec (Stmt.While _ _ _ _) _) _ _ _)); (fail_if_success (with_reducible show wpAny _ _ (exec (Stmt.For _ _ _ _ _) _) _ _ _)); (fail_if_success (with_reducible show wpAny _ _ (exec (Stmt.Assign [Expr.Name _ _] (Expr.ListComp _ _ _ _) _) _) _ _ _)); (fail_if_success (with_reducible show wpAny _ _ (pyIter _) _ _ _)); (fail_if_success (with_reducible show wpAny _ _ (call (Value.type "range") _ _) _ _ _)); (fail_if_success (with_reducible show wpAny _ _ (call (Value.type "zip") _ _) _ _ _)))); (fail_if_success (with_reducible show wpAny _ _ (exec (Stmt.If _ _ _ _) _) _ _ _)))); (fail_if_success (with_reducible show wpAny _ _ (exec (Stmt.Assign _ _ _) _) _ _ _))); dsimp only; walk1))); (all_goals try dsimp only))
  rename Fr _ _ _ _ => F
  rename News _ _ _ _ => N
  refine cut_at F (fun f m' news' => f = .next ∧ ∃ o₁, news' = [(d, o₁)] ∧ DealO b₀ o₁ ∧ ∃ nm hk t1 t2 m₀, partOK nm 8 ∧ m' = withL [(Str.ofString "name", .str (mkS nm) t2), (Str.ofString "has_kind", .bool hk), (Str.ofString "letter", .str (mkS (letL j)) t1), (Str.ofString "deal", .ref d)] m₀) (fun CC hCC => ?_) ?_
  · ((repeat' (first | (k_unfold; (try dsimp only)) | (((fail_if_success (with_reducible show wpAny _ _ (eval (Expr.ListComp _ _ _ _) _) _ _ _)); (fail_if_success (with_reducible show wpAny _ _ (exec (Stmt.While _ _ _ _) _) _ _ _)); (fail_if_success (with_reducible show wpAny _ _ (exec (Stmt.For _ _ _ _ _) _) _ _ _)); (fail_if_success (with_reducible show wpAny _ _ (exec (Stmt.Assign [Expr.Name _ _] (Expr.ListComp _ _ _ _) _) _) _ _ _)); (fail_if_success (with_reducible show wpAny _ _ (pyIter _) _ _ _)); (fail_if_success (with_reducible show wpAny _ _ (call (Value.type "range") _ _) _ _ _)); (fail_if_success (with_reducible show wpAny _ _ (call (Value.type "zip") _ _) _ _ _))); walk1) | (((fail_if_success (with_reducible show wpAny _ _ (eval (Expr.ListComp _ _ _ _) _) _ _ _)); (fail_if_success (with_reducible show wpAny _ _ (exec (Stmt.While _ _ _ _) _) _ _ _)); (fail_if_success (with_reducible show wpAny _ _ (exec (Stmt.For _ _ _ _ _) _) _ _ _)); (fail_if_success (with_reducible show wpAny _ _ (exec (Stmt.Assign [Expr.Name _ _] (Expr.ListComp _ _ _ _) _) _) _ _ _)); (fail_if_success (with_reducible show wpAny _ _ (pyIter _) _ _ _)); (fail_if_success (with_reducible show wpAny _ _ (call (Value.type "range") _ _) _ _ _)); (fail_if_success (with_reducible show wpAny _ _ (call (Value.type "zip") _ _) _ _ _))); dsimp only; walk1))); (all_goals try dsimp only))
    rename Fr _ _ _ _ => F
    rename News _ _ _ _ => N
    refine part_F (size := 8) F N X T (by k_updF) hb D₁ rfl rfl rfl (by decide) fun nm t' h' tk o₂ hnm F' N' D₂ => ?_
    clear F N
    ((repeat' (first | (k_unfold; (try dsimp only)) | (((fail_if_success (with_reducible show wpAny _ _ (eval (Expr.ListComp _ _ _ _) _) _ _ _)); (fail_if_success (with_reducible show wpAny _ _ (exec (Stmt.While _ _ _ _) _) _ _ _)); (fail_if_success (with_reducible show wpAny _ _ (exec (Stmt.For _ _ _ _ _) _) _ _ _)); (fail_if_success (with_reducible show wpAny _ _ (exec (Stmt.Assign [Expr.Name _ _] (Expr.ListComp _ _ _ _) _) _) _ _ _)); (fail_if_success (with_reducible show wpAny _ _ (pyIter _) _ _ _)); (fail_if_success (with_reducible show wpAny _ _ (call (Value.type "range") _ _) _ _ _)); (fail_if_success (with_reducible show wpAny _ _ (call (Value.type "zip") _ _) _ _ _))); walk1) | (((fail_if_success (with_reducible show wpAny _ _ (eval (Expr.ListComp _ _ _ _) _) _ _ _)); (fail_if_success (with_reducible show wpAny _ _ (exec (Stmt.While _ _ _ _) _) _ _ _)); (fail_if_success (with_reducible show wpAny _ _ (exec (Stmt.For _ _ _ _ _) _) _ _ _)); (fail_if_success (with_reducible show wpAny _ _ (exec (Stmt.Assign [Expr.Name _ _] (Expr.ListComp _ _ _ _) _) _) _ _ _)); (fail_if_success (with_reducible show wpAny _ _ (pyIter _) _ _ _)); (fail_if_success (with_reducible show wpAny _ _ (call (Value.type "range") _ _) _ _ _)); (fail_if_success (with_reducible show wpAny _ _ (call (Value.type "zip") _ _) _ _ _))); dsimp only; walk1))); (all_goals try dsimp only))
    rename Fr _ _ _ _ => F
    rename News _ _ _ _ => N
    refine take_F F N X T (by k_updF) hb D₂ rfl rfl rfl (by decide) (by decide) fun r t' h' tk o₃ r0 r1 F' N' D₃ => ?_
    clear F N
    ((repeat' (first | (k_unfold; (try dsimp only)) | (((fail_if_success (with_reducible show wpAny _ _ (eval (Expr.ListComp _ _ _ _) _) _ _ _)); (fail_if_success (with_reducible show wpAny _ _ (exec (Stmt.While _ _ _ _) _) _ _ _)); (fail_if_success (with_reducible show wpAny _ _ (exec (Stmt.For _ _ _ _ _) _) _ _ _)); (fail_if_success (with_reducible show wpAny _ _ (exec (Stmt.Assign [Expr.Name _ _] (Expr.ListComp _ _ _ _) _) _) _ _ _)); (fail_if_success (with_reducible show wpAny _ _ (pyIter _) _ _ _)); (fail_if_success (with_reducible show wpAny _ _ (call (Value.type "range") _ _) _ _ _)); (fail_if_success (with_reducible show wpAny _ _ (call (Value.type "zip") _ _) _ _ _))); walk1) | (((fail_if_success (with_reducible show wpAny _ _ (eval (Expr.ListComp _ _ _ _) _) _ _ _)); (fail_if_success (with_reducible show wpAny _ _ (exec (Stmt.While _ _ _ _) _) _ _ _)); (fail_if_success (with_reducible show wpAny _ _ (exec (Stmt.For _ _ _ _ _) _) _ _ _)); (fail_if_success (with_reducible show wpAny _ _ (exec (Stmt.Assign [Expr.Name _ _] (Expr.ListComp _ _ _ _) _) _) _ _ _)); (fail_if_success (with_reducible show wpAny _ _ (pyIter _) _ _ _)); (fail_if_success (with_reducible show wpAny _ _ (call (Value.type "range") _ _) _ _ _)); (fail_if_success (with_reducible show wpAny _ _ (call (Value.type "zip") _ _) _ _ _))); dsimp only; walk1))); (all_goals try dsimp only))
    rename Fr _ _ _ _ => F
    rename News _ _ _ _ => N
    exact hCC _ _ _ _ _ F (news_one N (.tail _ (.head _))) ⟨rfl, _, rfl, D₃, nm, _, _, _, _, hnm, withL_of _ _ ⟨rfl, rfl, rfl, rfl, trivial⟩⟩
  rintro _ h' tk m' _ F₁ N₁ ⟨rfl, o₁, rfl, D₁, nm, hk, t1, t2, m₀, hnm, rfl⟩
  clear F N
  ((repeat' (first | (k_unfold; (try dsimp only)) | (((((((fail_if_success (with_reducible show wpAny _ _ (eval (Expr.ListComp _ _ _ _) _) _ _ _)); (fail_if_success (with_reducible show wpAny _ _ (exec (Stmt.While _ _ _ _) _) _ _ _)); (fail_if_success (with_reducible show wpAny _ _ (exec (Stmt.For _ _ _ _ _) _) _ _ _)); (fail_if_success (with_reducible show wpAny _ _ (exec (Stmt.Assign [Expr.Name _ _] (Expr.ListComp _ _ _ _) _) _) _ _ _)); (fail_if_success (with_reducible show wpAny _ _ (pyIter _) _ _ _)); (fail_if_success (with_reducible show wpAny _ _ (call (Value.type "range") _ _) _ _ _)); (fail_if_success (with_reducible show wpAny _ _ (call (Value.type "zip") _ _) _ _ _)))); (fail_if_success (with_reducible show wpAny _ _ (exec (Stmt.If _ _ _ _) _) _ _ _)))); (fail_if_success (with_reducible show wpAny _ _ (exec (Stmt.Assign _ _ _) _) _ _ _))); walk1) | (((((((fail_if_success (with_reducible show wpAny _ _ (eval (Expr.ListComp _ _ _ _) _) _ _ _)); (fail_if_success (with_reducible show wpAny _ _ (exec (Stmt.While _ _ _ _) _) _ _ _)); (fail_if_success (with_reducible show wpAny _ _ (exec (Stmt.For _ _ _ _ _) _) _ _ _)); (fail_if_success (with_reducible show wpAny _ _ (exec (Stmt.Assign [Expr.Name _ _] (Expr.ListComp _ _ _ _) _) _) _ _ _)); (fail_if_success (with_reducible show wpAny _ _ (pyIter _) _ _ _)); (fail_if_success (with_reducible show wpAny _ _ (call (Value.type "range") _ _) _ _ _)); (fail_if_success (with_reducible show wpAny _ _ (call (Value.type "zip") _ _) _ _ _)))); (fail_if_success (with_reducible show wpAny _ _ (exec (Stmt.If _ _ _ _) _) _ _ _)))); (fail_if_success (with_reducible show wpAny _ _ (exec (Stmt.Assign _ _ _) _) _ _ _))); dsimp only; walk1))); (all_goals try dsimp only))
  rename Fr _ _ _ _ => F
  rename News _ _ _ _ => N
  refine cut_at F (fun f m' news' => f = .next ∧ ∃ o₁, news' = [(d, o₁)] ∧ DealO b₀ o₁ ∧ ∃ kd t1 t2 t3 m₀, partOK kd 3 ∧ (hk = false → kd = []) ∧ m' = withL [(Str.ofString "kind", .str (mkS kd) t3), (Str.ofString "name", .str (mkS nm) t2), (Str.ofString "has_kind", .bool hk), (Str.ofString "letter", .str (mkS (letL j)) t1), (Str.ofString "deal", .ref d)] m₀) (fun CC hCC => ?_) ?_
  · cases hk
    · ((repeat' (first | (k_unfold; (try dsimp only)) | (((fail_if_success (with_reducible show wpAny _ _ (eval (Expr.ListComp _ _ _ _) _) _ _ _)); (fail_if_success (with_reducible show wpAny _ _ (exec (Stmt.While _ _ _ _) _) _ _ _)); (fail_if_success (with_reducible show wpAny _ _ (exec (Stmt.For _ _ _ _ _) _) _ _ _)); (fail_if_success (with_reducible show wpAny _ _ (exec (Stmt.Assign [Expr.Name _ _] (Expr.ListComp _ _ _ _) _) _) _ _ _)); (fail_if_success (with_reducible show wpAny _ _ (pyIter _) _ _ _)); (fail_if_success (with_reducible show wpAny _ _ (call (Value.type "range") _ _) _ _ _)); (fail_if_success (with_reducible show wpAny _ _ (call (Value.type "zip") _ _) _ _ _))); walk1) | (((fail_if_success (with_reducible show wpAny _ _ (eval (Expr.ListComp _ _ _ _) _) _ _ _)); (fail_if_success (with_reducible show wpAny _ _ (exec (Stmt.While _ _ _ _) _) _ _ _)); (fail_if_success (with_reducible show wpAny _ _ (exec (Stmt.For _ _ _ _ _) _) _ _ _)); (fail_if_success (with_reducible show wpAny _ _ (exec (Stmt.Assign [Expr.Name _ _] (Expr.ListComp _ _ _ _) _) _) _ _ _)); (fail_if_success (with_reducible show wpAny _ _ (pyIter _) _ _ _)); (fail_if_success (with_reducible show wpAny _ _ (call (Value.type "range") _ _) _ _ _)); (fail_if_success (with_reducible show wpAny _ _ (call (Value.type "zip") _ _) _ _ _))); dsimp only; walk1))); (all_goals try dsimp only))
      rename Fr _ _ _ _ => F
      rename News _ _ _ _ => N
      exact hCC _ _ _ _ _ F N ⟨rfl, _, rfl, D₁, [], _, _, _, _, ⟨(fun c h => nomatch h), Nat.zero_le _⟩, fun _ => rfl, withL_of _ _ ⟨congrArg (fun x => some (Value.str x _)) lit_e, rfl, rfl, rfl, rfl, trivial⟩⟩
    · ((repeat' (first | (k_unfold; (try dsimp only)) | (((fail_if_success (with_reducible show wpAny _ _ (eval (Expr.ListComp _ _ _ _) _) _ _ _)); (fail_if_success (with_reducible show wpAny _ _ (exec (Stmt.While _ _ _ _) _) _ _ _)); (fail_if_success (with_reducible show wpAny _ _ (exec (Stmt.For _ _ _ _ _) _) _ _ _)); (fail_if_success (with_reducible show wpAny _ _ (exec (Stmt.Assign [Expr.Name _ _] (Expr.ListComp _ _ _ _) _) _) _ _ _)); (fail_if_success (with_reducible show wpAny _ _ (pyIter _) _ _ _)); (fail_if_success (with_reducible show wpAny _ _ (call (Value.type "range") _ _) _ _ _)); (fail_if_success (with_reducible show wpAny _ _ (call (Value.type "zip") _ _) _ _ _))); walk1) | (((fail_if_success (with_reducible show wpAny _ _ (eval (Expr.ListComp _ _ _ _) _) _ _ _)); (fail_if_success (with_reducible show wpAny _ _ (exec (Stmt.While _ _ _ _) _) _ _ _)); (fail_if_success (with_reducible show wpAny _ _ (exec (Stmt.For _ _ _ _ _) _) _ _ _)); (fail_if_success (with_reducible show wpAny _ _ (exec (Stmt.Assign [Expr.Name _ _] (Expr.ListComp _ _ _ _) _) _) _ _ _)); (fail_if_success (with_reducible show wpAny _ _ (pyIter _) _ _ _)); (fail_if_success (with_reducible show wpAny _ _ (call (Value.type "range") _ _) _ _ _)); (fail_if_success (with_reducible show wpAny _ _ (call (Value.type "zip") _ _) _ _ _))); dsimp only; walk1))); (all_goals try dsimp only))
      rename Fr _ _ _ _ => F
      rename News _ _ _ _ => N
      refine part_F (size := 3) F N X T (by k_updF) hb D₁ rfl rfl rfl (by decide) fun kd t' h' tk o₂ hkd F' N' D₂ => ?_
      clear F N
      ((repeat' (first | (k_unfold; (try dsimp only)) | (((fail_if_success (with_reducible show wpAny _ _ (eval (Expr.ListComp _ _ _ _) _) _ _ _)); (fail_if_success (with_reducible show wpAny _ _ (exec (Stmt.While _ _ _ _) _) _ _ _)); (fail_if_success (with_reducible show wpAny _ _ (exec (Stmt.For _ _ _ _ _) _) _ _ _)); (fail_if_success (with_reducible show wpAny _ _ (exec (Stmt.Assign [Expr.Name _ _] (Expr.ListComp _ _ _ _) _) _) _ _ _)); (fail_if_success (with_reducible show wpAny _ _ (pyIter _) _ _ _)); (fail_if_success (with_reducible show wpAny _ _ (call (Value.type "range") _ _) _ _ _)); (fail_if_success (with_reducible show wpAny _ _ (call (Value.type "zip") _ _) _ _ _))); walk1) | (((fail_if_success (with_reducible show wpAny _ _ (eval (Expr.ListComp _ _ _ _) _) _ _ _)); (fail_if_success (with_reducible show wpAny _ _ (exec (Stmt.While _ _ _ _) _) _ _ _)); (fail_if_success (with_reducible show wpAny _ _ (exec (Stmt.For _ _ _ _ _) _) _ _ _)); (fail_if_success (with_reducible show wpAny _ _ (exec (Stmt.Assign [Expr.Name _ _] (Expr.ListComp _ _ _ _) _) _) _ _ _)); (fail_if_success (with_reducible show wpAny _ _ (pyIter _) _ _ _)); (fail_if_success (with_reducible show wpAny _ _ (call (Value.type "range") _ _) _ _ _)); (fail_if_success (with_reducible show wpAny _ _ (call (Value.type "zip") _ _) _ _ _))); dsimp only; walk1))); (all_goals try dsimp only))
      rename Fr _ _ _ _ => F
      rename News _ _ _ _ => N
      exact hCC _ _ _ _ _ F N ⟨rfl, _, rfl, D₂, kd, _, _, _, _, hkd, (fun h => nomatch h), withL_of _ _ ⟨rfl, rfl, rfl, rfl, rfl, trivial⟩⟩
  rintro _ h' tk m' _ F₁ N₁ ⟨rfl, o₁, rfl, D₁, kd, t1, t2, t3, m₀, hkd, hkf, rfl⟩
  clear F N
  have hnl := hnm.2
  have hkl := hkd.2
  ((repeat' (first | (k_unfold; (try dsimp only)) | (((((((fail_if_success (with_reducible show wpAny _ _ (eval (Expr.ListComp _ _ _ _) _) _ _ _)); (fail_if_success (with_reducible show wpAny _ _ (exec (Stmt.While _ _ _ _) _) _ _ _)); (fail_if_success (with_reducible show wpAny _ _ (exec (Stmt.For _ _ _ _ _) _) _ _ _)); (fail_if_success (with_reducible show wpAny _ _ (exec (Stmt.Assign [Expr.Name _ _] (Expr.ListComp _ _ _ _) _) _) _ _ _)); (fail_if_success (with_reducible show wpAny _ _ (pyIter _) _ _ _)); (fail_if_success (with_reducible show wpAny _ _ (call (Value.type "range") _ _) _ _ _)); (fail_if_success (with_reducible show wpAny _ _ (call (Value.type "zip") _ _) _ _ _)))); (fail_if_success (with_reducible show wpAny _ _ (exec (Stmt.If _ _ _ _) _) _ _ _)))); (fail_if_success (with_reducible show wpAny _ _ (exec (Stmt.Assign _ _ _) _) _ _ _))); walk1) | (((((((fail_if_success (with_reducible show wpAny _ _ (eval (Expr.ListComp _ _ _ _) _) _ _ _)); (fail_if_success (with_reducible show wpAny _ _ (exec (Stmt.While _ _ _ _) _) _ _ _)); (fail_if_success (with_reducible show wpAny _ _ (exec (Stmt.For _ _ _ _ _) _) _ _ _)); (fail_if_success (with_reducible show wpAny _ _ (exec (Stmt.Assign [Expr.Name _ _] (Expr.ListComp _ _ _ _) _) _) _ _ _)); (fail_if_success (with_reducible show wpAny _ _ (pyIter _) _ _ _)); (fail_if_success (with_reducible show wpAny _ _ (call (Value.type "range") _ _) _ _ _)); (fail_if_success (with_reducible show wpAny _ _ (call (Value.type "zip") _ _) _ _ _)))); (fail_if_success (with_reducible show wpAny _ _ (exec (Stmt.If _ _ _ _) _) _ _ _)))); (fail_if_success (with_reducible show wpAny _ _ (exec (Stmt.Assign _ _ _) _) _ _ _))); dsimp only; walk1))); (all_goals try dsimp only))
  rename Fr _ _ _ _ => F
  rename News _ _ _ _ => N
  refine cut_at F (fun f m' news' => f = .next ∧ news' = [(d, o₁)] ∧ ∃ x t1 t2 t3 t4 m₀, x = mkS (preL j ++ nm ++ (if hk then 46 :: kd else [])) ∧ m' = withL [(Str.ofString "text", .str x t4), (Str.ofString "kind", .str (mkS kd) t3), (Str.ofString "name", .str (mkS nm) t2), (Str.ofString "letter", .str (mkS (letL j)) t1), (Str.ofString "deal", .ref d)] m₀) (fun CC hCC => ?_) ?_
  · have hj4 : j = 0 ∨ j = 1 ∨ j = 2 ∨ j = 3 := by omega
    rcases hj4 with rfl | rfl | rfl | rfl
    · rw [show mkS (letL 0) = Str.ofString "" from lit_e.symm] at F
      cases hk
      all_goals ((repeat' (first | (k_unfold; (try dsimp only)) | (((fail_if_success (with_reducible show wpAny _ _ (eval (Expr.ListComp _ _ _ _) _) _ _ _)); (fail_if_success (with_reducible show wpAny _ _ (exec (Stmt.While _ _ _ _) _) _ _ _)); (fail_if_success (with_reducible show wpAny _ _ (exec (Stmt.For _ _ _ _ _) _) _ _ _)); (fail_if_success (with_reducible show wpAny _ _ (exec (Stmt.Assign [Expr.Name _ _] (Expr.ListComp _ _ _ _) _) _) _ _ _)); (fail_if_success (with_reducible show wpAny _ _ (pyIter _) _ _ _)); (fail_if_success (with_reducible show wpAny _ _ (call (Value.type "range") _ _) _ _ _)); (fail_if_success (with_reducible show wpAny _ _ (call (Value.type "zip") _ _) _ _ _))); walk1) | (((fail_if_success (with_reducible show wpAny _ _ (eval (Expr.ListComp _ _ _ _) _) _ _ _)); (fail_if_success (with_reducible show wpAny _ _ (exec (Stmt.While _ _ _ _) _) _ _ _)); (fail_if_success (with_reducible show wpAny _ _ (exec (Stmt.For _ _ _ _ _) _) _ _ _)); (fail_if_success (with_reducible show wpAny _ _ (exec (Stmt.Assign [Expr.Name _ _] (Expr.ListComp _ _ _ _) _) _) _ _ _)); (fail_if_success (with_reducible show wpAny _ _ (pyIter _) _ _ _)); (fail_if_success (with_reducible show wpAny _ _ (call (Value.type "range") _ _) _ _ _)); (fail_if_success (with_reducible show wpAny _ _ (call (Value.type "zip") _ _) _ _ _))); dsimp only; walk1))); (all_goals try dsimp only))
      all_goals rename Fr _ _ _ _ => F
      all_goals rename News _ _ _ _ => N
      all_goals exact hCC _ _ _ _ _ F N ⟨rfl, rfl, _, _, _, _, _, _, rfl, withL_of _ _ ⟨rfl, rfl, rfl, congrArg (fun x => some (Value.str x _)) lit_e, rfl, trivial⟩⟩
    · rw [show mkS (letL 1) = Str.ofString "a" from lit_a.symm] at F
      cases hk
      all_goals ((repeat' (first | (k_unfold; (try dsimp only)) | (((fail_if_success (with_reducible show wpAny _ _ (eval (Expr.ListComp _ _ _ _) _) _ _ _)); (fail_if_success (with_reducible show wpAny _ _ (exec (Stmt.While _ _ _ _) _) _ _ _)); (fail_if_success (with_reducible show wpAny _ _ (exec (Stmt.For _ _ _ _ _) _) _ _ _)); (fail_if_success (with_reducible show wpAny _ _ (exec (Stmt.Assign [Expr.Name _ _] (Expr.ListComp _ _ _ _) _) _) _ _ _)); (fail_if_success (with_reducible show wpAny _ _ (pyIter _) _ _ _)); (fail_if_success (with_reducible show wpAny _ _ (call (Value.type "range") _ _) _ _ _)); (fail_if_success (with_reducible show wpAny _ _ (call (Value.type "zip") _ _) _ _ _))); walk1) | (((fail_if_success (with_reducible show wpAny _ _ (eval (Expr.ListComp _ _ _ _) _) _ _ _)); (fail_if_success (with_reducible show wpAny _ _ (exec (Stmt.While _ _ _ _) _) _ _ _)); (fail_if_success (with_reducible show wpAny _ _ (exec (Stmt.For _ _ _ _ _) _) _ _ _)); (fail_if_success (with_reducible show wpAny _ _ (exec (Stmt.Assign [Expr.Name _ _] (Expr.ListComp _ _ _ _) _) _) _ _ _)); (fail_if_success (with_reducible show wpAny _ _ (pyIter _) _ _ _)); (fail_if_success (with_reducible show wpAny _ _ (call (Value.type "range") _ _) _ _ _)); (fail_if_success (with_reducible show wpAny _ _ (call (Value.type "zip") _ _) _ _ _))); dsimp only; walk1))); (all_goals try dsimp only))
      all_goals rename Fr _ _ _ _ => F
      all_goals rename News _ _ _ _ => N
      all_goals exact hCC _ _ _ _ _ F N ⟨rfl, rfl, _, _, _, _, _, _, rfl, withL_of _ _ ⟨rfl, rfl, rfl, congrArg (fun x => some (Value.str x _)) lit_a, rfl, trivial⟩⟩
    · rw [show mkS (letL 2) = Str.ofString "P" from lit_P.symm] at F
      cases hk
      all_goals ((repeat' (first | (k_unfold; (try dsimp only)) | (((fail_if_success (with_reducible show wpAny _ _ (eval (Expr.ListComp _ _ _ _) _) _ _ _)); (fail_if_success (with_reducible show wpAny _ _ (exec (Stmt.While _ _ _ _) _) _ _ _)); (fail_if_success (with_reducible show wpAny _ _ (exec (Stmt.For _ _ _ _ _) _) _ _ _)); (fail_if_success (with_reducible show wpAny _ _ (exec (Stmt.Assign [Expr.Name _ _] (Expr.ListComp _ _ _ _) _) _) _ _ _)); (fail_if_success (with_reducible show wpAny _ _ (pyIter _) _ _ _)); (fail_if_success (with_reducible show wpAny _ _ (call (Value.type "range") _ _) _ _ _)); (fail_if_success (with_reducible show wpAny _ _ (call (Value.type "zip") _ _) _ _ _))); walk1) | (((fail_if_success (with_reducible show wpAny _ _ (eval (Expr.ListComp _ _ _ _) _) _ _ _)); (fail_if_success (with_reducible show wpAny _ _ (exec (Stmt.While _ _ _ _) _) _ _ _)); (fail_if_success (with_reducible show wpAny _ _ (exec (Stmt.For _ _ _ _ _) _) _ _ _)); (fail_if_success (with_reducible show wpAny _ _ (exec (Stmt.Assign [Expr.Name _ _] (Expr.ListComp _ _ _ _) _) _) _ _ _)); (fail_if_success (with_reducible show wpAny _ _ (pyIter _) _ _ _)); (fail_if_success (with_reducible show wpAny _ _ (call (Value.type "range") _ _) _ _ _)); (fail_if_success (with_reducible show wpAny _ _ (call (Value.type "zip") _ _) _ _ _))); dsimp only; walk1))); (all_goals try dsimp only))
      all_goals rename Fr _ _ _ _ => F
      all_goals rename News _ _ _ _ => N
      all_goals exact hCC _ _ _ _ _ F N ⟨rfl, rfl, _, _, _, _, _, _, rfl, withL_of _ _ ⟨rfl, rfl, rfl, congrArg (fun x => some (Value.str x _)) lit_P, rfl, trivial⟩⟩
    · rw [show mkS (letL 3) = Str.ofString "q" from lit_qq.symm] at F
      cases hk
      all_goals ((repeat' (first | (k_unfold; (try dsimp only)) | (((fail_if_success (with_reducible show wpAny _ _ (eval (Expr.ListComp _ _ _ _) _) _ _ _)); (fail_if_success (with_reducible show wpAny _ _ (exec (Stmt.While _ _ _ _) _) _ _ _)); (fail_if_success (with_reducible show wpAny _ _ (exec (Stmt.For _ _ _ _ _) _) _ _ _)); (fail_if_success (with_reducible show wpAny _ _ (exec (Stmt.Assign [Expr.Name _ _] (Expr.ListComp _ _ _ _) _) _) _ _ _)); (fail_if_success (with_reducible show wpAny _ _ (pyIter _) _ _ _)); (fail_if_success (with_reducible show wpAny _ _ (call (Value.type "range") _ _) _ _ _)); (fail_if_success (with_reducible show wpAny _ _ (call (Value.type "zip") _ _) _ _ _))); walk1) | (((fail_if_success (with_reducible show wpAny _ _ (eval (Expr.ListComp _ _ _ _) _) _ _ _)); (fail_if_success (with_reducible show wpAny _ _ (exec (Stmt.While _ _ _ _) _) _ _ _)); (fail_if_success (with_reducible show wpAny _ _ (exec (Stmt.For _ _ _ _ _) _) _ _ _)); (fail_if_success (with_reducible show wpAny _ _ (exec (Stmt.Assign [Expr.Name _ _] (Expr.ListComp _ _ _ _) _) _) _ _ _)); (fail_if_success (with_reducible show wpAny _ _ (pyIter _) _ _ _)); (fail_if_success (with_reducible show wpAny _ _ (call (Value.type "range") _ _) _ _ _)); (fail_if_success (with_reducible show wpAny _ _ (call (Value.type "zip") _ _) _ _ _))); dsimp only; walk1))); (all_goals try dsimp only))
      all_goals rename Fr _ _ _ _ => F
      all_goals rename News _ _ _ _ => N
      all_goals exact hCC _ _ _ _ _ F N ⟨rfl, rfl, _, _, _, _, _, _, rfl, withL_of _ _ ⟨rfl, rfl, rfl, congrArg (fun x => some (Value.str x _)) lit_qq, rfl, trivial⟩⟩
  rintro _ h' tk m' _ F₁ N₁ ⟨rfl, rfl, x, t1, t2, t3, t4, m₀, rfl, rfl⟩
  clear F N
  have hj4 : j = 0 ∨ j = 1 ∨ j = 2 ∨ j = 3 := by omega
  rcases hj4 with rfl | rfl | rfl | rfl
  · rw [show mkS (letL 0) = Str.ofString "" from lit_e.symm] at F₁
    dsimp only
    ((repeat' (first | (k_unfold; (try dsimp only)) | (((((fail_if_success (with_reducible show wpAny _ _ (eval (Expr.ListComp _ _ _ _) _) _ _ _)); (fail_if_success (with_reducible show wpAny _ _ (exec (Stmt.While _ _ _ _) _) _ _ _)); (fail_if_success (with_reducible show wpAny _ _ (exec (Stmt.For _ _ _ _ _) _) _ _ _)); (fail_if_success (with_reducible show wpAny _ _ (exec (Stmt.Assign [Expr.Name _ _] (Expr.ListComp _ _ _ _) _) _) _ _ _)); (fail_if_success (with_reducible show wpAny _ _ (pyIter _) _ _ _)); (fail_if_success (with_reducible show wpAny _ _ (call (Value.type "range") _ _) _ _ _)); (fail_if_success (with_reducible show wpAny _ _ (call (Value.type "zip") _ _) _ _ _)))); (fail_if_success (with_reducible show wpAny _ _ (call (Value.ref 156) _) _ _ _)); (fail_if_success (with_reducible show wpAny _ _ (subscriptTail _ _ (Value.ref _) (Value.str _ _)) _ _ _))); walk1) | (((((fail_if_success (with_reducible show wpAny _ _ (eval (Expr.ListComp _ _ _ _) _) _ _ _)); (fail_if_success (with_reducible show wpAny _ _ (exec (Stmt.While _ _ _ _) _) _ _ _)); (fail_if_success (with_reducible show wpAny _ _ (exec (Stmt.For _ _ _ _ _) _) _ _ _)); (fail_if_success (with_reducible show wpAny _ _ (exec (Stmt.Assign [Expr.Name _ _] (Expr.ListComp _ _ _ _) _) _) _ _ _)); (fail_if_success (with_reducible show wpAny _ _ (pyIter _) _ _ _)); (fail_if_success (with_reducible show wpAny _ _ (call (Value.type "range") _ _) _ _ _)); (fail_if_success (with_reducible show wpAny _ _ (call (Value.type "zip") _ _) _ _ _)))); (fail_if_success (with_reducible show wpAny _ _ (call (Value.ref 156) _) _ _ _)); (fail_if_success (with_reducible show wpAny _ _ (subscriptTail _ _ (Value.ref _) (Value.str _ _)) _ _ _))); dsimp only; walk1))); (all_goals try dsimp only))
    dsimp only at *
    rename Fr _ _ _ _ => F
    rename News _ _ _ _ => N
    rename Obj.IsDictOf _ _ _ => hd'
    refine kdt_tail (knd := PySem.strKind _ _) N (.head _) hd' ?_
    refine kdt_getItem (knd := PySem.strKind _ _) N (.head _) hd' (strKind_is _ _ _ _) (by rfl) ?_
    have N₀ := news_one N (.tail _ (.head _))
    clear hd' F₁ N
    have N := N₀
    clear N₀
    dsimp only
    ((repeat' (first | (k_unfold; (try dsimp only)) | (((((fail_if_success (with_reducible show wpAny _ _ (eval (Expr.ListComp _ _ _ _) _) _ _ _)); (fail_if_success (with_reducible show wpAny _ _ (exec (Stmt.While _ _ _ _) _) _ _ _)); (fail_if_success (with_reducible show wpAny _ _ (exec (Stmt.For _ _ _ _ _) _) _ _ _)); (fail_if_success (with_reducible show wpAny _ _ (exec (Stmt.Assign [Expr.Name _ _] (Expr.ListComp _ _ _ _) _) _) _ _ _)); (fail_if_success (with_reducible show wpAny _ _ (pyIter _) _ _ _)); (fail_if_success (with_reducible show wpAny _ _ (call (Value.type "range") _ _) _ _ _)); (fail_if_success (with_reducible show wpAny _ _ (call (Value.type "zip") _ _) _ _ _)))); (fail_if_success (with_reducible show wpAny _ _ (call (Value.ref 156) _) _ _ _)); (fail_if_success (with_reducible show wpAny _ _ (subscriptTail _ _ (Value.ref _) (Value.str _ _)) _ _ _))); walk1) | (((((fail_if_success (with_reducible show wpAny _ _ (eval (Expr.ListComp _ _ _ _) _) _ _ _)); (fail_if_success (with_reducible show wpAny _ _ (exec (Stmt.While _ _ _ _) _) _ _ _)); (fail_if_success (with_reducible show wpAny _ _ (exec (Stmt.For _ _ _ _ _) _) _ _ _)); (fail_if_success (with_reducible show wpAny _ _ (exec (Stmt.Assign [Expr.Name _ _] (Expr.ListComp _ _ _ _) _) _) _ _ _)); (fail_if_success (with_reducible show wpAny _ _ (pyIter _) _ _ _)); (fail_if_success (with_reducible show wpAny _ _ (call (Value.type "range") _ _) _ _ _)); (fail_if_success (with_reducible show wpAny _ _ (call (Value.type "zip") _ _) _ _ _)))); (fail_if_success (with_reducible show wpAny _ _ (call (Value.ref 156) _) _ _ _)); (fail_if_success (with_reducible show wpAny _ _ (subscriptTail _ _ (Value.ref _) (Value.str _ _)) _ _ _))); dsimp only; walk1))); (all_goals try dsimp only))
    rename Fr _ _ _ _ => F
    rename News _ _ _ _ => N
    refine wp_top (filledL_P (l := nm) (sz := 8) (X.keeps F.keep) (T.keeps F.keep) rfl (part_lt hnm) (by omega) (by decide) fun l₁ vs₁ n₁ h₁ tk₁ st₁ hD₁ hl₁ hi₁ => ?_) rfl rfl rfl
    obtain ⟨F', N'⟩ := grown_of F N st₁
    have N' := news_fresh F N' hD₁ hl₁
    clear F N
    ((repeat' (first | (k_unfold; (try dsimp only)) | (((((fail_if_success (with_reducible show wpAny _ _ (eval (Expr.ListComp _ _ _ _) _) _ _ _)); (fail_if_success (with_reducible show wpAny _ _ (exec (Stmt.While _ _ _ _) _) _ _ _)); (fail_if_success (with_reducible show wpAny _ _ (exec (Stmt.For _ _ _ _ _) _) _ _ _)); (fail_if_success (with_reducible show wpAny _ _ (exec (Stmt.Assign [Expr.Name _ _] (Expr.ListComp _ _ _ _) _) _) _ _ _)); (fail_if_success (with_reducible show wpAny _ _ (pyIter _) _ _ _)); (fail_if_success (with_reducible show wpAny _ _ (call (Value.type "range") _ _) _ _ _)); (fail_if_success (with_reducible show wpAny _ _ (call (Value.type "zip") _ _) _ _ _)))); (fail_if_success (with_reducible show wpAny _ _ (call (Value.ref 156) _) _ _ _)); (fail_if_success (with_reducible show wpAny _ _ (subscriptTail _ _ (Value.ref _) (Value.str _ _)) _ _ _))); walk1) | (((((fail_if_success (with_reducible show wpAny _ _ (eval (Expr.ListComp _ _ _ _) _) _ _ _)); (fail_if_success (with_reducible show wpAny _ _ (exec (Stmt.While _ _ _ _) _) _ _ _)); (fail_if_success (with_reducible show wpAny _ _ (exec (Stmt.For _ _ _ _ _) _) _ _ _)); (fail_if_success (with_reducible show wpAny _ _ (exec (Stmt.Assign [Expr.Name _ _] (Expr.ListComp _ _ _ _) _) _) _ _ _)); (fail_if_success (with_reducible show wpAny _ _ (pyIter _) _ _ _)); (fail_if_success (with_reducible show wpAny _ _ (call (Value.type "range") _ _) _ _ _)); (fail_if_success (with_reducible show wpAny _ _ (call (Value.type "zip") _ _) _ _ _)))); (fail_if_success (with_reducible show wpAny _ _ (call (Value.ref 156) _) _ _ _)); (fail_if_success (with_reducible show wpAny _ _ (subscriptTail _ _ (Value.ref _) (Value.str _ _)) _ _ _))); dsimp only; walk1))); (all_goals try dsimp only))
    rename Fr _ _ _ _ => F
    rename News _ _ _ _ => N
    refine wp_top (filledL_P (l := kd) (sz := 3) (X.keeps F.keep) (T.keeps F.keep) rfl (part_lt hkd) (by omega) (by decide) fun l₂ vs₂ n₂ h₂ tk₂ st₂ hD₂ hl₂ hi₂ => ?_) rfl rfl rfl
    obtain ⟨F', N'⟩ := grown_of F N st₂
    have N' := news_fresh F N' hD₂ hl₂
    clear F N
    have s1 : vs₁.length ≤ 100 := by rw [hi₁.length]; exact fill_len _ _ (by decide)
    have s2 : vs₂.length ≤ 100 := by rw [hi₂.length]; exact fill_len _ _ (by decide)
    ((repeat' (first | (k_unfold; (try dsimp only)) | (((fail_if_success (with_reducible show wpAny _ _ (eval (Expr.ListComp _ _ _ _) _) _ _ _)); (fail_if_success (with_reducible show wpAny _ _ (exec (Stmt.While _ _ _ _) _) _ _ _)); (fail_if_success (with_reducible show wpAny _ _ (exec (Stmt.For _ _ _ _ _) _) _ _ _)); (fail_if_success (with_reducible show wpAny _ _ (exec (Stmt.Assign [Expr.Name _ _] (Expr.ListComp _ _ _ _) _) _) _ _ _)); (fail_if_success (with_reducible show wpAny _ _ (pyIter _) _ _ _)); (fail_if_success (with_reducible show wpAny _ _ (call (Value.type "range") _ _) _ _ _)); (fail_if_success (with_reducible show wpAny _ _ (call (Value.type "zip") _ _) _ _ _))); walk1) | (((fail_if_success (with_reducible show wpAny _ _ (eval (Expr.ListComp _ _ _ _) _) _ _ _)); (fail_if_success (with_reducible show wpAny _ _ (exec (Stmt.While _ _ _ _) _) _ _ _)); (fail_if_success (with_reducible show wpAny _ _ (exec (Stmt.For _ _ _ _ _) _) _ _ _)); (fail_if_success (with_reducible show wpAny _ _ (exec (Stmt.Assign [Expr.Name _ _] (Expr.ListComp _ _ _ _) _) _) _ _ _)); (fail_if_success (with_reducible show wpAny _ _ (pyIter _) _ _ _)); (fail_if_success (with_reducible show wpAny _ _ (call (Value.type "range") _ _) _ _ _)); (fail_if_success (with_reducible show wpAny _ _ (call (Value.type "zip") _ _) _ _ _))); dsimp only; walk1))); (all_goals try dsimp only))
    rename Fr _ _ _ _ => F
    rename News _ _ _ _ => N
    exact ret _ _ 0 _ _ _ _ _ _ _ _ _ ⟨nm, kd, hk, by decide, hnm, hkd, hkf, rfl, rfl⟩ F.keep (N _ (.tail _ (.tail _ (.tail _ (.tail _ (.head _)))))).1 D₁ (N _ (.head _)).2.2 (N _ (.tail _ (.head _))).2.2 (N _ (.head _)).1 (N _ (.tail _ (.head _))).1 (hi₁.append hi₂)
  · rw [show mkS (letL 1) = Str.ofString "a" from lit_a.symm] at F₁
    dsimp only
    ((repeat' (first | (k_unfold; (try dsimp only)) | (((((fail_if_success (with_reducible show wpAny _ _ (eval (Expr.ListComp _ _ _ _) _) _ _ _)); (fail_if_success (with_reducible show wpAny _ _ (exec (Stmt.While _ _ _ _) _) _ _ _)); (fail_if_success (with_reducible show wpAny _ _ (exec (Stmt.For _ _ _ _ _) _) _ _ _)); (fail_if_success (with_reducible show wpAny _ _ (exec (Stmt.Assign [Expr.Name _ _] (Expr.ListComp _ _ _ _) _) _) _ _ _)); (fail_if_success (with_reducible show wpAny _ _ (pyIter _) _ _ _)); (fail_if_success (with_reducible show wpAny _ _ (call (Value.type "range") _ _) _ _ _)); (fail_if_success (with_reducible show wpAny _ _ (call (Value.type "zip") _ _) _ _ _)))); (fail_if_success (with_reducible show wpAny _ _ (call (Value.ref 156) _) _ _ _)); (fail_if_success (with_reducible show wpAny _ _ (subscriptTail _ _ (Value.ref _) (Value.str _ _)) _ _ _))); walk1) | (((((fail_if_success (with_reducible show wpAny _ _ (eval (Expr.ListComp _ _ _ _) _) _ _ _)); (fail_if_success (with_reducible show wpAny _ _ (exec (Stmt.While _ _ _ _) _) _ _ _)); (fail_if_success (with_reducible show wpAny _ _ (exec (Stmt.For _ _ _ _ _) _) _ _ _)); (fail_if_success (with_reducible show wpAny _ _ (exec (Stmt.Assign [Expr.Name _ _] (Expr.ListComp _ _ _ _) _) _) _ _ _)); (fail_if_success (with_reducible show wpAny _ _ (pyIter _) _ _ _)); (fail_if_success (with_reducible show wpAny _ _ (call (Value.type "range") _ _) _ _ _)); (fail_if_success (with_reducible show wpAny _ _ (call (Value.type "zip") _ _) _ _ _)))); (fail_if_success (with_reducible show wpAny _ _ (call (Value.ref 156) _) _ _ _)); (fail_if_success (with_reducible show wpAny _ _ (subscriptTail _ _ (Value.ref _) (Value.str _ _)) _ _ _))); dsimp only; walk1))); (all_goals try dsimp only))
    dsimp only at *
    rename Fr _ _ _ _ => F
    rename News _ _ _ _ => N
    rename Obj.IsDictOf _ _ _ => hd'
    refine kdt_tail (knd := PySem.strKind _ _) N (.head _) hd' ?_
    refine kdt_getItem (knd := PySem.strKind _ _) N (.head _) hd' (strKind_is _ _ _ _) (by rfl) ?_
    have N₀ := news_one N (.tail _ (.head _))
    clear hd' F₁ N
    have N := N₀
    clear N₀
    dsimp only
    ((repeat' (first | (k_unfold; (try dsimp only)) | (((((fail_if_success (with_reducible show wpAny _ _ (eval (Expr.ListComp _ _ _ _) _) _ _ _)); (fail_if_success (with_reducible show wpAny _ _ (exec (Stmt.While _ _ _ _) _) _ _ _)); (fail_if_success (with_reducible show wpAny _ _ (exec (Stmt.For _ _ _ _ _) _) _ _ _)); (fail_if_success (with_reducible show wpAny _ _ (exec (Stmt.Assign [Expr.Name _ _] (Expr.ListComp _ _ _ _) _) _) _ _ _)); (fail_if_success (with_reducible show wpAny _ _ (pyIter _) _ _ _)); (fail_if_success (with_reducible show wpAny _ _ (call (Value.type "range") _ _) _ _ _)); (fail_if_success (with_reducible show wpAny _ _ (call (Value.type "zip") _ _) _ _ _)))); (fail_if_success (with_reducible show wpAny _ _ (call (Value.ref 156) _) _ _ _)); (fail_if_success (with_reducible show wpAny _ _ (subscriptTail _ _ (Value.ref _) (Value.str _ _)) _ _ _))); walk1) | (((((fail_if_success (with_reducible show wpAny _ _ (eval (Expr.ListComp _ _ _ _) _) _ _ _)); (fail_if_success (with_reducible show wpAny _ _ (exec (Stmt.While _ _ _ _) _) _ _ _)); (fail_if_success (with_reducible show wpAny _ _ (exec (Stmt.For _ _ _ _ _) _) _ _ _)); (fail_if_success (with_reducible show wpAny _ _ (exec (Stmt.Assign [Expr.Name _ _] (Expr.ListComp _ _ _ _) _) _) _ _ _)); (fail_if_success (with_reducible show wpAny _ _ (pyIter _) _ _ _)); (fail_if_success (with_reducible show wpAny _ _ (call (Value.type "range") _ _) _ _ _)); (fail_if_success (with_reducible show wpAny _ _ (call (Value.type "zip") _ _) _ _ _)))); (fail_if_success (with_reducible show wpAny _ _ (call (Value.ref 156) _) _ _ _)); (fail_if_success (with_reducible show wpAny _ _ (subscriptTail _ _ (Value.ref _) (Value.str _ _)) _ _ _))); dsimp only; walk1))); (all_goals try dsimp only))
    rename Fr _ _ _ _ => F
    rename News _ _ _ _ => N
    refine wp_top (filledL_P (l := nm) (sz := 8) (X.keeps F.keep) (T.keeps F.keep) rfl (part_lt hnm) (by omega) (by decide) fun l₁ vs₁ n₁ h₁ tk₁ st₁ hD₁ hl₁ hi₁ => ?_) rfl rfl rfl
    obtain ⟨F', N'⟩ := grown_of F N st₁
    have N' := news_fresh F N' hD₁ hl₁
    clear F N
    ((repeat' (first | (k_unfold; (try dsimp only)) | (((((fail_if_success (with_reducible show wpAny _ _ (eval (Expr.ListComp _ _ _ _) _) _ _ _)); (fail_if_success (with_reducible show wpAny _ _ (exec (Stmt.While _ _ _ _) _) _ _ _)); (fail_if_success (with_reducible show wpAny _ _ (exec (Stmt.For _ _ _ _ _) _) _ _ _)); (fail_if_success (with_reducible show wpAny _ _ (exec (Stmt.Assign [Expr.Name _ _] (Expr.ListComp _ _ _ _) _) _) _ _ _)); (fail_if_success (with_reducible show wpAny _ _ (pyIter _) _ _ _)); (fail_if_success (with_reducible show wpAny _ _ (call (Value.type "range") _ _) _ _ _)); (fail_if_success (with_reducible show wpAny _ _ (call (Value.type "zip") _ _) _ _ _)))); (fail_if_success (with_reducible show wpAny _ _ (call (Value.ref 156) _) _ _ _)); (fail_if_success (with_reducible show wpAny _ _ (subscriptTail _ _ (Value.ref _) (Value.str _ _)) _ _ _))); walk1) | (((((fail_if_success (with_reducible show wpAny _ _ (eval (Expr.ListComp _ _ _ _) _) _ _ _)); (fail_if_success (with_reducible show wpAny _ _ (exec (Stmt.While _ _ _ _) _) _ _ _)); (fail_if_success (with_reducible show wpAny _ _ (exec (Stmt.For _ _ _ _ _) _) _ _ _)); (fail_if_success (with_reducible show wpAny _ _ (exec (Stmt.Assign [Expr.Name _ _] (Expr.ListComp _ _ _ _) _) _) _ _ _)); (fail_if_success (with_reducible show wpAny _ _ (pyIter _) _ _ _)); (fail_if_success (with_reducible show wpAny _ _ (call (Value.type "range") _ _) _ _ _)); (fail_if_success (with_reducible show wpAny _ _ (call (Value.type "zip") _ _) _ _ _)))); (fail_if_success (with_reducible show wpAny _ _ (call (Value.ref 156) _) _ _ _)); (fail_if_success (with_reducible show wpAny _ _ (subscriptTail _ _ (Value.ref _) (Value.str _ _)) _ _ _))); dsimp only; walk1))); (all_goals try dsimp only))
    rename Fr _ _ _ _ => F
    rename News _ _ _ _ => N
    refine wp_top (filledL_P (l := kd) (sz := 3) (X.keeps F.keep) (T.keeps F.keep) rfl (part_lt hkd) (by omega) (by decide) fun l₂ vs₂ n₂ h₂ tk₂ st₂ hD₂ hl₂ hi₂ => ?_) rfl rfl rfl
    obtain ⟨F', N'⟩ := grown_of F N st₂
    have N' := news_fresh F N' hD₂ hl₂
    clear F N
    have s1 : vs₁.length ≤ 100 := by rw [hi₁.length]; exact fill_len _ _ (by decide)
    have s2 : vs₂.length ≤ 100 := by rw [hi₂.length]; exact fill_len _ _ (by decide)
    ((repeat' (first | (k_unfold; (try dsimp only)) | (((fail_if_success (with_reducible show wpAny _ _ (eval (Expr.ListComp _ _ _ _) _) _ _ _)); (fail_if_success (with_reducible show wpAny _ _ (exec (Stmt.While _ _ _ _) _) _ _ _)); (fail_if_success (with_reducible show wpAny _ _ (exec (Stmt.For _ _ _ _ _) _) _ _ _)); (fail_if_success (with_reducible show wpAny _ _ (exec (Stmt.Assign [Expr.Name _ _] (Expr.ListComp _ _ _ _) _) _) _ _ _)); (fail_if_success (with_reducible show wpAny _ _ (pyIter _) _ _ _)); (fail_if_success (with_reducible show wpAny _ _ (call (Value.type "range") _ _) _ _ _)); (fail_if_success (with_reducible show wpAny _ _ (call (Value.type "zip") _ _) _ _ _))); walk1) | (((fail_if_success (with_reducible show wpAny _ _ (eval (Expr.ListComp _ _ _ _) _) _ _ _)); (fail_if_success (with_reducible show wpAny _ _ (exec (Stmt.While _ _ _ _) _) _ _ _)); (fail_if_success (with_reducible show wpAny _ _ (exec (Stmt.For _ _ _ _ _) _) _ _ _)); (fail_if_success (with_reducible show wpAny _ _ (exec (Stmt.Assign [Expr.Name _ _] (Expr.ListComp _ _ _ _) _) _) _ _ _)); (fail_if_success (with_reducible show wpAny _ _ (pyIter _) _ _ _)); (fail_if_success (with_reducible show wpAny _ _ (call (Value.type "range") _ _) _ _ _)); (fail_if_success (with_reducible show wpAny _ _ (call (Value.type "zip") _ _) _ _ _))); dsimp only; walk1))); (all_goals try dsimp only))
    rename Fr _ _ _ _ => F
    rename News _ _ _ _ => N
    exact ret _ _ 1 _ _ _ _ _ _ _ _ _ ⟨nm, kd, hk, by decide, hnm, hkd, hkf, rfl, rfl⟩ F.keep (N _ (.tail _ (.tail _ (.tail _ (.tail _ (.head _)))))).1 D₁ (N _ (.head _)).2.2 (N _ (.tail _ (.head _))).2.2 (N _ (.head _)).1 (N _ (.tail _ (.head _))).1 (hi₁.append hi₂)
  · rw [show mkS (letL 2) = Str.ofString "P" from lit_P.symm] at F₁
    dsimp only
    ((repeat' (first | (k_unfold; (try dsimp only)) | (((((fail_if_success (with_reducible show wpAny _ _ (eval (Expr.ListComp _ _ _ _) _) _ _ _)); (fail_if_success (with_reducible show wpAny _ _ (exec (Stmt.While _ _ _ _) _) _ _ _)); (fail_if_success (with_reducible show wpAny _ _ (exec (Stmt.For _ _ _ _ _) _) _ _ _)); (fail_if_success (with_reducible show wpAny _ _ (exec (Stmt.Assign [Expr.Name _ _] (Expr.ListComp _ _ _ _) _) _) _ _ _)); (fail_if_success (with_reducible show wpAny _ _ (pyIter _) _ _ _)); (fail_if_success (with_reducible show wpAny _ _ (call (Value.type "range") _ _) _ _ _)); (fail_if_success (with_reducible show wpAny _ _ (call (Value.type "zip") _ _) _ _ _)))); (fail_if_success (with_reducible show wpAny _ _ (call (Value.ref 156) _) _ _ _)); (fail_if_success (with_reducible show wpAny _ _ (subscriptTail _ _ (Value.ref _) (Value.str _ _)) _ _ _))); walk1) | (((((fail_if_success (with_reducible show wpAny _ _ (eval (Expr.ListComp _ _ _ _) _) _ _ _)); (fail_if_success (with_reducible show wpAny _ _ (exec (Stmt.While _ _ _ _) _) _ _ _)); (fail_if_success (with_reducible show wpAny _ _ (exec (Stmt.For _ _ _ _ _) _) _ _ _)); (fail_if_success (with_reducible show wpAny _ _ (exec (Stmt.Assign [Expr.Name _ _] (Expr.ListComp _ _ _ _) _) _) _ _ _)); (fail_if_success (with_reducible show wpAny _ _ (pyIter _) _ _ _)); (fail_if_success (with_reducible show wpAny _ _ (call (Value.type "range") _ _) _ _ _)); (fail_if_success (with_reducible show wpAny _ _ (call (Value.type "zip") _ _) _ _ _)))); (fail_if_success (with_reducible show wpAny _ _ (call (Value.ref 156) _) _ _ _)); (fail_if_success (with_reducible show wpAny _ _ (subscriptTail _ _ (Value.ref _) (Value.str _ _)) _ _ _))); dsimp only; walk1))); (all_goals try dsimp only))
    dsimp only at *
    rename Fr _ _ _ _ => F
    rename News _ _ _ _ => N
    rename Obj.IsDictOf _ _ _ => hd'
    refine kdt_tail (knd := PySem.strKind _ _) N (.head _) hd' ?_
    refine kdt_getItem (knd := PySem.strKind _ _) N (.head _) hd' (strKind_is _ _ _ _) (by rfl) ?_
    have N₀ := news_one N (.tail _ (.head _))
    clear hd' F₁ N
    have N := N₀
    clear N₀
    dsimp only
    ((repeat' (first | (k_unfold; (try dsimp only)) | (((((fail_if_success (with_reducible show wpAny _ _ (eval (Expr.ListComp _ _ _ _) _) _ _ _)); (fail_if_success (with_reducible show wpAny _ _ (exec (Stmt.While _ _ _ _) _) _ _ _)); (fail_if_success (with_reducible show wpAny _ _ (exec (Stmt.For _ _ _ _ _) _) _ _ _)); (fail_if_success (with_reducible show wpAny _ _ (exec (Stmt.Assign [Expr.Name _ _] (Expr.ListComp _ _ _ _) _) _) _ _ _)); (fail_if_success (with_reducible show wpAny _ _ (pyIter _) _ _ _)); (fail_if_success (with_reducible show wpAny _ _ (call (Value.type "range") _ _) _ _ _)); (fail_if_success (with_reducible show wpAny _ _ (call (Value.type "zip") _ _) _ _ _)))); (fail_if_success (with_reducible show wpAny _ _ (call (Value.ref 156) _) _ _ _)); (fail_if_success (with_reducible show wpAny _ _ (subscriptTail _ _ (Value.ref _) (Value.str _ _)) _ _ _))); walk1) | (((((fail_if_success (with_reducible show wpAny _ _ (eval (Expr.ListComp _ _ _ _) _) _ _ _)); (fail_if_success (with_reducible show wpAny _ _ (exec (Stmt.While _ _ _ _) _) _ _ _)); (fail_if_success (with_reducible show wpAny _ _ (exec (Stmt.For _ _ _ _ _) _) _ _ _)); (fail_if_success (with_reducible show wpAny _ _ (exec (Stmt.Assign [Expr.Name _ _] (Expr.ListComp _ _ _ _) _) _) _ _ _)); (fail_if_success (with_reducible show wpAny _ _ (pyIter _) _ _ _)); (fail_if_success (with_reducible show wpAny _ _ (call (Value.type "range") _ _) _ _ _)); (fail_if_success (with_reducible show wpAny _ _ (call (Value.type "zip") _ _) _ _ _)))); (fail_if_success (with_reducible show wpAny _ _ (call (Value.ref 156) _) _ _ _)); (fail_if_success (with_reducible show wpAny _ _ (subscriptTail _ _ (Value.ref _) (Value.str _ _)) _ _ _))); dsimp only; walk1))); (all_goals try dsimp only))
    rename Fr _ _ _ _ => F
    rename News _ _ _ _ => N
    refine wp_top (filledL_P (l := nm) (sz := 8) (X.keeps F.keep) (T.keeps F.keep) rfl (part_lt hnm) (by omega) (by decide) fun l₁ vs₁ n₁ h₁ tk₁ st₁ hD₁ hl₁ hi₁ => ?_) rfl rfl rfl
    obtain ⟨F', N'⟩ := grown_of F N st₁
    have N' := news_fresh F N' hD₁ hl₁
    clear F N
    ((repeat' (first | (k_unfold; (try dsimp only)) | (((((fail_if_success (with_reducible show wpAny _ _ (eval (Expr.ListComp _ _ _ _) _) _ _ _)); (fail_if_success (with_reducible show wpAny _ _ (exec (Stmt.While _ _ _ _) _) _ _ _)); (fail_if_success (with_reducible show wpAny _ _ (exec (Stmt.For _ _ _ _ _) _) _ _ _)); (fail_if_success (with_reducible show wpAny _ _ (exec (Stmt.Assign [Expr.Name _ _] (Expr.ListComp _ _ _ _) _) _) _ _ _)); (fail_if_success (with_reducible show wpAny _ _ (pyIter _) _ _ _)); (fail_if_success (with_reducible show wpAny _ _ (call (Value.type "range") _ _) _ _ _)); (fail_if_success (with_reducible show wpAny _ _ (call (Value.type "zip") _ _) _ _ _)))); (fail_if_success (with_reducible show wpAny _ _ (call (Value.ref 156) _) _ _ _)); (fail_if_success (with_reducible show wpAny _ _ (subscriptTail _ _ (Value.ref _) (Value.str _ _)) _ _ _))); walk1) | (((((fail_if_success (with_reducible show wpAny _ _ (eval (Expr.ListComp _ _ _ _) _) _ _ _)); (fail_if_success (with_reducible show wpAny _ _ (exec (Stmt.While _ _ _ _) _) _ _ _)); (fail_if_success (with_reducible show wpAny _ _ (exec (Stmt.For _ _ _ _ _) _) _ _ _)); (fail_if_success (with_reducible show wpAny _ _ (exec (Stmt.Assign [Expr.Name _ _] (Expr.ListComp _ _ _ _) _) _) _ _ _)); (fail_if_success (with_reducible show wpAny _ _ (pyIter _) _ _ _)); (fail_if_success (with_reducible show wpAny _ _ (call (Value.type "range") _ _) _ _ _)); (fail_if_success (with_reducible show wpAny _ _ (call (Value.type "zip") _ _) _ _ _)))); (fail_if_success (with_reducible show wpAny _ _ (call (Value.ref 156) _) _ _ _)); (fail_if_success (with_reducible show wpAny _ _ (subscriptTail _ _ (Value.ref _) (Value.str _ _)) _ _ _))); dsimp only; walk1))); (all_goals try dsimp only))
    rename Fr _ _ _ _ => F
    rename News _ _ _ _ => N
    refine wp_top (filledL_P (l := kd) (sz := 3) (X.keeps F.keep) (T.keeps F.keep) rfl (part_lt hkd) (by omega) (by decide) fun l₂ vs₂ n₂ h₂ tk₂ st₂ hD₂ hl₂ hi₂ => ?_) rfl rfl rfl
    obtain ⟨F', N'⟩ := grown_of F N st₂
    have N' := news_fresh F N' hD₂ hl₂
    clear F N
    have s1 : vs₁.length ≤ 100 := by rw [hi₁.length]; exact fill_len _ _ (by decide)
    have s2 : vs₂.length ≤ 100 := by rw [hi₂.length]; exact fill_len _ _ (by decide)
    ((repeat' (first | (k_unfold; (try dsimp only)) | (((fail_if_success (with_reducible show wpAny _ _ (eval (Expr.ListComp _ _ _ _) _) _ _ _)); (fail_if_success (with_reducible show wpAny _ _ (exec (Stmt.While _ _ _ _) _) _ _ _)); (fail_if_success (with_reducible show wpAny _ _ (exec (Stmt.For _ _ _ _ _) _) _ _ _)); (fail_if_success (with_reducible show wpAny _ _ (exec (Stmt.Assign [Expr.Name _ _] (Expr.ListComp _ _ _ _) _) _) _ _ _)); (fail_if_success (with_reducible show wpAny _ _ (pyIter _) _ _ _)); (fail_if_success (with_reducible show wpAny _ _ (call (Value.type "range") _ _) _ _ _)); (fail_if_success (with_reducible show wpAny _ _ (call (Value.type "zip") _ _) _ _ _))); walk1) | (((fail_if_success (with_reducible show wpAny _ _ (eval (Expr.ListComp _ _ _ _) _) _ _ _)); (fail_if_success (with_reducible show wpAny _ _ (exec (Stmt.While _ _ _ _) _) _ _ _)); (fail_if_success (with_reducible show wpAny _ _ (exec (Stmt.For _ _ _ _ _) _) _ _ _)); (fail_if_success (with_reducible show wpAny _ _ (exec (Stmt.Assign [Expr.Name _ _] (Expr.ListComp _ _ _ _) _) _) _ _ _)); (fail_if_success (with_reducible show wpAny _ _ (pyIter _) _ _ _)); (fail_if_success (with_reducible show wpAny _ _ (call (Value.type "range") _ _) _ _ _)); (fail_if_success (with_reducible show wpAny _ _ (call (Value.type "zip") _ _) _ _ _))); dsimp only; walk1))); (all_goals try dsimp only))
    rename Fr _ _ _ _ => F
    rename News _ _ _ _ => N
    exact ret _ _ 2 _ _ _ _ _ _ _ _ _ ⟨nm, kd, hk, by decide, hnm, hkd, hkf, rfl, rfl⟩ F.keep (N _ (.tail _ (.tail _ (.tail _ (.tail _ (.head _)))))).1 D₁ (N _ (.head _)).2.2 (N _ (.tail _ (.head _))).2.2 (N _ (.head _)).1 (N _ (.tail _ (.head _))).1 (hi₁.append hi₂)
  · rw [show mkS (letL 3) = Str.ofString "q" from lit_qq.symm] at F₁
    dsimp only
    ((repeat' (first | (k_unfold; (try dsimp only)) | (((((fail_if_success (with_reducible show wpAny _ _ (eval (Expr.ListComp _ _ _ _) _) _ _ _)); (fail_if_success (with_reducible show wpAny _ _ (exec (Stmt.While _ _ _ _) _) _ _ _)); (fail_if_success (with_reducible show wpAny _ _ (exec (Stmt.For _ _ _ _ _) _) _ _ _)); (fail_if_success (with_reducible show wpAny _ _ (exec (Stmt.Assign [Expr.Name _ _] (Expr.ListComp _ _ _ _) _) _) _ _ _)); (fail_if_success (with_reducible show wpAny _ _ (pyIter _) _ _ _)); (fail_if_success (with_reducible show wpAny _ _ (call (Value.type "range") _ _) _ _ _)); (fail_if_success (with_reducible show wpAny _ _ (call (Value.type "zip") _ _) _ _ _)))); (fail_if_success (with_reducible show wpAny _ _ (call (Value.ref 156) _) _ _ _)); (fail_if_success (with_reducible show wpAny _ _ (subscriptTail _ _ (Value.ref _) (Value.str _ _)) _ _ _))); walk1) | (((((fail_if_success (with_reducible show wpAny _ _ (eval (Expr.ListComp _ _ _ _) _) _ _ _)); (fail_if_success (with_reducible show wpAny _ _ (exec (Stmt.While _ _ _ _) _) _ _ _)); (fail_if_success (with_reducible show wpAny _ _ (exec (Stmt.For _ _ _ _ _) _) _ _ _)); (fail_if_success (with_reducible show wpAny _ _ (exec (Stmt.Assign [Expr.Name _ _] (Expr.ListComp _ _ _ _) _) _) _ _ _)); (fail_if_success (with_reducible show wpAny _ _ (pyIter _) _ _ _)); (fail_if_success (with_reducible show wpAny _ _ (call (Value.type "range") _ _) _ _ _)); (fail_if_success (with_reducible show wpAny _ _ (call (Value.type "zip") _ _) _ _ _)))); (fail_if_success (with_reducible show wpAny _ _ (call (Value.ref 156) _) _ _ _)); (fail_if_success (with_reducible show wpAny _ _ (subscriptTail _ _ (Value.ref _) (Value.str _ _)) _ _ _))); dsimp only; walk1))); (all_goals try dsimp only))
    dsimp only at *
    rename Fr _ _ _ _ => F
    rename News _ _ _ _ => N
    rename Obj.IsDictOf _ _ _ => hd'
    refine kdt_tail (knd := PySem.strKind _ _) N (.head _) hd' ?_
    refine kdt_getItem (knd := PySem.strKind _ _) N (.head _) hd' (strKind_is _ _ _ _) (by rfl) ?_
    have N₀ := news_one N (.tail _ (.head _))
    clear hd' F₁ N
    have N := N₀
    clear N₀
    dsimp only
    ((repeat' (first | (k_unfold; (try dsimp only)) | (((((fail_if_success (with_reducible show wpAny _ _ (eval (Expr.ListComp _ _ _ _) _) _ _ _)); (fail_if_success (with_reducible show wpAny _ _ (exec (Stmt.While _ _ _ _) _) _ _ _)); (fail_if_success (with_reducible show wpAny _ _ (exec (Stmt.For _ _ _ _ _) _) _ _ _)); (fail_if_success (with_reducible show wpAny _ _ (exec (Stmt.Assign [Expr.Name _ _] (Expr.ListComp _ _ _ _) _) _) _ _ _)); (fail_if_success (with_reducible show wpAny _ _ (pyIter _) _ _ _)); (fail_if_success (with_reducible show wpAny _ _ (call (Value.type "range") _ _) _ _ _)); (fail_if_success (with_reducible show wpAny _ _ (call (Value.type "zip") _ _) _ _ _)))); (fail_if_success (with_reducible show wpAny _ _ (call (Value.ref 156) _) _ _ _)); (fail_if_success (with_reducible show wpAny _ _ (subscriptTail _ _ (Value.ref _) (Value.str _ _)) _ _ _))); walk1) | (((((fail_if_success (with_reducible show wpAny _ _ (eval (Expr.ListComp _ _ _ _) _) _ _ _)); (fail_if_success (with_reducible show wpAny _ _ (exec (Stmt.While _ _ _ _) _) _ _ _)); (fail_if_success (with_reducible show wpAny _ _ (exec (Stmt.For _ _ _ _ _) _) _ _ _)); (fail_if_success (with_reducible show wpAny _ _ (exec (Stmt.Assign [Expr.Name _ _] (Expr.ListComp _ _ _ _) _) _) _ _ _)); (fail_if_success (with_reducible show wpAny _ _ (pyIter _) _ _ _)); (fail_if_success (with_reducible show wpAny _ _ (call (Value.type "range") _ _) _ _ _)); (fail_if_success (with_reducible show wpAny _ _ (call (Value.type "zip") _ _) _ _ _)))); (fail_if_success (with_reducible show wpAny _ _ (call (Value.ref 156) _) _ _ _)); (fail_if_success (with_reducible show wpAny _ _ (subscriptTail _ _ (Value.ref _) (Value.str _ _)) _ _ _))); dsimp only; walk1))); (all_goals try dsimp only))
    rename Fr _ _ _ _ => F
    rename News _ _ _ _ => N
    refine wp_top (filledL_P (l := nm) (sz := 8) (X.keeps F.keep) (T.keeps F.keep) rfl (part_lt hnm) (by omega) (by decide) fun l₁ vs₁ n₁ h₁ tk₁ st₁ hD₁ hl₁ hi₁ => ?_) rfl rfl rfl
    obtain ⟨F', N'⟩ := grown_of F N st₁
    have N' := news_fresh F N' hD₁ hl₁
    clear F N
    ((repeat' (first | (k_unfold; (try dsimp only)) | (((((fail_if_success (with_reducible show wpAny _ _ (eval (Expr.ListComp _ _ _ _) _) _ _ _)); (fail_if_success (with_reducible show wpAny _ _ (exec (Stmt.While _ _ _ _) _) _ _ _)); (fail_if_success (with_reducible show wpAny _ _ (exec (Stmt.For _ _ _ _ _) _) _ _ _)); (fail_if_success (with_reducible show wpAny _ _ (exec (Stmt.Assign [Expr.Name _ _] (Expr.ListComp _ _ _ _) _) _) _ _ _)); (fail_if_success (with_reducible show wpAny _ _ (pyIter _) _ _ _)); (fail_if_success (with_reducible show wpAny _ _ (call (Value.type "range") _ _) _ _ _)); (fail_if_success (with_reducible show wpAny _ _ (call (Value.type "zip") _ _) _ _ _)))); (fail_if_success (with_reducible show wpAny _ _ (call (Value.ref 156) _) _ _ _)); (fail_if_success (with_reducible show wpAny _ _ (subscriptTail _ _ (Value.ref _) (Value.str _ _)) _ _ _))); walk1) | (((((fail_if_success (with_reducible show wpAny _ _ (eval (Expr.ListComp _ _ _ _) _) _ _ _)); (fail_if_success (with_reducible show wpAny _ _ (exec (Stmt.While _ _ _ _) _) _ _ _)); (fail_if_success (with_reducible show wpAny _ _ (exec (Stmt.For _ _ _ _ _) _) _ _ _)); (fail_if_success (with_reducible show wpAny _ _ (exec (Stmt.Assign [Expr.Name _ _] (Expr.ListComp _ _ _ _) _) _) _ _ _)); (fail_if_success (with_reducible show wpAny _ _ (pyIter _) _ _ _)); (fail_if_success (with_reducible show wpAny _ _ (call (Value.type "range") _ _) _ _ _)); (fail_if_success (with_reducible show wpAny _ _ (call (Value.type "zip") _ _) _ _ _)))); (fail_if_success (with_reducible show wpAny _ _ (call (Value.ref 156) _) _ _ _)); (fail_if_success (with_reducible show wpAny _ _ (subscriptTail _ _ (Value.ref _) (Value.str _ _)) _ _ _))); dsimp only; walk1))); (all_goals try dsimp only))
    rename Fr _ _ _ _ => F
    rename News _ _ _ _ => N
    refine wp_top (filledL_P (l := kd) (sz := 3) (X.keeps F.keep) (T.keeps F.keep) rfl (part_lt hkd) (by omega) (by decide) fun l₂ vs₂ n₂ h₂ tk₂ st₂ hD₂ hl₂ hi₂ => ?_) rfl rfl rfl
    obtain ⟨F', N'⟩ := grown_of F N st₂
    have N' := news_fresh F N' hD₂ hl₂
    clear F N
    have s1 : vs₁.length ≤ 100 := by rw [hi₁.length]; exact fill_len _ _ (by decide)
    have s2 : vs₂.length ≤ 100 := by rw [hi₂.length]; exact fill_len _ _ (by decide)
    ((repeat' (first | (k_unfold; (try dsimp only)) | (((fail_if_success (with_reducible show wpAny _ _ (eval (Expr.ListComp _ _ _ _) _) _ _ _)); (fail_if_success (with_reducible show wpAny _ _ (exec (Stmt.While _ _ _ _) _) _ _ _)); (fail_if_success (with_reducible show wpAny _ _ (exec (Stmt.For _ _ _ _ _) _) _ _ _)); (fail_if_success (with_reducible show wpAny _ _ (exec (Stmt.Assign [Expr.Name _ _] (Expr.ListComp _ _ _ _) _) _) _ _ _)); (fail_if_success (with_reducible show wpAny _ _ (pyIter _) _ _ _)); (fail_if_success (with_reducible show wpAny _ _ (call (Value.type "range") _ _) _ _ _)); (fail_if_success (with_reducible show wpAny _ _ (call (Value.type "zip") _ _) _ _ _))); walk1) | (((fail_if_success (with_reducible show wpAny _ _ (eval (Expr.ListComp _ _ _ _) _) _ _ _)); (fail_if_success (with_reducible show wpAny _ _ (exec (Stmt.While _ _ _ _) _) _ _ _)); (fail_if_success (with_reducible show wpAny _ _ (exec (Stmt.For _ _ _ _ _) _) _ _ _)); (fail_if_success (with_reducible show wpAny _ _ (exec (Stmt.Assign [Expr.Name _ _] (Expr.ListComp _ _ _ _) _) _) _ _ _)); (fail_if_success (with_reducible show wpAny _ _ (pyIter _) _ _ _)); (fail_if_success (with_reducible show wpAny _ _ (call (Value.type "range") _ _) _ _ _)); (fail_if_success (with_reducible show wpAny _ _ (call (Value.type "zip") _ _) _ _ _))); dsimp only; walk1))); (all_goals try dsimp only))
    rename Fr _ _ _ _ => F
    rename News _ _ _ _ => N
    exact ret _ _ 3 _ _ _ _ _ _ _ _ _ ⟨nm, kd, hk, by decide, hnm, hkd, hkf, rfl, rfl⟩ F.keep (N _ (.tail _ (.tail _ (.tail _ (.tail _ (.head _)))))).1 D₁ (N _ (.head _)).2.2 (N _ (.tail _ (.head _))).2.2 (N _ (.head _)).1 (N _ (.tail _ (.head _))).1 (hi₁.append hi₂)
end
end
theorem off_L1 : True := by
  w_top off
  trivial
section
theorem tw_app {p : Int → Bool} : ∀ (F : List Int) {B : List Int}, (∀ x ∈ F, p x = true) → (∀ x, B.head? = some x → p x = false) → (F ++ B).takeWhile p = F
  | [], [], _, _ => rfl
  | [], x :: r, _, h => List.takeWhile_cons_of_neg (by rw [h x rfl]; decide)
  | x :: F, B, hF, hB => by
    rw [List.cons_append, List.takeWhile_cons_of_pos (hF x (.head _)), tw_app F (fun y hy => hF y (.tail _ hy)) hB]
theorem skipB_rep (n : Nat) (R : List Int) (h : ∀ x, R.head? = some x → x ≠ 32) : skipB (List.replicate n 32 ++ R) 0 = n := by
  unfold skipB
  rw [List.drop_zero, tw_app _ (fun x hx => by rw [(List.mem_replicate.mp hx).2]; rfl) (fun x hx => by simpa using h x hx), List.length_replicate]
  omega
theorem number_some {bl : Nat} {F B : List Int} (hF : ∀ x ∈ F, 48 ≤ x ∧ x ≤ 57) (hne : F ≠ []) (hB : ∀ x, B.head? = some x → isDig x = false) :
    skipB (List.replicate bl 32 ++ F ++ B) 0 = bl ∧ numE (List.replicate bl 32 ++ F ++ B) bl = bl + F.length ∧
    numberTold (List.replicate bl 32 ++ F ++ B) 0 = if 255 < numV 0 F ∨ (∃ x, B.head? = some x ∧ x ≠ 32) then none else some (numV 0 F) := by
  have hd : (List.replicate bl (32 : Int) ++ F ++ B).drop bl = F ++ B := by rw [List.append_assoc]; simp
  have hs : skipB (List.replicate bl 32 ++ F ++ B) 0 = bl := by
    rw [List.append_assoc]
    refine skipB_rep _ _ fun x hx => ?_
    cases F with
    | nil => exact absurd rfl hne
    | cons a r =>
      have e : a = x := by simpa using hx
      have := hF a (.head _)
      omega
  have ht : (F ++ B).takeWhile isDig = F := tw_app F (fun x hx => by have := hF x hx; unfold isDig; simp; omega) hB
  have hE : numE (List.replicate bl 32 ++ F ++ B) bl = bl + F.length := by unfold numE; rw [hd, ht]
  have hl : 0 < F.length := List.length_pos_iff.mpr hne
  refine ⟨hs, hE, ?_⟩
  unfold numberTold
  rw [hs]
  dsimp only
  rw [hE, hd, ht]
  have key : (bl = bl + F.length ∨ 255 < numV 0 F ∨ (bl + F.length < (List.replicate bl (32 : Int) ++ F ++ B).length ∧ (List.replicate bl (32 : Int) ++ F ++ B).getD (bl + F.length) 0 ≠ 32)) ↔ (255 < numV 0 F ∨ (∃ x, B.head? = some x ∧ x ≠ 32)) := by
    have hg : ∀ d, (List.replicate bl (32 : Int) ++ F ++ B).getD (bl + F.length) d = B.getD 0 d := by
      intro d
      rw [List.getD_eq_getElem?_getD, List.getD_eq_getElem?_getD, List.getElem?_append_right (by simp)]
      simp
    rw [hg]
    cases B with
    | nil => simp [hne]
    | cons b r => simp [hne]
  by_cases h : 255 < numV 0 F ∨ (∃ x, B.head? = some x ∧ x ≠ 32)
  · rw [if_pos (key.mpr h), if_pos h]
  · rw [if_neg (fun q => h (key.mp q)), if_neg h]
theorem number_none {n : Nat} {R : List Int} (h32 : ∀ x, R.head? = some x → x ≠ 32) (hd : ∀ x, R.head? = some x → isDig x = false) : numberTold (List.replicate n 32 ++ R) 0 = none := by
  unfold numberTold
  rw [skipB_rep n R h32]
  dsimp only
  have e : numE (List.replicate n 32 ++ R) n = n := by
    unfold numE
    rw [show (List.replicate n (32 : Int) ++ R).drop n = R by simp, show R.takeWhile isDig = [] from tw_app [] (fun x hx => nomatch hx) hd]
    rfl
  rw [e]
  exact if_pos (.inl rfl)
end
theorem off_L2 : True := by
  w_top off
  trivial
section
abbrev upC (c : Nat) : Int := up (c : Int)
theorem fold_full (size : Nat) : ∀ (xs f : List Int), f.length = size → xs.foldl (addS size) f = f
  | [], _, _ => rfl
  | x :: xs, f, h => by
    rw [List.foldl_cons, show addS size f x = f by unfold addS; split; (rw [h, Nat.sub_self]; simp); (rw [if_neg (by omega)])]
    exact fold_full size xs f h
theorem fold_fill (size : Nat) : ∀ (xs f : List Int), f.length ≤ size →
    (xs.foldl (addS size) f ++ List.replicate (size - (xs.foldl (addS size) f).length) 32) =
      (f ++ (if 42 ∈ xs then (xs.takeWhile (· ≠ 42)) ++ List.replicate size 63 else xs ++ List.replicate size 32)).take size
  | [], f, h => by
    rw [List.foldl_nil, if_neg (fun q => nomatch q), List.nil_append, List.take_append, List.take_of_length_le h, List.take_replicate, Nat.min_eq_left (by omega)]
  | x :: xs, f, h => by
    rw [List.foldl_cons]
    by_cases e : x = 42
    · have e1 : addS size f x = f ++ List.replicate (size - f.length) 63 := if_pos e
      have e2 : (f ++ List.replicate (size - f.length) (63 : Int)).length = size := by rw [List.length_append, List.length_replicate]; omega
      rw [e1, fold_full size xs _ e2, e2, Nat.sub_self, if_pos (e ▸ .head _), e]
      simp [List.take_append, List.take_of_length_le h]
    · have e0 : (42 ∈ x :: xs) ↔ 42 ∈ xs := by simp [Ne.symm e]
      have e9 : (x :: xs).takeWhile (· ≠ 42) = x :: xs.takeWhile (· ≠ 42) := List.takeWhile_cons_of_pos (by simpa using e)
      by_cases hl : f.length < size
      · have e1 : addS size f x = f ++ [x] := by unfold addS; rw [if_neg e, if_pos hl]
        rw [e1, fold_fill size xs (f ++ [x]) (by rw [List.length_append, List.length_singleton]; omega), e9]
        congr 1
        by_cases q : 42 ∈ xs
        · rw [if_pos q, if_pos (e0.mpr q)]; simp
        · rw [if_neg q, if_neg (fun z => q (e0.mp z))]; simp
      · have e1 : addS size f x = f := by unfold addS; rw [if_neg e, if_neg hl]
        have hf : f.length = size := by omega
        rw [e1, fold_full size xs _ hf, hf, Nat.sub_self, List.take_append, List.take_of_length_le h, hf, Nat.sub_self]
        simp
theorem part_set {l : List Nat} {n : Nat} (h : partOK l n) : ∀ c ∈ l, c = 97 ∨ c = 66 ∨ c = 122 ∨ c = 48 ∨ c = 57 ∨ c = 36 ∨ c = 42 ∨ c = 63 := fun c hc => by
  have := h.1 c hc
  simpa only [List.mem_cons, List.not_mem_nil, or_false] using this
theorem upC_set {l : List Nat} {n : Nat} (h : partOK l n) : ∀ x ∈ l.map upC, x = 65 ∨ x = 66 ∨ x = 90 ∨ x = 48 ∨ x = 57 ∨ x = 36 ∨ x = 42 ∨ x = 63 := fun x hx => by
  obtain ⟨c, hc, rfl⟩ := List.mem_map.mp hx
  rcases part_set h c hc with rfl | rfl | rfl | rfl | rfl | rfl | rfl | rfl <;> decide
theorem upC_go {l : List Nat} {n : Nat} (h : partOK l n) : ∀ x ∈ l.map upC, goOn x = true := fun x hx => by
  rcases upC_set h x hx with rfl | rfl | rfl | rfl | rfl | rfl | rfl | rfl <;> decide
theorem up_up {l : List Nat} : ∀ x ∈ l.map upC, up x = x := fun x hx => by
  obtain ⟨c, hc, rfl⟩ := List.mem_map.mp hx
  show up (up c) = up c
  unfold up; split <;> first | rfl | (rw [if_neg]; omega)
theorem up42 (x : Int) : up x = 42 ↔ x = 42 := by unfold up; split <;> omega
theorem fill_up (l : List Nat) (size : Nat) : ((if 42 ∈ l.map upC then ((l.map upC).takeWhile (· ≠ 42)) ++ List.replicate size 63 else l.map upC ++ List.replicate size 32).take size) = fillF (l.map (fun c : Nat => (c : Int))) size := by
  unfold fillF
  have e0 : (42 ∈ l.map upC) ↔ (42 : Int) ∈ l.map (fun c : Nat => (c : Int)) := by
    simp only [List.mem_map, upC, up42]
  have e1 : (l.map upC).takeWhile (· ≠ 42) = ((l.map (fun c : Nat => (c : Int))).takeWhile (· ≠ 42)).map up := by
    induction l with
    | nil => rfl
    | cons c r ih =>
      rw [List.map_cons, List.map_cons]
      by_cases e : (c : Int) = 42
      · rw [List.takeWhile_cons_of_neg (by simpa using (up42 _).mpr e), List.takeWhile_cons_of_neg (by simpa using e)]; rfl
      · rw [List.takeWhile_cons_of_pos (by simpa using fun q => e ((up42 _).mp q)), List.takeWhile_cons_of_pos (by simpa using e), List.map_cons, ih (by simp only [List.mem_map, upC, up42])]
  have e2 : l.map upC = (l.map (fun c : Nat => (c : Int))).map up := by rw [List.map_map]; rfl
  by_cases q : 42 ∈ l.map upC
  · rw [if_pos q, if_pos (e0.mp q), e1]
  · rw [if_neg q, if_neg (fun z => q (e0.mpr z)), e2]
theorem partL_of {ns : List Int} {k size n : Nat} {l : List Nat} {B : List Int} (hl : partOK l n) (hd : ns.drop k = l.map upC ++ B) (hB : ∀ x, B.head? = some x → goOn x = false) :
    partL size ns k = fillF (l.map (fun c : Nat => (c : Int))) size ∧ partN ns k = k + l.length := by
  have ht : (ns.drop k).takeWhile goOn = l.map upC := by rw [hd]; exact tw_app _ (upC_go hl) hB
  constructor
  · unfold partL
    rw [ht]
    dsimp only
    rw [fold_fill size _ [] (Nat.zero_le _), List.nil_append]
    exact fill_up l size
  · unfold partN; rw [ht, List.length_map]
theorem drop_more {ns X : List Int} {k n : Nat} {Y : List Int} (h : ns.drop k = X ++ Y) (hn : n = k + X.length) : ns.drop n = Y := by
  rw [hn, ← List.drop_drop, h, List.drop_left]
theorem drop_len {ns X : List Int} {k : Nat} (h : ns.drop k = X) (hk : k ≤ ns.length) : ns.length = k + X.length := by
  rw [← h, List.length_drop]; omega
theorem drop_get {ns X : List Int} {k i : Nat} (h : ns.drop k = X) : ns[k + i]? = X[i]? := by rw [← h, List.getElem?_drop]
def drv (j : Nat) : Int := [0, 1, 16, 17].getD j 0
theorem name_law {ns B : List Int} {k b j : Nat} {nm kd : List Nat} {hk : Bool} (hj : j < 4) (hnm : partOK nm 8) (hkd : partOK kd 3) (hkf : hk = false → kd = [])
    (hd : ns.drop k = List.replicate b 32 ++ ((preL j ++ nm ++ (if hk then 46 :: kd else [])).map upC ++ B)) (hkl : k ≤ ns.length)
    (hB : ∀ x, B.head? = some x → x ∈ ([32, 61, 95, 58, 59, 60] : List Int)) (h0 : preL j ++ nm ++ (if hk then 46 :: kd else []) = [] → B = [])
    (h1 : (preL j ++ nm ++ (if hk then 46 :: kd else [])).length = 1 → ∀ x, B.head? = some x → x ≠ 58) :
    (toldAt ns k).1 = drv j ∧ toldName ns k = fillF (nm.map (fun c : Nat => (c : Int))) 8 ++ fillF (kd.map (fun c : Nat => (c : Int))) 3 ∧
      toldEnd ns k = k + b + (preL j ++ nm ++ (if hk then 46 :: kd else [])).length := by
  generalize hK : (if hk then 46 :: kd else []) = K at hd h0 h1 ⊢
  have hKs : K = [] ∨ K = 46 :: kd := by cases hk with | false => exact .inl hK.symm | true => exact .inr hK.symm
  have hBg : ∀ x, B.head? = some x → goOn x = false := fun x hx => by
    have := hB x hx
    simp only [List.mem_cons, List.not_mem_nil, or_false] at this
    rcases this with rfl | rfl | rfl | rfl | rfl | rfl <;> decide
  have hKB : ∀ x, (K.map upC ++ B).head? = some x → goOn x = false := by
    rcases hKs with rfl | rfl
    · simpa using hBg
    · intro x hx
      have : (46 : Int) = x := by simpa [upC, up] using hx
      rw [← this]; decide
  have hS32 : ∀ x, ((preL j ++ nm ++ K).map upC ++ B).head? = some x → x ≠ 32 := by
    have hj4 : j = 0 ∨ j = 1 ∨ j = 2 ∨ j = 3 := by omega
    rcases hj4 with rfl | rfl | rfl | rfl
    · cases nm with
      | nil =>
        rcases hKs with rfl | rfl
        · have e : B = [] := h0 rfl
          rw [e]; intro x hx; cases hx
        · intro x hx
          have e : (46 : Int) = x := by simpa [preL, upC, up] using hx
          omega
      | cons c r =>
        intro x hx
        have e : upC c = x := by simpa [preL] using hx
        have := upC_set hnm (upC c) (by simp)
        omega
    all_goals
      intro x hx
      simp [preL, upC, up] at hx
      omega
  have hsk : skipB ns k = k + b := by
    unfold skipB
    rw [hd, tw_app _ (fun x hx => by rw [(List.mem_replicate.mp hx).2]; rfl) (fun x hx => by simpa using hS32 x hx), List.length_replicate]
  have hd1 : ns.drop (k + b) = (preL j ++ nm ++ K).map upC ++ B := drop_more hd (by rw [List.length_replicate])
  have hlen := drop_len hd hkl
  rw [List.length_append, List.length_replicate] at hlen
  have hlen1 : ns.length = k + b + ((preL j ++ nm ++ K).map upC ++ B).length := by omega
  have hT : toldAt ns k = (drv j, k + b + (preL j).length) := by
    unfold toldAt
    rw [hsk]
    dsimp only
    have hj4 : j = 0 ∨ j = 1 ∨ j = 2 ∨ j = 3 := by omega
    rcases hj4 with rfl | rfl | rfl | rfl
    · refine if_neg ?_
      rintro ⟨g1, g2, -, -⟩
      rw [List.getD_eq_getElem?_getD, drop_get hd1] at g2
      have e : (preL 0 ++ nm ++ K) = nm ++ K := rfl
      rw [e] at g2 hlen1 h0 h1
      have key : ∀ (Z : List Nat), Z = nm ++ K → (Z.length = 1 → ∀ x, B.head? = some x → x ≠ 58) → (Z = [] → B = []) → (Z.map upC ++ B)[1]?.getD 0 = 58 → False := by
        intro Z hZ z1 z0 z2
        match Z, hZ, z1, z0, z2 with
        | [], _, _, z0, z2 => rw [z0 rfl] at z2; exact absurd z2 (by decide)
        | [c], _, z1, _, z2 =>
          cases B with
          | nil => exact absurd z2 (by simp)
          | cons x r => exact z1 rfl x rfl (by simpa using z2)
        | c :: c' :: Z, hZ, _, _, z2 =>
          have z3 : upC c' = 58 := by simpa using z2
          have hm : c' ∈ nm ∨ c' ∈ K := by rw [← List.mem_append, ← hZ]; exact .tail _ (.head _)
          rcases hm with hm | hm
          · have := upC_set hnm (upC c') (List.mem_map_of_mem hm); omega
          · rcases hKs with rfl | rfl
            · cases hm
            · rcases List.mem_cons.mp hm with rfl | hm
              · exact absurd z3 (by decide)
              · have := upC_set hkd (upC c') (List.mem_map_of_mem hm); omega
      exact key _ rfl h1 h0 g2
    all_goals
      have q0 := drop_get (i := 0) hd1
      have q1 := drop_get (i := 1) hd1
      simp [preL] at q0 q1
      have q0' := getD_at q0
      have q1' := getD_at q1
      rw [q0', q1']
      exact if_pos ⟨by rw [hlen1]; simp [preL], by decide, by decide, by decide⟩
  have hd2 : ns.drop (k + b + (preL j).length) = nm.map upC ++ (K.map upC ++ B) := by
    rw [List.map_append, List.map_append, List.append_assoc, List.append_assoc] at hd1
    exact drop_more hd1 (by rw [List.length_map])
  obtain ⟨p1, p2⟩ := partL_of (size := 8) hnm hd2 hKB
  have hd3 : ns.drop (k + b + (preL j).length + nm.length) = K.map upC ++ B := drop_more hd2 (by rw [List.length_map])
  have hN : toldName ns k = fillF (nm.map (fun c : Nat => (c : Int))) 8 ++ (toldKind ns (k + b + (preL j).length + nm.length)).1 := by
    unfold toldName; rw [hT]; dsimp only; rw [p1, p2]
  have hE : toldEnd ns k = (toldKind ns (k + b + (preL j).length + nm.length)).2 := by
    unfold toldEnd; rw [hT]; dsimp only; rw [p2]
  have hK' : toldKind ns (k + b + (preL j).length + nm.length) = (fillF (kd.map (fun c : Nat => (c : Int))) 3, k + b + (preL j ++ nm ++ K).length) := by
    cases hk with
    | false =>
      have e1 : kd = [] := hkf rfl
      have e2 : K = [] := hK.symm
      subst e1 e2
      unfold toldKind
      rw [if_neg, show fillF (([] : List Nat).map (fun c : Nat => (c : Int))) 3 = [32, 32, 32] from by decide]
      · simp [Nat.add_assoc]
      · rintro ⟨g1, g2⟩
        rw [List.getD_eq_getElem?_getD] at g2
        have g3 := drop_get (i := 0) hd3
        rw [Nat.add_zero] at g3
        rw [g3] at g2
        cases B with
        | nil => exact absurd g2 (by decide)
        | cons x r =>
          have g4 : x = 46 := by simpa using g2
          have := hB x rfl
          rw [g4] at this
          exact absurd this (by decide)
    | true =>
      have e2 : K = 46 :: kd := hK.symm
      subst e2
      have g3 := drop_get (i := 0) hd3
      rw [Nat.add_zero] at g3
      have g4 : ns.getD (k + b + (preL j).length + nm.length) 0 = 46 := getD_at (by rw [g3]; simp [upC, up])
      have g5 : k + b + (preL j).length + nm.length < ns.length := by
        rw [hlen1, List.length_append, List.length_map, List.length_append, List.length_append, List.length_cons]; omega
      unfold toldKind
      rw [if_pos ⟨g5, g4⟩]
      have hd4 : ns.drop (k + b + (preL j).length + nm.length + 1) = kd.map upC ++ B := by
        rw [List.map_cons] at hd3
        exact drop_more (X := [upC 46]) hd3 rfl
      obtain ⟨r1, r2⟩ := partL_of (size := 3) hkd hd4 hBg
      rw [r1, r2]
      congr 1
      simp [List.length_append]; omega
  refine ⟨by rw [hT], by rw [hN, hK'], by rw [hE, hK']⟩
end
theorem off_L3 : True := by
  w_top off
  trivial
section
def sgS : List Int := [65, 66, 90, 48, 57, 36, 81]
theorem sg_up {x : Int} (h : x ∈ sgS) : up x = x ∧ x ≠ 42 ∧ x ≠ 46 ∧ x ≠ 32 ∧ 0 ≤ x ∧ x < 128 := by
  simp only [sgS, List.mem_cons, List.not_mem_nil, or_false] at h
  rcases h with rfl | rfl | rfl | rfl | rfl | rfl | rfl <;> decide
theorem fill_sg {P : List Int} {n : Nat} (h : ∀ x ∈ P, x ∈ sgS) (hl : P.length ≤ n) : fillF P n = P ++ List.replicate (n - P.length) 32 := by
  have h42 : 42 ∉ P := fun q => (sg_up (h 42 q)).2.1 rfl
  have hm : P.map up = P := by
    conv => rhs; rw [← List.map_id P]
    exact List.map_congr_left fun x hx => (sg_up (h x hx)).1
  unfold fillF
  rw [if_neg h42, hm, List.take_append, List.take_of_length_le hl, List.take_replicate]
  congr 2
  omega
/-- a filled part without a star: its signs, then blanks -/
theorem fill_shape {A : List Nat} {n : Nat} (h : ∀ c ∈ A, c ∈ ([65, 66, 90, 48, 57, 36, 97, 122, 81] : List Nat)) :
    ∃ P : List Int, fillF (A.map (fun c : Nat => (c : Int))) n = P ++ List.replicate (n - P.length) 32 ∧ P.length ≤ n ∧ (∀ x ∈ P, x ∈ sgS) ∧ (A ≠ [] → 0 < n → P ≠ []) := by
  have hu : ∀ x ∈ (A.map (fun c : Nat => (c : Int))).map up, x ∈ sgS := by
    intro x hx
    obtain ⟨y, hy, rfl⟩ := List.mem_map.mp hx
    obtain ⟨c, hc, rfl⟩ := List.mem_map.mp hy
    have := h c hc
    simp only [List.mem_cons, List.not_mem_nil, or_false] at this
    rcases this with rfl | rfl | rfl | rfl | rfl | rfl | rfl | rfl | rfl <;> decide
  have h42 : (42 : Int) ∉ A.map (fun c : Nat => (c : Int)) := by
    intro q
    obtain ⟨c, hc, e⟩ := List.mem_map.mp q
    have e' : c = 42 := by omega
    subst e'
    exact absurd (h 42 hc) (by decide)
  refine ⟨((A.map (fun c : Nat => (c : Int))).map up).take n, ?_, by rw [List.length_take]; omega, fun x hx => hu x (List.mem_of_mem_take hx), fun hA hn e => ?_⟩
  · unfold fillF
    rw [if_neg h42, List.take_append, List.length_take, List.take_replicate]
    congr 2
    omega
  · cases A with
    | nil => exact hA rfl
    | cons a r =>
      cases n with
      | zero => omega
      | succ n => simp at e
structure RawOK (raw P K : List Int) : Prop where
  eq : raw = (P ++ List.replicate (8 - P.length) 32) ++ (K ++ List.replicate (3 - K.length) 32)
  pl : P.length ≤ 8
  kl : K.length ≤ 3
  ps : ∀ x ∈ P, x ∈ sgS
  ks : ∀ x ∈ K, x ∈ sgS
  ne : P ≠ []
theorem RawOK.len {raw P K : List Int} (h : RawOK raw P K) : raw.length = 11 := by
  rw [h.eq]; have := h.pl; have := h.kl; simp; omega
theorem RawOK.signs {raw P K : List Int} (h : RawOK raw P K) : ∀ x ∈ raw, x = 32 ∨ x ∈ sgS := by
  rw [h.eq]
  intro x hx
  simp only [List.mem_append, List.mem_replicate] at hx
  rcases hx with (hx | hx) | (hx | hx)
  · exact .inr (h.ps x hx)
  · exact .inl hx.2
  · exact .inr (h.ks x hx)
  · exact .inl hx.2
theorem RawOK.range {raw P K : List Int} (h : RawOK raw P K) : ∀ x ∈ raw, 0 ≤ x ∧ x < 128 := by
  intro x hx
  rcases h.signs x hx with rfl | q
  · decide
  · exact ⟨(sg_up q).2.2.2.2.1, (sg_up q).2.2.2.2.2⟩
theorem RawOK.first {raw P K : List Int} (h : RawOK raw P K) : raw.getD 0 0 ≠ 32 := by
  rw [h.eq]
  cases hP : P with
  | nil => exact absurd hP h.ne
  | cons a r => exact (sg_up (h.ps a (hP ▸ .head _))).2.2.2.1
theorem flags_mod : ∀ {raw fl : List Int}, (∀ x ∈ raw, 0 ≤ x ∧ x < 128) → (∀ x ∈ fl, x = 0 ∨ x = 128) → raw.length = fl.length → (List.zipWith (· + ·) raw fl).map (· % 128) = raw
  | [], _, _, _, _ => by simp
  | x :: r, [], _, _, h => by simp at h
  | x :: r, f :: fl, h1, h2, h3 => by
    have ih := flags_mod (raw := r) (fl := fl) (fun y hy => h1 y (.tail _ hy)) (fun y hy => h2 y (.tail _ hy)) (by simpa using h3)
    rw [List.zipWith_cons_cons, List.map_cons, ih]
    have a := h1 x (.head _)
    have b := h2 f (.head _)
    congr 1
    omega
theorem plain_mod (gl : List Int) : (gl.map plainSign).all id = ((gl.map (· % 128)).map plainSign).all id := by
  rw [List.map_map]
  congr 1
  refine List.map_congr_left fun x _ => ?_
  show plainSign x = plainSign (x % 128)
  unfold plainSign
  rw [Int.emod_emod_of_dvd x (by decide : (128 : Int) ∣ 128)]
theorem sg_plain {x : Int} (h : x = 32 ∨ x ∈ sgS) : plainSign x = true := by
  rcases h with rfl | h
  · decide +kernel
  · simp only [sgS, List.mem_cons, List.not_mem_nil, or_false] at h
    rcases h with rfl | rfl | rfl | rfl | rfl | rfl | rfl <;> decide +kernel
theorem RawOK.plain {raw P K gl : List Int} (h : RawOK raw P K) (hg : gl.map (· % 128) = raw) : (decide (gl.getD 0 0 % 128 ≠ 32) && (gl.map plainSign).all id) = true := by
  rw [plain_mod, hg, Bool.and_eq_true]
  refine ⟨?_, ?_⟩
  · have e : gl.getD 0 0 % 128 = raw.getD 0 0 := by
      rw [← hg]; cases gl <;> simp
    rw [e]; exact decide_eq_true h.first
  · rw [List.all_map, List.all_eq_true]
    intro x hx
    exact sg_plain (h.signs x hx)
theorem odd_bad {gl : List Int} {i : Nat} {v : Int} (hi : i < gl.length) (hv : plainSign v = false) : (decide ((gl.set i v).getD 0 0 % 128 ≠ 32) && ((gl.set i v).map plainSign).all id) = false := by
  rw [Bool.and_eq_false_iff]
  right
  rw [List.all_eq_false]
  refine ⟨false, ?_, by decide⟩
  rw [← hv]
  exact List.mem_map_of_mem (List.mem_iff_getElem.mpr ⟨i, by simpa using hi, by simp⟩)
theorem blank_bad (l : List Int) : (decide ((32 :: l).getD 0 0 % 128 ≠ 32) && ((32 :: l).map plainSign).all id) = false := rfl
def dueB (p raw : List Int) : Bool := (List.zipWith (fun a b => decide (a = 63) || decide (a = b)) p raw).all id
theorem match_due : ∀ {p gl : List Int}, (∀ x ∈ p, 0 ≤ x ∧ x < 128) → (List.zipWith (fun a b => decide (a % 128 = 63) || decide (a % 128 = b % 128)) p gl).all id = dueB p (gl.map (· % 128))
  | [], _, _ => by simp [dueB]
  | x :: r, [], _ => by simp [dueB]
  | x :: r, y :: l, h => by
    have ih := match_due (p := r) (gl := l) fun z hz => h z (.tail _ hz)
    have a := h x (.head _)
    have e : x % 128 = x := by omega
    unfold dueB at ih ⊢
    rw [List.map_cons, List.zipWith_cons_cons, List.zipWith_cons_cons, List.all_cons, List.all_cons, ih, e]
theorem match_any (n : Nat) (gl : List Int) : (List.zipWith (fun a b => decide (a % 128 = 63) || decide (a % 128 = b % 128)) (List.replicate n 63) gl).all id = true := by
  induction n generalizing gl with
  | zero => simp
  | succ n ih =>
    cases gl with
    | nil => simp
    | cons y l => rw [List.replicate_succ, List.zipWith_cons_cons, List.all_cons, ih]; rfl
theorem match_self : ∀ {gl raw : List Int}, (∀ x ∈ raw, 0 ≤ x ∧ x < 128) → gl.map (· % 128) = raw → (List.zipWith (fun a b => decide (a % 128 = 63) || decide (a % 128 = b % 128)) gl raw).all id = true
  | [], _, _, e => by simp
  | x :: r, [], _, e => by simp
  | x :: r, y :: l, h, e => by
    rw [List.map_cons] at e
    injection e with e1 e2
    have a := h y (.head _)
    rw [List.zipWith_cons_cons, List.all_cons, match_self (fun z hz => h z (.tail _ hz)) e2]
    have : x % 128 = y % 128 := by omega
    rw [this, decide_eq_true rfl, Bool.or_true]; rfl
theorem due_iff : ∀ {p raw : List Int} {n : Nat}, p.length = n → raw.length = n → (dueB p raw = true ↔ ∀ i, i < n → p.getD i 0 = 63 ∨ p.getD i 0 = raw.getD i 0)
  | [], [], _, rfl, _ => by simp [dueB]
  | [], _ :: _, _, rfl, h => by simp at h
  | _ :: _, [], _, rfl, h => by simp at h
  | x :: p, y :: r, _, rfl, h => by
    have ih := due_iff (p := p) (raw := r) rfl (by simpa using h)
    unfold dueB at ih ⊢
    rw [List.zipWith_cons_cons, List.all_cons, Bool.and_eq_true, ih]
    constructor
    · rintro ⟨h1, h2⟩ i hi
      cases i with
      | zero => simpa using h1
      | succ i => simpa using h2 i (by simpa using hi)
    · intro h1
      refine ⟨by simpa using h1 0 (by simp), fun i hi => by simpa using h1 (i + 1) (by simpa using hi)⟩
theorem bInts_app (a b : Array UInt8) : KBw.bInts (a ++ b) = KBw.bInts a ++ KBw.bInts b := by simp [KBw.bInts]
theorem rstrip_sg {P : List Int} {n : Nat} (h : ∀ x ∈ P, x ∈ sgS) : rstripA (byteArr (P ++ List.replicate n 32)) #[32] = byteArr P := by
  have hc : (#[32] : Array UInt8).contains = fun c => c == 32 := by funext c; by_cases h : c = 32 <;> simp [h]
  have hd : ∀ (k : Nat) (l : List UInt8), (∀ x, l.head? = some x → (x == 32) = false) → (List.replicate k (32 : UInt8) ++ l).dropWhile (fun c => c == 32) = l := by
    intro k l hl
    induction k with
    | zero =>
      cases l with
      | nil => rfl
      | cons a r => exact List.dropWhile_cons_of_neg (by rw [hl a rfl]; decide)
    | succ k ih => rw [List.replicate_succ, List.cons_append, List.dropWhile_cons_of_pos (by decide), ih]
  unfold rstripA byteArr
  rw [hc]
  simp only [List.map_append, List.map_replicate, List.reverse_append, List.reverse_replicate]
  have e32 : ((32 : Int).toNat.toUInt8) = 32 := by decide
  rw [e32, hd]
  · simp
  · intro x hx
    have hm : x ∈ P.map (fun n => n.toNat.toUInt8) := by
      have := List.mem_of_mem_head? hx
      simpa using this
    obtain ⟨y, hy, rfl⟩ := List.mem_map.mp hm
    have := h y hy
    simp only [sgS, List.mem_cons, List.not_mem_nil, or_false] at this
    rcases this with rfl | rfl | rfl | rfl | rfl | rfl | rfl <;> decide
theorem sg_in {P : List Int} (h : ∀ x ∈ P, x ∈ sgS) : KBw.bInts (byteArr P) = P := KBa.ints_make fun x hx => by have := sg_up (h x hx); omega
theorem show_parse {raw P K gl : List Int} (h : RawOK raw P K) (hg : gl.map (· % 128) = raw) : parseN (KBw.bInts (showName gl)) = raw := by
  have h8 : raw.take 8 = P ++ List.replicate (8 - P.length) 32 := by
    rw [h.eq]; exact List.take_left' (by have := h.pl; simp; omega)
  have h3 : raw.drop 8 = K ++ List.replicate (3 - K.length) 32 := by
    rw [h.eq]; exact List.drop_left' (by have := h.pl; simp; omega)
  have n46 : ∀ x ∈ P, decide (x ≠ 46) = true := fun x hx => decide_eq_true (sg_up (h.ps x hx)).2.2.1
  have hs : KBw.bInts (showName gl) = if K = [] then P else P ++ 46 :: K := by
    unfold showName
    rw [hg, h8, h3, rstrip_sg h.ps, rstrip_sg h.ks]
    dsimp only
    rw [byteArr_size]
    cases hK : K with
    | nil => rw [if_neg (by simp), if_pos rfl, sg_in h.ps]
    | cons a r =>
      rw [if_pos (by simp), if_neg (by simp), bInts_app, bInts_app, sg_in h.ps, ← hK, sg_in h.ks]
      show (P ++ [46]) ++ K = _
      simp
  rw [hs]
  unfold parseN
  by_cases hK : K = []
  · rw [if_pos hK]
    have e1 : P.takeWhile (fun x => decide (x ≠ 46)) = P := by
      have := tw_app (p := fun x : Int => decide (x ≠ 46)) P (B := []) n46 (fun x hx => nomatch hx)
      rwa [List.append_nil] at this
    rw [e1, List.take_length, List.drop_eq_nil_of_le (by omega), fill_sg h.ps h.pl, h.eq, hK]
    rfl
  · rw [if_neg hK]
    have e1 : (P ++ 46 :: K).takeWhile (fun x => decide (x ≠ 46)) = P := tw_app (p := fun x : Int => decide (x ≠ 46)) P n46 (fun x hx => by cases hx; decide)
    have e2 : (P ++ 46 :: K).drop (P.length + 1) = K := by
      rw [show P ++ 46 :: K = (P ++ [46]) ++ K by simp]
      exact List.drop_left' (by simp)
    rw [e1, List.take_left, e2, fill_sg h.ps h.pl, fill_sg h.ks h.kl, ← h.eq]
theorem odd_sign {v : Nat} {b : Int} (hv : v ∈ ([60, 62, 46, 44, 59, 58, 61, 63, 42, 91, 93] : List Nat)) (hb : b = 0 ∨ b = 1) : plainSign ((v : Int) + 128 * b) = false := by
  simp only [List.mem_cons, List.not_mem_nil, or_false] at hv
  rcases hb with rfl | rfl <;> rcases hv with rfl | rfl | rfl | rfl | rfl | rfl | rfl | rfl | rfl | rfl | rfl <;> decide +kernel
end
theorem off_D5 : True := by
  w_top off
  trivial
section
theorem name_F {prog : Program} {w : World} {mean mg mb} {A : Around} {b₀ h₀ : Heap} {L : Addr} {m : Str → Option Value} {news : List (Addr × Obj)} {upd : Obj → List (Addr × Obj)} {s : Shared} {d : Addr} {o : Obj} {Q E : Value → Shared → Prop}
    (F : Fr h₀ L s.heap m) (N : News h₀ L s.heap news) (X : (hd.heap_1 w.params).In h₀) (T : Top qv (looseW qv []) mean mg mb h₀) (U : UpdF d o news upd) (hb : b₀.StaysIn h₀) (D : DealO b₀ o)
    (hh : A.handled = none) (hd : Nat.ble A.depth 600 = true) (hu : Nat.ble A.units 6000 = true)
    (ret : ∀ p l' j txt oct vs' n h' tk o' t1 t2, nameRel txt j oct → Fr h₀ L h' m → News h₀ L h' ((p, { cls := .type "tuple", data := .seq #[.str (mkS txt) t1, .int ([0, 1, 16, 17].getD j 0) t2, .ref l'] }) :: (l', listOf (List.toArray vs') n) :: upd o') → DealO b₀ o' → IntsAre vs' oct → p ≠ d → l' ≠ d → Q (.ref p) { s with heap := h', toks := tk }) :
    wpAny (model prog w) A (call (.ref 163) [.ref d]) Q E s := by
  have P := part_of F N U
  refine wp_top (name_LP P.stays P.size (X.keeps P.base) (T.keeps P.base) P.at_ P.hid (fun b ob e => P.base b ob (hb b ob e)) D fun p l' j txt oct vs' n h' tk o' t1 t2 hR st ho' D' hp hl' hp' hl'' hi => ?_) hh hd hu
  obtain ⟨F', N'⟩ := P.back h' o' st ho'
  have DD := D'
  obtain ⟨nu, i, sd, t3, t4, n', vs, ns, hoe, -⟩ := D'
  have hpd : p ≠ d := fun e => by
    rw [e, ho', hoe] at hp'
    have e1 : Value.type "list" = Value.type "tuple" := congrArg Obj.cls (Option.some.inj hp')
    injection e1 with e2
    exact absurd e2 (by decide)
  have hld : l' ≠ d := fun e => by
    rw [e, ho', hoe] at hl''
    have e1 := congrArg Obj.data (Option.some.inj hl'')
    injection e1 with e2
    have e3 : vs' = [.ref nu, .int i t3, .int sd t4] := by
      have := congrArg Array.toList e2
      simpa using this.symm
    rw [e3] at hi
    cases hi
  have hp0 : s.heap.get? p = none := (Heap.hide_ne _ hpd).symm.trans hp
  have hl0 : s.heap.get? l' = none := (Heap.hide_ne _ hld).symm.trans hl'
  exact ret p l' j txt oct vs' n h' tk o' t1 t2 hR F' (news_fresh F (news_fresh F N' hl0 hl'') hp0 hp') DD hi hpd hld
def behL (j : Nat) : List Nat := [[], [32], [32, 88], [88], [45]].getD j []
theorem lit_bX : Str.ofString " X" = mkS [32, 88] := by decide +kernel
theorem lit_X : Str.ofString "X" = mkS [88] := by decide +kernel
theorem lit_m : Str.ofString "-" = mkS [45] := by decide +kernel
theorem item_dig (j : Nat) (h : j < 10) : Txt.item (Str.ofString "0123456789") (j : Int) = ⟨#[48 + j]⟩ := by
  have key : ∀ j : Fin 10, Txt.item (Str.ofString "0123456789") (j.val : Int) = ⟨#[48 + j.val]⟩ := by decide +kernel
  exact key ⟨j, h⟩
theorem join_digs {ys : List Str} (h : ∀ x ∈ ys, ∃ j : Nat, j < 10 ∧ x = ⟨#[48 + j]⟩) :
    (∀ c ∈ (Txt.join (Str.ofString "") ys).cps.toList, 48 ≤ c ∧ c ≤ 57) ∧ (ys.map (·.length)).sum = ys.length ∧ (Txt.join (Str.ofString "") ys).cps.size = ys.length := by
  rw [← Array.length_toList, join_empty]
  induction ys with
  | nil => exact ⟨(fun c h => nomatch h), rfl, rfl⟩
  | cons x r ih =>
    obtain ⟨a, b, c⟩ := ih fun y hy => h y (.tail _ hy)
    obtain ⟨j, hj, rfl⟩ := h x (.head _)
    refine ⟨fun z hz => ?_, ?_, ?_⟩
    · rw [List.map_cons, List.flatten_cons] at hz
      rcases List.mem_append.mp hz with q | q
      · have e : z = 48 + j := by simpa using q
        omega
      · exact a z q
    · rw [List.map_cons, List.sum_cons, b, List.length_cons]; show 1 + r.length = r.length + 1; omega
    · rw [List.map_cons, List.flatten_cons, List.length_append, c, List.length_cons]; show 1 + r.length = r.length + 1; omega
theorem ints_row {ys : List Value} {row : List Nat} (hl : ys.length = row.length) (h : ∀ (i : Nat) (y : Value), ys[i]? = some y → ∃ t, y = Value.int ((row.getD i 0 : Nat) : Int) t) : IntsAre ys (row.map (fun c : Nat => (c : Int))) := by
  induction row generalizing ys with
  | nil => cases ys with
    | nil => exact .nil
    | cons y r => simp at hl
  | cons c r ih =>
    cases ys with
    | nil => simp at hl
    | cons y ys =>
      obtain ⟨t, rfl⟩ := h 0 y rfl
      exact .cons _ _ (ih (by simpa using hl) fun i y e => by simpa using h (i + 1) y (by simpa using e))
theorem news_perm3 {h₀ h : Heap} {L : Addr} {a b c : Addr × Obj} (N : News h₀ L h [a, b, c]) : News h₀ L h [b, a, c] := fun q hq => by
  rcases List.mem_cons.mp hq with e | e
  · rw [e]; exact N _ (.tail _ (.head _))
  · rcases List.mem_cons.mp e with e | e
    · rw [e]; exact N _ (.head _)
    · rw [List.mem_singleton.mp e]; exact N _ (.tail _ (.tail _ (.head _)))
theorem news_three {h₀ h : Heap} {L : Addr} {a b c : Addr × Obj} {news : List (Addr × Obj)} (N : News h₀ L h news) (ha : a ∈ news) (hb : b ∈ news) (hc : c ∈ news) : News h₀ L h [a, b, c] := fun q hq => by
  rcases List.mem_cons.mp hq with e | e
  · rw [e]; exact N _ ha
  · rcases List.mem_cons.mp e with e | e
    · rw [e]; exact N _ hb
    · rw [List.mem_singleton.mp e]; exact N _ hc
theorem numV_aux : ∀ (fs : List Nat) (a : Nat), (∀ c ∈ fs, 48 ≤ c ∧ c ≤ 57) → numV (a : Int) (fs.map (fun c : Nat => (c : Int))) = ((fs.foldl (fun acc c => acc * 10 + (c - 48)) a : Nat) : Int)
  | [], a, _ => rfl
  | c :: r, a, h => by
    have hc := h c (.head _)
    have ih := numV_aux r (a * 10 + (c - 48)) fun x hx => h x (.tail _ hx)
    rw [List.foldl_cons, ← ih]
    show numV ((a : Int) * 10 + (c : Int) - 48) _ = _
    congr 1
    omega
theorem numV_digits {fs : List Nat} (h : ∀ c ∈ fs, 48 ≤ c ∧ c ≤ 57) : numV 0 (fs.map (fun c : Nat => (c : Int))) = ((NumText.digitsVal fs : Nat) : Int) := numV_aux fs 0 h
theorem digs_int {fs : List Nat} (h : ∀ c ∈ fs, 48 ≤ c ∧ c ≤ 57) : ∀ x ∈ fs.map (fun c : Nat => (c : Int)), 48 ≤ x ∧ x ≤ 57 := by
  intro x hx
  obtain ⟨c, hc, rfl⟩ := List.mem_map.mp hx
  have := h c hc
  omega
theorem beh_dig {j : Nat} (hj : j < 5) : ∀ x, ((behL j).map (fun c : Nat => (c : Int))).head? = some x → isDig x = false := by
  have : j = 0 ∨ j = 1 ∨ j = 2 ∨ j = 3 ∨ j = 4 := by omega
  rcases this with rfl | rfl | rfl | rfl | rfl <;> (intro x hx; simp [behL] at hx <;> (subst hx; decide))
theorem beh_good {j : Nat} (hj : j < 3) {x : Int} (hx : ((behL j).map (fun c : Nat => (c : Int))).head? = some x) : x = 32 := by
  have : j = 0 ∨ j = 1 ∨ j = 2 := by omega
  rcases this with rfl | rfl | rfl <;> simp [behL] at hx <;> exact hx.symm
theorem num_bad {bl j : Nat} {fs : List Nat} (hfd : ∀ c ∈ fs, 48 ≤ c ∧ c ≤ 57) (hj : j < 5) (hgd : (false = true ↔ fs ≠ [] ∧ numV 0 (fs.map (fun c : Nat => (c : Int))) < 256 ∧ j < 3)) : numberTold (List.replicate bl 32 ++ fs.map (fun c : Nat => (c : Int)) ++ (behL j).map (fun c : Nat => (c : Int))) 0 = none := by
  have hno : ¬ (fs ≠ [] ∧ numV 0 (fs.map (fun c : Nat => (c : Int))) < 256 ∧ j < 3) := fun q => nomatch hgd.mpr q
  have h5 : j = 0 ∨ j = 1 ∨ j = 2 ∨ j = 3 ∨ j = 4 := by omega
  by_cases hf : fs = []
  · subst hf
    have r1 : ∀ R : List Int, List.replicate bl (32 : Int) ++ [] ++ (32 :: R) = List.replicate (bl + 1) 32 ++ R := fun R => by
      rw [List.append_nil, List.replicate_succ', List.append_assoc]; rfl
    rcases h5 with rfl | rfl | rfl | rfl | rfl
    · show numberTold (List.replicate bl (32 : Int) ++ [] ++ []) 0 = none
      rw [List.append_nil]; exact number_none (fun x h => nomatch h) (fun x h => nomatch h)
    · show numberTold (List.replicate bl (32 : Int) ++ [] ++ (32 :: [])) 0 = none
      rw [r1]; exact number_none (fun x h => nomatch h) (fun x h => nomatch h)
    · show numberTold (List.replicate bl (32 : Int) ++ [] ++ (32 :: [88])) 0 = none
      rw [r1]; exact number_none (fun x h => by cases h; decide) (fun x h => by cases h; decide)
    · show numberTold (List.replicate bl (32 : Int) ++ [] ++ [88]) 0 = none
      rw [List.append_nil]; exact number_none (fun x h => by cases h; decide) (fun x h => by cases h; decide)
    · show numberTold (List.replicate bl (32 : Int) ++ [] ++ [45]) 0 = none
      rw [List.append_nil]; exact number_none (fun x h => by cases h; decide) (fun x h => by cases h; decide)
  · obtain ⟨-, -, e3⟩ := number_some (bl := bl) (B := (behL j).map (fun c : Nat => (c : Int))) (digs_int hfd) (by simpa using hf) (beh_dig hj)
    rw [e3]
    refine if_pos ?_
    by_cases h3 : j < 3
    · exact .inl (by have : ¬ numV 0 (fs.map (fun c : Nat => (c : Int))) < 256 := fun q => hno ⟨hf, q, h3⟩; omega)
    · have : j = 3 ∨ j = 4 := by omega
      rcases this with rfl | rfl
      · exact .inr ⟨88, rfl, by decide⟩
      · exact .inr ⟨45, rfl, by decide⟩
theorem cut_cell {M : Model} {A : Around} {st : Stmt} {env : Env} {h₀ : Heap} {L : Addr} {s : Shared} {Q : Flow → Shared → Prop} {E : Value → Shared → Prop} {m : Str → Option Value} {c : Addr × Obj} {news : List (Addr × Obj)} (F : Fr h₀ L s.heap m) (N : News h₀ L s.heap (c :: news)) (P : Flow → (Str → Option Value) → List (Addr × Obj) → Prop)
    (h : ∀ C : Flow → Shared → Prop, (∀ f h' tk m' n₂, Fr h₀ L h' m' → News h₀ L h' (c :: n₂) → P f m' n₂ → C f { s with heap := h', toks := tk }) → wpAny M A (exec st env) C E s)
    (done : ∀ f h' tk m' n₂, Fr h₀ L h' m' → News h₀ L h' (c :: n₂) → P f m' n₂ → Q f { s with heap := h', toks := tk }) : wpAny M A (exec st env) Q E s := h Q done
section
variable {prog : Program} {w : World} {mean : ExcName → Option Value} {mg mb : Str → Option Value} {s : Shared} {Q E : Value → Shared → Prop} {b₀ g : Heap} {d : Addr} {o : Obj} (k : g.StaysIn s.heap) (hsz : g.objs.size ≤ s.heap.objs.size)
    (X : (hd.heap_1 w.params).In g) (T : Top qv (looseW qv []) mean mg mb g) (ho : s.heap.get? d = some o) (hg : g.get? d = none) (hb : b₀.StaysIn g) (D : DealO b₀ o)
include k hsz X T ho hg hb D
theorem number_LP
    (ret : ∀ h' tk o', g.StaysIn h' → h'.get? d = some o' → DealO b₀ o' → Q (.bool true) { s with heap := h', toks := tk }) :
    wpAny (model prog w) (At 500 5000) (call (.ref 173) [.ref d]) Q E s := by
  have S : ∀ q ∈ [(d, o)], s.heap.get? q.1 = some q.2 ∧ g.get? q.1 = none := by
    intro q hq; cases hq with | head => exact ⟨ho, hg⟩ | tail _ h => cases h
  (refine' enterCC (g := _) (sub := _) ?k_140 ?sz_140 ?X_140 ?T_140 ?S_140 ?ho_140 ?hcd_140 ?hroom_140 ?hb_140 ?hkind_140 ?hnd_140 ?c1_140 ?c2_140 ?c3_140 ?_; (case k_140 => first | assumption | exact stays_refl _); (case X_140 => with_reducible assumption); (case sz_140 => first | assumption | exact Nat.le_refl _); (case T_140 => with_reducible assumption); (case S_140 => first | assumption | exact List.forall_mem_nil _); (case ho_140 => k_is); (case hcd_140 => k_is); (case hroom_140 => exact Nat.le_of_ble_eq_true rfl); (case hb_140 => exact BindsTo.of_eq rfl); (case hkind_140 => exact rfl); (case hnd_140 => decide +kernel); (case c1_140 => exact rfl); (case c2_140 => exact rfl); (case c3_140 => exact rfl); intro xL xh xtk xcells xF xN xY xl; k_cells xY; (try simp only [List.cons_append, List.nil_append] at xN); (try simp only [AllLt, and_true] at xl); (try dsimp only); (try k_unmd); k_fold)
  rename _ = Data.cell _ => hcell
  have hcell : _ = Data.cell (some (.ref d)) := hcell
  rename d < _ => hdl₀
  have hdl := ltN hdl₀
  ((repeat' (first | (k_unfold; (try dsimp only)) | (((((((fail_if_success (with_reducible show wpAny _ _ (eval (Expr.ListComp _ _ _ _) _) _ _ _)); (fail_if_success (with_reducible show wpAny _ _ (exec (Stmt.While _ _ _ _) _) _ _ _)); (fail_if_success (with_reducible show wpAny _ _ (exec (Stmt.For _ _ _ _ _) _) _ _ _)); (fail_if_success (with_reducible show wpAny _ _ (exec (Stmt.Assign [Expr.Name _ _] (Expr.ListComp _ _ _ _) _) _) _ _ _)); (fail_if_success (with_reducible show wpAny _ _ (pyIter _) _ _ _)); (fail_if_success (with_reducible show wpAny _ _ (call (Value.type "range") _ _) _ _ _)); (fail_if_success (with_reducible show wpAny _ _ (call (Value.type "zip") _ _) _ _ _)))); (fail_if_success (with_reducible show wpAny _ _ (exec (Stmt.If _ _ _ _) _) _ _ _)))); (fail_if_success (with_reducible show wpAny _ _ (exec (Stmt.Assign _ _ _) _) _ _ _))); walk1) | (((((((fail_if_success (with_reducible show wpAny _ _ (eval (Expr.ListComp _ _ _ _) _) _ _ _)); (fail_if_success (with_reducible show wpAny _ _ (exec (Stmt.While _ _ _ _) _) _ _ _)); (fail_if_success (with_reducible show wpAny _ _ (exec (Stmt.For _ _ _ _ _) _) _ _ _)); (fail_if_success (with_reducible show wpAny _ _ (exec (Stmt.Assign [Expr.Name _ _] (Expr.ListComp _ _ _ _) _) _) _ _ _)); (fail_if_success (with_reducible show wpAny _ _ (pyIter _) _ _ _)); (fail_if_success (with_reducible show wpAny _ _ (call (Value.type "range") _ _) _ _ _)); (fail_if_success (with_reducible show wpAny _ _ (call (Value.type "zip") _ _) _ _ _)))); (fail_if_success (with_reducible show wpAny _ _ (exec (Stmt.If _ _ _ _) _) _ _ _)))); (fail_if_success (with_reducible show wpAny _ _ (exec (Stmt.Assign _ _ _) _) _ _ _))); dsimp only; walk1))); (all_goals try dsimp only))
  rename Fr _ _ _ _ => F
  rename News _ _ _ _ => N
  refine cut_cell F N (fun f m' n₂ => f = .next ∧ ∃ o₁ fs t1 m₀, n₂ = [(d, o₁)] ∧ DealO b₀ o₁ ∧ fs.length ≤ 4 ∧ (∀ c ∈ fs, 48 ≤ c ∧ c ≤ 57) ∧ m' = withL [(Str.ofString "figures", .str (mkS fs) t1)] m₀) (fun CC hCC => ?_) ?_
  · ((repeat' (first | (k_unfold; (try dsimp only)) | (((fail_if_success (with_reducible show wpAny _ _ (eval (Expr.ListComp _ _ _ _) _) _ _ _)); (fail_if_success (with_reducible show wpAny _ _ (exec (Stmt.While _ _ _ _) _) _ _ _)); (fail_if_success (with_reducible show wpAny _ _ (exec (Stmt.For _ _ _ _ _) _) _ _ _)); (fail_if_success (with_reducible show wpAny _ _ (exec (Stmt.Assign [Expr.Name _ _] (Expr.ListComp _ _ _ _) _) _) _ _ _)); (fail_if_success (with_reducible show wpAny _ _ (pyIter _) _ _ _)); (fail_if_success (with_reducible show wpAny _ _ (call (Value.type "range") _ _) _ _ _)); (fail_if_success (with_reducible show wpAny _ _ (call (Value.type "zip") _ _) _ _ _))); walk1) | (((fail_if_success (with_reducible show wpAny _ _ (eval (Expr.ListComp _ _ _ _) _) _ _ _)); (fail_if_success (with_reducible show wpAny _ _ (exec (Stmt.While _ _ _ _) _) _ _ _)); (fail_if_success (with_reducible show wpAny _ _ (exec (Stmt.For _ _ _ _ _) _) _ _ _)); (fail_if_success (with_reducible show wpAny _ _ (exec (Stmt.Assign [Expr.Name _ _] (Expr.ListComp _ _ _ _) _) _) _ _ _)); (fail_if_success (with_reducible show wpAny _ _ (pyIter _) _ _ _)); (fail_if_success (with_reducible show wpAny _ _ (call (Value.type "range") _ _) _ _ _)); (fail_if_success (with_reducible show wpAny _ _ (call (Value.type "zip") _ _) _ _ _))); dsimp only; walk1))); (all_goals try dsimp only))
    (try (k_unmd; k_fold))
    refine' ListComp_ct (cl := _) [d] ?hc ?h1 ?h2 ?h3 ?_ ?hs
    (case hc => exact rfl)
    (case h1 => decide)
    (case h2 => exact rfl)
    (case h3 => decide)
    (case hs => intro _; exact rfl)
    ((repeat' (first | (k_unfold; (try dsimp only)) | (((fail_if_success (with_reducible show wpAny _ _ (eval (Expr.ListComp _ _ _ _) _) _ _ _)); (fail_if_success (with_reducible show wpAny _ _ (exec (Stmt.While _ _ _ _) _) _ _ _)); (fail_if_success (with_reducible show wpAny _ _ (exec (Stmt.For _ _ _ _ _) _) _ _ _)); (fail_if_success (with_reducible show wpAny _ _ (exec (Stmt.Assign [Expr.Name _ _] (Expr.ListComp _ _ _ _) _) _) _ _ _)); (fail_if_success (with_reducible show wpAny _ _ (pyIter _) _ _ _)); (fail_if_success (with_reducible show wpAny _ _ (call (Value.type "range") _ _) _ _ _)); (fail_if_success (with_reducible show wpAny _ _ (call (Value.type "zip") _ _) _ _ _))); walk1) | (((fail_if_success (with_reducible show wpAny _ _ (eval (Expr.ListComp _ _ _ _) _) _ _ _)); (fail_if_success (with_reducible show wpAny _ _ (exec (Stmt.While _ _ _ _) _) _ _ _)); (fail_if_success (with_reducible show wpAny _ _ (exec (Stmt.For _ _ _ _ _) _) _ _ _)); (fail_if_success (with_reducible show wpAny _ _ (exec (Stmt.Assign [Expr.Name _ _] (Expr.ListComp _ _ _ _) _) _) _ _ _)); (fail_if_success (with_reducible show wpAny _ _ (pyIter _) _ _ _)); (fail_if_success (with_reducible show wpAny _ _ (call (Value.type "range") _ _) _ _ _)); (fail_if_success (with_reducible show wpAny _ _ (call (Value.type "zip") _ _) _ _ _))); dsimp only; walk1))); (all_goals try dsimp only))
    rename Fr _ _ _ _ => F
    rename News _ _ _ _ => N
    refine take_F F N X T (by k_updF) hb D rfl rfl rfl (by decide) (by decide) fun r t' h' tk o' r0 r1 F' N' D' => ?_
    (try dsimp only at N')
    clear F N
    obtain ⟨n, rfl⟩ := Int.eq_ofNat_of_zero_le r0
    ((repeat' (first | (k_unfold; (try dsimp only)) | (((fail_if_success (with_reducible show wpAny _ _ (eval (Expr.ListComp _ _ _ _) _) _ _ _)); (fail_if_success (with_reducible show wpAny _ _ (exec (Stmt.While _ _ _ _) _) _ _ _)); (fail_if_success (with_reducible show wpAny _ _ (exec (Stmt.For _ _ _ _ _) _) _ _ _)); (fail_if_success (with_reducible show wpAny _ _ (exec (Stmt.Assign [Expr.Name _ _] (Expr.ListComp _ _ _ _) _) _) _ _ _)); (fail_if_success (with_reducible show wpAny _ _ (pyIter _) _ _ _)); (fail_if_success (with_reducible show wpAny _ _ (call (Value.type "range") _ _) _ _ _)); (fail_if_success (with_reducible show wpAny _ _ (call (Value.type "zip") _ _) _ _ _))); walk1) | (((fail_if_success (with_reducible show wpAny _ _ (eval (Expr.ListComp _ _ _ _) _) _ _ _)); (fail_if_success (with_reducible show wpAny _ _ (exec (Stmt.While _ _ _ _) _) _ _ _)); (fail_if_success (with_reducible show wpAny _ _ (exec (Stmt.For _ _ _ _ _) _) _ _ _)); (fail_if_success (with_reducible show wpAny _ _ (exec (Stmt.Assign [Expr.Name _ _] (Expr.ListComp _ _ _ _) _) _) _ _ _)); (fail_if_success (with_reducible show wpAny _ _ (pyIter _) _ _ _)); (fail_if_success (with_reducible show wpAny _ _ (call (Value.type "range") _ _) _ _ _)); (fail_if_success (with_reducible show wpAny _ _ (call (Value.type "zip") _ _) _ _ _))); dsimp only; walk1))); (all_goals try dsimp only))
    rename Fr _ _ _ _ => F
    rename News _ _ _ _ => N
    refine core_deal (T := fun Q => wpAny _ _ (call (.type "range") [.int (n : Int) _]) (fun xv s₁ => wpAny _ _ (pyIter xv) Q _ s₁) _ _) (P := _) (src_range rfl (by omega)) (by rw [sizeLine_eq]; omega) rfl rfl (fun (i : Nat) (y : Value) => ∃ (x : Str) (t : Tok), y = Value.str x t ∧ ∃ j : Nat, j < 10 ∧ x = ⟨#[48 + j]⟩) (N _ (.tail _ (.head _))).1 D' ?_ fun h₂ tk wr st hs hwr => fin_DE F N (by k_updF) ?_ h₂ tk wr st hs hwr
    · intro C k v h₃ tk m' o₃ hC hkn hv st F₃ N₃ D₃
      obtain ⟨t, rfl⟩ := hv
      have st₃ : g.StaysIn ((trunc h₃ C).hide d) := fun b o e => st b o (hide_stays F.keep hg b o e)
      have X₃ := X.keeps st₃
      have T₃ := T.keeps st₃
      have hb₃ : b₀.StaysIn ((trunc h₃ C).hide d) := fun b o e => st₃ b o (hb b o e)
      have hc₃ := st _ _ ((Heap.hide_ne _ (Nat.ne_of_gt (Nat.lt_succ_of_lt hdl))).trans (N _ (.head _)).1)
      clear F N
      k_unmd; k_fold
      dsimp only [compEnvC]
      ((repeat' (first | (k_unfold; (try dsimp only)) | (((fail_if_success (with_reducible show wpAny _ _ (eval (Expr.ListComp _ _ _ _) _) _ _ _)); (fail_if_success (with_reducible show wpAny _ _ (exec (Stmt.While _ _ _ _) _) _ _ _)); (fail_if_success (with_reducible show wpAny _ _ (exec (Stmt.For _ _ _ _ _) _) _ _ _)); (fail_if_success (with_reducible show wpAny _ _ (exec (Stmt.Assign [Expr.Name _ _] (Expr.ListComp _ _ _ _) _) _) _ _ _)); (fail_if_success (with_reducible show wpAny _ _ (pyIter _) _ _ _)); (fail_if_success (with_reducible show wpAny _ _ (call (Value.type "range") _ _) _ _ _)); (fail_if_success (with_reducible show wpAny _ _ (call (Value.type "zip") _ _) _ _ _))); walk1) | (((fail_if_success (with_reducible show wpAny _ _ (eval (Expr.ListComp _ _ _ _) _) _ _ _)); (fail_if_success (with_reducible show wpAny _ _ (exec (Stmt.While _ _ _ _) _) _ _ _)); (fail_if_success (with_reducible show wpAny _ _ (exec (Stmt.For _ _ _ _ _) _) _ _ _)); (fail_if_success (with_reducible show wpAny _ _ (exec (Stmt.Assign [Expr.Name _ _] (Expr.ListComp _ _ _ _) _) _) _ _ _)); (fail_if_success (with_reducible show wpAny _ _ (pyIter _) _ _ _)); (fail_if_success (with_reducible show wpAny _ _ (call (Value.type "range") _ _) _ _ _)); (fail_if_success (with_reducible show wpAny _ _ (call (Value.type "zip") _ _) _ _ _))); dsimp only; walk1))); (all_goals try dsimp only))
      rename Fr _ _ _ _ => F
      rename News _ _ _ _ => N
      refine take_F F N X₃ T₃ (by k_updF) hb₃ D₃ rfl rfl rfl (by decide) (by decide) fun r t' h' tk o' r0 r1 F' N' D' => ?_
      clear F N
      obtain ⟨j, rfl⟩ := Int.eq_ofNat_of_zero_le r0
      ((repeat' (first | (k_unfold; (try dsimp only)) | (((fail_if_success (with_reducible show wpAny _ _ (eval (Expr.ListComp _ _ _ _) _) _ _ _)); (fail_if_success (with_reducible show wpAny _ _ (exec (Stmt.While _ _ _ _) _) _ _ _)); (fail_if_success (with_reducible show wpAny _ _ (exec (Stmt.For _ _ _ _ _) _) _ _ _)); (fail_if_success (with_reducible show wpAny _ _ (exec (Stmt.Assign [Expr.Name _ _] (Expr.ListComp _ _ _ _) _) _) _ _ _)); (fail_if_success (with_reducible show wpAny _ _ (pyIter _) _ _ _)); (fail_if_success (with_reducible show wpAny _ _ (call (Value.type "range") _ _) _ _ _)); (fail_if_success (with_reducible show wpAny _ _ (call (Value.type "zip") _ _) _ _ _))); walk1) | (((fail_if_success (with_reducible show wpAny _ _ (eval (Expr.ListComp _ _ _ _) _) _ _ _)); (fail_if_success (with_reducible show wpAny _ _ (exec (Stmt.While _ _ _ _) _) _ _ _)); (fail_if_success (with_reducible show wpAny _ _ (exec (Stmt.For _ _ _ _ _) _) _ _ _)); (fail_if_success (with_reducible show wpAny _ _ (exec (Stmt.Assign [Expr.Name _ _] (Expr.ListComp _ _ _ _) _) _) _ _ _)); (fail_if_success (with_reducible show wpAny _ _ (pyIter _) _ _ _)); (fail_if_success (with_reducible show wpAny _ _ (call (Value.type "range") _ _) _ _ _)); (fail_if_success (with_reducible show wpAny _ _ (call (Value.type "zip") _ _) _ _ _))); dsimp only; walk1))); (all_goals try dsimp only))
      rename Fr _ _ _ _ => F
      rename News _ _ _ _ => N
      exact ⟨⟨⟨_, _, rfl, j, by omega, item_dig j (by omega)⟩, EltEndD.mk F N D'⟩⟩
    · intro D h' tk ys kk o' hlen' hR F' N' D' hlt hD
      clear F N
      obtain ⟨xs, hxs, hxl, hxc⟩ := strs_ex (P := fun x => ∃ j : Nat, j < 10 ∧ x = ⟨#[48 + j]⟩) hR
      have hj := join_digs hxc
      ((repeat' (first | (k_unfold; (try dsimp only)) | (((fail_if_success (with_reducible show wpAny _ _ (eval (Expr.ListComp _ _ _ _) _) _ _ _)); (fail_if_success (with_reducible show wpAny _ _ (exec (Stmt.While _ _ _ _) _) _ _ _)); (fail_if_success (with_reducible show wpAny _ _ (exec (Stmt.For _ _ _ _ _) _) _ _ _)); (fail_if_success (with_reducible show wpAny _ _ (exec (Stmt.Assign [Expr.Name _ _] (Expr.ListComp _ _ _ _) _) _) _ _ _)); (fail_if_success (with_reducible show wpAny _ _ (pyIter _) _ _ _)); (fail_if_success (with_reducible show wpAny _ _ (call (Value.type "range") _ _) _ _ _)); (fail_if_success (with_reducible show wpAny _ _ (call (Value.type "zip") _ _) _ _ _))); walk1) | (((fail_if_success (with_reducible show wpAny _ _ (eval (Expr.ListComp _ _ _ _) _) _ _ _)); (fail_if_success (with_reducible show wpAny _ _ (exec (Stmt.While _ _ _ _) _) _ _ _)); (fail_if_success (with_reducible show wpAny _ _ (exec (Stmt.For _ _ _ _ _) _) _ _ _)); (fail_if_success (with_reducible show wpAny _ _ (exec (Stmt.Assign [Expr.Name _ _] (Expr.ListComp _ _ _ _) _) _) _ _ _)); (fail_if_success (with_reducible show wpAny _ _ (pyIter _) _ _ _)); (fail_if_success (with_reducible show wpAny _ _ (call (Value.type "range") _ _) _ _ _)); (fail_if_success (with_reducible show wpAny _ _ (call (Value.type "zip") _ _) _ _ _))); dsimp only; walk1))); (all_goals try dsimp only))
      refine join_listC (News.isList N' (.head _)) hxs (by decide) (by rw [hj.2.1]; omega) fun t' k => ?_
      rw [← mkS_cps (Txt.join _ _)]
      ((repeat' (first | (k_unfold; (try dsimp only)) | (((fail_if_success (with_reducible show wpAny _ _ (eval (Expr.ListComp _ _ _ _) _) _ _ _)); (fail_if_success (with_reducible show wpAny _ _ (exec (Stmt.While _ _ _ _) _) _ _ _)); (fail_if_success (with_reducible show wpAny _ _ (exec (Stmt.For _ _ _ _ _) _) _ _ _)); (fail_if_success (with_reducible show wpAny _ _ (exec (Stmt.Assign [Expr.Name _ _] (Expr.ListComp _ _ _ _) _) _) _ _ _)); (fail_if_success (with_reducible show wpAny _ _ (pyIter _) _ _ _)); (fail_if_success (with_reducible show wpAny _ _ (call (Value.type "range") _ _) _ _ _)); (fail_if_success (with_reducible show wpAny _ _ (call (Value.type "zip") _ _) _ _ _))); walk1) | (((fail_if_success (with_reducible show wpAny _ _ (eval (Expr.ListComp _ _ _ _) _) _ _ _)); (fail_if_success (with_reducible show wpAny _ _ (exec (Stmt.While _ _ _ _) _) _ _ _)); (fail_if_success (with_reducible show wpAny _ _ (exec (Stmt.For _ _ _ _ _) _) _ _ _)); (fail_if_success (with_reducible show wpAny _ _ (exec (Stmt.Assign [Expr.Name _ _] (Expr.ListComp _ _ _ _) _) _) _ _ _)); (fail_if_success (with_reducible show wpAny _ _ (pyIter _) _ _ _)); (fail_if_success (with_reducible show wpAny _ _ (call (Value.type "range") _ _) _ _ _)); (fail_if_success (with_reducible show wpAny _ _ (call (Value.type "zip") _ _) _ _ _))); dsimp only; walk1))); (all_goals try dsimp only))
      rename Fr _ _ _ _ => F
      rename News _ _ _ _ => N
      exact hCC _ _ _ _ _ F (news_two N (.tail _ (.head _)) (.tail _ (.tail _ (.head _)))) ⟨rfl, _, _, _, _, rfl, D', by rw [Array.length_toList]; have := hj.2.2; omega, hj.1, withL_of _ _ ⟨rfl, trivial⟩⟩
  rintro _ h' tk m' _ F₁ N₁ ⟨rfl, o₁, fs, t1, m₀, rfl, D₁, hfl, hfd, rfl⟩
  clear F N
  ((repeat' (first | (k_unfold; (try dsimp only)) | (((((((fail_if_success (with_reducible show wpAny _ _ (eval (Expr.ListComp _ _ _ _) _) _ _ _)); (fail_if_success (with_reducible show wpAny _ _ (exec (Stmt.While _ _ _ _) _) _ _ _)); (fail_if_success (with_reducible show wpAny _ _ (exec (Stmt.For _ _ _ _ _) _) _ _ _)); (fail_if_success (with_reducible show wpAny _ _ (exec (Stmt.Assign [Expr.Name _ _] (Expr.ListComp _ _ _ _) _) _) _ _ _)); (fail_if_success (with_reducible show wpAny _ _ (pyIter _) _ _ _)); (fail_if_success (with_reducible show wpAny _ _ (call (Value.type "range") _ _) _ _ _)); (fail_if_success (with_reducible show wpAny _ _ (call (Value.type "zip") _ _) _ _ _)))); (fail_if_success (with_reducible show wpAny _ _ (exec (Stmt.If _ _ _ _) _) _ _ _)))); (fail_if_success (with_reducible show wpAny _ _ (exec (Stmt.Assign _ _ _) _) _ _ _))); walk1) | (((((((fail_if_success (with_reducible show wpAny _ _ (eval (Expr.ListComp _ _ _ _) _) _ _ _)); (fail_if_success (with_reducible show wpAny _ _ (exec (Stmt.While _ _ _ _) _) _ _ _)); (fail_if_success (with_reducible show wpAny _ _ (exec (Stmt.For _ _ _ _ _) _) _ _ _)); (fail_if_success (with_reducible show wpAny _ _ (exec (Stmt.Assign [Expr.Name _ _] (Expr.ListComp _ _ _ _) _) _) _ _ _)); (fail_if_success (with_reducible show wpAny _ _ (pyIter _) _ _ _)); (fail_if_success (with_reducible show wpAny _ _ (call (Value.type "range") _ _) _ _ _)); (fail_if_success (with_reducible show wpAny _ _ (call (Value.type "zip") _ _) _ _ _)))); (fail_if_success (with_reducible show wpAny _ _ (exec (Stmt.If _ _ _ _) _) _ _ _)))); (fail_if_success (with_reducible show wpAny _ _ (exec (Stmt.Assign _ _ _) _) _ _ _))); dsimp only; walk1))); (all_goals try dsimp only))
  rename Fr _ _ _ _ => F
  rename News _ _ _ _ => N
  refine cut_cell F N (fun f m' n₂ => f = .next ∧ ∃ o₁ j bl t1 t2 t3 m₀, n₂ = [(d, o₁)] ∧ DealO b₀ o₁ ∧ j < 5 ∧ bl < 3 ∧ m' = withL [(Str.ofString "behind", .str (mkS (behL j)) t1), (Str.ofString "blanks", .str (mkS (List.replicate bl 32)) t2), (Str.ofString "figures", .str (mkS fs) t3)] m₀) (fun CC hCC => ?_) ?_
  · ((repeat' (first | (k_unfold; (try dsimp only)) | (((fail_if_success (with_reducible show wpAny _ _ (eval (Expr.ListComp _ _ _ _) _) _ _ _)); (fail_if_success (with_reducible show wpAny _ _ (exec (Stmt.While _ _ _ _) _) _ _ _)); (fail_if_success (with_reducible show wpAny _ _ (exec (Stmt.For _ _ _ _ _) _) _ _ _)); (fail_if_success (with_reducible show wpAny _ _ (exec (Stmt.Assign [Expr.Name _ _] (Expr.ListComp _ _ _ _) _) _) _ _ _)); (fail_if_success (with_reducible show wpAny _ _ (pyIter _) _ _ _)); (fail_if_success (with_reducible show wpAny _ _ (call (Value.type "range") _ _) _ _ _)); (fail_if_success (with_reducible show wpAny _ _ (call (Value.type "zip") _ _) _ _ _))); walk1) | (((fail_if_success (with_reducible show wpAny _ _ (eval (Expr.ListComp _ _ _ _) _) _ _ _)); (fail_if_success (with_reducible show wpAny _ _ (exec (Stmt.While _ _ _ _) _) _ _ _)); (fail_if_success (with_reducible show wpAny _ _ (exec (Stmt.For _ _ _ _ _) _) _ _ _)); (fail_if_success (with_reducible show wpAny _ _ (exec (Stmt.Assign [Expr.Name _ _] (Expr.ListComp _ _ _ _) _) _) _ _ _)); (fail_if_success (with_reducible show wpAny _ _ (pyIter _) _ _ _)); (fail_if_success (with_reducible show wpAny _ _ (call (Value.type "range") _ _) _ _ _)); (fail_if_success (with_reducible show wpAny _ _ (call (Value.type "zip") _ _) _ _ _))); dsimp only; walk1))); (all_goals try dsimp only))
    rename Fr _ _ _ _ => F
    rename News _ _ _ _ => N
    refine take_F F N X T (by k_updF) hb D₁ rfl rfl rfl (by decide) (by decide) fun r t' h' tk o₂ r0 r1 F' N' D₂ => ?_
    clear F N
    have hr : r = 0 ∨ r = 1 ∨ r = 2 ∨ r = 3 ∨ r = 4 := by omega
    rcases hr with rfl | rfl | rfl | rfl | rfl
    · ((repeat' (first | (k_unfold; (try dsimp only)) | (((fail_if_success (with_reducible show wpAny _ _ (eval (Expr.ListComp _ _ _ _) _) _ _ _)); (fail_if_success (with_reducible show wpAny _ _ (exec (Stmt.While _ _ _ _) _) _ _ _)); (fail_if_success (with_reducible show wpAny _ _ (exec (Stmt.For _ _ _ _ _) _) _ _ _)); (fail_if_success (with_reducible show wpAny _ _ (exec (Stmt.Assign [Expr.Name _ _] (Expr.ListComp _ _ _ _) _) _) _ _ _)); (fail_if_success (with_reducible show wpAny _ _ (pyIter _) _ _ _)); (fail_if_success (with_reducible show wpAny _ _ (call (Value.type "range") _ _) _ _ _)); (fail_if_success (with_reducible show wpAny _ _ (call (Value.type "zip") _ _) _ _ _))); walk1) | (((fail_if_success (with_reducible show wpAny _ _ (eval (Expr.ListComp _ _ _ _) _) _ _ _)); (fail_if_success (with_reducible show wpAny _ _ (exec (Stmt.While _ _ _ _) _) _ _ _)); (fail_if_success (with_reducible show wpAny _ _ (exec (Stmt.For _ _ _ _ _) _) _ _ _)); (fail_if_success (with_reducible show wpAny _ _ (exec (Stmt.Assign [Expr.Name _ _] (Expr.ListComp _ _ _ _) _) _) _ _ _)); (fail_if_success (with_reducible show wpAny _ _ (pyIter _) _ _ _)); (fail_if_success (with_reducible show wpAny _ _ (call (Value.type "range") _ _) _ _ _)); (fail_if_success (with_reducible show wpAny _ _ (call (Value.type "zip") _ _) _ _ _))); dsimp only; walk1))); (all_goals try dsimp only))
      rename Fr _ _ _ _ => F
      rename News _ _ _ _ => N
      refine take_F F N X T (by k_updF) hb D₂ rfl rfl rfl (by decide) (by decide) fun r t' h' tk o₃ r0 r1 F' N' D₃ => ?_
      clear F N
      obtain ⟨bl, rfl⟩ := Int.eq_ofNat_of_zero_le r0
      ((repeat' (first | (k_unfold; (try dsimp only)) | (((fail_if_success (with_reducible show wpAny _ _ (eval (Expr.ListComp _ _ _ _) _) _ _ _)); (fail_if_success (with_reducible show wpAny _ _ (exec (Stmt.While _ _ _ _) _) _ _ _)); (fail_if_success (with_reducible show wpAny _ _ (exec (Stmt.For _ _ _ _ _) _) _ _ _)); (fail_if_success (with_reducible show wpAny _ _ (exec (Stmt.Assign [Expr.Name _ _] (Expr.ListComp _ _ _ _) _) _) _ _ _)); (fail_if_success (with_reducible show wpAny _ _ (pyIter _) _ _ _)); (fail_if_success (with_reducible show wpAny _ _ (call (Value.type "range") _ _) _ _ _)); (fail_if_success (with_reducible show wpAny _ _ (call (Value.type "zip") _ _) _ _ _))); walk1) | (((fail_if_success (with_reducible show wpAny _ _ (eval (Expr.ListComp _ _ _ _) _) _ _ _)); (fail_if_success (with_reducible show wpAny _ _ (exec (Stmt.While _ _ _ _) _) _ _ _)); (fail_if_success (with_reducible show wpAny _ _ (exec (Stmt.For _ _ _ _ _) _) _ _ _)); (fail_if_success (with_reducible show wpAny _ _ (exec (Stmt.Assign [Expr.Name _ _] (Expr.ListComp _ _ _ _) _) _) _ _ _)); (fail_if_success (with_reducible show wpAny _ _ (pyIter _) _ _ _)); (fail_if_success (with_reducible show wpAny _ _ (call (Value.type "range") _ _) _ _ _)); (fail_if_success (with_reducible show wpAny _ _ (call (Value.type "zip") _ _) _ _ _))); dsimp only; walk1))); (all_goals try dsimp only))
      rename Fr _ _ _ _ => F
      rename News _ _ _ _ => N
      exact hCC _ _ _ _ _ F (news_two N (.tail _ (.tail _ (.head _))) (.tail _ (.tail _ (.tail _ (.head _))))) ⟨rfl, _, 0, bl, _, _, _, _, rfl, D₃, by decide, by omega, withL_of _ _ ⟨congrArg (fun x => some (Value.str x _)) lit_e, rfl, rfl, trivial⟩⟩
    · ((repeat' (first | (k_unfold; (try dsimp only)) | (((fail_if_success (with_reducible show wpAny _ _ (eval (Expr.ListComp _ _ _ _) _) _ _ _)); (fail_if_success (with_reducible show wpAny _ _ (exec (Stmt.While _ _ _ _) _) _ _ _)); (fail_if_success (with_reducible show wpAny _ _ (exec (Stmt.For _ _ _ _ _) _) _ _ _)); (fail_if_success (with_reducible show wpAny _ _ (exec (Stmt.Assign [Expr.Name _ _] (Expr.ListComp _ _ _ _) _) _) _ _ _)); (fail_if_success (with_reducible show wpAny _ _ (pyIter _) _ _ _)); (fail_if_success (with_reducible show wpAny _ _ (call (Value.type "range") _ _) _ _ _)); (fail_if_success (with_reducible show wpAny _ _ (call (Value.type "zip") _ _) _ _ _))); walk1) | (((fail_if_success (with_reducible show wpAny _ _ (eval (Expr.ListComp _ _ _ _) _) _ _ _)); (fail_if_success (with_reducible show wpAny _ _ (exec (Stmt.While _ _ _ _) _) _ _ _)); (fail_if_success (with_reducible show wpAny _ _ (exec (Stmt.For _ _ _ _ _) _) _ _ _)); (fail_if_success (with_reducible show wpAny _ _ (exec (Stmt.Assign [Expr.Name _ _] (Expr.ListComp _ _ _ _) _) _) _ _ _)); (fail_if_success (with_reducible show wpAny _ _ (pyIter _) _ _ _)); (fail_if_success (with_reducible show wpAny _ _ (call (Value.type "range") _ _) _ _ _)); (fail_if_success (with_reducible show wpAny _ _ (call (Value.type "zip") _ _) _ _ _))); dsimp only; walk1))); (all_goals try dsimp only))
      rename Fr _ _ _ _ => F
      rename News _ _ _ _ => N
      refine take_F F N X T (by k_updF) hb D₂ rfl rfl rfl (by decide) (by decide) fun r t' h' tk o₃ r0 r1 F' N' D₃ => ?_
      clear F N
      obtain ⟨bl, rfl⟩ := Int.eq_ofNat_of_zero_le r0
      ((repeat' (first | (k_unfold; (try dsimp only)) | (((fail_if_success (with_reducible show wpAny _ _ (eval (Expr.ListComp _ _ _ _) _) _ _ _)); (fail_if_success (with_reducible show wpAny _ _ (exec (Stmt.While _ _ _ _) _) _ _ _)); (fail_if_success (with_reducible show wpAny _ _ (exec (Stmt.For _ _ _ _ _) _) _ _ _)); (fail_if_success (with_reducible show wpAny _ _ (exec (Stmt.Assign [Expr.Name _ _] (Expr.ListComp _ _ _ _) _) _) _ _ _)); (fail_if_success (with_reducible show wpAny _ _ (pyIter _) _ _ _)); (fail_if_success (with_reducible show wpAny _ _ (call (Value.type "range") _ _) _ _ _)); (fail_if_success (with_reducible show wpAny _ _ (call (Value.type "zip") _ _) _ _ _))); walk1) | (((fail_if_success (with_reducible show wpAny _ _ (eval (Expr.ListComp _ _ _ _) _) _ _ _)); (fail_if_success (with_reducible show wpAny _ _ (exec (Stmt.While _ _ _ _) _) _ _ _)); (fail_if_success (with_reducible show wpAny _ _ (exec (Stmt.For _ _ _ _ _) _) _ _ _)); (fail_if_success (with_reducible show wpAny _ _ (exec (Stmt.Assign [Expr.Name _ _] (Expr.ListComp _ _ _ _) _) _) _ _ _)); (fail_if_success (with_reducible show wpAny _ _ (pyIter _) _ _ _)); (fail_if_success (with_reducible show wpAny _ _ (call (Value.type "range") _ _) _ _ _)); (fail_if_success (with_reducible show wpAny _ _ (call (Value.type "zip") _ _) _ _ _))); dsimp only; walk1))); (all_goals try dsimp only))
      rename Fr _ _ _ _ => F
      rename News _ _ _ _ => N
      exact hCC _ _ _ _ _ F (news_two N (.tail _ (.tail _ (.head _))) (.tail _ (.tail _ (.tail _ (.head _))))) ⟨rfl, _, 1, bl, _, _, _, _, rfl, D₃, by decide, by omega, withL_of _ _ ⟨congrArg (fun x => some (Value.str x _)) lit_b, rfl, rfl, trivial⟩⟩
    · ((repeat' (first | (k_unfold; (try dsimp only)) | (((fail_if_success (with_reducible show wpAny _ _ (eval (Expr.ListComp _ _ _ _) _) _ _ _)); (fail_if_success (with_reducible show wpAny _ _ (exec (Stmt.While _ _ _ _) _) _ _ _)); (fail_if_success (with_reducible show wpAny _ _ (exec (Stmt.For _ _ _ _ _) _) _ _ _)); (fail_if_success (with_reducible show wpAny _ _ (exec (Stmt.Assign [Expr.Name _ _] (Expr.ListComp _ _ _ _) _) _) _ _ _)); (fail_if_success (with_reducible show wpAny _ _ (pyIter _) _ _ _)); (fail_if_success (with_reducible show wpAny _ _ (call (Value.type "range") _ _) _ _ _)); (fail_if_success (with_reducible show wpAny _ _ (call (Value.type "zip") _ _) _ _ _))); walk1) | (((fail_if_success (with_reducible show wpAny _ _ (eval (Expr.ListComp _ _ _ _) _) _ _ _)); (fail_if_success (with_reducible show wpAny _ _ (exec (Stmt.While _ _ _ _) _) _ _ _)); (fail_if_success (with_reducible show wpAny _ _ (exec (Stmt.For _ _ _ _ _) _) _ _ _)); (fail_if_success (with_reducible show wpAny _ _ (exec (Stmt.Assign [Expr.Name _ _] (Expr.ListComp _ _ _ _) _) _) _ _ _)); (fail_if_success (with_reducible show wpAny _ _ (pyIter _) _ _ _)); (fail_if_success (with_reducible show wpAny _ _ (call (Value.type "range") _ _) _ _ _)); (fail_if_success (with_reducible show wpAny _ _ (call (Value.type "zip") _ _) _ _ _))); dsimp only; walk1))); (all_goals try dsimp only))
      rename Fr _ _ _ _ => F
      rename News _ _ _ _ => N
      refine take_F F N X T (by k_updF) hb D₂ rfl rfl rfl (by decide) (by decide) fun r t' h' tk o₃ r0 r1 F' N' D₃ => ?_
      clear F N
      obtain ⟨bl, rfl⟩ := Int.eq_ofNat_of_zero_le r0
      ((repeat' (first | (k_unfold; (try dsimp only)) | (((fail_if_success (with_reducible show wpAny _ _ (eval (Expr.ListComp _ _ _ _) _) _ _ _)); (fail_if_success (with_reducible show wpAny _ _ (exec (Stmt.While _ _ _ _) _) _ _ _)); (fail_if_success (with_reducible show wpAny _ _ (exec (Stmt.For _ _ _ _ _) _) _ _ _)); (fail_if_success (with_reducible show wpAny _ _ (exec (Stmt.Assign [Expr.Name _ _] (Expr.ListComp _ _ _ _) _) _) _ _ _)); (fail_if_success (with_reducible show wpAny _ _ (pyIter _) _ _ _)); (fail_if_success (with_reducible show wpAny _ _ (call (Value.type "range") _ _) _ _ _)); (fail_if_success (with_reducible show wpAny _ _ (call (Value.type "zip") _ _) _ _ _))); walk1) | (((fail_if_success (with_reducible show wpAny _ _ (eval (Expr.ListComp _ _ _ _) _) _ _ _)); (fail_if_success (with_reducible show wpAny _ _ (exec (Stmt.While _ _ _ _) _) _ _ _)); (fail_if_success (with_reducible show wpAny _ _ (exec (Stmt.For _ _ _ _ _) _) _ _ _)); (fail_if_success (with_reducible show wpAny _ _ (exec (Stmt.Assign [Expr.Name _ _] (Expr.ListComp _ _ _ _) _) _) _ _ _)); (fail_if_success (with_reducible show wpAny _ _ (pyIter _) _ _ _)); (fail_if_success (with_reducible show wpAny _ _ (call (Value.type "range") _ _) _ _ _)); (fail_if_success (with_reducible show wpAny _ _ (call (Value.type "zip") _ _) _ _ _))); dsimp only; walk1))); (all_goals try dsimp only))
      rename Fr _ _ _ _ => F
      rename News _ _ _ _ => N
      exact hCC _ _ _ _ _ F (news_two N (.tail _ (.tail _ (.head _))) (.tail _ (.tail _ (.tail _ (.head _))))) ⟨rfl, _, 2, bl, _, _, _, _, rfl, D₃, by decide, by omega, withL_of _ _ ⟨congrArg (fun x => some (Value.str x _)) lit_bX, rfl, rfl, trivial⟩⟩
    · ((repeat' (first | (k_unfold; (try dsimp only)) | (((fail_if_success (with_reducible show wpAny _ _ (eval (Expr.ListComp _ _ _ _) _) _ _ _)); (fail_if_success (with_reducible show wpAny _ _ (exec (Stmt.While _ _ _ _) _) _ _ _)); (fail_if_success (with_reducible show wpAny _ _ (exec (Stmt.For _ _ _ _ _) _) _ _ _)); (fail_if_success (with_reducible show wpAny _ _ (exec (Stmt.Assign [Expr.Name _ _] (Expr.ListComp _ _ _ _) _) _) _ _ _)); (fail_if_success (with_reducible show wpAny _ _ (pyIter _) _ _ _)); (fail_if_success (with_reducible show wpAny _ _ (call (Value.type "range") _ _) _ _ _)); (fail_if_success (with_reducible show wpAny _ _ (call (Value.type "zip") _ _) _ _ _))); walk1) | (((fail_if_success (with_reducible show wpAny _ _ (eval (Expr.ListComp _ _ _ _) _) _ _ _)); (fail_if_success (with_reducible show wpAny _ _ (exec (Stmt.While _ _ _ _) _) _ _ _)); (fail_if_success (with_reducible show wpAny _ _ (exec (Stmt.For _ _ _ _ _) _) _ _ _)); (fail_if_success (with_reducible show wpAny _ _ (exec (Stmt.Assign [Expr.Name _ _] (Expr.ListComp _ _ _ _) _) _) _ _ _)); (fail_if_success (with_reducible show wpAny _ _ (pyIter _) _ _ _)); (fail_if_success (with_reducible show wpAny _ _ (call (Value.type "range") _ _) _ _ _)); (fail_if_success (with_reducible show wpAny _ _ (call (Value.type "zip") _ _) _ _ _))); dsimp only; walk1))); (all_goals try dsimp only))
      rename Fr _ _ _ _ => F
      rename News _ _ _ _ => N
      refine take_F F N X T (by k_updF) hb D₂ rfl rfl rfl (by decide) (by decide) fun r t' h' tk o₃ r0 r1 F' N' D₃ => ?_
      clear F N
      obtain ⟨bl, rfl⟩ := Int.eq_ofNat_of_zero_le r0
      ((repeat' (first | (k_unfold; (try dsimp only)) | (((fail_if_success (with_reducible show wpAny _ _ (eval (Expr.ListComp _ _ _ _) _) _ _ _)); (fail_if_success (with_reducible show wpAny _ _ (exec (Stmt.While _ _ _ _) _) _ _ _)); (fail_if_success (with_reducible show wpAny _ _ (exec (Stmt.For _ _ _ _ _) _) _ _ _)); (fail_if_success (with_reducible show wpAny _ _ (exec (Stmt.Assign [Expr.Name _ _] (Expr.ListComp _ _ _ _) _) _) _ _ _)); (fail_if_success (with_reducible show wpAny _ _ (pyIter _) _ _ _)); (fail_if_success (with_reducible show wpAny _ _ (call (Value.type "range") _ _) _ _ _)); (fail_if_success (with_reducible show wpAny _ _ (call (Value.type "zip") _ _) _ _ _))); walk1) | (((fail_if_success (with_reducible show wpAny _ _ (eval (Expr.ListComp _ _ _ _) _) _ _ _)); (fail_if_success (with_reducible show wpAny _ _ (exec (Stmt.While _ _ _ _) _) _ _ _)); (fail_if_success (with_reducible show wpAny _ _ (exec (Stmt.For _ _ _ _ _) _) _ _ _)); (fail_if_success (with_reducible show wpAny _ _ (exec (Stmt.Assign [Expr.Name _ _] (Expr.ListComp _ _ _ _) _) _) _ _ _)); (fail_if_success (with_reducible show wpAny _ _ (pyIter _) _ _ _)); (fail_if_success (with_reducible show wpAny _ _ (call (Value.type "range") _ _) _ _ _)); (fail_if_success (with_reducible show wpAny _ _ (call (Value.type "zip") _ _) _ _ _))); dsimp only; walk1))); (all_goals try dsimp only))
      rename Fr _ _ _ _ => F
      rename News _ _ _ _ => N
      exact hCC _ _ _ _ _ F (news_two N (.tail _ (.tail _ (.head _))) (.tail _ (.tail _ (.tail _ (.head _))))) ⟨rfl, _, 3, bl, _, _, _, _, rfl, D₃, by decide, by omega, withL_of _ _ ⟨congrArg (fun x => some (Value.str x _)) lit_X, rfl, rfl, trivial⟩⟩
    · ((repeat' (first | (k_unfold; (try dsimp only)) | (((fail_if_success (with_reducible show wpAny _ _ (eval (Expr.ListComp _ _ _ _) _) _ _ _)); (fail_if_success (with_reducible show wpAny _ _ (exec (Stmt.While _ _ _ _) _) _ _ _)); (fail_if_success (with_reducible show wpAny _ _ (exec (Stmt.For _ _ _ _ _) _) _ _ _)); (fail_if_success (with_reducible show wpAny _ _ (exec (Stmt.Assign [Expr.Name _ _] (Expr.ListComp _ _ _ _) _) _) _ _ _)); (fail_if_success (with_reducible show wpAny _ _ (pyIter _) _ _ _)); (fail_if_success (with_reducible show wpAny _ _ (call (Value.type "range") _ _) _ _ _)); (fail_if_success (with_reducible show wpAny _ _ (call (Value.type "zip") _ _) _ _ _))); walk1) | (((fail_if_success (with_reducible show wpAny _ _ (eval (Expr.ListComp _ _ _ _) _) _ _ _)); (fail_if_success (with_reducible show wpAny _ _ (exec (Stmt.While _ _ _ _) _) _ _ _)); (fail_if_success (with_reducible show wpAny _ _ (exec (Stmt.For _ _ _ _ _) _) _ _ _)); (fail_if_success (with_reducible show wpAny _ _ (exec (Stmt.Assign [Expr.Name _ _] (Expr.ListComp _ _ _ _) _) _) _ _ _)); (fail_if_success (with_reducible show wpAny _ _ (pyIter _) _ _ _)); (fail_if_success (with_reducible show wpAny _ _ (call (Value.type "range") _ _) _ _ _)); (fail_if_success (with_reducible show wpAny _ _ (call (Value.type "zip") _ _) _ _ _))); dsimp only; walk1))); (all_goals try dsimp only))
      rename Fr _ _ _ _ => F
      rename News _ _ _ _ => N
      refine take_F F N X T (by k_updF) hb D₂ rfl rfl rfl (by decide) (by decide) fun r t' h' tk o₃ r0 r1 F' N' D₃ => ?_
      clear F N
      obtain ⟨bl, rfl⟩ := Int.eq_ofNat_of_zero_le r0
      ((repeat' (first | (k_unfold; (try dsimp only)) | (((fail_if_success (with_reducible show wpAny _ _ (eval (Expr.ListComp _ _ _ _) _) _ _ _)); (fail_if_success (with_reducible show wpAny _ _ (exec (Stmt.While _ _ _ _) _) _ _ _)); (fail_if_success (with_reducible show wpAny _ _ (exec (Stmt.For _ _ _ _ _) _) _ _ _)); (fail_if_success (with_reducible show wpAny _ _ (exec (Stmt.Assign [Expr.Name _ _] (Expr.ListComp _ _ _ _) _) _) _ _ _)); (fail_if_success (with_reducible show wpAny _ _ (pyIter _) _ _ _)); (fail_if_success (with_reducible show wpAny _ _ (call (Value.type "range") _ _) _ _ _)); (fail_if_success (with_reducible show wpAny _ _ (call (Value.type "zip") _ _) _ _ _))); walk1) | (((fail_if_success (with_reducible show wpAny _ _ (eval (Expr.ListComp _ _ _ _) _) _ _ _)); (fail_if_success (with_reducible show wpAny _ _ (exec (Stmt.While _ _ _ _) _) _ _ _)); (fail_if_success (with_reducible show wpAny _ _ (exec (Stmt.For _ _ _ _ _) _) _ _ _)); (fail_if_success (with_reducible show wpAny _ _ (exec (Stmt.Assign [Expr.Name _ _] (Expr.ListComp _ _ _ _) _) _) _ _ _)); (fail_if_success (with_reducible show wpAny _ _ (pyIter _) _ _ _)); (fail_if_success (with_reducible show wpAny _ _ (call (Value.type "range") _ _) _ _ _)); (fail_if_success (with_reducible show wpAny _ _ (call (Value.type "zip") _ _) _ _ _))); dsimp only; walk1))); (all_goals try dsimp only))
      rename Fr _ _ _ _ => F
      rename News _ _ _ _ => N
      exact hCC _ _ _ _ _ F (news_two N (.tail _ (.tail _ (.head _))) (.tail _ (.tail _ (.tail _ (.head _))))) ⟨rfl, _, 4, bl, _, _, _, _, rfl, D₃, by decide, by omega, withL_of _ _ ⟨congrArg (fun x => some (Value.str x _)) lit_m, rfl, rfl, trivial⟩⟩
  rintro _ h' tk m' _ F₁ N₁ ⟨rfl, o₁, j, bl, t1, t2, t3, m₀, rfl, D₁, hj, hbl, rfl⟩
  clear F N
  have hbe : (behL j).length ≤ 2 := by unfold behL; have : j = 0 ∨ j = 1 ∨ j = 2 ∨ j = 3 ∨ j = 4 := (by omega); rcases this with rfl | rfl | rfl | rfl | rfl <;> decide
  ((repeat' (first | (k_unfold; (try dsimp only)) | (((((((fail_if_success (with_reducible show wpAny _ _ (eval (Expr.ListComp _ _ _ _) _) _ _ _)); (fail_if_success (with_reducible show wpAny _ _ (exec (Stmt.While _ _ _ _) _) _ _ _)); (fail_if_success (with_reducible show wpAny _ _ (exec (Stmt.For _ _ _ _ _) _) _ _ _)); (fail_if_success (with_reducible show wpAny _ _ (exec (Stmt.Assign [Expr.Name _ _] (Expr.ListComp _ _ _ _) _) _) _ _ _)); (fail_if_success (with_reducible show wpAny _ _ (pyIter _) _ _ _)); (fail_if_success (with_reducible show wpAny _ _ (call (Value.type "range") _ _) _ _ _)); (fail_if_success (with_reducible show wpAny _ _ (call (Value.type "zip") _ _) _ _ _)))); (fail_if_success (with_reducible show wpAny _ _ (exec (Stmt.If _ _ _ _) _) _ _ _)))); (fail_if_success (with_reducible show wpAny _ _ (exec (Stmt.Assign _ _ _) _) _ _ _))); walk1) | (((((((fail_if_success (with_reducible show wpAny _ _ (eval (Expr.ListComp _ _ _ _) _) _ _ _)); (fail_if_success (with_reducible show wpAny _ _ (exec (Stmt.While _ _ _ _) _) _ _ _)); (fail_if_success (with_reducible show wpAny _ _ (exec (Stmt.For _ _ _ _ _) _) _ _ _)); (fail_if_success (with_reducible show wpAny _ _ (exec (Stmt.Assign [Expr.Name _ _] (Expr.ListComp _ _ _ _) _) _) _ _ _)); (fail_if_success (with_reducible show wpAny _ _ (pyIter _) _ _ _)); (fail_if_success (with_reducible show wpAny _ _ (call (Value.type "range") _ _) _ _ _)); (fail_if_success (with_reducible show wpAny _ _ (call (Value.type "zip") _ _) _ _ _)))); (fail_if_success (with_reducible show wpAny _ _ (exec (Stmt.If _ _ _ _) _) _ _ _)))); (fail_if_success (with_reducible show wpAny _ _ (exec (Stmt.Assign _ _ _) _) _ _ _))); dsimp only; walk1))); (all_goals try dsimp only))
  rename Fr _ _ _ _ => F
  rename News _ _ _ _ => N
  obtain ⟨row, hrow⟩ : ∃ row, row = (List.replicate bl 32 ++ fs ++ behL j) := ⟨_, rfl⟩
  refine cut_cell F N (fun f m' n₂ => f = .next ∧ ∃ rl vs kk t1 t2 t3 m₀, n₂ = [(rl, listOf (List.toArray vs) kk), (d, o₁)] ∧ rl ≠ d ∧ IntsAre vs (row.map (fun c : Nat => (c : Int))) ∧ m' = withL [(Str.ofString "row", .ref rl), (Str.ofString "behind", .str (mkS (behL j)) t1), (Str.ofString "blanks", .str (mkS (List.replicate bl 32)) t2), (Str.ofString "figures", .str (mkS fs) t3)] m₀) (fun CC hCC => ?_) ?_
  · ((try (k_unmd; k_fold)); refine' Assign_ListComp_ct (cl := _) [] ?hsw_162 ?hc_162 ?h1_162 ?h2_162 ?h3_162 ?hy_162 ?hp_162 ?_ ?hs_162; (case hsw_162 => exact rfl); (case hc_162 => exact rfl); (case h1_162 => decide); (case h2_162 => exact rfl); (case h3_162 => decide); (case hy_162 => exact rfl); (case hp_162 => exact rfl); (case hs_162 => intro _; exact rfl))
    ((repeat' (first | (k_unfold; (try dsimp only)) | (((fail_if_success (with_reducible show wpAny _ _ (eval (Expr.ListComp _ _ _ _) _) _ _ _)); (fail_if_success (with_reducible show wpAny _ _ (exec (Stmt.While _ _ _ _) _) _ _ _)); (fail_if_success (with_reducible show wpAny _ _ (exec (Stmt.For _ _ _ _ _) _) _ _ _)); (fail_if_success (with_reducible show wpAny _ _ (exec (Stmt.Assign [Expr.Name _ _] (Expr.ListComp _ _ _ _) _) _) _ _ _)); (fail_if_success (with_reducible show wpAny _ _ (pyIter _) _ _ _)); (fail_if_success (with_reducible show wpAny _ _ (call (Value.type "range") _ _) _ _ _)); (fail_if_success (with_reducible show wpAny _ _ (call (Value.type "zip") _ _) _ _ _))); walk1) | (((fail_if_success (with_reducible show wpAny _ _ (eval (Expr.ListComp _ _ _ _) _) _ _ _)); (fail_if_success (with_reducible show wpAny _ _ (exec (Stmt.While _ _ _ _) _) _ _ _)); (fail_if_success (with_reducible show wpAny _ _ (exec (Stmt.For _ _ _ _ _) _) _ _ _)); (fail_if_success (with_reducible show wpAny _ _ (exec (Stmt.Assign [Expr.Name _ _] (Expr.ListComp _ _ _ _) _) _) _ _ _)); (fail_if_success (with_reducible show wpAny _ _ (pyIter _) _ _ _)); (fail_if_success (with_reducible show wpAny _ _ (call (Value.type "range") _ _) _ _ _)); (fail_if_success (with_reducible show wpAny _ _ (call (Value.type "zip") _ _) _ _ _))); dsimp only; walk1))); (all_goals try dsimp only))
    rename Fr _ _ _ _ => F
    rename News _ _ _ _ => N
    refine core_pure (T := fun Q => wpAny _ _ (pyIter (.str _ _)) Q _ _) (P := fun i v => SignAt (mkS (List.replicate bl 32 ++ fs ++ behL j)) i v) (src_str rfl) (by rw [sizeLine_eq]; simp [mkS]; omega) rfl rfl (fun (i : Nat) (y : Value) => ∃ t, y = Value.int ((row.getD i 0 : Nat) : Int) t) ?_ fun h₂ tk wr st hs hwr => fin_A rfl F N ?_ h₂ tk wr st hs hwr
    · rintro C k v h₃ tk m' hC hk ⟨c, u, hcu, rfl⟩ st F₃ N₃
      have X₃ := X.keeps fun b o e => st b o (F.keep b o e)
      have T₃ := T.keeps fun b o e => st b o (F.keep b o e)
      clear F N
      k_unmd; k_fold
      dsimp only [compEnvC]
      ((repeat' (first | (k_unfold; (try dsimp only)) | (((fail_if_success (with_reducible show wpAny _ _ (eval (Expr.ListComp _ _ _ _) _) _ _ _)); (fail_if_success (with_reducible show wpAny _ _ (exec (Stmt.While _ _ _ _) _) _ _ _)); (fail_if_success (with_reducible show wpAny _ _ (exec (Stmt.For _ _ _ _ _) _) _ _ _)); (fail_if_success (with_reducible show wpAny _ _ (exec (Stmt.Assign [Expr.Name _ _] (Expr.ListComp _ _ _ _) _) _) _ _ _)); (fail_if_success (with_reducible show wpAny _ _ (pyIter _) _ _ _)); (fail_if_success (with_reducible show wpAny _ _ (call (Value.type "range") _ _) _ _ _)); (fail_if_success (with_reducible show wpAny _ _ (call (Value.type "zip") _ _) _ _ _))); walk1) | (((fail_if_success (with_reducible show wpAny _ _ (eval (Expr.ListComp _ _ _ _) _) _ _ _)); (fail_if_success (with_reducible show wpAny _ _ (exec (Stmt.While _ _ _ _) _) _ _ _)); (fail_if_success (with_reducible show wpAny _ _ (exec (Stmt.For _ _ _ _ _) _) _ _ _)); (fail_if_success (with_reducible show wpAny _ _ (exec (Stmt.Assign [Expr.Name _ _] (Expr.ListComp _ _ _ _) _) _) _ _ _)); (fail_if_success (with_reducible show wpAny _ _ (pyIter _) _ _ _)); (fail_if_success (with_reducible show wpAny _ _ (call (Value.type "range") _ _) _ _ _)); (fail_if_success (with_reducible show wpAny _ _ (call (Value.type "zip") _ _) _ _ _))); dsimp only; walk1))); (all_goals try dsimp only))
      rename Fr _ _ _ _ => F'
      have hg : row[k]? = some c := by rw [hrow]; simpa [mkS] using hcu
      exact ⟨⟨⟨_, by rw [List.getD_eq_getElem?_getD, hg]; rfl⟩, EltEnd.mk F'⟩⟩
    · intro D h' tk ys kk hlen' hR F' N' hlt hD
      have hys : IntsAre ys (row.map (fun c : Nat => (c : Int))) := ints_row (by rw [hlen', hrow]; simp [mkS]) hR
      have hd := hlt.2.1
      exact hCC _ _ _ _ _ F' (news_perm3 N') ⟨rfl, _, _, _, _, _, _, _, rfl, Nat.ne_of_gt hd, hys, withL_of _ _ ⟨rfl, rfl, rfl, rfl, trivial⟩⟩
  rintro _ h' tk m' _ F₁ N₁ ⟨rfl, rl, vs, kk, t1, t2, t3, m₀, rfl, hrd, hi, rfl⟩
  clear F N
  ((repeat' (first | (k_unfold; (try dsimp only)) | (((((((fail_if_success (with_reducible show wpAny _ _ (eval (Expr.ListComp _ _ _ _) _) _ _ _)); (fail_if_success (with_reducible show wpAny _ _ (exec (Stmt.While _ _ _ _) _) _ _ _)); (fail_if_success (with_reducible show wpAny _ _ (exec (Stmt.For _ _ _ _ _) _) _ _ _)); (fail_if_success (with_reducible show wpAny _ _ (exec (Stmt.Assign [Expr.Name _ _] (Expr.ListComp _ _ _ _) _) _) _ _ _)); (fail_if_success (with_reducible show wpAny _ _ (pyIter _) _ _ _)); (fail_if_success (with_reducible show wpAny _ _ (call (Value.type "range") _ _) _ _ _)); (fail_if_success (with_reducible show wpAny _ _ (call (Value.type "zip") _ _) _ _ _)))); (fail_if_success (with_reducible show wpAny _ _ (exec (Stmt.If _ _ _ _) _) _ _ _)))); (fail_if_success (with_reducible show wpAny _ _ (exec (Stmt.Assign _ _ _) _) _ _ _))); walk1) | (((((((fail_if_success (with_reducible show wpAny _ _ (eval (Expr.ListComp _ _ _ _) _) _ _ _)); (fail_if_success (with_reducible show wpAny _ _ (exec (Stmt.While _ _ _ _) _) _ _ _)); (fail_if_success (with_reducible show wpAny _ _ (exec (Stmt.For _ _ _ _ _) _) _ _ _)); (fail_if_success (with_reducible show wpAny _ _ (exec (Stmt.Assign [Expr.Name _ _] (Expr.ListComp _ _ _ _) _) _) _ _ _)); (fail_if_success (with_reducible show wpAny _ _ (pyIter _) _ _ _)); (fail_if_success (with_reducible show wpAny _ _ (call (Value.type "range") _ _) _ _ _)); (fail_if_success (with_reducible show wpAny _ _ (call (Value.type "zip") _ _) _ _ _)))); (fail_if_success (with_reducible show wpAny _ _ (exec (Stmt.If _ _ _ _) _) _ _ _)))); (fail_if_success (with_reducible show wpAny _ _ (exec (Stmt.Assign _ _ _) _) _ _ _))); dsimp only; walk1))); (all_goals try dsimp only))
  rename Fr _ _ _ _ => F
  rename News _ _ _ _ => N
  refine cut_cell F N (fun f m' n₂ => f = .next ∧ n₂ = [(rl, listOf (List.toArray vs) kk), (d, o₁)] ∧ ∃ (gd : Bool) (t2 t3 : Tok) (m₀ : Str → Option Value), (gd = true ↔ fs ≠ [] ∧ numV 0 (fs.map (fun c : Nat => (c : Int))) < 256 ∧ j < 3) ∧ m' = withL [(Str.ofString "is_good", .bool gd), (Str.ofString "row", .ref rl), (Str.ofString "blanks", .str (mkS (List.replicate bl 32)) t2), (Str.ofString "figures", .str (mkS fs) t3)] m₀) (fun CC hCC => ?_) ?_
  · cases fs with
    | nil =>
      rw [show mkS ([] : List Nat) = Str.ofString "" from lit_e.symm] at F
      ((repeat' (first | (k_unfold; (try dsimp only)) | (((fail_if_success (with_reducible show wpAny _ _ (eval (Expr.ListComp _ _ _ _) _) _ _ _)); (fail_if_success (with_reducible show wpAny _ _ (exec (Stmt.While _ _ _ _) _) _ _ _)); (fail_if_success (with_reducible show wpAny _ _ (exec (Stmt.For _ _ _ _ _) _) _ _ _)); (fail_if_success (with_reducible show wpAny _ _ (exec (Stmt.Assign [Expr.Name _ _] (Expr.ListComp _ _ _ _) _) _) _ _ _)); (fail_if_success (with_reducible show wpAny _ _ (pyIter _) _ _ _)); (fail_if_success (with_reducible show wpAny _ _ (call (Value.type "range") _ _) _ _ _)); (fail_if_success (with_reducible show wpAny _ _ (call (Value.type "zip") _ _) _ _ _))); walk1) | (((fail_if_success (with_reducible show wpAny _ _ (eval (Expr.ListComp _ _ _ _) _) _ _ _)); (fail_if_success (with_reducible show wpAny _ _ (exec (Stmt.While _ _ _ _) _) _ _ _)); (fail_if_success (with_reducible show wpAny _ _ (exec (Stmt.For _ _ _ _ _) _) _ _ _)); (fail_if_success (with_reducible show wpAny _ _ (exec (Stmt.Assign [Expr.Name _ _] (Expr.ListComp _ _ _ _) _) _) _ _ _)); (fail_if_success (with_reducible show wpAny _ _ (pyIter _) _ _ _)); (fail_if_success (with_reducible show wpAny _ _ (call (Value.type "range") _ _) _ _ _)); (fail_if_success (with_reducible show wpAny _ _ (call (Value.type "zip") _ _) _ _ _))); dsimp only; walk1))); (all_goals try dsimp only))
      rename Fr _ _ _ _ => F
      rename News _ _ _ _ => N
      exact hCC _ _ _ _ _ F N ⟨rfl, rfl, false, _, _, _, by simp, withL_of _ _ ⟨rfl, rfl, rfl, congrArg (fun x => some (Value.str x _)) lit_e, trivial⟩⟩
    | cons a r =>
      have hint : PySem.intText? (mkS (a :: r)) = some ((NumText.digitsVal (mkS (a :: r)).cps.toList : Nat) : Int) := intText_digits (by rw [mkS_list]; exact hfd) (by rw [mkS_list]; simp) (by rw [mkS_len]; omega)
      have hil : (mkS (a :: r)).length ≤ 640 := by rw [mkS_len]; omega
      rw [mkS_list] at hint
      have hj5 : j = 0 ∨ j = 1 ∨ j = 2 ∨ j = 3 ∨ j = 4 := by omega
      rcases hj5 with rfl | rfl | rfl | rfl | rfl
      · ((repeat' (first | (k_unfold; (try dsimp only)) | (((fail_if_success (with_reducible show wpAny _ _ (eval (Expr.ListComp _ _ _ _) _) _ _ _)); (fail_if_success (with_reducible show wpAny _ _ (exec (Stmt.While _ _ _ _) _) _ _ _)); (fail_if_success (with_reducible show wpAny _ _ (exec (Stmt.For _ _ _ _ _) _) _ _ _)); (fail_if_success (with_reducible show wpAny _ _ (exec (Stmt.Assign [Expr.Name _ _] (Expr.ListComp _ _ _ _) _) _) _ _ _)); (fail_if_success (with_reducible show wpAny _ _ (pyIter _) _ _ _)); (fail_if_success (with_reducible show wpAny _ _ (call (Value.type "range") _ _) _ _ _)); (fail_if_success (with_reducible show wpAny _ _ (call (Value.type "zip") _ _) _ _ _))); walk1) | (((fail_if_success (with_reducible show wpAny _ _ (eval (Expr.ListComp _ _ _ _) _) _ _ _)); (fail_if_success (with_reducible show wpAny _ _ (exec (Stmt.While _ _ _ _) _) _ _ _)); (fail_if_success (with_reducible show wpAny _ _ (exec (Stmt.For _ _ _ _ _) _) _ _ _)); (fail_if_success (with_reducible show wpAny _ _ (exec (Stmt.Assign [Expr.Name _ _] (Expr.ListComp _ _ _ _) _) _) _ _ _)); (fail_if_success (with_reducible show wpAny _ _ (pyIter _) _ _ _)); (fail_if_success (with_reducible show wpAny _ _ (call (Value.type "range") _ _) _ _ _)); (fail_if_success (with_reducible show wpAny _ _ (call (Value.type "zip") _ _) _ _ _))); dsimp only; walk1))); (all_goals try dsimp only))
        all_goals rename Fr _ _ _ _ => F
        all_goals rename News _ _ _ _ => N
        · have hlt : ((NumText.digitsVal (a :: r) : Nat) : Int) < 256 := by assumption
          refine hCC _ _ _ _ _ F (news_three N (.tail _ (.head _)) (.tail _ (.tail _ (.head _))) (.tail _ (.tail _ (.tail _ (.head _))))) ⟨rfl, rfl, _, _, _, _, ?_, withL_of _ _ ⟨rfl, rfl, rfl, rfl, trivial⟩⟩
          rw [numV_digits hfd]
          exact ⟨fun _ => ⟨by simp, hlt, by decide⟩, fun _ => by decide +kernel⟩
        · have hlt : ¬ ((NumText.digitsVal (a :: r) : Nat) : Int) < 256 := by assumption
          refine hCC _ _ _ _ _ F N ⟨rfl, rfl, _, _, _, _, ?_, withL_of _ _ ⟨rfl, rfl, rfl, rfl, trivial⟩⟩
          rw [numV_digits hfd]
          first
            | exact ⟨fun h => absurd (of_decide_eq_true h) hlt, fun h => absurd h.2.1 hlt⟩
            | exact ⟨fun h => nomatch h, fun h => absurd h.2.1 hlt⟩
        · exfalso
          rename (mkS (a :: r) != _) = false => hne
          rw [lit_e] at hne
          have := congrArg (fun x : Str => x.cps.size) (by simpa using hne : mkS (a :: r) = mkS [])
          simp [mkS] at this
      · ((repeat' (first | (k_unfold; (try dsimp only)) | (((fail_if_success (with_reducible show wpAny _ _ (eval (Expr.ListComp _ _ _ _) _) _ _ _)); (fail_if_success (with_reducible show wpAny _ _ (exec (Stmt.While _ _ _ _) _) _ _ _)); (fail_if_success (with_reducible show wpAny _ _ (exec (Stmt.For _ _ _ _ _) _) _ _ _)); (fail_if_success (with_reducible show wpAny _ _ (exec (Stmt.Assign [Expr.Name _ _] (Expr.ListComp _ _ _ _) _) _) _ _ _)); (fail_if_success (with_reducible show wpAny _ _ (pyIter _) _ _ _)); (fail_if_success (with_reducible show wpAny _ _ (call (Value.type "range") _ _) _ _ _)); (fail_if_success (with_reducible show wpAny _ _ (call (Value.type "zip") _ _) _ _ _))); walk1) | (((fail_if_success (with_reducible show wpAny _ _ (eval (Expr.ListComp _ _ _ _) _) _ _ _)); (fail_if_success (with_reducible show wpAny _ _ (exec (Stmt.While _ _ _ _) _) _ _ _)); (fail_if_success (with_reducible show wpAny _ _ (exec (Stmt.For _ _ _ _ _) _) _ _ _)); (fail_if_success (with_reducible show wpAny _ _ (exec (Stmt.Assign [Expr.Name _ _] (Expr.ListComp _ _ _ _) _) _) _ _ _)); (fail_if_success (with_reducible show wpAny _ _ (pyIter _) _ _ _)); (fail_if_success (with_reducible show wpAny _ _ (call (Value.type "range") _ _) _ _ _)); (fail_if_success (with_reducible show wpAny _ _ (call (Value.type "zip") _ _) _ _ _))); dsimp only; walk1))); (all_goals try dsimp only))
        all_goals rename Fr _ _ _ _ => F
        all_goals rename News _ _ _ _ => N
        · have hlt : ((NumText.digitsVal (a :: r) : Nat) : Int) < 256 := by assumption
          refine hCC _ _ _ _ _ F (news_three N (.tail _ (.head _)) (.tail _ (.tail _ (.head _))) (.tail _ (.tail _ (.tail _ (.head _))))) ⟨rfl, rfl, _, _, _, _, ?_, withL_of _ _ ⟨rfl, rfl, rfl, rfl, trivial⟩⟩
          rw [numV_digits hfd]
          exact ⟨fun _ => ⟨by simp, hlt, by decide⟩, fun _ => by decide +kernel⟩
        · have hlt : ¬ ((NumText.digitsVal (a :: r) : Nat) : Int) < 256 := by assumption
          refine hCC _ _ _ _ _ F N ⟨rfl, rfl, _, _, _, _, ?_, withL_of _ _ ⟨rfl, rfl, rfl, rfl, trivial⟩⟩
          rw [numV_digits hfd]
          first
            | exact ⟨fun h => absurd (of_decide_eq_true h) hlt, fun h => absurd h.2.1 hlt⟩
            | exact ⟨fun h => nomatch h, fun h => absurd h.2.1 hlt⟩
        · exfalso
          rename (mkS (a :: r) != _) = false => hne
          rw [lit_e] at hne
          have := congrArg (fun x : Str => x.cps.size) (by simpa using hne : mkS (a :: r) = mkS [])
          simp [mkS] at this
      · ((repeat' (first | (k_unfold; (try dsimp only)) | (((fail_if_success (with_reducible show wpAny _ _ (eval (Expr.ListComp _ _ _ _) _) _ _ _)); (fail_if_success (with_reducible show wpAny _ _ (exec (Stmt.While _ _ _ _) _) _ _ _)); (fail_if_success (with_reducible show wpAny _ _ (exec (Stmt.For _ _ _ _ _) _) _ _ _)); (fail_if_success (with_reducible show wpAny _ _ (exec (Stmt.Assign [Expr.Name _ _] (Expr.ListComp _ _ _ _) _) _) _ _ _)); (fail_if_success (with_reducible show wpAny _ _ (pyIter _) _ _ _)); (fail_if_success (with_reducible show wpAny _ _ (call (Value.type "range") _ _) _ _ _)); (fail_if_success (with_reducible show wpAny _ _ (call (Value.type "zip") _ _) _ _ _))); walk1) | (((fail_if_success (with_reducible show wpAny _ _ (eval (Expr.ListComp _ _ _ _) _) _ _ _)); (fail_if_success (with_reducible show wpAny _ _ (exec (Stmt.While _ _ _ _) _) _ _ _)); (fail_if_success (with_reducible show wpAny _ _ (exec (Stmt.For _ _ _ _ _) _) _ _ _)); (fail_if_success (with_reducible show wpAny _ _ (exec (Stmt.Assign [Expr.Name _ _] (Expr.ListComp _ _ _ _) _) _) _ _ _)); (fail_if_success (with_reducible show wpAny _ _ (pyIter _) _ _ _)); (fail_if_success (with_reducible show wpAny _ _ (call (Value.type "range") _ _) _ _ _)); (fail_if_success (with_reducible show wpAny _ _ (call (Value.type "zip") _ _) _ _ _))); dsimp only; walk1))); (all_goals try dsimp only))
        all_goals rename Fr _ _ _ _ => F
        all_goals rename News _ _ _ _ => N
        · have hlt : ((NumText.digitsVal (a :: r) : Nat) : Int) < 256 := by assumption
          refine hCC _ _ _ _ _ F (news_three N (.tail _ (.head _)) (.tail _ (.tail _ (.head _))) (.tail _ (.tail _ (.tail _ (.head _))))) ⟨rfl, rfl, _, _, _, _, ?_, withL_of _ _ ⟨rfl, rfl, rfl, rfl, trivial⟩⟩
          rw [numV_digits hfd]
          exact ⟨fun _ => ⟨by simp, hlt, by decide⟩, fun _ => by decide +kernel⟩
        · have hlt : ¬ ((NumText.digitsVal (a :: r) : Nat) : Int) < 256 := by assumption
          refine hCC _ _ _ _ _ F N ⟨rfl, rfl, _, _, _, _, ?_, withL_of _ _ ⟨rfl, rfl, rfl, rfl, trivial⟩⟩
          rw [numV_digits hfd]
          first
            | exact ⟨fun h => absurd (of_decide_eq_true h) hlt, fun h => absurd h.2.1 hlt⟩
            | exact ⟨fun h => nomatch h, fun h => absurd h.2.1 hlt⟩
        · exfalso
          rename (mkS (a :: r) != _) = false => hne
          rw [lit_e] at hne
          have := congrArg (fun x : Str => x.cps.size) (by simpa using hne : mkS (a :: r) = mkS [])
          simp [mkS] at this
      · ((repeat' (first | (k_unfold; (try dsimp only)) | (((fail_if_success (with_reducible show wpAny _ _ (eval (Expr.ListComp _ _ _ _) _) _ _ _)); (fail_if_success (with_reducible show wpAny _ _ (exec (Stmt.While _ _ _ _) _) _ _ _)); (fail_if_success (with_reducible show wpAny _ _ (exec (Stmt.For _ _ _ _ _) _) _ _ _)); (fail_if_success (with_reducible show wpAny _ _ (exec (Stmt.Assign [Expr.Name _ _] (Expr.ListComp _ _ _ _) _) _) _ _ _)); (fail_if_success (with_reducible show wpAny _ _ (pyIter _) _ _ _)); (fail_if_success (with_reducible show wpAny _ _ (call (Value.type "range") _ _) _ _ _)); (fail_if_success (with_reducible show wpAny _ _ (call (Value.type "zip") _ _) _ _ _))); walk1) | (((fail_if_success (with_reducible show wpAny _ _ (eval (Expr.ListComp _ _ _ _) _) _ _ _)); (fail_if_success (with_reducible show wpAny _ _ (exec (Stmt.While _ _ _ _) _) _ _ _)); (fail_if_success (with_reducible show wpAny _ _ (exec (Stmt.For _ _ _ _ _) _) _ _ _)); (fail_if_success (with_reducible show wpAny _ _ (exec (Stmt.Assign [Expr.Name _ _] (Expr.ListComp _ _ _ _) _) _) _ _ _)); (fail_if_success (with_reducible show wpAny _ _ (pyIter _) _ _ _)); (fail_if_success (with_reducible show wpAny _ _ (call (Value.type "range") _ _) _ _ _)); (fail_if_success (with_reducible show wpAny _ _ (call (Value.type "zip") _ _) _ _ _))); dsimp only; walk1))); (all_goals try dsimp only))
        all_goals rename Fr _ _ _ _ => F
        all_goals rename News _ _ _ _ => N
        · have hlt : ((NumText.digitsVal (a :: r) : Nat) : Int) < 256 := by assumption
          refine hCC _ _ _ _ _ F (news_three N (.tail _ (.head _)) (.tail _ (.tail _ (.head _))) (.tail _ (.tail _ (.tail _ (.head _))))) ⟨rfl, rfl, _, _, _, _, ?_, withL_of _ _ ⟨rfl, rfl, rfl, rfl, trivial⟩⟩
          rw [numV_digits hfd]
          exact ⟨fun h => absurd h (by decide +kernel), fun h => absurd h.2.2 (by decide)⟩
        · have hlt : ¬ ((NumText.digitsVal (a :: r) : Nat) : Int) < 256 := by assumption
          refine hCC _ _ _ _ _ F N ⟨rfl, rfl, _, _, _, _, ?_, withL_of _ _ ⟨rfl, rfl, rfl, rfl, trivial⟩⟩
          rw [numV_digits hfd]
          first
            | exact ⟨fun h => absurd (of_decide_eq_true h) hlt, fun h => absurd h.2.1 hlt⟩
            | exact ⟨fun h => nomatch h, fun h => absurd h.2.1 hlt⟩
        · exfalso
          rename (mkS (a :: r) != _) = false => hne
          rw [lit_e] at hne
          have := congrArg (fun x : Str => x.cps.size) (by simpa using hne : mkS (a :: r) = mkS [])
          simp [mkS] at this
      · ((repeat' (first | (k_unfold; (try dsimp only)) | (((fail_if_success (with_reducible show wpAny _ _ (eval (Expr.ListComp _ _ _ _) _) _ _ _)); (fail_if_success (with_reducible show wpAny _ _ (exec (Stmt.While _ _ _ _) _) _ _ _)); (fail_if_success (with_reducible show wpAny _ _ (exec (Stmt.For _ _ _ _ _) _) _ _ _)); (fail_if_success (with_reducible show wpAny _ _ (exec (Stmt.Assign [Expr.Name _ _] (Expr.ListComp _ _ _ _) _) _) _ _ _)); (fail_if_success (with_reducible show wpAny _ _ (pyIter _) _ _ _)); (fail_if_success (with_reducible show wpAny _ _ (call (Value.type "range") _ _) _ _ _)); (fail_if_success (with_reducible show wpAny _ _ (call (Value.type "zip") _ _) _ _ _))); walk1) | (((fail_if_success (with_reducible show wpAny _ _ (eval (Expr.ListComp _ _ _ _) _) _ _ _)); (fail_if_success (with_reducible show wpAny _ _ (exec (Stmt.While _ _ _ _) _) _ _ _)); (fail_if_success (with_reducible show wpAny _ _ (exec (Stmt.For _ _ _ _ _) _) _ _ _)); (fail_if_success (with_reducible show wpAny _ _ (exec (Stmt.Assign [Expr.Name _ _] (Expr.ListComp _ _ _ _) _) _) _ _ _)); (fail_if_success (with_reducible show wpAny _ _ (pyIter _) _ _ _)); (fail_if_success (with_reducible show wpAny _ _ (call (Value.type "range") _ _) _ _ _)); (fail_if_success (with_reducible show wpAny _ _ (call (Value.type "zip") _ _) _ _ _))); dsimp only; walk1))); (all_goals try dsimp only))
        all_goals rename Fr _ _ _ _ => F
        all_goals rename News _ _ _ _ => N
        · have hlt : ((NumText.digitsVal (a :: r) : Nat) : Int) < 256 := by assumption
          refine hCC _ _ _ _ _ F (news_three N (.tail _ (.head _)) (.tail _ (.tail _ (.head _))) (.tail _ (.tail _ (.tail _ (.head _))))) ⟨rfl, rfl, _, _, _, _, ?_, withL_of _ _ ⟨rfl, rfl, rfl, rfl, trivial⟩⟩
          rw [numV_digits hfd]
          exact ⟨fun h => absurd h (by decide +kernel), fun h => absurd h.2.2 (by decide)⟩
        · have hlt : ¬ ((NumText.digitsVal (a :: r) : Nat) : Int) < 256 := by assumption
          refine hCC _ _ _ _ _ F N ⟨rfl, rfl, _, _, _, _, ?_, withL_of _ _ ⟨rfl, rfl, rfl, rfl, trivial⟩⟩
          rw [numV_digits hfd]
          first
            | exact ⟨fun h => absurd (of_decide_eq_true h) hlt, fun h => absurd h.2.1 hlt⟩
            | exact ⟨fun h => nomatch h, fun h => absurd h.2.1 hlt⟩
        · exfalso
          rename (mkS (a :: r) != _) = false => hne
          rw [lit_e] at hne
          have := congrArg (fun x : Str => x.cps.size) (by simpa using hne : mkS (a :: r) = mkS [])
          simp [mkS] at this
  rintro _ h' tk m' _ F₁ N₁ ⟨rfl, rfl, gd, t2, t3, m₀, hgd, rfl⟩
  clear F N
  have hrl : row.length ≤ 10 := by rw [hrow]; simp; omega
  have hrI : row.map (fun c : Nat => (c : Int)) = List.replicate bl 32 ++ fs.map (fun c : Nat => (c : Int)) ++ (behL j).map (fun c : Nat => (c : Int)) := by rw [hrow]; simp
  ((repeat' (first | (k_unfold; (try dsimp only)) | (((fail_if_success (with_reducible show wpAny _ _ (eval (Expr.ListComp _ _ _ _) _) _ _ _)); (fail_if_success (with_reducible show wpAny _ _ (exec (Stmt.While _ _ _ _) _) _ _ _)); (fail_if_success (with_reducible show wpAny _ _ (exec (Stmt.For _ _ _ _ _) _) _ _ _)); (fail_if_success (with_reducible show wpAny _ _ (exec (Stmt.Assign [Expr.Name _ _] (Expr.ListComp _ _ _ _) _) _) _ _ _)); (fail_if_success (with_reducible show wpAny _ _ (pyIter _) _ _ _)); (fail_if_success (with_reducible show wpAny _ _ (call (Value.type "range") _ _) _ _ _)); (fail_if_success (with_reducible show wpAny _ _ (call (Value.type "zip") _ _) _ _ _))); walk1) | (((fail_if_success (with_reducible show wpAny _ _ (eval (Expr.ListComp _ _ _ _) _) _ _ _)); (fail_if_success (with_reducible show wpAny _ _ (exec (Stmt.While _ _ _ _) _) _ _ _)); (fail_if_success (with_reducible show wpAny _ _ (exec (Stmt.For _ _ _ _ _) _) _ _ _)); (fail_if_success (with_reducible show wpAny _ _ (exec (Stmt.Assign [Expr.Name _ _] (Expr.ListComp _ _ _ _) _) _) _ _ _)); (fail_if_success (with_reducible show wpAny _ _ (pyIter _) _ _ _)); (fail_if_success (with_reducible show wpAny _ _ (call (Value.type "range") _ _) _ _ _)); (fail_if_success (with_reducible show wpAny _ _ (call (Value.type "zip") _ _) _ _ _))); dsimp only; walk1))); (all_goals try dsimp only))
  rename Fr _ _ _ _ => F
  rename News _ _ _ _ => N
  refine wp_top (number_told_P (k := 0) (X.keeps F.keep) (T.keeps F.keep) (News.isList N (.tail _ (.head _))) hi (by rw [List.length_map]; omega) (by decide) fun v t' p h' tk st hs hn hp hp' => ?_) rfl rfl rfl
  obtain ⟨F', N'⟩ := grown_of F N st
  have N' := news_fresh F N' hp hp'
  clear F N
  rw [hrI] at hs hn
  cases gd with
  | true =>
    obtain ⟨g1, g2, g3⟩ := hgd.mp rfl
    obtain ⟨e1, e2, e3⟩ := number_some (bl := bl) (B := (behL j).map (fun c : Nat => (c : Int))) (digs_int hfd) (by simpa using g1) (beh_dig hj)
    have hnot : ¬ (255 < numV 0 (fs.map (fun c : Nat => (c : Int))) ∨ ∃ x, ((behL j).map (fun c : Nat => (c : Int))).head? = some x ∧ x ≠ 32) := by
      rintro (q | ⟨x, hx, hx'⟩)
      · omega
      · exact hx' (beh_good g3 hx)
    rw [if_neg hnot] at e3
    obtain ⟨t'', rfl⟩ := hs _ e3
    have hint : PySem.intText? (mkS fs) = some (numV 0 (fs.map (fun c : Nat => (c : Int)))) := by
      rw [numV_digits hfd, intText_digits (by rw [mkS_list]; exact hfd) (by rw [mkS_list]; exact g1) (by rw [mkS_len]; omega), mkS_list]
    have hil : (mkS fs).length ≤ 640 := by rw [mkS_len]; omega
    rw [hrI, e1, e2, List.length_map] at N'
    clear hs hn hi
    ((repeat' (first | (k_unfold; (try dsimp only)) | (((fail_if_success (with_reducible show wpAny _ _ (eval (Expr.ListComp _ _ _ _) _) _ _ _)); (fail_if_success (with_reducible show wpAny _ _ (exec (Stmt.While _ _ _ _) _) _ _ _)); (fail_if_success (with_reducible show wpAny _ _ (exec (Stmt.For _ _ _ _ _) _) _ _ _)); (fail_if_success (with_reducible show wpAny _ _ (exec (Stmt.Assign [Expr.Name _ _] (Expr.ListComp _ _ _ _) _) _) _ _ _)); (fail_if_success (with_reducible show wpAny _ _ (pyIter _) _ _ _)); (fail_if_success (with_reducible show wpAny _ _ (call (Value.type "range") _ _) _ _ _)); (fail_if_success (with_reducible show wpAny _ _ (call (Value.type "zip") _ _) _ _ _))); walk1) | (((fail_if_success (with_reducible show wpAny _ _ (eval (Expr.ListComp _ _ _ _) _) _ _ _)); (fail_if_success (with_reducible show wpAny _ _ (exec (Stmt.While _ _ _ _) _) _ _ _)); (fail_if_success (with_reducible show wpAny _ _ (exec (Stmt.For _ _ _ _ _) _) _ _ _)); (fail_if_success (with_reducible show wpAny _ _ (exec (Stmt.Assign [Expr.Name _ _] (Expr.ListComp _ _ _ _) _) _) _ _ _)); (fail_if_success (with_reducible show wpAny _ _ (pyIter _) _ _ _)); (fail_if_success (with_reducible show wpAny _ _ (call (Value.type "range") _ _) _ _ _)); (fail_if_success (with_reducible show wpAny _ _ (call (Value.type "zip") _ _) _ _ _))); dsimp only; walk1))); (all_goals try dsimp only))
    · rename Fr _ _ _ _ => F
      rename News _ _ _ _ => N
      have hb : (((bl + fs.length : Nat) : Int) == ((List.replicate bl 32).length : Int) + (fs.length : Int)) = true := by rw [List.length_replicate]; simp
      rw [hb]
      exact ret _ _ _ F.keep (N _ (.tail _ (.tail _ (.tail _ (.head _))))).1 D₁
    · exact absurd rfl (by assumption)
  | false =>
    have e3 : numberTold (List.replicate bl 32 ++ fs.map (fun c : Nat => (c : Int)) ++ (behL j).map (fun c : Nat => (c : Int))) 0 = none := num_bad hfd hj hgd
    have hv := hn e3
    subst hv
    clear hs hn hi
    ((repeat' (first | (k_unfold; (try dsimp only)) | (((fail_if_success (with_reducible show wpAny _ _ (eval (Expr.ListComp _ _ _ _) _) _ _ _)); (fail_if_success (with_reducible show wpAny _ _ (exec (Stmt.While _ _ _ _) _) _ _ _)); (fail_if_success (with_reducible show wpAny _ _ (exec (Stmt.For _ _ _ _ _) _) _ _ _)); (fail_if_success (with_reducible show wpAny _ _ (exec (Stmt.Assign [Expr.Name _ _] (Expr.ListComp _ _ _ _) _) _) _ _ _)); (fail_if_success (with_reducible show wpAny _ _ (pyIter _) _ _ _)); (fail_if_success (with_reducible show wpAny _ _ (call (Value.type "range") _ _) _ _ _)); (fail_if_success (with_reducible show wpAny _ _ (call (Value.type "zip") _ _) _ _ _))); walk1) | (((fail_if_success (with_reducible show wpAny _ _ (eval (Expr.ListComp _ _ _ _) _) _ _ _)); (fail_if_success (with_reducible show wpAny _ _ (exec (Stmt.While _ _ _ _) _) _ _ _)); (fail_if_success (with_reducible show wpAny _ _ (exec (Stmt.For _ _ _ _ _) _) _ _ _)); (fail_if_success (with_reducible show wpAny _ _ (exec (Stmt.Assign [Expr.Name _ _] (Expr.ListComp _ _ _ _) _) _) _ _ _)); (fail_if_success (with_reducible show wpAny _ _ (pyIter _) _ _ _)); (fail_if_success (with_reducible show wpAny _ _ (call (Value.type "range") _ _) _ _ _)); (fail_if_success (with_reducible show wpAny _ _ (call (Value.type "zip") _ _) _ _ _))); dsimp only; walk1))); (all_goals try dsimp only))
    rename Fr _ _ _ _ => F
    rename News _ _ _ _ => N
    exact ret _ _ _ F.keep (N _ (.tail _ (.tail _ (.tail _ (.head _))))).1 D₁
end
end
local macro_rules | `(tactic| walk_at "call builtin:str.lstrip") => `(tactic| (refine lstrip_R lit_b (by omega) ?_; intro _ _))
local macro_rules | `(tactic| walk_at "call builtin:len") => `(tactic| ((with_reducible show wpAny _ _ (call (Value.builtin "len") [Value.str (mkS (List.drop _ _)) _]) _ _ _); refine len_R (by rw [List.length_drop]; omega) ?_; intro _ _))
local macro_rules | `(tactic| walk_at "compareOp NotEq ref ref") => `(tactic| (
  refine' ne_tupI ?ha ?ca ?da ?hb ?cb ?db ?hl ?hm ?hi ?hj ?hu ?_
  (case ha => exact News.get (by k_asm) (by with_unfolding_all k_mem))
  (case ca => with_unfolding_all exact rfl)
  (case da => with_unfolding_all exact rfl)
  (case hb => exact News.get (by k_asm) (by with_unfolding_all k_mem))
  (case cb => with_unfolding_all exact rfl)
  (case db => with_unfolding_all exact rfl)
  (case hl => exact News.isList (by k_asm) (by with_unfolding_all k_mem))
  (case hm => exact News.isList (by k_asm) (by with_unfolding_all k_mem))
  (case hi => with_reducible assumption)
  (case hj => with_reducible assumption)
  (case hu => with_unfolding_all exact Nat.le_of_ble_eq_true rfl)
  intro bb hbb))
local macro_rules | `(tactic| walk_at "call builtin:str.replace") => `(tactic| ((first | refine strike_R ?hu ?hv ?hw ?hl ?_ | refine queryQ_R ?hu ?hv ?hw ?hl ?_); (case hu => (show @Ne Nat _ _); omega); (case hv => (show @Ne Nat _ _); omega); (case hw => (show @Ne Nat _ _); omega); (case hl => ((try simp only [List.length_filter]); first | omega | exact Nat.le_trans (List.length_filter_le _ _) (by omega))); intro _ _ hgk; (try dsimp only at hgk)))
local macro_rules | `(tactic| walk_at "binaryOp Add str str") => `(tactic| (
  (with_reducible show wpAny _ _ (binaryOp _ (Value.str (Txt.item _ _) _) (Value.str (mkS _) _)) _ _ _)
  refine' add_R (item_A _ (by omega)) rfl ?ha ?hb ?_
  (case ha => exact Nat.le_of_ble_eq_true rfl)
  (case hb => ((try simp only [List.length_map]); exact Nat.le_trans (List.length_filter_le _ _) (by omega)))
  intro _ _))
theorem off_D6 : True := by
  w_top off
  trivial
section
theorem name_len {txt : List Nat} {j : Nat} {oct : List Int} (h : nameRel txt j oct) : txt.length ≤ 18 ∧ (∀ c ∈ txt, c < 128) ∧ oct.length = 11 ∧ j < 4 := by
  obtain ⟨nm, kd, hk, hj, hnm, hkd, hkf, rfl, rfl⟩ := h
  have h1 := hnm.2
  have h2 := hkd.2
  have hj4 : j = 0 ∨ j = 1 ∨ j = 2 ∨ j = 3 := by omega
  have hp : (preL j).length ≤ 2 ∧ ∀ c ∈ preL j, c < 128 := by
    rcases hj4 with rfl | rfl | rfl | rfl <;> decide
  have hk1 : (if hk then 46 :: kd else []).length ≤ 6 ∧ ∀ c ∈ (if hk then 46 :: kd else []), c < 128 := by
    cases hk with
    | false => exact ⟨by simp, fun c hc => nomatch hc⟩
    | true => exact ⟨by simp; omega, fun c hc => by rcases List.mem_cons.mp hc with rfl | hc; decide; exact part_lt hkd c hc⟩
  refine ⟨by simp only [List.length_append]; omega, fun c hc => ?_, ?_, hj⟩
  · rcases List.mem_append.mp hc with hc | hc
    · rcases List.mem_append.mp hc with hc | hc
      · exact hp.2 c hc
      · exact part_lt hnm c hc
    · exact hk1.2 c hc
  · rw [List.length_append]
    have e : ∀ (ks : List Int) (n : Nat), (fillF ks n).length = n := by
      intro ks n
      unfold fillF
      split <;> rw [List.length_take, List.length_append, List.length_replicate] <;> omega
    rw [e, e]
theorem news_sub {h₀ h : Heap} {L : Addr} {news sub : List (Addr × Obj)} (N : News h₀ L h news) (hs : ∀ p ∈ sub, p ∈ news) : News h₀ L h sub := fun p hp => N p (hs p hp)
theorem skip_lead (l : List Nat) : skipB (l.map upC) 0 = (l.takeWhile (· == 32)).length := by
  unfold skipB
  rw [List.drop_zero, Nat.zero_add]
  induction l with
  | nil => rfl
  | cons c r ih =>
    by_cases h : c = 32
    · subst h
      rw [List.map_cons, List.takeWhile_cons_of_pos (by decide), List.takeWhile_cons_of_pos (by decide), List.length_cons, List.length_cons, ih]
    · have h1 : ¬ upC c = 32 := by unfold upC up; split <;> omega
      rw [List.map_cons, List.takeWhile_cons_of_neg (by simpa using h1), List.takeWhile_cons_of_neg (by simpa using h)]; rfl
abbrev toldD (w : World) (d : Int) (nm : Addr) (e : Int) (td te t1 t2 t3 : Tok) : Obj := dictOf [{ hash := PyData.keyHash w.params (Str.ofString "drive"), key := .str (Str.ofString "drive") t1, val := .int d td }, { hash := PyData.keyHash w.params (Str.ofString "name"), key := .str (Str.ofString "name") t2, val := .ref nm }, { hash := PyData.keyHash w.params (Str.ofString "end"), key := .str (Str.ofString "end") t3, val := .int e te }] 3
theorem mkS_ne {l : List Nat} : (mkS l != Str.ofString "") = true ↔ l ≠ [] := by
  rw [lit_e, bne_iff_ne]
  constructor
  · intro h e; exact h (by rw [e])
  · intro h e; exact h (by simpa [mkS_list] using congrArg (fun x : Str => x.cps.toList) e)
theorem told_law {ns B tx' : List Int} {k b j : Nat} {tx : List Nat} {oct : List Int} (hR : nameRel tx j oct) (ht : tx' = tx.map upC)
    (hd : ns.drop k = List.replicate b 32 ++ (tx' ++ B)) (hkl : k ≤ ns.length)
    (hB : ∀ x, B.head? = some x → x ∈ ([32, 61, 95, 58, 59, 60] : List Int)) (h0 : tx = [] → B = [])
    (h1 : tx.length = 1 → ∀ x, B.head? = some x → x ≠ 58) :
    (toldAt ns k).1 = drv j ∧ toldName ns k = oct ∧ toldEnd ns k = k + b + tx.length := by
  subst ht
  obtain ⟨nm, kd, hk, hj, hnm, hkd, hkf, rfl, rfl⟩ := hR
  exact name_law hj hnm hkd hkf hd hkl hB h0 h1
theorem fill_mem {l : List Nat} {n : Nat} (h : ∀ c ∈ l, c < 128) : ∀ x ∈ fillF (l.map (fun c : Nat => (c : Int))) n, 0 ≤ x ∧ x < 128 := by
  have hu : ∀ x ∈ (l.map (fun c : Nat => (c : Int))).map up, 0 ≤ x ∧ x < 128 := by
    intro x hx
    obtain ⟨y, hy, rfl⟩ := List.mem_map.mp hx
    obtain ⟨c, hc, rfl⟩ := List.mem_map.mp hy
    have := h c hc
    unfold up; split <;> omega
  intro x hx
  unfold fillF at hx
  split at hx
  · rcases List.mem_append.mp (List.mem_of_mem_take hx) with q | q
    · exact hu x (((List.takeWhile_sublist _).map up).subset q)
    · rw [(List.mem_replicate.mp q).2]; decide
  · rcases List.mem_append.mp (List.mem_of_mem_take hx) with q | q
    · exact hu x q
    · rw [(List.mem_replicate.mp q).2]; decide
theorem name_range {txt : List Nat} {j : Nat} {oct : List Int} (h : nameRel txt j oct) : ∀ x ∈ oct, 0 ≤ x ∧ x < 128 := by
  obtain ⟨nm, kd, hk, hj, hnm, hkd, hkf, rfl, rfl⟩ := h
  intro x hx
  rcases List.mem_append.mp hx with q | q
  · exact fill_mem (part_lt hnm) x q
  · exact fill_mem (part_lt hkd) x q
theorem lit_eq : Str.ofString "=" = mkS [61] := by decide +kernel
theorem lit_semi : Str.ofString ";" = mkS [59] := by decide +kernel
theorem lit_lt : Str.ofString "<" = mkS [60] := by decide +kernel
theorem lit_und : Str.ofString "_" = mkS [95] := by decide +kernel
section
variable {prog : Program} {w : World} {mean : ExcName → Option Value} {mg mb : Str → Option Value} {s : Shared} {Q E : Value → Shared → Prop} {b₀ g : Heap} {d : Addr} {o : Obj} (k : g.StaysIn s.heap) (hsz : g.objs.size ≤ s.heap.objs.size)
    (X : (hd.heap_1 w.params).In g) (T : Top qv (looseW qv []) mean mg mb g) (ho : s.heap.get? d = some o) (hg : g.get? d = none) (hb : b₀.StaysIn g) (D : DealO b₀ o)
include k hsz X T ho hg hb D
theorem row_LP
    (ret : ∀ h' tk o', g.StaysIn h' → h'.get? d = some o' → DealO b₀ o' → Q (.bool true) { s with heap := h', toks := tk }) :
    wpAny (model prog w) (At 500 5000) (call (.ref 168) [.ref d]) Q E s := by
  have S : ∀ q ∈ [(d, o)], s.heap.get? q.1 = some q.2 ∧ g.get? q.1 = none := by
    intro q hq; cases hq with | head => exact ⟨ho, hg⟩ | tail _ h => cases h
  (refine' enterC (g := _) (sub := _) ?k_175 ?sz_175 ?X_175 ?T_175 ?S_175 ?ho_175 ?hcd_175 ?hroom_175 ?hb_175 ?hloc_175 ?hcell_175 ?c1_175 ?c2_175 ?c3_175 ?_; (case k_175 => first | assumption | exact stays_refl _); (case X_175 => with_reducible assumption); (case sz_175 => first | assumption | exact Nat.le_refl _); (case T_175 => with_reducible assumption); (case S_175 => first | assumption | exact List.forall_mem_nil _); (case ho_175 => k_is); (case hcd_175 => k_is); (case hroom_175 => exact Nat.le_of_ble_eq_true rfl); (case hb_175 => exact BindsTo.of_eq rfl); (case hloc_175 => exact locs rfl); (case hcell_175 => decide); (case c1_175 => exact rfl); (case c2_175 => exact rfl); (case c3_175 => exact rfl); intro xL xh xF xN xl; (try dsimp only at xF); (try simp only [AllLt, and_true] at xl); (try dsimp only); k_fold)
  ((repeat' (first | (k_unfold; (try dsimp only)) | (((((((fail_if_success (with_reducible show wpAny _ _ (eval (Expr.ListComp _ _ _ _) _) _ _ _)); (fail_if_success (with_reducible show wpAny _ _ (exec (Stmt.While _ _ _ _) _) _ _ _)); (fail_if_success (with_reducible show wpAny _ _ (exec (Stmt.For _ _ _ _ _) _) _ _ _)); (fail_if_success (with_reducible show wpAny _ _ (exec (Stmt.Assign [Expr.Name _ _] (Expr.ListComp _ _ _ _) _) _) _ _ _)); (fail_if_success (with_reducible show wpAny _ _ (pyIter _) _ _ _)); (fail_if_success (with_reducible show wpAny _ _ (call (Value.type "range") _ _) _ _ _)); (fail_if_success (with_reducible show wpAny _ _ (call (Value.type "zip") _ _) _ _ _)))); (fail_if_success (with_reducible show wpAny _ _ (exec (Stmt.If _ _ _ _) _) _ _ _)))); (fail_if_success (with_reducible show wpAny _ _ (exec (Stmt.Assign _ _ _) _) _ _ _))); walk1) | (((((((fail_if_success (with_reducible show wpAny _ _ (eval (Expr.ListComp _ _ _ _) _) _ _ _)); (fail_if_success (with_reducible show wpAny _ _ (exec (Stmt.While _ _ _ _) _) _ _ _)); (fail_if_success (with_reducible show wpAny _ _ (exec (Stmt.For _ _ _ _ _) _) _ _ _)); (fail_if_success (with_reducible show wpAny _ _ (exec (Stmt.Assign [Expr.Name _ _] (Expr.ListComp _ _ _ _) _) _) _ _ _)); (fail_if_success (with_reducible show wpAny _ _ (pyIter _) _ _ _)); (fail_if_success (with_reducible show wpAny _ _ (call (Value.type "range") _ _) _ _ _)); (fail_if_success (with_reducible show wpAny _ _ (call (Value.type "zip") _ _) _ _ _)))); (fail_if_success (with_reducible show wpAny _ _ (exec (Stmt.If _ _ _ _) _) _ _ _)))); (fail_if_success (with_reducible show wpAny _ _ (exec (Stmt.Assign _ _ _) _) _ _ _))); dsimp only; walk1))); (all_goals try dsimp only))
  rename Fr _ _ _ _ => F
  rename News _ _ _ _ => N
  refine cut_at F (fun f m' news' => f = .next ∧ ∃ o₁ a vs n tx j oct t1 t2 m₀, news' = [(a, listOf (List.toArray vs) n), (d, o₁)] ∧ a ≠ d ∧ DealO b₀ o₁ ∧ IntsAre vs oct ∧ nameRel tx j oct ∧ m' = withL [(Str.ofString "first", .str (mkS tx) t1), (Str.ofString "drive", .int (drv j) t2), (Str.ofString "octets", .ref a), (Str.ofString "deal", .ref d)] m₀) (fun CC hCC => ?_) ?_
  · ((repeat' (first | (k_unfold; (try dsimp only)) | (((fail_if_success (with_reducible show wpAny _ _ (eval (Expr.ListComp _ _ _ _) _) _ _ _)); (fail_if_success (with_reducible show wpAny _ _ (exec (Stmt.While _ _ _ _) _) _ _ _)); (fail_if_success (with_reducible show wpAny _ _ (exec (Stmt.For _ _ _ _ _) _) _ _ _)); (fail_if_success (with_reducible show wpAny _ _ (exec (Stmt.Assign [Expr.Name _ _] (Expr.ListComp _ _ _ _) _) _) _ _ _)); (fail_if_success (with_reducible show wpAny _ _ (pyIter _) _ _ _)); (fail_if_success (with_reducible show wpAny _ _ (call (Value.type "range") _ _) _ _ _)); (fail_if_success (with_reducible show wpAny _ _ (call (Value.type "zip") _ _) _ _ _))); walk1) | (((fail_if_success (with_reducible show wpAny _ _ (eval (Expr.ListComp _ _ _ _) _) _ _ _)); (fail_if_success (with_reducible show wpAny _ _ (exec (Stmt.While _ _ _ _) _) _ _ _)); (fail_if_success (with_reducible show wpAny _ _ (exec (Stmt.For _ _ _ _ _) _) _ _ _)); (fail_if_success (with_reducible show wpAny _ _ (exec (Stmt.Assign [Expr.Name _ _] (Expr.ListComp _ _ _ _) _) _) _ _ _)); (fail_if_success (with_reducible show wpAny _ _ (pyIter _) _ _ _)); (fail_if_success (with_reducible show wpAny _ _ (call (Value.type "range") _ _) _ _ _)); (fail_if_success (with_reducible show wpAny _ _ (call (Value.type "zip") _ _) _ _ _))); dsimp only; walk1))); (all_goals try dsimp only))
    rename Fr _ _ _ _ => F
    rename News _ _ _ _ => N
    refine name_F F N X T (by k_updF) hb D rfl rfl rfl fun p a j tx oct vs n h' tk o₁ t1 t2 hR F' N' D₁ hi hpd had => ?_
    clear F N
    ((repeat' (first | (k_unfold; (try dsimp only)) | (((fail_if_success (with_reducible show wpAny _ _ (eval (Expr.ListComp _ _ _ _) _) _ _ _)); (fail_if_success (with_reducible show wpAny _ _ (exec (Stmt.While _ _ _ _) _) _ _ _)); (fail_if_success (with_reducible show wpAny _ _ (exec (Stmt.For _ _ _ _ _) _) _ _ _)); (fail_if_success (with_reducible show wpAny _ _ (exec (Stmt.Assign [Expr.Name _ _] (Expr.ListComp _ _ _ _) _) _) _ _ _)); (fail_if_success (with_reducible show wpAny _ _ (pyIter _) _ _ _)); (fail_if_success (with_reducible show wpAny _ _ (call (Value.type "range") _ _) _ _ _)); (fail_if_success (with_reducible show wpAny _ _ (call (Value.type "zip") _ _) _ _ _))); walk1) | (((fail_if_success (with_reducible show wpAny _ _ (eval (Expr.ListComp _ _ _ _) _) _ _ _)); (fail_if_success (with_reducible show wpAny _ _ (exec (Stmt.While _ _ _ _) _) _ _ _)); (fail_if_success (with_reducible show wpAny _ _ (exec (Stmt.For _ _ _ _ _) _) _ _ _)); (fail_if_success (with_reducible show wpAny _ _ (exec (Stmt.Assign [Expr.Name _ _] (Expr.ListComp _ _ _ _) _) _) _ _ _)); (fail_if_success (with_reducible show wpAny _ _ (pyIter _) _ _ _)); (fail_if_success (with_reducible show wpAny _ _ (call (Value.type "range") _ _) _ _ _)); (fail_if_success (with_reducible show wpAny _ _ (call (Value.type "zip") _ _) _ _ _))); dsimp only; walk1))); (all_goals try dsimp only))
    rename Fr _ _ _ _ => F
    rename News _ _ _ _ => N
    exact hCC _ _ _ _ _ F (news_two N (.tail _ (.head _)) (.tail _ (.tail _ (.head _)))) ⟨rfl, _, _, _, _, _, _, _, _, _, _, rfl, had, D₁, hi, hR, withL_of _ _ ⟨rfl, rfl, rfl, rfl, trivial⟩⟩
  rintro _ h' tk m' _ F₁ N₁ ⟨rfl, o₁, a₁, vs₁, n₁, tx₁, j₁, oct₁, t1, t2, m₀, rfl, had₁, D₁, hi₁, hR₁, rfl⟩
  clear F N
  have hne₁ := neN had₁
  obtain ⟨hl₁, hA₁, ho₁, hj₁⟩ := name_len hR₁
  ((repeat' (first | (k_unfold; (try dsimp only)) | (((((((fail_if_success (with_reducible show wpAny _ _ (eval (Expr.ListComp _ _ _ _) _) _ _ _)); (fail_if_success (with_reducible show wpAny _ _ (exec (Stmt.While _ _ _ _) _) _ _ _)); (fail_if_success (with_reducible show wpAny _ _ (exec (Stmt.For _ _ _ _ _) _) _ _ _)); (fail_if_success (with_reducible show wpAny _ _ (exec (Stmt.Assign [Expr.Name _ _] (Expr.ListComp _ _ _ _) _) _) _ _ _)); (fail_if_success (with_reducible show wpAny _ _ (pyIter _) _ _ _)); (fail_if_success (with_reducible show wpAny _ _ (call (Value.type "range") _ _) _ _ _)); (fail_if_success (with_reducible show wpAny _ _ (call (Value.type "zip") _ _) _ _ _)))); (fail_if_success (with_reducible show wpAny _ _ (exec (Stmt.If _ _ _ _) _) _ _ _)))); (fail_if_success (with_reducible show wpAny _ _ (exec (Stmt.Assign _ _ _) _) _ _ _))); walk1) | (((((((fail_if_success (with_reducible show wpAny _ _ (eval (Expr.ListComp _ _ _ _) _) _ _ _)); (fail_if_success (with_reducible show wpAny _ _ (exec (Stmt.While _ _ _ _) _) _ _ _)); (fail_if_success (with_reducible show wpAny _ _ (exec (Stmt.For _ _ _ _ _) _) _ _ _)); (fail_if_success (with_reducible show wpAny _ _ (exec (Stmt.Assign [Expr.Name _ _] (Expr.ListComp _ _ _ _) _) _) _ _ _)); (fail_if_success (with_reducible show wpAny _ _ (pyIter _) _ _ _)); (fail_if_success (with_reducible show wpAny _ _ (call (Value.type "range") _ _) _ _ _)); (fail_if_success (with_reducible show wpAny _ _ (call (Value.type "zip") _ _) _ _ _)))); (fail_if_success (with_reducible show wpAny _ _ (exec (Stmt.If _ _ _ _) _) _ _ _)))); (fail_if_success (with_reducible show wpAny _ _ (exec (Stmt.Assign _ _ _) _) _ _ _))); dsimp only; walk1))); (all_goals try dsimp only))
  rename Fr _ _ _ _ => F
  rename News _ _ _ _ => N
  refine cut_at F (fun f m' news' => f = .next ∧ ∃ o₂ a vs n tx j oct t1 t2 t3 t4 m₀, news' = [(a, listOf (List.toArray vs) n), (a₁, listOf (List.toArray vs₁) n₁), (d, o₂)] ∧ a ≠ d ∧ DealO b₀ o₂ ∧ IntsAre vs oct ∧ nameRel tx j oct ∧ m' = withL [(Str.ofString "second", .str (mkS tx) t1), (Str.ofString "later", .int (drv j) t2), (Str.ofString "others", .ref a), (Str.ofString "first", .str (mkS tx₁) t3), (Str.ofString "drive", .int (drv j₁) t4), (Str.ofString "octets", .ref a₁), (Str.ofString "deal", .ref d)] m₀) (fun CC hCC => ?_) ?_
  · ((repeat' (first | (k_unfold; (try dsimp only)) | (((fail_if_success (with_reducible show wpAny _ _ (eval (Expr.ListComp _ _ _ _) _) _ _ _)); (fail_if_success (with_reducible show wpAny _ _ (exec (Stmt.While _ _ _ _) _) _ _ _)); (fail_if_success (with_reducible show wpAny _ _ (exec (Stmt.For _ _ _ _ _) _) _ _ _)); (fail_if_success (with_reducible show wpAny _ _ (exec (Stmt.Assign [Expr.Name _ _] (Expr.ListComp _ _ _ _) _) _) _ _ _)); (fail_if_success (with_reducible show wpAny _ _ (pyIter _) _ _ _)); (fail_if_success (with_reducible show wpAny _ _ (call (Value.type "range") _ _) _ _ _)); (fail_if_success (with_reducible show wpAny _ _ (call (Value.type "zip") _ _) _ _ _))); walk1) | (((fail_if_success (with_reducible show wpAny _ _ (eval (Expr.ListComp _ _ _ _) _) _ _ _)); (fail_if_success (with_reducible show wpAny _ _ (exec (Stmt.While _ _ _ _) _) _ _ _)); (fail_if_success (with_reducible show wpAny _ _ (exec (Stmt.For _ _ _ _ _) _) _ _ _)); (fail_if_success (with_reducible show wpAny _ _ (exec (Stmt.Assign [Expr.Name _ _] (Expr.ListComp _ _ _ _) _) _) _ _ _)); (fail_if_success (with_reducible show wpAny _ _ (pyIter _) _ _ _)); (fail_if_success (with_reducible show wpAny _ _ (call (Value.type "range") _ _) _ _ _)); (fail_if_success (with_reducible show wpAny _ _ (call (Value.type "zip") _ _) _ _ _))); dsimp only; walk1))); (all_goals try dsimp only))
    rename Fr _ _ _ _ => F
    rename News _ _ _ _ => N
    refine name_F F N X T (by k_updF) hb D₁ rfl rfl rfl fun p a j tx oct vs n h' tk o₂ t1 t2 hR F' N' D₂ hi hpd had => ?_
    clear F N
    ((repeat' (first | (k_unfold; (try dsimp only)) | (((fail_if_success (with_reducible show wpAny _ _ (eval (Expr.ListComp _ _ _ _) _) _ _ _)); (fail_if_success (with_reducible show wpAny _ _ (exec (Stmt.While _ _ _ _) _) _ _ _)); (fail_if_success (with_reducible show wpAny _ _ (exec (Stmt.For _ _ _ _ _) _) _ _ _)); (fail_if_success (with_reducible show wpAny _ _ (exec (Stmt.Assign [Expr.Name _ _] (Expr.ListComp _ _ _ _) _) _) _ _ _)); (fail_if_success (with_reducible show wpAny _ _ (pyIter _) _ _ _)); (fail_if_success (with_reducible show wpAny _ _ (call (Value.type "range") _ _) _ _ _)); (fail_if_success (with_reducible show wpAny _ _ (call (Value.type "zip") _ _) _ _ _))); walk1) | (((fail_if_success (with_reducible show wpAny _ _ (eval (Expr.ListComp _ _ _ _) _) _ _ _)); (fail_if_success (with_reducible show wpAny _ _ (exec (Stmt.While _ _ _ _) _) _ _ _)); (fail_if_success (with_reducible show wpAny _ _ (exec (Stmt.For _ _ _ _ _) _) _ _ _)); (fail_if_success (with_reducible show wpAny _ _ (exec (Stmt.Assign [Expr.Name _ _] (Expr.ListComp _ _ _ _) _) _) _ _ _)); (fail_if_success (with_reducible show wpAny _ _ (pyIter _) _ _ _)); (fail_if_success (with_reducible show wpAny _ _ (call (Value.type "range") _ _) _ _ _)); (fail_if_success (with_reducible show wpAny _ _ (call (Value.type "zip") _ _) _ _ _))); dsimp only; walk1))); (all_goals try dsimp only))
    rename Fr _ _ _ _ => F
    rename News _ _ _ _ => N
    exact hCC _ _ _ _ _ F (news_three N (.tail _ (.head _)) (.tail _ (.tail _ (.head _))) (.tail _ (.tail _ (.tail _ (.head _))))) ⟨rfl, _, _, _, _, _, _, _, _, _, _, _, _, rfl, had, D₂, hi, hR, withL_of _ _ ⟨rfl, rfl, rfl, rfl, rfl, rfl, rfl, trivial⟩⟩
  rintro _ h' tk m' _ F₁ N₁ ⟨rfl, o₂, a₂, vs₂, n₂, tx₂, j₂, oct₂, t1, t2, t3, t4, m₀, rfl, had₂, D₂, hi₂, hR₂, rfl⟩
  clear F N
  have hne₂ := neN had₂
  obtain ⟨hl₂, hA₂, ho₂, hj₂⟩ := name_len hR₂
  ((repeat' (first | (k_unfold; (try dsimp only)) | (((((((fail_if_success (with_reducible show wpAny _ _ (eval (Expr.ListComp _ _ _ _) _) _ _ _)); (fail_if_success (with_reducible show wpAny _ _ (exec (Stmt.While _ _ _ _) _) _ _ _)); (fail_if_success (with_reducible show wpAny _ _ (exec (Stmt.For _ _ _ _ _) _) _ _ _)); (fail_if_success (with_reducible show wpAny _ _ (exec (Stmt.Assign [Expr.Name _ _] (Expr.ListComp _ _ _ _) _) _) _ _ _)); (fail_if_success (with_reducible show wpAny _ _ (pyIter _) _ _ _)); (fail_if_success (with_reducible show wpAny _ _ (call (Value.type "range") _ _) _ _ _)); (fail_if_success (with_reducible show wpAny _ _ (call (Value.type "zip") _ _) _ _ _)))); (fail_if_success (with_reducible show wpAny _ _ (exec (Stmt.If _ _ _ _) _) _ _ _)))); (fail_if_success (with_reducible show wpAny _ _ (exec (Stmt.Assign _ _ _) _) _ _ _))); walk1) | (((((((fail_if_success (with_reducible show wpAny _ _ (eval (Expr.ListComp _ _ _ _) _) _ _ _)); (fail_if_success (with_reducible show wpAny _ _ (exec (Stmt.While _ _ _ _) _) _ _ _)); (fail_if_success (with_reducible show wpAny _ _ (exec (Stmt.For _ _ _ _ _) _) _ _ _)); (fail_if_success (with_reducible show wpAny _ _ (exec (Stmt.Assign [Expr.Name _ _] (Expr.ListComp _ _ _ _) _) _) _ _ _)); (fail_if_success (with_reducible show wpAny _ _ (pyIter _) _ _ _)); (fail_if_success (with_reducible show wpAny _ _ (call (Value.type "range") _ _) _ _ _)); (fail_if_success (with_reducible show wpAny _ _ (call (Value.type "zip") _ _) _ _ _)))); (fail_if_success (with_reducible show wpAny _ _ (exec (Stmt.If _ _ _ _) _) _ _ _)))); (fail_if_success (with_reducible show wpAny _ _ (exec (Stmt.Assign _ _ _) _) _ _ _))); dsimp only; walk1))); (all_goals try dsimp only))
  rename Fr _ _ _ _ => F
  rename News _ _ _ _ => N
  refine cut_at F (fun f m' news' => f = .next ∧ ∃ o₃ bl c t1 t2 t3 t4 t5 t6 m₀, news' = [(a₂, listOf (List.toArray vs₂) n₂), (a₁, listOf (List.toArray vs₁) n₁), (d, o₃)] ∧ DealO b₀ o₃ ∧ bl < 3 ∧ m' = withL [(Str.ofString "blanks", .str (mkS (List.replicate bl 32)) t5), (Str.ofString "between", .str (mkS [c]) t6), (Str.ofString "second", .str (mkS tx₂) t1), (Str.ofString "later", .int (drv j₂) t2), (Str.ofString "others", .ref a₂), (Str.ofString "first", .str (mkS tx₁) t3), (Str.ofString "drive", .int (drv j₁) t4), (Str.ofString "octets", .ref a₁)] m₀ ∧ c ∈ ([32, 61, 59, 60, 95, 58] : List Nat)) (fun CC hCC => ?_) ?_
  · ((repeat' (first | (k_unfold; (try dsimp only)) | (((fail_if_success (with_reducible show wpAny _ _ (eval (Expr.ListComp _ _ _ _) _) _ _ _)); (fail_if_success (with_reducible show wpAny _ _ (exec (Stmt.While _ _ _ _) _) _ _ _)); (fail_if_success (with_reducible show wpAny _ _ (exec (Stmt.For _ _ _ _ _) _) _ _ _)); (fail_if_success (with_reducible show wpAny _ _ (exec (Stmt.Assign [Expr.Name _ _] (Expr.ListComp _ _ _ _) _) _) _ _ _)); (fail_if_success (with_reducible show wpAny _ _ (pyIter _) _ _ _)); (fail_if_success (with_reducible show wpAny _ _ (call (Value.type "range") _ _) _ _ _)); (fail_if_success (with_reducible show wpAny _ _ (call (Value.type "zip") _ _) _ _ _))); walk1) | (((fail_if_success (with_reducible show wpAny _ _ (eval (Expr.ListComp _ _ _ _) _) _ _ _)); (fail_if_success (with_reducible show wpAny _ _ (exec (Stmt.While _ _ _ _) _) _ _ _)); (fail_if_success (with_reducible show wpAny _ _ (exec (Stmt.For _ _ _ _ _) _) _ _ _)); (fail_if_success (with_reducible show wpAny _ _ (exec (Stmt.Assign [Expr.Name _ _] (Expr.ListComp _ _ _ _) _) _) _ _ _)); (fail_if_success (with_reducible show wpAny _ _ (pyIter _) _ _ _)); (fail_if_success (with_reducible show wpAny _ _ (call (Value.type "range") _ _) _ _ _)); (fail_if_success (with_reducible show wpAny _ _ (call (Value.type "zip") _ _) _ _ _))); dsimp only; walk1))); (all_goals try dsimp only))
    rename Fr _ _ _ _ => F
    rename News _ _ _ _ => N
    refine take_F F N X T (by k_updF) hb D₂ rfl rfl rfl (by decide) (by decide) fun r t' h' tk o₃ r0 r1 F' N' D₃ => ?_
    clear F N
    obtain ⟨bl, rfl⟩ := Int.eq_ofNat_of_zero_le r0
    ((repeat' (first | (k_unfold; (try dsimp only)) | (((fail_if_success (with_reducible show wpAny _ _ (eval (Expr.ListComp _ _ _ _) _) _ _ _)); (fail_if_success (with_reducible show wpAny _ _ (exec (Stmt.While _ _ _ _) _) _ _ _)); (fail_if_success (with_reducible show wpAny _ _ (exec (Stmt.For _ _ _ _ _) _) _ _ _)); (fail_if_success (with_reducible show wpAny _ _ (exec (Stmt.Assign [Expr.Name _ _] (Expr.ListComp _ _ _ _) _) _) _ _ _)); (fail_if_success (with_reducible show wpAny _ _ (pyIter _) _ _ _)); (fail_if_success (with_reducible show wpAny _ _ (call (Value.type "range") _ _) _ _ _)); (fail_if_success (with_reducible show wpAny _ _ (call (Value.type "zip") _ _) _ _ _))); walk1) | (((fail_if_success (with_reducible show wpAny _ _ (eval (Expr.ListComp _ _ _ _) _) _ _ _)); (fail_if_success (with_reducible show wpAny _ _ (exec (Stmt.While _ _ _ _) _) _ _ _)); (fail_if_success (with_reducible show wpAny _ _ (exec (Stmt.For _ _ _ _ _) _) _ _ _)); (fail_if_success (with_reducible show wpAny _ _ (exec (Stmt.Assign [Expr.Name _ _] (Expr.ListComp _ _ _ _) _) _) _ _ _)); (fail_if_success (with_reducible show wpAny _ _ (pyIter _) _ _ _)); (fail_if_success (with_reducible show wpAny _ _ (call (Value.type "range") _ _) _ _ _)); (fail_if_success (with_reducible show wpAny _ _ (call (Value.type "zip") _ _) _ _ _))); dsimp only; walk1))); (all_goals try dsimp only))
    rename Fr _ _ _ _ => F
    rename News _ _ _ _ => N
    refine take_F F N X T (by k_updF) hb D₃ rfl rfl rfl (by decide) (by decide) fun r t' h' tk o₄ r0 r1 F' N' D₄ => ?_
    clear F N
    have hr : r = 0 ∨ r = 1 ∨ r = 2 ∨ r = 3 ∨ r = 4 ∨ r = 5 := by omega
    rcases hr with rfl | rfl | rfl | rfl | rfl | rfl
    all_goals ((repeat' (first | (k_unfold; (try dsimp only)) | (((fail_if_success (with_reducible show wpAny _ _ (eval (Expr.ListComp _ _ _ _) _) _ _ _)); (fail_if_success (with_reducible show wpAny _ _ (exec (Stmt.While _ _ _ _) _) _ _ _)); (fail_if_success (with_reducible show wpAny _ _ (exec (Stmt.For _ _ _ _ _) _) _ _ _)); (fail_if_success (with_reducible show wpAny _ _ (exec (Stmt.Assign [Expr.Name _ _] (Expr.ListComp _ _ _ _) _) _) _ _ _)); (fail_if_success (with_reducible show wpAny _ _ (pyIter _) _ _ _)); (fail_if_success (with_reducible show wpAny _ _ (call (Value.type "range") _ _) _ _ _)); (fail_if_success (with_reducible show wpAny _ _ (call (Value.type "zip") _ _) _ _ _))); walk1) | (((fail_if_success (with_reducible show wpAny _ _ (eval (Expr.ListComp _ _ _ _) _) _ _ _)); (fail_if_success (with_reducible show wpAny _ _ (exec (Stmt.While _ _ _ _) _) _ _ _)); (fail_if_success (with_reducible show wpAny _ _ (exec (Stmt.For _ _ _ _ _) _) _ _ _)); (fail_if_success (with_reducible show wpAny _ _ (exec (Stmt.Assign [Expr.Name _ _] (Expr.ListComp _ _ _ _) _) _) _ _ _)); (fail_if_success (with_reducible show wpAny _ _ (pyIter _) _ _ _)); (fail_if_success (with_reducible show wpAny _ _ (call (Value.type "range") _ _) _ _ _)); (fail_if_success (with_reducible show wpAny _ _ (call (Value.type "zip") _ _) _ _ _))); dsimp only; walk1))); (all_goals try dsimp only))
    all_goals rename Fr _ _ _ _ => F
    all_goals rename News _ _ _ _ => N
    all_goals exact hCC _ _ _ _ _ F (news_sub N (by kqd_sub)) ⟨rfl, _, bl, _, _, _, _, _, _, _, _, rfl, D₄, by omega, withL_of _ _ ⟨rfl, congrArg (fun x => some (Value.str x _)) (by first | exact lit_b | exact lit_eq | exact lit_semi | exact lit_lt | exact lit_und | exact lit_colon), rfl, rfl, rfl, rfl, rfl, rfl, trivial⟩, by decide⟩
  rintro _ h' tk m' _ F₁ N₁ ⟨rfl, o₃, bl, c, t1, t2, t3, t4, t5, t6, m₀, rfl, D₃, hbl, rfl, hc⟩
  clear F N
  ((repeat' (first | (k_unfold; (try dsimp only)) | (((((((fail_if_success (with_reducible show wpAny _ _ (eval (Expr.ListComp _ _ _ _) _) _ _ _)); (fail_if_success (with_reducible show wpAny _ _ (exec (Stmt.While _ _ _ _) _) _ _ _)); (fail_if_success (with_reducible show wpAny _ _ (exec (Stmt.For _ _ _ _ _) _) _ _ _)); (fail_if_success (with_reducible show wpAny _ _ (exec (Stmt.Assign [Expr.Name _ _] (Expr.ListComp _ _ _ _) _) _) _ _ _)); (fail_if_success (with_reducible show wpAny _ _ (pyIter _) _ _ _)); (fail_if_success (with_reducible show wpAny _ _ (call (Value.type "range") _ _) _ _ _)); (fail_if_success (with_reducible show wpAny _ _ (call (Value.type "zip") _ _) _ _ _)))); (fail_if_success (with_reducible show wpAny _ _ (exec (Stmt.If _ _ _ _) _) _ _ _)))); (fail_if_success (with_reducible show wpAny _ _ (exec (Stmt.Assign _ _ _) _) _ _ _))); walk1) | (((((((fail_if_success (with_reducible show wpAny _ _ (eval (Expr.ListComp _ _ _ _) _) _ _ _)); (fail_if_success (with_reducible show wpAny _ _ (exec (Stmt.While _ _ _ _) _) _ _ _)); (fail_if_success (with_reducible show wpAny _ _ (exec (Stmt.For _ _ _ _ _) _) _ _ _)); (fail_if_success (with_reducible show wpAny _ _ (exec (Stmt.Assign [Expr.Name _ _] (Expr.ListComp _ _ _ _) _) _) _ _ _)); (fail_if_success (with_reducible show wpAny _ _ (pyIter _) _ _ _)); (fail_if_success (with_reducible show wpAny _ _ (call (Value.type "range") _ _) _ _ _)); (fail_if_success (with_reducible show wpAny _ _ (call (Value.type "zip") _ _) _ _ _)))); (fail_if_success (with_reducible show wpAny _ _ (exec (Stmt.If _ _ _ _) _) _ _ _)))); (fail_if_success (with_reducible show wpAny _ _ (exec (Stmt.Assign _ _ _) _) _ _ _))); dsimp only; walk1))); (all_goals try dsimp only))
  rename Fr _ _ _ _ => F
  rename News _ _ _ _ => N
  refine cut_at F (fun f m' news' => f = .next ∧ news' = [(a₂, listOf (List.toArray vs₂) n₂), (a₁, listOf (List.toArray vs₁) n₁), (d, o₃)] ∧ ∃ c t1 t2 t3 t4 t5 t6 m₀, c ∈ ([32, 61, 59, 60, 95, 58] : List Nat) ∧ (c = 58 → tx₁.length ≠ 1) ∧ m' = withL [(Str.ofString "blanks", .str (mkS (List.replicate bl 32)) t5), (Str.ofString "between", .str (mkS [c]) t6), (Str.ofString "second", .str (mkS tx₂) t1), (Str.ofString "later", .int (drv j₂) t2), (Str.ofString "others", .ref a₂), (Str.ofString "first", .str (mkS tx₁) t3), (Str.ofString "drive", .int (drv j₁) t4), (Str.ofString "octets", .ref a₁)] m₀) (fun CC hCC => ?_) ?_
  · ((repeat' (first | (k_unfold; (try dsimp only)) | (((fail_if_success (with_reducible show wpAny _ _ (eval (Expr.ListComp _ _ _ _) _) _ _ _)); (fail_if_success (with_reducible show wpAny _ _ (exec (Stmt.While _ _ _ _) _) _ _ _)); (fail_if_success (with_reducible show wpAny _ _ (exec (Stmt.For _ _ _ _ _) _) _ _ _)); (fail_if_success (with_reducible show wpAny _ _ (exec (Stmt.Assign [Expr.Name _ _] (Expr.ListComp _ _ _ _) _) _) _ _ _)); (fail_if_success (with_reducible show wpAny _ _ (pyIter _) _ _ _)); (fail_if_success (with_reducible show wpAny _ _ (call (Value.type "range") _ _) _ _ _)); (fail_if_success (with_reducible show wpAny _ _ (call (Value.type "zip") _ _) _ _ _))); walk1) | (((fail_if_success (with_reducible show wpAny _ _ (eval (Expr.ListComp _ _ _ _) _) _ _ _)); (fail_if_success (with_reducible show wpAny _ _ (exec (Stmt.While _ _ _ _) _) _ _ _)); (fail_if_success (with_reducible show wpAny _ _ (exec (Stmt.For _ _ _ _ _) _) _ _ _)); (fail_if_success (with_reducible show wpAny _ _ (exec (Stmt.Assign [Expr.Name _ _] (Expr.ListComp _ _ _ _) _) _) _ _ _)); (fail_if_success (with_reducible show wpAny _ _ (pyIter _) _ _ _)); (fail_if_success (with_reducible show wpAny _ _ (call (Value.type "range") _ _) _ _ _)); (fail_if_success (with_reducible show wpAny _ _ (call (Value.type "zip") _ _) _ _ _))); dsimp only; walk1))); (all_goals try dsimp only))
    all_goals rename Fr _ _ _ _ => F
    all_goals rename News _ _ _ _ => N
    · exact hCC _ _ _ _ _ F N ⟨rfl, rfl, 32, _, _, _, _, _, _, _, by decide, (fun h => absurd h (by decide)), withL_of _ _ ⟨rfl, congrArg (fun x => some (Value.str x _)) lit_b, rfl, rfl, rfl, rfl, rfl, rfl, trivial⟩⟩
    · have h1 : (tx₁.length : Int) ≠ 1 := by assumption
      exact hCC _ _ _ _ _ F N ⟨rfl, rfl, c, _, _, _, _, _, _, _, hc, (fun _ h => h1 (by omega)), withL_of _ _ ⟨rfl, rfl, rfl, rfl, rfl, rfl, rfl, rfl, trivial⟩⟩
    · rename (mkS [c] == _) = false => h1
      exact hCC _ _ _ _ _ F N ⟨rfl, rfl, c, _, _, _, _, _, _, _, hc, (fun h => by rw [h, lit_colon] at h1; simp at h1), withL_of _ _ ⟨rfl, rfl, rfl, rfl, rfl, rfl, rfl, rfl, trivial⟩⟩
  rintro _ h' tk m' _ F₁ N₁ ⟨rfl, rfl, c, t1, t2, t3, t4, t5, t6, m₀, hc, hc58, rfl⟩
  clear F N
  ((repeat' (first | (k_unfold; (try dsimp only)) | (((((((fail_if_success (with_reducible show wpAny _ _ (eval (Expr.ListComp _ _ _ _) _) _ _ _)); (fail_if_success (with_reducible show wpAny _ _ (exec (Stmt.While _ _ _ _) _) _ _ _)); (fail_if_success (with_reducible show wpAny _ _ (exec (Stmt.For _ _ _ _ _) _) _ _ _)); (fail_if_success (with_reducible show wpAny _ _ (exec (Stmt.Assign [Expr.Name _ _] (Expr.ListComp _ _ _ _) _) _) _ _ _)); (fail_if_success (with_reducible show wpAny _ _ (pyIter _) _ _ _)); (fail_if_success (with_reducible show wpAny _ _ (call (Value.type "range") _ _) _ _ _)); (fail_if_success (with_reducible show wpAny _ _ (call (Value.type "zip") _ _) _ _ _)))); (fail_if_success (with_reducible show wpAny _ _ (exec (Stmt.If _ _ _ _) _) _ _ _)))); (fail_if_success (with_reducible show wpAny _ _ (exec (Stmt.Assign _ _ _) _) _ _ _))); walk1) | (((((((fail_if_success (with_reducible show wpAny _ _ (eval (Expr.ListComp _ _ _ _) _) _ _ _)); (fail_if_success (with_reducible show wpAny _ _ (exec (Stmt.While _ _ _ _) _) _ _ _)); (fail_if_success (with_reducible show wpAny _ _ (exec (Stmt.For _ _ _ _ _) _) _ _ _)); (fail_if_success (with_reducible show wpAny _ _ (exec (Stmt.Assign [Expr.Name _ _] (Expr.ListComp _ _ _ _) _) _) _ _ _)); (fail_if_success (with_reducible show wpAny _ _ (pyIter _) _ _ _)); (fail_if_success (with_reducible show wpAny _ _ (call (Value.type "range") _ _) _ _ _)); (fail_if_success (with_reducible show wpAny _ _ (call (Value.type "zip") _ _) _ _ _)))); (fail_if_success (with_reducible show wpAny _ _ (exec (Stmt.If _ _ _ _) _) _ _ _)))); (fail_if_success (with_reducible show wpAny _ _ (exec (Stmt.Assign _ _ _) _) _ _ _))); dsimp only; walk1))); (all_goals try dsimp only))
  rename Fr _ _ _ _ => F
  rename News _ _ _ _ => N
  obtain ⟨txt, htxt⟩ : ∃ txt, txt = (List.replicate bl 32 ++ tx₁ ++ [c] ++ [32] ++ tx₂) := ⟨_, rfl⟩
  have hlt : txt.length = bl + tx₁.length + 2 + tx₂.length := by rw [htxt]; simp; omega
  have hlA : ∀ x ∈ txt, x < 128 := by
    rw [htxt]
    intro x hx
    simp only [List.mem_append, List.mem_singleton, List.mem_replicate] at hx
    rcases hx with (((hx | hx) | hx) | hx) | hx
    · omega
    · exact hA₁ x hx
    · simp only [List.mem_cons, List.not_mem_nil, or_false] at hc; omega
    · omega
    · exact hA₂ x hx
  refine cut_at F (fun f m' news' => f = .next ∧ news' = [(a₂, listOf (List.toArray vs₂) n₂), (a₁, listOf (List.toArray vs₁) n₁), (d, o₃)] ∧ ∃ t1 t2 t3 t4 t5 m₀, m' = withL [(Str.ofString "text", .str (mkS txt) t1), (Str.ofString "blanks", .str (mkS (List.replicate bl 32)) t5), (Str.ofString "later", .int (drv j₂) t2), (Str.ofString "others", .ref a₂), (Str.ofString "first", .str (mkS tx₁) t3), (Str.ofString "drive", .int (drv j₁) t4), (Str.ofString "octets", .ref a₁)] m₀) (fun CC hCC => ?_) ?_
  · ((repeat' (first | (k_unfold; (try dsimp only)) | (((fail_if_success (with_reducible show wpAny _ _ (eval (Expr.ListComp _ _ _ _) _) _ _ _)); (fail_if_success (with_reducible show wpAny _ _ (exec (Stmt.While _ _ _ _) _) _ _ _)); (fail_if_success (with_reducible show wpAny _ _ (exec (Stmt.For _ _ _ _ _) _) _ _ _)); (fail_if_success (with_reducible show wpAny _ _ (exec (Stmt.Assign [Expr.Name _ _] (Expr.ListComp _ _ _ _) _) _) _ _ _)); (fail_if_success (with_reducible show wpAny _ _ (pyIter _) _ _ _)); (fail_if_success (with_reducible show wpAny _ _ (call (Value.type "range") _ _) _ _ _)); (fail_if_success (with_reducible show wpAny _ _ (call (Value.type "zip") _ _) _ _ _))); walk1) | (((fail_if_success (with_reducible show wpAny _ _ (eval (Expr.ListComp _ _ _ _) _) _ _ _)); (fail_if_success (with_reducible show wpAny _ _ (exec (Stmt.While _ _ _ _) _) _ _ _)); (fail_if_success (with_reducible show wpAny _ _ (exec (Stmt.For _ _ _ _ _) _) _ _ _)); (fail_if_success (with_reducible show wpAny _ _ (exec (Stmt.Assign [Expr.Name _ _] (Expr.ListComp _ _ _ _) _) _) _ _ _)); (fail_if_success (with_reducible show wpAny _ _ (pyIter _) _ _ _)); (fail_if_success (with_reducible show wpAny _ _ (call (Value.type "range") _ _) _ _ _)); (fail_if_success (with_reducible show wpAny _ _ (call (Value.type "zip") _ _) _ _ _))); dsimp only; walk1))); (all_goals try dsimp only))
    rename Fr _ _ _ _ => F
    rename News _ _ _ _ => N
    subst htxt
    exact hCC _ _ _ _ _ F N ⟨rfl, rfl, _, _, _, _, _, _, withL_of _ _ ⟨rfl, rfl, rfl, rfl, rfl, rfl, rfl, trivial⟩⟩
  rintro _ h' tk m' _ F₁ N₁ ⟨rfl, rfl, t1, t2, t3, t4, t5, m₀, rfl⟩
  clear F N
  ((repeat' (first | (k_unfold; (try dsimp only)) | (((((((fail_if_success (with_reducible show wpAny _ _ (eval (Expr.ListComp _ _ _ _) _) _ _ _)); (fail_if_success (with_reducible show wpAny _ _ (exec (Stmt.While _ _ _ _) _) _ _ _)); (fail_if_success (with_reducible show wpAny _ _ (exec (Stmt.For _ _ _ _ _) _) _ _ _)); (fail_if_success (with_reducible show wpAny _ _ (exec (Stmt.Assign [Expr.Name _ _] (Expr.ListComp _ _ _ _) _) _) _ _ _)); (fail_if_success (with_reducible show wpAny _ _ (pyIter _) _ _ _)); (fail_if_success (with_reducible show wpAny _ _ (call (Value.type "range") _ _) _ _ _)); (fail_if_success (with_reducible show wpAny _ _ (call (Value.type "zip") _ _) _ _ _)))); (fail_if_success (with_reducible show wpAny _ _ (exec (Stmt.If _ _ _ _) _) _ _ _)))); (fail_if_success (with_reducible show wpAny _ _ (exec (Stmt.Assign _ _ _) _) _ _ _))); walk1) | (((((((fail_if_success (with_reducible show wpAny _ _ (eval (Expr.ListComp _ _ _ _) _) _ _ _)); (fail_if_success (with_reducible show wpAny _ _ (exec (Stmt.While _ _ _ _) _) _ _ _)); (fail_if_success (with_reducible show wpAny _ _ (exec (Stmt.For _ _ _ _ _) _) _ _ _)); (fail_if_success (with_reducible show wpAny _ _ (exec (Stmt.Assign [Expr.Name _ _] (Expr.ListComp _ _ _ _) _) _) _ _ _)); (fail_if_success (with_reducible show wpAny _ _ (pyIter _) _ _ _)); (fail_if_success (with_reducible show wpAny _ _ (call (Value.type "range") _ _) _ _ _)); (fail_if_success (with_reducible show wpAny _ _ (call (Value.type "zip") _ _) _ _ _)))); (fail_if_success (with_reducible show wpAny _ _ (exec (Stmt.If _ _ _ _) _) _ _ _)))); (fail_if_success (with_reducible show wpAny _ _ (exec (Stmt.Assign _ _ _) _) _ _ _))); dsimp only; walk1))); (all_goals try dsimp only))
  rename Fr _ _ _ _ => F
  rename News _ _ _ _ => N
  refine cut_at F (fun f m' news' => f = .next ∧ ∃ rl vs kk t1 t2 t3 t4 t5 m₀, news' = [(rl, listOf (List.toArray vs) kk), (a₂, listOf (List.toArray vs₂) n₂), (a₁, listOf (List.toArray vs₁) n₁), (d, o₃)] ∧ IntsAre vs (txt.map upC) ∧ m' = withL [(Str.ofString "row", .ref rl), (Str.ofString "text", .str (mkS txt) t1), (Str.ofString "blanks", .str (mkS (List.replicate bl 32)) t5), (Str.ofString "later", .int (drv j₂) t2), (Str.ofString "others", .ref a₂), (Str.ofString "first", .str (mkS tx₁) t3), (Str.ofString "drive", .int (drv j₁) t4), (Str.ofString "octets", .ref a₁)] m₀) (fun CC hCC => ?_) ?_
  · ((repeat' (first | (k_unfold; (try dsimp only)) | (((fail_if_success (with_reducible show wpAny _ _ (eval (Expr.ListComp _ _ _ _) _) _ _ _)); (fail_if_success (with_reducible show wpAny _ _ (exec (Stmt.While _ _ _ _) _) _ _ _)); (fail_if_success (with_reducible show wpAny _ _ (exec (Stmt.For _ _ _ _ _) _) _ _ _)); (fail_if_success (with_reducible show wpAny _ _ (exec (Stmt.Assign [Expr.Name _ _] (Expr.ListComp _ _ _ _) _) _) _ _ _)); (fail_if_success (with_reducible show wpAny _ _ (pyIter _) _ _ _)); (fail_if_success (with_reducible show wpAny _ _ (call (Value.type "range") _ _) _ _ _)); (fail_if_success (with_reducible show wpAny _ _ (call (Value.type "zip") _ _) _ _ _))); walk1) | (((fail_if_success (with_reducible show wpAny _ _ (eval (Expr.ListComp _ _ _ _) _) _ _ _)); (fail_if_success (with_reducible show wpAny _ _ (exec (Stmt.While _ _ _ _) _) _ _ _)); (fail_if_success (with_reducible show wpAny _ _ (exec (Stmt.For _ _ _ _ _) _) _ _ _)); (fail_if_success (with_reducible show wpAny _ _ (exec (Stmt.Assign [Expr.Name _ _] (Expr.ListComp _ _ _ _) _) _) _ _ _)); (fail_if_success (with_reducible show wpAny _ _ (pyIter _) _ _ _)); (fail_if_success (with_reducible show wpAny _ _ (call (Value.type "range") _ _) _ _ _)); (fail_if_success (with_reducible show wpAny _ _ (call (Value.type "zip") _ _) _ _ _))); dsimp only; walk1))); (all_goals try dsimp only))
    ((try (k_unmd; k_fold)); refine' ListComp_ct (cl := _) [] ?hc_192 ?h1_192 ?h2_192 ?h3_192 ?_ ?hs_192; (case hc_192 => exact rfl); (case h1_192 => decide); (case h2_192 => exact rfl); (case h3_192 => decide); (case hs_192 => intro _; exact rfl))
    ((repeat' (first | (k_unfold; (try dsimp only)) | (((fail_if_success (with_reducible show wpAny _ _ (eval (Expr.ListComp _ _ _ _) _) _ _ _)); (fail_if_success (with_reducible show wpAny _ _ (exec (Stmt.While _ _ _ _) _) _ _ _)); (fail_if_success (with_reducible show wpAny _ _ (exec (Stmt.For _ _ _ _ _) _) _ _ _)); (fail_if_success (with_reducible show wpAny _ _ (exec (Stmt.Assign [Expr.Name _ _] (Expr.ListComp _ _ _ _) _) _) _ _ _)); (fail_if_success (with_reducible show wpAny _ _ (pyIter _) _ _ _)); (fail_if_success (with_reducible show wpAny _ _ (call (Value.type "range") _ _) _ _ _)); (fail_if_success (with_reducible show wpAny _ _ (call (Value.type "zip") _ _) _ _ _))); walk1) | (((fail_if_success (with_reducible show wpAny _ _ (eval (Expr.ListComp _ _ _ _) _) _ _ _)); (fail_if_success (with_reducible show wpAny _ _ (exec (Stmt.While _ _ _ _) _) _ _ _)); (fail_if_success (with_reducible show wpAny _ _ (exec (Stmt.For _ _ _ _ _) _) _ _ _)); (fail_if_success (with_reducible show wpAny _ _ (exec (Stmt.Assign [Expr.Name _ _] (Expr.ListComp _ _ _ _) _) _) _ _ _)); (fail_if_success (with_reducible show wpAny _ _ (pyIter _) _ _ _)); (fail_if_success (with_reducible show wpAny _ _ (call (Value.type "range") _ _) _ _ _)); (fail_if_success (with_reducible show wpAny _ _ (call (Value.type "zip") _ _) _ _ _))); dsimp only; walk1))); (all_goals try dsimp only))
    rename Fr _ _ _ _ => F
    rename News _ _ _ _ => N
    refine core_pure (T := fun Q => wpAny _ _ (pyIter (.str _ _)) Q _ _) (P := fun i v => SignAt (mkS txt) i v) (src_str rfl) (by rw [sizeLine_eq]; simp [mkS]; omega) rfl rfl (fun (i : Nat) (y : Value) => ∃ t, y = Value.int ((txt.getD i 0 : Nat) : Int) t) ?_ fun h₂ tk wr st hs hwr => fin_E F N ?_ h₂ tk wr st hs hwr
    · rintro C k v h₃ tk m' hC hk ⟨c, u, hcu, rfl⟩ st F₃ N₃
      have X₃ := X.keeps fun b o e => st b o (F.keep b o e)
      have T₃ := T.keeps fun b o e => st b o (F.keep b o e)
      clear F N
      k_unmd; k_fold
      dsimp only [compEnvC]
      ((repeat' (first | (k_unfold; (try dsimp only)) | (((fail_if_success (with_reducible show wpAny _ _ (eval (Expr.ListComp _ _ _ _) _) _ _ _)); (fail_if_success (with_reducible show wpAny _ _ (exec (Stmt.While _ _ _ _) _) _ _ _)); (fail_if_success (with_reducible show wpAny _ _ (exec (Stmt.For _ _ _ _ _) _) _ _ _)); (fail_if_success (with_reducible show wpAny _ _ (exec (Stmt.Assign [Expr.Name _ _] (Expr.ListComp _ _ _ _) _) _) _ _ _)); (fail_if_success (with_reducible show wpAny _ _ (pyIter _) _ _ _)); (fail_if_success (with_reducible show wpAny _ _ (call (Value.type "range") _ _) _ _ _)); (fail_if_success (with_reducible show wpAny _ _ (call (Value.type "zip") _ _) _ _ _))); walk1) | (((fail_if_success (with_reducible show wpAny _ _ (eval (Expr.ListComp _ _ _ _) _) _ _ _)); (fail_if_success (with_reducible show wpAny _ _ (exec (Stmt.While _ _ _ _) _) _ _ _)); (fail_if_success (with_reducible show wpAny _ _ (exec (Stmt.For _ _ _ _ _) _) _ _ _)); (fail_if_success (with_reducible show wpAny _ _ (exec (Stmt.Assign [Expr.Name _ _] (Expr.ListComp _ _ _ _) _) _) _ _ _)); (fail_if_success (with_reducible show wpAny _ _ (pyIter _) _ _ _)); (fail_if_success (with_reducible show wpAny _ _ (call (Value.type "range") _ _) _ _ _)); (fail_if_success (with_reducible show wpAny _ _ (call (Value.type "zip") _ _) _ _ _))); dsimp only; walk1))); (all_goals try dsimp only))
      rename Fr _ _ _ _ => F'
      have hg : txt[k]? = some c := by simpa [mkS] using hcu
      exact ⟨⟨⟨_, by rw [List.getD_eq_getElem?_getD, hg]; rfl⟩, EltEnd.mk F'⟩⟩
    · intro D h' tk ys kk hlen' hR F' N' hlt' hD
      have hys : IntsAre ys (txt.map (fun c : Nat => (c : Int))) := ints_row (by rw [hlen']; simp [mkS]) hR
      clear F N
      have F := F'
      have N := N'
      clear F' N'
      ((repeat' (first | (k_unfold; (try dsimp only)) | (((fail_if_success (with_reducible show wpAny _ _ (eval (Expr.ListComp _ _ _ _) _) _ _ _)); (fail_if_success (with_reducible show wpAny _ _ (exec (Stmt.While _ _ _ _) _) _ _ _)); (fail_if_success (with_reducible show wpAny _ _ (exec (Stmt.For _ _ _ _ _) _) _ _ _)); (fail_if_success (with_reducible show wpAny _ _ (exec (Stmt.Assign [Expr.Name _ _] (Expr.ListComp _ _ _ _) _) _) _ _ _)); (fail_if_success (with_reducible show wpAny _ _ (pyIter _) _ _ _)); (fail_if_success (with_reducible show wpAny _ _ (call (Value.type "range") _ _) _ _ _)); (fail_if_success (with_reducible show wpAny _ _ (call (Value.type "zip") _ _) _ _ _))); walk1) | (((fail_if_success (with_reducible show wpAny _ _ (eval (Expr.ListComp _ _ _ _) _) _ _ _)); (fail_if_success (with_reducible show wpAny _ _ (exec (Stmt.While _ _ _ _) _) _ _ _)); (fail_if_success (with_reducible show wpAny _ _ (exec (Stmt.For _ _ _ _ _) _) _ _ _)); (fail_if_success (with_reducible show wpAny _ _ (exec (Stmt.Assign [Expr.Name _ _] (Expr.ListComp _ _ _ _) _) _) _ _ _)); (fail_if_success (with_reducible show wpAny _ _ (pyIter _) _ _ _)); (fail_if_success (with_reducible show wpAny _ _ (call (Value.type "range") _ _) _ _ _)); (fail_if_success (with_reducible show wpAny _ _ (call (Value.type "zip") _ _) _ _ _))); dsimp only; walk1))); (all_goals try dsimp only))
      refine wp_top (great_P (X.keeps F.keep) (T.keeps F.keep) (News.isList N (.head _)) hys (by rw [List.length_map]; omega) fun l' vs' n' h' tk st hD hl' hi' => ?_) rfl rfl rfl
      obtain ⟨F', N'⟩ := grown_of F N st
      have N' := news_fresh F N' hD hl'
      clear F N
      ((repeat' (first | (k_unfold; (try dsimp only)) | (((fail_if_success (with_reducible show wpAny _ _ (eval (Expr.ListComp _ _ _ _) _) _ _ _)); (fail_if_success (with_reducible show wpAny _ _ (exec (Stmt.While _ _ _ _) _) _ _ _)); (fail_if_success (with_reducible show wpAny _ _ (exec (Stmt.For _ _ _ _ _) _) _ _ _)); (fail_if_success (with_reducible show wpAny _ _ (exec (Stmt.Assign [Expr.Name _ _] (Expr.ListComp _ _ _ _) _) _) _ _ _)); (fail_if_success (with_reducible show wpAny _ _ (pyIter _) _ _ _)); (fail_if_success (with_reducible show wpAny _ _ (call (Value.type "range") _ _) _ _ _)); (fail_if_success (with_reducible show wpAny _ _ (call (Value.type "zip") _ _) _ _ _))); walk1) | (((fail_if_success (with_reducible show wpAny _ _ (eval (Expr.ListComp _ _ _ _) _) _ _ _)); (fail_if_success (with_reducible show wpAny _ _ (exec (Stmt.While _ _ _ _) _) _ _ _)); (fail_if_success (with_reducible show wpAny _ _ (exec (Stmt.For _ _ _ _ _) _) _ _ _)); (fail_if_success (with_reducible show wpAny _ _ (exec (Stmt.Assign [Expr.Name _ _] (Expr.ListComp _ _ _ _) _) _) _ _ _)); (fail_if_success (with_reducible show wpAny _ _ (pyIter _) _ _ _)); (fail_if_success (with_reducible show wpAny _ _ (call (Value.type "range") _ _) _ _ _)); (fail_if_success (with_reducible show wpAny _ _ (call (Value.type "zip") _ _) _ _ _))); dsimp only; walk1))); (all_goals try dsimp only))
      rename Fr _ _ _ _ => F
      rename News _ _ _ _ => N
      rw [List.map_map] at hi'
      exact hCC _ _ _ _ _ F (news_sub N (by kqd_sub)) ⟨rfl, _, _, _, _, _, _, _, _, _, rfl, hi', withL_of _ _ ⟨rfl, rfl, rfl, rfl, rfl, rfl, rfl, rfl, trivial⟩⟩
  rintro _ h' tk m' _ F₁ N₁ ⟨rfl, rl, vsr, kr, t1, t2, t3, t4, t5, m₀, rfl, hir, rfl⟩
  clear F N
  ((repeat' (first | (k_unfold; (try dsimp only)) | (((((((fail_if_success (with_reducible show wpAny _ _ (eval (Expr.ListComp _ _ _ _) _) _ _ _)); (fail_if_success (with_reducible show wpAny _ _ (exec (Stmt.While _ _ _ _) _) _ _ _)); (fail_if_success (with_reducible show wpAny _ _ (exec (Stmt.For _ _ _ _ _) _) _ _ _)); (fail_if_success (with_reducible show wpAny _ _ (exec (Stmt.Assign [Expr.Name _ _] (Expr.ListComp _ _ _ _) _) _) _ _ _)); (fail_if_success (with_reducible show wpAny _ _ (pyIter _) _ _ _)); (fail_if_success (with_reducible show wpAny _ _ (call (Value.type "range") _ _) _ _ _)); (fail_if_success (with_reducible show wpAny _ _ (call (Value.type "zip") _ _) _ _ _)))); (fail_if_success (with_reducible show wpAny _ _ (exec (Stmt.If _ _ _ _) _) _ _ _)))); (fail_if_success (with_reducible show wpAny _ _ (exec (Stmt.Assign _ _ _) _) _ _ _))); walk1) | (((((((fail_if_success (with_reducible show wpAny _ _ (eval (Expr.ListComp _ _ _ _) _) _ _ _)); (fail_if_success (with_reducible show wpAny _ _ (exec (Stmt.While _ _ _ _) _) _ _ _)); (fail_if_success (with_reducible show wpAny _ _ (exec (Stmt.For _ _ _ _ _) _) _ _ _)); (fail_if_success (with_reducible show wpAny _ _ (exec (Stmt.Assign [Expr.Name _ _] (Expr.ListComp _ _ _ _) _) _) _ _ _)); (fail_if_success (with_reducible show wpAny _ _ (pyIter _) _ _ _)); (fail_if_success (with_reducible show wpAny _ _ (call (Value.type "range") _ _) _ _ _)); (fail_if_success (with_reducible show wpAny _ _ (call (Value.type "zip") _ _) _ _ _)))); (fail_if_success (with_reducible show wpAny _ _ (exec (Stmt.If _ _ _ _) _) _ _ _)))); (fail_if_success (with_reducible show wpAny _ _ (exec (Stmt.Assign _ _ _) _) _ _ _))); dsimp only; walk1))); (all_goals try dsimp only))
  rename Fr _ _ _ _ => F
  rename News _ _ _ _ => N
  refine cut_at F (fun f m' news' => f = .next ∧ news' = [(rl, listOf (List.toArray vsr) kr), (a₂, listOf (List.toArray vs₂) n₂), (a₁, listOf (List.toArray vs₁) n₁), (d, o₃)] ∧ ∃ t2 t3 t4 t5 m₀, m' = withL [(Str.ofString "row", .ref rl), (Str.ofString "blanks", .str (mkS (List.replicate bl 32)) t5), (Str.ofString "later", .int (drv j₂) t2), (Str.ofString "others", .ref a₂), (Str.ofString "first", .str (mkS tx₁) t3), (Str.ofString "drive", .int (drv j₁) t4), (Str.ofString "octets", .ref a₁)] m₀) (fun CC hCC => ?_) ?_
  · ((repeat' (first | (k_unfold; (try dsimp only)) | (((fail_if_success (with_reducible show wpAny _ _ (eval (Expr.ListComp _ _ _ _) _) _ _ _)); (fail_if_success (with_reducible show wpAny _ _ (exec (Stmt.While _ _ _ _) _) _ _ _)); (fail_if_success (with_reducible show wpAny _ _ (exec (Stmt.For _ _ _ _ _) _) _ _ _)); (fail_if_success (with_reducible show wpAny _ _ (exec (Stmt.Assign [Expr.Name _ _] (Expr.ListComp _ _ _ _) _) _) _ _ _)); (fail_if_success (with_reducible show wpAny _ _ (pyIter _) _ _ _)); (fail_if_success (with_reducible show wpAny _ _ (call (Value.type "range") _ _) _ _ _)); (fail_if_success (with_reducible show wpAny _ _ (call (Value.type "zip") _ _) _ _ _))); walk1) | (((fail_if_success (with_reducible show wpAny _ _ (eval (Expr.ListComp _ _ _ _) _) _ _ _)); (fail_if_success (with_reducible show wpAny _ _ (exec (Stmt.While _ _ _ _) _) _ _ _)); (fail_if_success (with_reducible show wpAny _ _ (exec (Stmt.For _ _ _ _ _) _) _ _ _)); (fail_if_success (with_reducible show wpAny _ _ (exec (Stmt.Assign [Expr.Name _ _] (Expr.ListComp _ _ _ _) _) _) _ _ _)); (fail_if_success (with_reducible show wpAny _ _ (pyIter _) _ _ _)); (fail_if_success (with_reducible show wpAny _ _ (call (Value.type "range") _ _) _ _ _)); (fail_if_success (with_reducible show wpAny _ _ (call (Value.type "zip") _ _) _ _ _))); dsimp only; walk1))); (all_goals try dsimp only))
    ((try (k_unmd; k_fold)); refine' ListComp_ct (cl := _) [] ?hc_199 ?h1_199 ?h2_199 ?h3_199 ?_ ?hs_199; (case hc_199 => exact rfl); (case h1_199 => decide); (case h2_199 => exact rfl); (case h3_199 => decide); (case hs_199 => intro _; exact rfl))
    ((repeat' (first | (k_unfold; (try dsimp only)) | (((fail_if_success (with_reducible show wpAny _ _ (eval (Expr.ListComp _ _ _ _) _) _ _ _)); (fail_if_success (with_reducible show wpAny _ _ (exec (Stmt.While _ _ _ _) _) _ _ _)); (fail_if_success (with_reducible show wpAny _ _ (exec (Stmt.For _ _ _ _ _) _) _ _ _)); (fail_if_success (with_reducible show wpAny _ _ (exec (Stmt.Assign [Expr.Name _ _] (Expr.ListComp _ _ _ _) _) _) _ _ _)); (fail_if_success (with_reducible show wpAny _ _ (pyIter _) _ _ _)); (fail_if_success (with_reducible show wpAny _ _ (call (Value.type "range") _ _) _ _ _)); (fail_if_success (with_reducible show wpAny _ _ (call (Value.type "zip") _ _) _ _ _))); walk1) | (((fail_if_success (with_reducible show wpAny _ _ (eval (Expr.ListComp _ _ _ _) _) _ _ _)); (fail_if_success (with_reducible show wpAny _ _ (exec (Stmt.While _ _ _ _) _) _ _ _)); (fail_if_success (with_reducible show wpAny _ _ (exec (Stmt.For _ _ _ _ _) _) _ _ _)); (fail_if_success (with_reducible show wpAny _ _ (exec (Stmt.Assign [Expr.Name _ _] (Expr.ListComp _ _ _ _) _) _) _ _ _)); (fail_if_success (with_reducible show wpAny _ _ (pyIter _) _ _ _)); (fail_if_success (with_reducible show wpAny _ _ (call (Value.type "range") _ _) _ _ _)); (fail_if_success (with_reducible show wpAny _ _ (call (Value.type "zip") _ _) _ _ _))); dsimp only; walk1))); (all_goals try dsimp only))
    rename Fr _ _ _ _ => F
    rename News _ _ _ _ => N
    refine core_pure (T := fun Q => wpAny _ _ (pyIter (.str _ _)) Q _ _) (P := fun i v => SignAt (mkS (txt.map up1)) i v) (src_str rfl) (by rw [sizeLine_eq]; simp [mkS]; omega) rfl rfl (fun (i : Nat) (y : Value) => ∃ t, y = Value.int (((txt.map up1).getD i 0 : Nat) : Int) t) ?_ fun h₂ tk wr st hs hwr => fin_E F N ?_ h₂ tk wr st hs hwr
    · rintro C k v h₃ tk m' hC hk ⟨c, u, hcu, rfl⟩ st F₃ N₃
      have X₃ := X.keeps fun b o e => st b o (F.keep b o e)
      have T₃ := T.keeps fun b o e => st b o (F.keep b o e)
      clear F N
      k_unmd; k_fold
      dsimp only [compEnvC]
      ((repeat' (first | (k_unfold; (try dsimp only)) | (((fail_if_success (with_reducible show wpAny _ _ (eval (Expr.ListComp _ _ _ _) _) _ _ _)); (fail_if_success (with_reducible show wpAny _ _ (exec (Stmt.While _ _ _ _) _) _ _ _)); (fail_if_success (with_reducible show wpAny _ _ (exec (Stmt.For _ _ _ _ _) _) _ _ _)); (fail_if_success (with_reducible show wpAny _ _ (exec (Stmt.Assign [Expr.Name _ _] (Expr.ListComp _ _ _ _) _) _) _ _ _)); (fail_if_success (with_reducible show wpAny _ _ (pyIter _) _ _ _)); (fail_if_success (with_reducible show wpAny _ _ (call (Value.type "range") _ _) _ _ _)); (fail_if_success (with_reducible show wpAny _ _ (call (Value.type "zip") _ _) _ _ _))); walk1) | (((fail_if_success (with_reducible show wpAny _ _ (eval (Expr.ListComp _ _ _ _) _) _ _ _)); (fail_if_success (with_reducible show wpAny _ _ (exec (Stmt.While _ _ _ _) _) _ _ _)); (fail_if_success (with_reducible show wpAny _ _ (exec (Stmt.For _ _ _ _ _) _) _ _ _)); (fail_if_success (with_reducible show wpAny _ _ (exec (Stmt.Assign [Expr.Name _ _] (Expr.ListComp _ _ _ _) _) _) _ _ _)); (fail_if_success (with_reducible show wpAny _ _ (pyIter _) _ _ _)); (fail_if_success (with_reducible show wpAny _ _ (call (Value.type "range") _ _) _ _ _)); (fail_if_success (with_reducible show wpAny _ _ (call (Value.type "zip") _ _) _ _ _))); dsimp only; walk1))); (all_goals try dsimp only))
      rename Fr _ _ _ _ => F'
      have hg : (txt.map up1)[k]? = some c := by simpa [mkS] using hcu
      exact ⟨⟨⟨_, by rw [List.getD_eq_getElem?_getD, hg]; rfl⟩, EltEnd.mk F'⟩⟩
    · intro D h' tk ys kk hlen' hR F' N' hlt' hD
      have hys : IntsAre ys ((txt.map up1).map (fun c : Nat => (c : Int))) := ints_row (by rw [hlen']; simp [mkS]) hR
      rw [List.map_map, show ((fun c : Nat => (c : Int)) ∘ up1) = upC from funext fun c => (up_cast c).symm] at hys
      clear F N
      have F := F'
      have N := N'
      clear F' N'
      ((repeat' (first | (k_unfold; (try dsimp only)) | (((fail_if_success (with_reducible show wpAny _ _ (eval (Expr.ListComp _ _ _ _) _) _ _ _)); (fail_if_success (with_reducible show wpAny _ _ (exec (Stmt.While _ _ _ _) _) _ _ _)); (fail_if_success (with_reducible show wpAny _ _ (exec (Stmt.For _ _ _ _ _) _) _ _ _)); (fail_if_success (with_reducible show wpAny _ _ (exec (Stmt.Assign [Expr.Name _ _] (Expr.ListComp _ _ _ _) _) _) _ _ _)); (fail_if_success (with_reducible show wpAny _ _ (pyIter _) _ _ _)); (fail_if_success (with_reducible show wpAny _ _ (call (Value.type "range") _ _) _ _ _)); (fail_if_success (with_reducible show wpAny _ _ (call (Value.type "zip") _ _) _ _ _))); walk1) | (((fail_if_success (with_reducible show wpAny _ _ (eval (Expr.ListComp _ _ _ _) _) _ _ _)); (fail_if_success (with_reducible show wpAny _ _ (exec (Stmt.While _ _ _ _) _) _ _ _)); (fail_if_success (with_reducible show wpAny _ _ (exec (Stmt.For _ _ _ _ _) _) _ _ _)); (fail_if_success (with_reducible show wpAny _ _ (exec (Stmt.Assign [Expr.Name _ _] (Expr.ListComp _ _ _ _) _) _) _ _ _)); (fail_if_success (with_reducible show wpAny _ _ (pyIter _) _ _ _)); (fail_if_success (with_reducible show wpAny _ _ (call (Value.type "range") _ _) _ _ _)); (fail_if_success (with_reducible show wpAny _ _ (call (Value.type "zip") _ _) _ _ _))); dsimp only; walk1))); (all_goals try dsimp only))
      rename Fr _ _ _ _ => F
      rename News _ _ _ _ => N
      refine wp_top (skip_P (k := 0) (X.keeps F.keep) (T.keeps F.keep) (News.isList N (by k_mem)) hir (by rw [List.length_map]; omega) (by decide) fun t' h' tk st => ?_) rfl rfl rfl
      obtain ⟨F', N'⟩ := grown_of F N st
      clear F N
      rw [skip_lead]
      ((repeat' (first | (k_unfold; (try dsimp only)) | (((fail_if_success (with_reducible show wpAny _ _ (eval (Expr.ListComp _ _ _ _) _) _ _ _)); (fail_if_success (with_reducible show wpAny _ _ (exec (Stmt.While _ _ _ _) _) _ _ _)); (fail_if_success (with_reducible show wpAny _ _ (exec (Stmt.For _ _ _ _ _) _) _ _ _)); (fail_if_success (with_reducible show wpAny _ _ (exec (Stmt.Assign [Expr.Name _ _] (Expr.ListComp _ _ _ _) _) _) _ _ _)); (fail_if_success (with_reducible show wpAny _ _ (pyIter _) _ _ _)); (fail_if_success (with_reducible show wpAny _ _ (call (Value.type "range") _ _) _ _ _)); (fail_if_success (with_reducible show wpAny _ _ (call (Value.type "zip") _ _) _ _ _))); walk1) | (((fail_if_success (with_reducible show wpAny _ _ (eval (Expr.ListComp _ _ _ _) _) _ _ _)); (fail_if_success (with_reducible show wpAny _ _ (exec (Stmt.While _ _ _ _) _) _ _ _)); (fail_if_success (with_reducible show wpAny _ _ (exec (Stmt.For _ _ _ _ _) _) _ _ _)); (fail_if_success (with_reducible show wpAny _ _ (exec (Stmt.Assign [Expr.Name _ _] (Expr.ListComp _ _ _ _) _) _) _ _ _)); (fail_if_success (with_reducible show wpAny _ _ (pyIter _) _ _ _)); (fail_if_success (with_reducible show wpAny _ _ (call (Value.type "range") _ _) _ _ _)); (fail_if_success (with_reducible show wpAny _ _ (call (Value.type "zip") _ _) _ _ _))); dsimp only; walk1))); (all_goals try dsimp only))
      · rename (_ : Int) ≠ _ => h
        rw [lead_len] at h
        omega
      · rename Fr _ _ _ _ => F
        rename News _ _ _ _ => N
        exact hCC _ _ _ _ _ F (news_sub N (by kqd_sub)) ⟨rfl, rfl, _, _, _, _, _, withL_of _ _ ⟨rfl, rfl, rfl, rfl, rfl, rfl, rfl, trivial⟩⟩
  rintro _ h' tk m' _ F₁ N₁ ⟨rfl, rfl, t2, t3, t4, t5, m₀, rfl⟩
  clear F N
  ((repeat' (first | (k_unfold; (try dsimp only)) | (((((((fail_if_success (with_reducible show wpAny _ _ (eval (Expr.ListComp _ _ _ _) _) _ _ _)); (fail_if_success (with_reducible show wpAny _ _ (exec (Stmt.While _ _ _ _) _) _ _ _)); (fail_if_success (with_reducible show wpAny _ _ (exec (Stmt.For _ _ _ _ _) _) _ _ _)); (fail_if_success (with_reducible show wpAny _ _ (exec (Stmt.Assign [Expr.Name _ _] (Expr.ListComp _ _ _ _) _) _) _ _ _)); (fail_if_success (with_reducible show wpAny _ _ (pyIter _) _ _ _)); (fail_if_success (with_reducible show wpAny _ _ (call (Value.type "range") _ _) _ _ _)); (fail_if_success (with_reducible show wpAny _ _ (call (Value.type "zip") _ _) _ _ _)))); (fail_if_success (with_reducible show wpAny _ _ (exec (Stmt.If _ _ _ _) _) _ _ _)))); (fail_if_success (with_reducible show wpAny _ _ (exec (Stmt.Assign _ _ _) _) _ _ _))); walk1) | (((((((fail_if_success (with_reducible show wpAny _ _ (eval (Expr.ListComp _ _ _ _) _) _ _ _)); (fail_if_success (with_reducible show wpAny _ _ (exec (Stmt.While _ _ _ _) _) _ _ _)); (fail_if_success (with_reducible show wpAny _ _ (exec (Stmt.For _ _ _ _ _) _) _ _ _)); (fail_if_success (with_reducible show wpAny _ _ (exec (Stmt.Assign [Expr.Name _ _] (Expr.ListComp _ _ _ _) _) _) _ _ _)); (fail_if_success (with_reducible show wpAny _ _ (pyIter _) _ _ _)); (fail_if_success (with_reducible show wpAny _ _ (call (Value.type "range") _ _) _ _ _)); (fail_if_success (with_reducible show wpAny _ _ (call (Value.type "zip") _ _) _ _ _)))); (fail_if_success (with_reducible show wpAny _ _ (exec (Stmt.If _ _ _ _) _) _ _ _)))); (fail_if_success (with_reducible show wpAny _ _ (exec (Stmt.Assign _ _ _) _) _ _ _))); dsimp only; walk1))); (all_goals try dsimp only))
  rename Fr _ _ _ _ => F
  rename News _ _ _ _ => N
  obtain ⟨ns, hns⟩ : ∃ ns, ns = txt.map upC := ⟨_, rfl⟩
  rw [← hns] at hir
  have hnl : ns.length = txt.length := by rw [hns, List.length_map]
  have hnr : ∀ x ∈ ns, 0 ≤ x ∧ x < 256 := by
    rw [hns]
    intro x hx
    obtain ⟨c, hc, rfl⟩ := List.mem_map.mp hx
    have := hlA c hc
    unfold upC up; split <;> omega
  have hnsB : ns = List.replicate bl 32 ++ (tx₁.map upC ++ (upC c :: 32 :: tx₂.map upC)) := by
    rw [hns, htxt]
    simp only [List.map_append, List.map_replicate, List.append_assoc, List.map_cons, List.cons_append, List.nil_append]
    rfl
  have hcU : upC c ∈ ([32, 61, 95, 58, 59, 60] : List Int) ∧ (upC c = 58 → c = 58) := by
    simp only [List.mem_cons, List.not_mem_nil, or_false] at hc
    rcases hc with rfl | rfl | rfl | rfl | rfl | rfl <;> decide
  have hT : tx₁ ≠ [] → (toldAt ns 0).1 = drv j₁ ∧ toldName ns 0 = oct₁ ∧ toldEnd ns 0 = 0 + bl + tx₁.length := fun hne =>
    told_law (B := upC c :: 32 :: tx₂.map upC) hR₁ rfl (by rw [List.drop_zero]; exact hnsB) (Nat.zero_le _) (fun x hx => by cases hx; exact hcU.1) (fun e => absurd e hne) (fun h x hx => by cases hx; exact fun q => hc58 (hcU.2 q) h)
  have hT₂ : (toldAt ns (bl + tx₁.length + 1)).1 = drv j₂ ∧ toldName ns (bl + tx₁.length + 1) = oct₂ ∧ toldEnd ns (bl + tx₁.length + 1) = bl + tx₁.length + 1 + 1 + tx₂.length := by
    refine told_law (B := []) hR₂ rfl ?_ (by omega) (fun x hx => nomatch hx) (fun _ => rfl) (fun _ x hx => nomatch hx)
    rw [hnsB, ← List.append_assoc, List.append_nil]
    have e : (List.replicate bl 32 ++ tx₁.map upC).length = bl + tx₁.length := by simp
    rw [List.drop_append, List.drop_eq_nil_of_le (by omega), e]
    simp
  refine cut_at F (fun f m' news' => f = .next ∧ ∃ x dx od lt vst nt t2 t3 t4 t5 m₀, news' = [(x, instObj 88 dx), (dx, od), (lt, listOf (List.toArray vst) nt), (rl, listOf (List.toArray vsr) kr), (a₂, listOf (List.toArray vs₂) n₂), (a₁, listOf (List.toArray vs₁) n₁), (d, o₃)] ∧ toldO w (toldAt ns 0).1 lt (toldEnd ns 0 : Int) od ∧ IntsAre vst (toldName ns 0) ∧ m' = withL [(Str.ofString "told", .ref x), (Str.ofString "row", .ref rl), (Str.ofString "blanks", .str (mkS (List.replicate bl 32)) t5), (Str.ofString "later", .int (drv j₂) t2), (Str.ofString "others", .ref a₂), (Str.ofString "first", .str (mkS tx₁) t3), (Str.ofString "drive", .int (drv j₁) t4), (Str.ofString "octets", .ref a₁)] m₀) (fun CC hCC => ?_) ?_
  · ((repeat' (first | (k_unfold; (try dsimp only)) | (((fail_if_success (with_reducible show wpAny _ _ (eval (Expr.ListComp _ _ _ _) _) _ _ _)); (fail_if_success (with_reducible show wpAny _ _ (exec (Stmt.While _ _ _ _) _) _ _ _)); (fail_if_success (with_reducible show wpAny _ _ (exec (Stmt.For _ _ _ _ _) _) _ _ _)); (fail_if_success (with_reducible show wpAny _ _ (exec (Stmt.Assign [Expr.Name _ _] (Expr.ListComp _ _ _ _) _) _) _ _ _)); (fail_if_success (with_reducible show wpAny _ _ (pyIter _) _ _ _)); (fail_if_success (with_reducible show wpAny _ _ (call (Value.type "range") _ _) _ _ _)); (fail_if_success (with_reducible show wpAny _ _ (call (Value.type "zip") _ _) _ _ _))); walk1) | (((fail_if_success (with_reducible show wpAny _ _ (eval (Expr.ListComp _ _ _ _) _) _ _ _)); (fail_if_success (with_reducible show wpAny _ _ (exec (Stmt.While _ _ _ _) _) _ _ _)); (fail_if_success (with_reducible show wpAny _ _ (exec (Stmt.For _ _ _ _ _) _) _ _ _)); (fail_if_success (with_reducible show wpAny _ _ (exec (Stmt.Assign [Expr.Name _ _] (Expr.ListComp _ _ _ _) _) _) _ _ _)); (fail_if_success (with_reducible show wpAny _ _ (pyIter _) _ _ _)); (fail_if_success (with_reducible show wpAny _ _ (call (Value.type "range") _ _) _ _ _)); (fail_if_success (with_reducible show wpAny _ _ (call (Value.type "zip") _ _) _ _ _))); dsimp only; walk1))); (all_goals try dsimp only))
    rename Fr _ _ _ _ => F
    rename News _ _ _ _ => N
    refine wp_top (name_told_P (k := 0) (X.keeps F.keep) (T.keeps F.keep) (News.isList N (.head _)) hir (by omega) (by decide) hnr fun x dx od lt vst nt h' tk st hx hdx hlt' hx' hdx' ho' hlt'' hi' => ?_) rfl rfl rfl
    obtain ⟨F', N'⟩ := grown_of F N st
    have N' := news_fresh F (news_fresh F (news_fresh F N' hlt' hlt'') hdx hdx') hx hx'
    clear F N
    ((repeat' (first | (k_unfold; (try dsimp only)) | (((fail_if_success (with_reducible show wpAny _ _ (eval (Expr.ListComp _ _ _ _) _) _ _ _)); (fail_if_success (with_reducible show wpAny _ _ (exec (Stmt.While _ _ _ _) _) _ _ _)); (fail_if_success (with_reducible show wpAny _ _ (exec (Stmt.For _ _ _ _ _) _) _ _ _)); (fail_if_success (with_reducible show wpAny _ _ (exec (Stmt.Assign [Expr.Name _ _] (Expr.ListComp _ _ _ _) _) _) _ _ _)); (fail_if_success (with_reducible show wpAny _ _ (pyIter _) _ _ _)); (fail_if_success (with_reducible show wpAny _ _ (call (Value.type "range") _ _) _ _ _)); (fail_if_success (with_reducible show wpAny _ _ (call (Value.type "zip") _ _) _ _ _))); walk1) | (((fail_if_success (with_reducible show wpAny _ _ (eval (Expr.ListComp _ _ _ _) _) _ _ _)); (fail_if_success (with_reducible show wpAny _ _ (exec (Stmt.While _ _ _ _) _) _ _ _)); (fail_if_success (with_reducible show wpAny _ _ (exec (Stmt.For _ _ _ _ _) _) _ _ _)); (fail_if_success (with_reducible show wpAny _ _ (exec (Stmt.Assign [Expr.Name _ _] (Expr.ListComp _ _ _ _) _) _) _ _ _)); (fail_if_success (with_reducible show wpAny _ _ (pyIter _) _ _ _)); (fail_if_success (with_reducible show wpAny _ _ (call (Value.type "range") _ _) _ _ _)); (fail_if_success (with_reducible show wpAny _ _ (call (Value.type "zip") _ _) _ _ _))); dsimp only; walk1))); (all_goals try dsimp only))
    rename Fr _ _ _ _ => F
    rename News _ _ _ _ => N
    exact hCC _ _ _ _ _ F (news_sub N (by kqd_sub)) ⟨rfl, _, _, _, _, _, _, _, _, _, _, _, rfl, ho', hi', withL_of _ _ ⟨rfl, rfl, rfl, rfl, rfl, rfl, rfl, rfl, trivial⟩⟩
  rintro _ h' tk m' _ F₁ N₁ ⟨rfl, x, dx, od, lt, vst, nt, t2, t3, t4, t5, m₀, rfl, ho', hit, rfl⟩
  clear F N
  obtain ⟨u1, u2, u3, u4, u5, rfl⟩ := ho'
  ((repeat' (first | (k_unfold; (try dsimp only)) | (((((fail_if_success (with_reducible show wpAny _ _ (eval (Expr.ListComp _ _ _ _) _) _ _ _)); (fail_if_success (with_reducible show wpAny _ _ (exec (Stmt.While _ _ _ _) _) _ _ _)); (fail_if_success (with_reducible show wpAny _ _ (exec (Stmt.For _ _ _ _ _) _) _ _ _)); (fail_if_success (with_reducible show wpAny _ _ (exec (Stmt.Assign [Expr.Name _ _] (Expr.ListComp _ _ _ _) _) _) _ _ _)); (fail_if_success (with_reducible show wpAny _ _ (pyIter _) _ _ _)); (fail_if_success (with_reducible show wpAny _ _ (call (Value.type "range") _ _) _ _ _)); (fail_if_success (with_reducible show wpAny _ _ (call (Value.type "zip") _ _) _ _ _)))); (fail_if_success (with_reducible show wpAny _ _ (exec (Stmt.If _ _ _ _) _) _ _ _))); walk1) | (((((fail_if_success (with_reducible show wpAny _ _ (eval (Expr.ListComp _ _ _ _) _) _ _ _)); (fail_if_success (with_reducible show wpAny _ _ (exec (Stmt.While _ _ _ _) _) _ _ _)); (fail_if_success (with_reducible show wpAny _ _ (exec (Stmt.For _ _ _ _ _) _) _ _ _)); (fail_if_success (with_reducible show wpAny _ _ (exec (Stmt.Assign [Expr.Name _ _] (Expr.ListComp _ _ _ _) _) _) _ _ _)); (fail_if_success (with_reducible show wpAny _ _ (pyIter _) _ _ _)); (fail_if_success (with_reducible show wpAny _ _ (call (Value.type "range") _ _) _ _ _)); (fail_if_success (with_reducible show wpAny _ _ (call (Value.type "zip") _ _) _ _ _)))); (fail_if_success (with_reducible show wpAny _ _ (exec (Stmt.If _ _ _ _) _) _ _ _))); dsimp only; walk1))); (all_goals try dsimp only))
  rename Fr _ _ _ _ => F
  rename News _ _ _ _ => N
  refine cut_at F (fun f m' news' => f = .next ∧ news' = [(x, instObj 88 dx), (dx, toldD w (toldAt ns 0).1 lt (toldEnd ns 0 : Int) u1 u2 u3 u4 u5), (lt, listOf (List.toArray vst) nt), (rl, listOf (List.toArray vsr) kr), (a₂, listOf (List.toArray vs₂) n₂), (a₁, listOf (List.toArray vs₁) n₁), (d, o₃)] ∧ ∃ t2 t3 t5 m₀, m' = withL [(Str.ofString "told", .ref x), (Str.ofString "row", .ref rl), (Str.ofString "blanks", .str (mkS (List.replicate bl 32)) t5), (Str.ofString "later", .int (drv j₂) t2), (Str.ofString "others", .ref a₂), (Str.ofString "first", .str (mkS tx₁) t3), (Str.ofString "octets", .ref a₁)] m₀) (fun CC hCC => ?_) ?_
  · ((repeat' (first | (k_unfold; (try dsimp only)) | (((fail_if_success (with_reducible show wpAny _ _ (eval (Expr.ListComp _ _ _ _) _) _ _ _)); (fail_if_success (with_reducible show wpAny _ _ (exec (Stmt.While _ _ _ _) _) _ _ _)); (fail_if_success (with_reducible show wpAny _ _ (exec (Stmt.For _ _ _ _ _) _) _ _ _)); (fail_if_success (with_reducible show wpAny _ _ (exec (Stmt.Assign [Expr.Name _ _] (Expr.ListComp _ _ _ _) _) _) _ _ _)); (fail_if_success (with_reducible show wpAny _ _ (pyIter _) _ _ _)); (fail_if_success (with_reducible show wpAny _ _ (call (Value.type "range") _ _) _ _ _)); (fail_if_success (with_reducible show wpAny _ _ (call (Value.type "zip") _ _) _ _ _))); walk1) | (((fail_if_success (with_reducible show wpAny _ _ (eval (Expr.ListComp _ _ _ _) _) _ _ _)); (fail_if_success (with_reducible show wpAny _ _ (exec (Stmt.While _ _ _ _) _) _ _ _)); (fail_if_success (with_reducible show wpAny _ _ (exec (Stmt.For _ _ _ _ _) _) _ _ _)); (fail_if_success (with_reducible show wpAny _ _ (exec (Stmt.Assign [Expr.Name _ _] (Expr.ListComp _ _ _ _) _) _) _ _ _)); (fail_if_success (with_reducible show wpAny _ _ (pyIter _) _ _ _)); (fail_if_success (with_reducible show wpAny _ _ (call (Value.type "range") _ _) _ _ _)); (fail_if_success (with_reducible show wpAny _ _ (call (Value.type "zip") _ _) _ _ _))); dsimp only; walk1))); (all_goals try dsimp only))
    all_goals rename Fr _ _ _ _ => F
    all_goals rename News _ _ _ _ => N
    · exfalso
      rename NeB _ _ _ _ _ => h1
      rename (mkS tx₁ != _) = true => h2
      have h3 := hT (mkS_ne.mp h2)
      exact h1.mp (by assumption) ⟨h3.1, h3.2.1⟩
    all_goals exact hCC _ _ _ _ _ F (news_sub N (by kqd_sub)) ⟨rfl, rfl, _, _, _, _, withL_of _ _ ⟨rfl, rfl, rfl, rfl, rfl, rfl, rfl, trivial⟩⟩
  rintro _ h' tk m' _ F₁ N₁ ⟨rfl, rfl, t2, t3, t5, m₀, rfl⟩
  clear F N
  ((repeat' (first | (k_unfold; (try dsimp only)) | (((((fail_if_success (with_reducible show wpAny _ _ (eval (Expr.ListComp _ _ _ _) _) _ _ _)); (fail_if_success (with_reducible show wpAny _ _ (exec (Stmt.While _ _ _ _) _) _ _ _)); (fail_if_success (with_reducible show wpAny _ _ (exec (Stmt.For _ _ _ _ _) _) _ _ _)); (fail_if_success (with_reducible show wpAny _ _ (exec (Stmt.Assign [Expr.Name _ _] (Expr.ListComp _ _ _ _) _) _) _ _ _)); (fail_if_success (with_reducible show wpAny _ _ (pyIter _) _ _ _)); (fail_if_success (with_reducible show wpAny _ _ (call (Value.type "range") _ _) _ _ _)); (fail_if_success (with_reducible show wpAny _ _ (call (Value.type "zip") _ _) _ _ _)))); (fail_if_success (with_reducible show wpAny _ _ (exec (Stmt.If _ _ _ _) _) _ _ _))); walk1) | (((((fail_if_success (with_reducible show wpAny _ _ (eval (Expr.ListComp _ _ _ _) _) _ _ _)); (fail_if_success (with_reducible show wpAny _ _ (exec (Stmt.While _ _ _ _) _) _ _ _)); (fail_if_success (with_reducible show wpAny _ _ (exec (Stmt.For _ _ _ _ _) _) _ _ _)); (fail_if_success (with_reducible show wpAny _ _ (exec (Stmt.Assign [Expr.Name _ _] (Expr.ListComp _ _ _ _) _) _) _ _ _)); (fail_if_success (with_reducible show wpAny _ _ (pyIter _) _ _ _)); (fail_if_success (with_reducible show wpAny _ _ (call (Value.type "range") _ _) _ _ _)); (fail_if_success (with_reducible show wpAny _ _ (call (Value.type "zip") _ _) _ _ _)))); (fail_if_success (with_reducible show wpAny _ _ (exec (Stmt.If _ _ _ _) _) _ _ _))); dsimp only; walk1))); (all_goals try dsimp only))
  rename Fr _ _ _ _ => F
  rename News _ _ _ _ => N
  refine cut_at F (fun f m' news' => f = .next ∧ news' = [(rl, listOf (List.toArray vsr) kr), (a₂, listOf (List.toArray vs₂) n₂), (a₁, listOf (List.toArray vs₁) n₁), (d, o₃)] ∧ ∃ t2 t3 t5 m₀, m' = withL [(Str.ofString "row", .ref rl), (Str.ofString "blanks", .str (mkS (List.replicate bl 32)) t5), (Str.ofString "later", .int (drv j₂) t2), (Str.ofString "others", .ref a₂), (Str.ofString "first", .str (mkS tx₁) t3), (Str.ofString "octets", .ref a₁)] m₀) (fun CC hCC => ?_) ?_
  · ((repeat' (first | (k_unfold; (try dsimp only)) | (((fail_if_success (with_reducible show wpAny _ _ (eval (Expr.ListComp _ _ _ _) _) _ _ _)); (fail_if_success (with_reducible show wpAny _ _ (exec (Stmt.While _ _ _ _) _) _ _ _)); (fail_if_success (with_reducible show wpAny _ _ (exec (Stmt.For _ _ _ _ _) _) _ _ _)); (fail_if_success (with_reducible show wpAny _ _ (exec (Stmt.Assign [Expr.Name _ _] (Expr.ListComp _ _ _ _) _) _) _ _ _)); (fail_if_success (with_reducible show wpAny _ _ (pyIter _) _ _ _)); (fail_if_success (with_reducible show wpAny _ _ (call (Value.type "range") _ _) _ _ _)); (fail_if_success (with_reducible show wpAny _ _ (call (Value.type "zip") _ _) _ _ _))); walk1) | (((fail_if_success (with_reducible show wpAny _ _ (eval (Expr.ListComp _ _ _ _) _) _ _ _)); (fail_if_success (with_reducible show wpAny _ _ (exec (Stmt.While _ _ _ _) _) _ _ _)); (fail_if_success (with_reducible show wpAny _ _ (exec (Stmt.For _ _ _ _ _) _) _ _ _)); (fail_if_success (with_reducible show wpAny _ _ (exec (Stmt.Assign [Expr.Name _ _] (Expr.ListComp _ _ _ _) _) _) _ _ _)); (fail_if_success (with_reducible show wpAny _ _ (pyIter _) _ _ _)); (fail_if_success (with_reducible show wpAny _ _ (call (Value.type "range") _ _) _ _ _)); (fail_if_success (with_reducible show wpAny _ _ (call (Value.type "zip") _ _) _ _ _))); dsimp only; walk1))); (all_goals try dsimp only))
    · exfalso
      rename (mkS tx₁ != _) = true => h2
      have h3 := hT (mkS_ne.mp h2)
      rename _ ≠ _ + (tx₁.length : Int) => h4
      rw [h3.2.2, List.length_replicate] at h4
      omega
    all_goals rename Fr _ _ _ _ => F
    all_goals rename News _ _ _ _ => N
    all_goals refine wpAny_call (code_top (wild_P (d := (toldAt ns 0).1) (e := (toldEnd ns 0 : Int)) (X.keeps F.keep) (T.keeps F.keep) (News.get N (by k_mem)) (News.get N (by k_mem)) ⟨u1, u2, u3, u4, u5, rfl⟩ (News.get N (by k_mem)) hit fun t' h' tk st => ?_) rfl rfl rfl)
    all_goals obtain ⟨F', N'⟩ := grown_of F N st
    all_goals clear F N
    all_goals dsimp only
    all_goals ((repeat' (first | (k_unfold; (try dsimp only)) | (((fail_if_success (with_reducible show wpAny _ _ (eval (Expr.ListComp _ _ _ _) _) _ _ _)); (fail_if_success (with_reducible show wpAny _ _ (exec (Stmt.While _ _ _ _) _) _ _ _)); (fail_if_success (with_reducible show wpAny _ _ (exec (Stmt.For _ _ _ _ _) _) _ _ _)); (fail_if_success (with_reducible show wpAny _ _ (exec (Stmt.Assign [Expr.Name _ _] (Expr.ListComp _ _ _ _) _) _) _ _ _)); (fail_if_success (with_reducible show wpAny _ _ (pyIter _) _ _ _)); (fail_if_success (with_reducible show wpAny _ _ (call (Value.type "range") _ _) _ _ _)); (fail_if_success (with_reducible show wpAny _ _ (call (Value.type "zip") _ _) _ _ _))); walk1) | (((fail_if_success (with_reducible show wpAny _ _ (eval (Expr.ListComp _ _ _ _) _) _ _ _)); (fail_if_success (with_reducible show wpAny _ _ (exec (Stmt.While _ _ _ _) _) _ _ _)); (fail_if_success (with_reducible show wpAny _ _ (exec (Stmt.For _ _ _ _ _) _) _ _ _)); (fail_if_success (with_reducible show wpAny _ _ (exec (Stmt.Assign [Expr.Name _ _] (Expr.ListComp _ _ _ _) _) _) _ _ _)); (fail_if_success (with_reducible show wpAny _ _ (pyIter _) _ _ _)); (fail_if_success (with_reducible show wpAny _ _ (call (Value.type "range") _ _) _ _ _)); (fail_if_success (with_reducible show wpAny _ _ (call (Value.type "zip") _ _) _ _ _))); dsimp only; walk1))); (all_goals try dsimp only))
    all_goals first
      | exact absurd rfl (by assumption)
      | (rename Fr _ _ _ _ => F
         rename News _ _ _ _ => N
         exact hCC _ _ _ _ _ F (news_sub N (by kqd_sub)) ⟨rfl, rfl, _, _, _, _, withL_of _ _ ⟨rfl, rfl, rfl, rfl, rfl, rfl, trivial⟩⟩)
  rintro _ h' tk m' _ F₁ N₁ ⟨rfl, rfl, t2, t3, t5, m₀, rfl⟩
  clear F N
  ((repeat' (first | (k_unfold; (try dsimp only)) | (((((((fail_if_success (with_reducible show wpAny _ _ (eval (Expr.ListComp _ _ _ _) _) _ _ _)); (fail_if_success (with_reducible show wpAny _ _ (exec (Stmt.While _ _ _ _) _) _ _ _)); (fail_if_success (with_reducible show wpAny _ _ (exec (Stmt.For _ _ _ _ _) _) _ _ _)); (fail_if_success (with_reducible show wpAny _ _ (exec (Stmt.Assign [Expr.Name _ _] (Expr.ListComp _ _ _ _) _) _) _ _ _)); (fail_if_success (with_reducible show wpAny _ _ (pyIter _) _ _ _)); (fail_if_success (with_reducible show wpAny _ _ (call (Value.type "range") _ _) _ _ _)); (fail_if_success (with_reducible show wpAny _ _ (call (Value.type "zip") _ _) _ _ _)))); (fail_if_success (with_reducible show wpAny _ _ (exec (Stmt.If _ _ _ _) _) _ _ _)))); (fail_if_success (with_reducible show wpAny _ _ (exec (Stmt.Assign _ _ _) _) _ _ _))); walk1) | (((((((fail_if_success (with_reducible show wpAny _ _ (eval (Expr.ListComp _ _ _ _) _) _ _ _)); (fail_if_success (with_reducible show wpAny _ _ (exec (Stmt.While _ _ _ _) _) _ _ _)); (fail_if_success (with_reducible show wpAny _ _ (exec (Stmt.For _ _ _ _ _) _) _ _ _)); (fail_if_success (with_reducible show wpAny _ _ (exec (Stmt.Assign [Expr.Name _ _] (Expr.ListComp _ _ _ _) _) _) _ _ _)); (fail_if_success (with_reducible show wpAny _ _ (pyIter _) _ _ _)); (fail_if_success (with_reducible show wpAny _ _ (call (Value.type "range") _ _) _ _ _)); (fail_if_success (with_reducible show wpAny _ _ (call (Value.type "zip") _ _) _ _ _)))); (fail_if_success (with_reducible show wpAny _ _ (exec (Stmt.If _ _ _ _) _) _ _ _)))); (fail_if_success (with_reducible show wpAny _ _ (exec (Stmt.Assign _ _ _) _) _ _ _))); dsimp only; walk1))); (all_goals try dsimp only))
  rename Fr _ _ _ _ => F
  rename News _ _ _ _ => N
  have hT₃ : bl + tx₁.length + 1 + 1 + tx₂.length = ns.length := by omega
  rw [hT₃] at hT₂
  refine cut_at F (fun f m' news' => f = .next ∧ ∃ x dx lt vst nt u1 u2 u3 u4 u5 t2 m₀, news' = [(x, instObj 88 dx), (dx, toldD w (drv j₂) lt (ns.length : Int) u1 u2 u3 u4 u5), (lt, listOf (List.toArray vst) nt), (rl, listOf (List.toArray vsr) kr), (a₂, listOf (List.toArray vs₂) n₂), (a₁, listOf (List.toArray vs₁) n₁), (d, o₃)] ∧ IntsAre vst oct₂ ∧ m' = withL [(Str.ofString "behind", .ref x), (Str.ofString "row", .ref rl), (Str.ofString "later", .int (drv j₂) t2), (Str.ofString "others", .ref a₂), (Str.ofString "octets", .ref a₁)] m₀) (fun CC hCC => ?_) ?_
  · ((repeat' (first | (k_unfold; (try dsimp only)) | (((fail_if_success (with_reducible show wpAny _ _ (eval (Expr.ListComp _ _ _ _) _) _ _ _)); (fail_if_success (with_reducible show wpAny _ _ (exec (Stmt.While _ _ _ _) _) _ _ _)); (fail_if_success (with_reducible show wpAny _ _ (exec (Stmt.For _ _ _ _ _) _) _ _ _)); (fail_if_success (with_reducible show wpAny _ _ (exec (Stmt.Assign [Expr.Name _ _] (Expr.ListComp _ _ _ _) _) _) _ _ _)); (fail_if_success (with_reducible show wpAny _ _ (pyIter _) _ _ _)); (fail_if_success (with_reducible show wpAny _ _ (call (Value.type "range") _ _) _ _ _)); (fail_if_success (with_reducible show wpAny _ _ (call (Value.type "zip") _ _) _ _ _))); walk1) | (((fail_if_success (with_reducible show wpAny _ _ (eval (Expr.ListComp _ _ _ _) _) _ _ _)); (fail_if_success (with_reducible show wpAny _ _ (exec (Stmt.While _ _ _ _) _) _ _ _)); (fail_if_success (with_reducible show wpAny _ _ (exec (Stmt.For _ _ _ _ _) _) _ _ _)); (fail_if_success (with_reducible show wpAny _ _ (exec (Stmt.Assign [Expr.Name _ _] (Expr.ListComp _ _ _ _) _) _) _ _ _)); (fail_if_success (with_reducible show wpAny _ _ (pyIter _) _ _ _)); (fail_if_success (with_reducible show wpAny _ _ (call (Value.type "range") _ _) _ _ _)); (fail_if_success (with_reducible show wpAny _ _ (call (Value.type "zip") _ _) _ _ _))); dsimp only; walk1))); (all_goals try dsimp only))
    rename Fr _ _ _ _ => F
    rename News _ _ _ _ => N
    rw [List.length_replicate, show ((bl : Int) + (tx₁.length : Int) + 1) = ((bl + tx₁.length + 1 : Nat) : Int) from by omega]
    refine wp_top (name_told_P (X.keeps F.keep) (T.keeps F.keep) (News.isList N (.head _)) hir (by omega) (by omega) hnr fun x dx od lt vst nt h' tk st hx hdx hlt' hx' hdx' ho' hlt'' hi' => ?_) rfl rfl rfl
    obtain ⟨F', N'⟩ := grown_of F N st
    have N' := news_fresh F (news_fresh F (news_fresh F N' hlt' hlt'') hdx hdx') hx hx'
    clear F N
    rw [hT₂.1, hT₂.2.2] at ho'
    rw [hT₂.2.1] at hi'
    obtain ⟨u1, u2, u3, u4, u5, rfl⟩ := ho'
    ((repeat' (first | (k_unfold; (try dsimp only)) | (((fail_if_success (with_reducible show wpAny _ _ (eval (Expr.ListComp _ _ _ _) _) _ _ _)); (fail_if_success (with_reducible show wpAny _ _ (exec (Stmt.While _ _ _ _) _) _ _ _)); (fail_if_success (with_reducible show wpAny _ _ (exec (Stmt.For _ _ _ _ _) _) _ _ _)); (fail_if_success (with_reducible show wpAny _ _ (exec (Stmt.Assign [Expr.Name _ _] (Expr.ListComp _ _ _ _) _) _) _ _ _)); (fail_if_success (with_reducible show wpAny _ _ (pyIter _) _ _ _)); (fail_if_success (with_reducible show wpAny _ _ (call (Value.type "range") _ _) _ _ _)); (fail_if_success (with_reducible show wpAny _ _ (call (Value.type "zip") _ _) _ _ _))); walk1) | (((fail_if_success (with_reducible show wpAny _ _ (eval (Expr.ListComp _ _ _ _) _) _ _ _)); (fail_if_success (with_reducible show wpAny _ _ (exec (Stmt.While _ _ _ _) _) _ _ _)); (fail_if_success (with_reducible show wpAny _ _ (exec (Stmt.For _ _ _ _ _) _) _ _ _)); (fail_if_success (with_reducible show wpAny _ _ (exec (Stmt.Assign [Expr.Name _ _] (Expr.ListComp _ _ _ _) _) _) _ _ _)); (fail_if_success (with_reducible show wpAny _ _ (pyIter _) _ _ _)); (fail_if_success (with_reducible show wpAny _ _ (call (Value.type "range") _ _) _ _ _)); (fail_if_success (with_reducible show wpAny _ _ (call (Value.type "zip") _ _) _ _ _))); dsimp only; walk1))); (all_goals try dsimp only))
    rename Fr _ _ _ _ => F
    rename News _ _ _ _ => N
    exact hCC _ _ _ _ _ F (news_sub N (by kqd_sub)) ⟨rfl, _, _, _, _, _, _, _, _, _, _, _, _, rfl, hi', withL_of _ _ ⟨rfl, rfl, rfl, rfl, rfl, trivial⟩⟩
  rintro _ h' tk m' _ F₁ N₁ ⟨rfl, x, dx, lt, vst, nt, u1, u2, u3, u4, u5, t2, m₀, rfl, hit₂, rfl⟩
  clear F N
  ((repeat' (first | (k_unfold; (try dsimp only)) | (((((fail_if_success (with_reducible show wpAny _ _ (eval (Expr.ListComp _ _ _ _) _) _ _ _)); (fail_if_success (with_reducible show wpAny _ _ (exec (Stmt.While _ _ _ _) _) _ _ _)); (fail_if_success (with_reducible show wpAny _ _ (exec (Stmt.For _ _ _ _ _) _) _ _ _)); (fail_if_success (with_reducible show wpAny _ _ (exec (Stmt.Assign [Expr.Name _ _] (Expr.ListComp _ _ _ _) _) _) _ _ _)); (fail_if_success (with_reducible show wpAny _ _ (pyIter _) _ _ _)); (fail_if_success (with_reducible show wpAny _ _ (call (Value.type "range") _ _) _ _ _)); (fail_if_success (with_reducible show wpAny _ _ (call (Value.type "zip") _ _) _ _ _)))); (fail_if_success (with_reducible show wpAny _ _ (exec (Stmt.If _ _ _ _) _) _ _ _))); walk1) | (((((fail_if_success (with_reducible show wpAny _ _ (eval (Expr.ListComp _ _ _ _) _) _ _ _)); (fail_if_success (with_reducible show wpAny _ _ (exec (Stmt.While _ _ _ _) _) _ _ _)); (fail_if_success (with_reducible show wpAny _ _ (exec (Stmt.For _ _ _ _ _) _) _ _ _)); (fail_if_success (with_reducible show wpAny _ _ (exec (Stmt.Assign [Expr.Name _ _] (Expr.ListComp _ _ _ _) _) _) _ _ _)); (fail_if_success (with_reducible show wpAny _ _ (pyIter _) _ _ _)); (fail_if_success (with_reducible show wpAny _ _ (call (Value.type "range") _ _) _ _ _)); (fail_if_success (with_reducible show wpAny _ _ (call (Value.type "zip") _ _) _ _ _)))); (fail_if_success (with_reducible show wpAny _ _ (exec (Stmt.If _ _ _ _) _) _ _ _))); dsimp only; walk1))); (all_goals try dsimp only))
  rename Fr _ _ _ _ => F
  rename News _ _ _ _ => N
  refine cut_at F (fun f m' news' => f = .next ∧ news' = [(x, instObj 88 dx), (dx, toldD w (drv j₂) lt (ns.length : Int) u1 u2 u3 u4 u5), (lt, listOf (List.toArray vst) nt), (rl, listOf (List.toArray vsr) kr), (a₁, listOf (List.toArray vs₁) n₁), (d, o₃)] ∧ ∃ m₀, m' = withL [(Str.ofString "behind", .ref x), (Str.ofString "row", .ref rl), (Str.ofString "octets", .ref a₁)] m₀) (fun CC hCC => ?_) ?_
  · ((repeat' (first | (k_unfold; (try dsimp only)) | (((fail_if_success (with_reducible show wpAny _ _ (eval (Expr.ListComp _ _ _ _) _) _ _ _)); (fail_if_success (with_reducible show wpAny _ _ (exec (Stmt.While _ _ _ _) _) _ _ _)); (fail_if_success (with_reducible show wpAny _ _ (exec (Stmt.For _ _ _ _ _) _) _ _ _)); (fail_if_success (with_reducible show wpAny _ _ (exec (Stmt.Assign [Expr.Name _ _] (Expr.ListComp _ _ _ _) _) _) _ _ _)); (fail_if_success (with_reducible show wpAny _ _ (pyIter _) _ _ _)); (fail_if_success (with_reducible show wpAny _ _ (call (Value.type "range") _ _) _ _ _)); (fail_if_success (with_reducible show wpAny _ _ (call (Value.type "zip") _ _) _ _ _))); walk1) | (((fail_if_success (with_reducible show wpAny _ _ (eval (Expr.ListComp _ _ _ _) _) _ _ _)); (fail_if_success (with_reducible show wpAny _ _ (exec (Stmt.While _ _ _ _) _) _ _ _)); (fail_if_success (with_reducible show wpAny _ _ (exec (Stmt.For _ _ _ _ _) _) _ _ _)); (fail_if_success (with_reducible show wpAny _ _ (exec (Stmt.Assign [Expr.Name _ _] (Expr.ListComp _ _ _ _) _) _) _ _ _)); (fail_if_success (with_reducible show wpAny _ _ (pyIter _) _ _ _)); (fail_if_success (with_reducible show wpAny _ _ (call (Value.type "range") _ _) _ _ _)); (fail_if_success (with_reducible show wpAny _ _ (call (Value.type "zip") _ _) _ _ _))); dsimp only; walk1))); (all_goals try dsimp only))
    · exfalso
      rename NeB _ _ _ _ _ => h1
      exact h1.mp (by assumption) ⟨rfl, rfl⟩
    rename Fr _ _ _ _ => F
    rename News _ _ _ _ => N
    refine wpAny_call (code_top (blank_P (d := drv j₂) (e := (ns.length : Int)) (X.keeps F.keep) (T.keeps F.keep) (News.get N (by k_mem)) (News.get N (by k_mem)) ⟨u1, u2, u3, u4, u5, rfl⟩ (News.get N (by k_mem)) hit₂ (by omega) fun h' tk st => ?_) rfl rfl rfl)
    obtain ⟨F', N'⟩ := grown_of F N st
    clear F N
    dsimp only
    have hlv₂ := hi₂.length
    ((repeat' (first | (k_unfold; (try dsimp only)) | (((fail_if_success (with_reducible show wpAny _ _ (eval (Expr.ListComp _ _ _ _) _) _ _ _)); (fail_if_success (with_reducible show wpAny _ _ (exec (Stmt.While _ _ _ _) _) _ _ _)); (fail_if_success (with_reducible show wpAny _ _ (exec (Stmt.For _ _ _ _ _) _) _ _ _)); (fail_if_success (with_reducible show wpAny _ _ (exec (Stmt.Assign [Expr.Name _ _] (Expr.ListComp _ _ _ _) _) _) _ _ _)); (fail_if_success (with_reducible show wpAny _ _ (pyIter _) _ _ _)); (fail_if_success (with_reducible show wpAny _ _ (call (Value.type "range") _ _) _ _ _)); (fail_if_success (with_reducible show wpAny _ _ (call (Value.type "zip") _ _) _ _ _))); walk1) | (((fail_if_success (with_reducible show wpAny _ _ (eval (Expr.ListComp _ _ _ _) _) _ _ _)); (fail_if_success (with_reducible show wpAny _ _ (exec (Stmt.While _ _ _ _) _) _ _ _)); (fail_if_success (with_reducible show wpAny _ _ (exec (Stmt.For _ _ _ _ _) _) _ _ _)); (fail_if_success (with_reducible show wpAny _ _ (exec (Stmt.Assign [Expr.Name _ _] (Expr.ListComp _ _ _ _) _) _) _ _ _)); (fail_if_success (with_reducible show wpAny _ _ (pyIter _) _ _ _)); (fail_if_success (with_reducible show wpAny _ _ (call (Value.type "range") _ _) _ _ _)); (fail_if_success (with_reducible show wpAny _ _ (call (Value.type "zip") _ _) _ _ _))); dsimp only; walk1))); (all_goals try dsimp only))
    · exfalso
      rename ((oct₂.getD 0 0 == 32) != _) = true => h
      exact absurd (by simp : ((oct₂.getD 0 0 == 32) != (oct₂.getD (Int.toNat 0) 0 == 32)) = false) (by rw [h]; decide)
    · rename Fr _ _ _ _ => F
      rename News _ _ _ _ => N
      exact hCC _ _ _ _ _ F (news_sub N (by kqd_sub)) ⟨rfl, rfl, _, withL_of _ _ ⟨rfl, rfl, rfl, trivial⟩⟩
  rintro _ h' tk m' _ F₁ N₁ ⟨rfl, rfl, m₀, rfl⟩
  clear F N
  ((repeat' (first | (k_unfold; (try dsimp only)) | (((fail_if_success (with_reducible show wpAny _ _ (eval (Expr.ListComp _ _ _ _) _) _ _ _)); (fail_if_success (with_reducible show wpAny _ _ (exec (Stmt.While _ _ _ _) _) _ _ _)); (fail_if_success (with_reducible show wpAny _ _ (exec (Stmt.For _ _ _ _ _) _) _ _ _)); (fail_if_success (with_reducible show wpAny _ _ (exec (Stmt.Assign [Expr.Name _ _] (Expr.ListComp _ _ _ _) _) _) _ _ _)); (fail_if_success (with_reducible show wpAny _ _ (pyIter _) _ _ _)); (fail_if_success (with_reducible show wpAny _ _ (call (Value.type "range") _ _) _ _ _)); (fail_if_success (with_reducible show wpAny _ _ (call (Value.type "zip") _ _) _ _ _))); walk1) | (((fail_if_success (with_reducible show wpAny _ _ (eval (Expr.ListComp _ _ _ _) _) _ _ _)); (fail_if_success (with_reducible show wpAny _ _ (exec (Stmt.While _ _ _ _) _) _ _ _)); (fail_if_success (with_reducible show wpAny _ _ (exec (Stmt.For _ _ _ _ _) _) _ _ _)); (fail_if_success (with_reducible show wpAny _ _ (exec (Stmt.Assign [Expr.Name _ _] (Expr.ListComp _ _ _ _) _) _) _ _ _)); (fail_if_success (with_reducible show wpAny _ _ (pyIter _) _ _ _)); (fail_if_success (with_reducible show wpAny _ _ (call (Value.type "range") _ _) _ _ _)); (fail_if_success (with_reducible show wpAny _ _ (call (Value.type "zip") _ _) _ _ _))); dsimp only; walk1))); (all_goals try dsimp only))
  · rename Fr _ _ _ _ => F
    rename News _ _ _ _ => N
    have hor := name_range hR₁
    refine wp_top (plain_word_P (X.keeps F.keep) (T.keeps F.keep) (News.isList N (by k_mem)) hi₁ (by omega) (fun x hx => ⟨(hor x hx).1, by have := (hor x hx).2; omega⟩) fun h' t' tk st => ?_) rfl rfl rfl
    obtain ⟨F', N'⟩ := grown_of F N st
    clear F N
    ((repeat' (first | (k_unfold; (try dsimp only)) | (((fail_if_success (with_reducible show wpAny _ _ (eval (Expr.ListComp _ _ _ _) _) _ _ _)); (fail_if_success (with_reducible show wpAny _ _ (exec (Stmt.While _ _ _ _) _) _ _ _)); (fail_if_success (with_reducible show wpAny _ _ (exec (Stmt.For _ _ _ _ _) _) _ _ _)); (fail_if_success (with_reducible show wpAny _ _ (exec (Stmt.Assign [Expr.Name _ _] (Expr.ListComp _ _ _ _) _) _) _ _ _)); (fail_if_success (with_reducible show wpAny _ _ (pyIter _) _ _ _)); (fail_if_success (with_reducible show wpAny _ _ (call (Value.type "range") _ _) _ _ _)); (fail_if_success (with_reducible show wpAny _ _ (call (Value.type "zip") _ _) _ _ _))); walk1) | (((fail_if_success (with_reducible show wpAny _ _ (eval (Expr.ListComp _ _ _ _) _) _ _ _)); (fail_if_success (with_reducible show wpAny _ _ (exec (Stmt.While _ _ _ _) _) _ _ _)); (fail_if_success (with_reducible show wpAny _ _ (exec (Stmt.For _ _ _ _ _) _) _ _ _)); (fail_if_success (with_reducible show wpAny _ _ (exec (Stmt.Assign [Expr.Name _ _] (Expr.ListComp _ _ _ _) _) _) _ _ _)); (fail_if_success (with_reducible show wpAny _ _ (pyIter _) _ _ _)); (fail_if_success (with_reducible show wpAny _ _ (call (Value.type "range") _ _) _ _ _)); (fail_if_success (with_reducible show wpAny _ _ (call (Value.type "zip") _ _) _ _ _))); dsimp only; walk1))); (all_goals try dsimp only))
    rename Fr _ _ _ _ => F
    rename News _ _ _ _ => N
    rename IntsAre _ (List.take 8 oct₁) => hj
    refine call_bytes_ints (News.isList N (.head _)) hj (ints_sub (fun x hx => ⟨(hor x hx).1, by have := (hor x hx).2; omega⟩) _) (by rw [hj.length, sizeLine_eq, List.length_take]; omega) rfl fun h' t' k hk => ?_
    obtain ⟨F', N'⟩ := grown_of F N hk
    clear F N
    ((repeat' (first | (k_unfold; (try dsimp only)) | (((fail_if_success (with_reducible show wpAny _ _ (eval (Expr.ListComp _ _ _ _) _) _ _ _)); (fail_if_success (with_reducible show wpAny _ _ (exec (Stmt.While _ _ _ _) _) _ _ _)); (fail_if_success (with_reducible show wpAny _ _ (exec (Stmt.For _ _ _ _ _) _) _ _ _)); (fail_if_success (with_reducible show wpAny _ _ (exec (Stmt.Assign [Expr.Name _ _] (Expr.ListComp _ _ _ _) _) _) _ _ _)); (fail_if_success (with_reducible show wpAny _ _ (pyIter _) _ _ _)); (fail_if_success (with_reducible show wpAny _ _ (call (Value.type "range") _ _) _ _ _)); (fail_if_success (with_reducible show wpAny _ _ (call (Value.type "zip") _ _) _ _ _))); walk1) | (((fail_if_success (with_reducible show wpAny _ _ (eval (Expr.ListComp _ _ _ _) _) _ _ _)); (fail_if_success (with_reducible show wpAny _ _ (exec (Stmt.While _ _ _ _) _) _ _ _)); (fail_if_success (with_reducible show wpAny _ _ (exec (Stmt.For _ _ _ _ _) _) _ _ _)); (fail_if_success (with_reducible show wpAny _ _ (exec (Stmt.Assign [Expr.Name _ _] (Expr.ListComp _ _ _ _) _) _) _ _ _)); (fail_if_success (with_reducible show wpAny _ _ (pyIter _) _ _ _)); (fail_if_success (with_reducible show wpAny _ _ (call (Value.type "range") _ _) _ _ _)); (fail_if_success (with_reducible show wpAny _ _ (call (Value.type "zip") _ _) _ _ _))); dsimp only; walk1))); (all_goals try dsimp only))
    rename Fr _ _ _ _ => F
    rename News _ _ _ _ => N
    rw [beq_self_eq_true]
    exact ret _ _ _ F.keep (News.get N (by k_mem)) D₃
  · exact absurd rfl (by assumption)
end
end
theorem off_D7 : True := by
  w_top off
  trivial
section
/-- a part without stars, its question marks turned -/
def cleanL (l : List Nat) : List Nat := (l.filter (· != 42)).map (fun x => if x = 63 then 81 else x)
theorem clean_ok {l : List Nat} {n : Nat} (h : partOK l n) : (∀ c ∈ cleanL l, c ∈ ([65, 66, 90, 48, 57, 36, 97, 122, 81] : List Nat)) ∧ (cleanL l).length ≤ n + 2 := by
  refine ⟨fun c hc => ?_, ?_⟩
  · unfold cleanL at hc
    obtain ⟨x, hx, rfl⟩ := List.mem_map.mp hc
    obtain ⟨hx1, hx2⟩ := List.mem_filter.mp hx
    rcases part_set h x hx1 with rfl | rfl | rfl | rfl | rfl | rfl | rfl | rfl <;> first | decide | exact absurd hx2 (by decide)
  · unfold cleanL
    rw [List.length_map]
    exact Nat.le_trans (List.length_filter_le _ _) h.2
theorem fillF_len (ks : List Int) (n : Nat) : (fillF ks n).length = n := by
  unfold fillF
  split <;> rw [List.length_take, List.length_append, List.length_replicate] <;> omega
theorem nine_lt {l : List Nat} (h : ∀ c ∈ l, c ∈ ([65, 66, 90, 48, 57, 36, 97, 122, 81] : List Nat)) : ∀ c ∈ l, c < 128 := fun c hc => by
  have := h c hc
  simp only [List.mem_cons, List.not_mem_nil, or_false] at this
  omega
theorem due_in {P : Nat → Prop} {k : Nat} {zs : List Value} (h : zs = [] ↔ ∀ i, i < k → P i) (hk : P k) : zs = [] ↔ ∀ i, i < k + 1 → P i :=
  ⟨fun e i hi => by
    rcases Nat.lt_or_eq_of_le (Nat.le_of_lt_succ hi) with q | rfl
    · exact h.mp e i q
    · exact hk, fun a => h.mpr fun i hi => a i (Nat.lt_succ_of_lt hi)⟩
theorem due_out {P : Nat → Prop} {k : Nat} {zs : List Value} {v : Value} (hk : ¬ P k) : zs ++ [v] = [] ↔ ∀ i, i < k + 1 → P i :=
  ⟨fun e => by simp at e, fun a => absurd (a k (Nat.lt_succ_self _)) hk⟩
theorem ones_snoc {zs : List Value} {t : Tok} (h : ∀ (i : Nat) (y : Value), zs[i]? = some y → ∃ t, y = Value.int 1 t) : ∀ (i : Nat) (y : Value), (zs ++ [Value.int 1 t])[i]? = some y → ∃ t, y = Value.int 1 t := by
  intro i y e
  have hm := List.mem_of_getElem? e
  rcases List.mem_append.mp hm with q | q
  · obtain ⟨j, hj⟩ := List.getElem?_of_mem q
    exact h j y hj
  · exact ⟨t, List.mem_singleton.mp q⟩
theorem showName_size (ns : List Int) (h : ns.length = 11) : (showName ns).size ≤ 100 := by
  have z1 : (rstripA (byteArr ((ns.map (· % 128)).take 8)) #[32]).size ≤ 8 := Nat.le_trans (rstripA_size _ _) (by rw [byteArr_size, List.length_take]; omega)
  have z2 : (rstripA (byteArr ((ns.map (· % 128)).drop 8)) #[32]).size ≤ 3 := Nat.le_trans (rstripA_size _ _) (by rw [byteArr_size, List.length_drop, List.length_map]; omega)
  unfold showName
  dsimp only
  split
  · rw [Array.size_append, Array.size_append]
    show _ + 1 + _ ≤ 100
    omega
  · omega
theorem ones_nil (n : Nat) (ys : List Value) (h : ys.length = n) : List.replicate n (1 : Int) = [] ↔ ys = [] := by
  rw [List.replicate_eq_nil_iff, ← h, List.length_eq_zero_iff]
theorem lit_odd : Str.ofString "<>.,;:=?*[]" = mkS [60, 62, 46, 44, 59, 58, 61, 63, 42, 91, 93] := by decide +kernel
theorem odd_item {r b : Int} (h0 : 0 ≤ r) (h1 : r < 11) (hb : 0 ≤ b) (hb1 : b < 2) : plainSign (([60, 62, 46, 44, 59, 58, 61, 63, 42, 91, 93] : List Int).getD r.toNat 0 + 128 * b) = false := by
  obtain ⟨n, rfl⟩ := Int.eq_ofNat_of_zero_le h0
  obtain ⟨c, rfl⟩ := Int.eq_ofNat_of_zero_le hb
  have key : ∀ (n : Fin 11) (c : Fin 2), plainSign (([60, 62, 46, 44, 59, 58, 61, 63, 42, 91, 93] : List Int).getD n.val 0 + 128 * (c.val : Int)) = false := by decide +kernel
  exact key ⟨n, by omega⟩ ⟨c, by omega⟩
theorem ne_cell {h₀ h : Heap} {L : Addr} {news : List (Addr × Obj)} {c a : Addr} {o : Obj} {vs : Array Value} {n : Nat} {v : Option Value} (hd : o.data = .cell v) (N : News h₀ L h news) (hc : (c, o) ∈ news) (ha : (a, listOf vs n) ∈ news) : @Ne Nat c a := fun e => by
  have h1 := (N _ hc).1
  have h2 := (N _ ha).1
  have e' : c = a := e
  dsimp only at h1 h2
  rw [e', h2] at h1
  have h3 := congrArg Obj.data (Option.some.inj h1)
  rw [hd] at h3
  exact nomatch h3
theorem ints_zip {ys : List Value} {ns ms : List Int} (f : Int → Int → Int) (hl : ys.length = min ns.length ms.length) (h : ∀ (i : Nat) (y : Value), ys[i]? = some y → ∃ t, y = Value.int (f (ns.getD i 0) (ms.getD i 0)) t) : IntsAre ys (List.zipWith f ns ms) := by
  induction ns generalizing ys ms with
  | nil => cases ys with
    | nil => exact .nil
    | cons y r => simp at hl
  | cons n ns ih =>
    cases ms with
    | nil => cases ys with
      | nil => exact .nil
      | cons y r => simp at hl
    | cons m ms =>
      cases ys with
      | nil => simp at hl
      | cons y r =>
        obtain ⟨t, e⟩ := h 0 y rfl
        subst e
        exact .cons _ _ (ih (by simp only [List.length_cons] at hl; omega) fun i y e => by simpa using h (i + 1) y (by simpa using e))
theorem ints_ones {ys : List Value} (h : ∀ (i : Nat) (y : Value), ys[i]? = some y → ∃ t, y = Value.int 1 t) : IntsAre ys (List.replicate ys.length 1) := by
  induction ys with
  | nil => exact .nil
  | cons y r ih =>
    obtain ⟨t, e⟩ := h 0 y rfl
    subst e
    exact .cons _ _ (ih fun i y e => h (i + 1) y (by simpa using e))
section
variable {prog : Program} {w : World} {A : Around} {E : Value → Shared → Prop} {s₁ : Shared} {n : Nat} {h₀ : Heap} {L : Addr} {m : Str → Option Value} {news : List (Addr × Obj)}
/-- behind a comprehension with a test -/
theorem fin_EJ {J : Nat → List Value → Prop} {Q : Value → Shared → Prop} (F : Fr h₀ L s₁.heap m) (N : News h₀ L s₁.heap news)
    (ret : ∀ D h' tk (ys : List Value) kk, J n ys → ys.length ≤ n → Fr h₀ L h' m → News h₀ L h' ((D, listOf ys.toArray kk) :: news) → AllLt D news → s₁.heap.objs.size ≤ D → Q (.ref D) { s₁ with heap := h', toks := tk })
    (h₂ : Heap) (tk₂ : Nat) (wr : List Addr) (st : s₁.heap.StaysIn h₂) (hs : s₁.heap.objs.size ≤ h₂.objs.size) (hwr : ∀ b ∈ wr, s₁.heap.objs.size ≤ b) :
    ∀ D h' tk (ys : List Value), ({ s₁ with heap := h₂, toks := tk₂ } : Shared).heap.objs.size ≤ D → h'.PlainList D ys.toArray → J n ys → ys.length ≤ n →
      (∀ b o, b ∉ wr → b ∉ ([] : List Addr) → ({ s₁ with heap := h₂, toks := tk₂ } : Shared).heap.get? b = some o → h'.get? b = some o) → Q (.ref D) { ({ s₁ with heap := h₂, toks := tk₂ } : Shared) with heap := h', toks := tk } := by
  intro D h' tk ys hD hpl hJ hys hk
  obtain ⟨kk, hpl⟩ := hpl
  have stay : s₁.heap.StaysIn h' := fun b o e => hk b o (fun q => Nat.lt_irrefl _ (Nat.lt_of_lt_of_le (Heap.lt_size e) (hwr b q))) (fun q => nomatch q) (st b o e)
  obtain ⟨F', N'⟩ := grown_of F N stay
  have hD' : s₁.heap.objs.size ≤ D := Nat.le_trans hs hD
  exact ret D h' tk ys kk hJ hys F' (news_new F N' hD' hpl) (lt_new N hD') hD'
end
section
variable {prog : Program} {w : World} {mean : ExcName → Option Value} {mg mb : Str → Option Value} {s : Shared} {Q E : Value → Shared → Prop} {b₀ g : Heap} {d : Addr} {o : Obj} (k : g.StaysIn s.heap) (hsz : g.objs.size ≤ s.heap.objs.size)
    (X : (hd.heap_1 w.params).In g) (T : Top qv (looseW qv []) mean mg mb g) (ho : s.heap.get? d = some o) (hg : g.get? d = none) (hb : b₀.StaysIn g) (D : DealO b₀ o)
include k hsz X T ho hg hb D
theorem files_LP (htk : 1 ≤ s.toks)
    (ret : ∀ h' tk o', g.StaysIn h' → h'.get? d = some o' → DealO b₀ o' → Q (.bool true) { s with heap := h', toks := tk }) :
    wpAny (model prog w) (At 500 5000) (call (.ref 178) [.ref d]) Q E s := by
  have S : ∀ q ∈ [(d, o)], s.heap.get? q.1 = some q.2 ∧ g.get? q.1 = none := by
    intro q hq; cases hq with | head => exact ⟨ho, hg⟩ | tail _ h => cases h
  (refine' enterCCT (g := _) (sub := _) ?k_221 ?sz_221 ?X_221 ?T_221 ?S_221 ?ho_221 ?hcd_221 ?hroom_221 ?hb_221 ?hkind_221 ?hnd_221 ?c1_221 ?c2_221 ?c3_221 ?_; (case k_221 => first | assumption | exact stays_refl _); (case X_221 => with_reducible assumption); (case sz_221 => first | assumption | exact Nat.le_refl _); (case T_221 => with_reducible assumption); (case S_221 => first | assumption | exact List.forall_mem_nil _); (case ho_221 => k_is); (case hcd_221 => k_is); (case hroom_221 => exact Nat.le_of_ble_eq_true rfl); (case hb_221 => exact BindsTo.of_eq rfl); (case hkind_221 => exact rfl); (case hnd_221 => decide +kernel); (case c1_221 => exact rfl); (case c2_221 => exact rfl); (case c3_221 => exact rfl); intro xL xh xtk xcells xhgr xF xN xY xl; k_cells xY; (try simp only [List.cons_append, List.nil_append] at xN); (try simp only [AllLt, and_true] at xl); (try dsimp only); (try k_unmd); k_fold)
  have htk₁ := Nat.le_trans htk (by assumption)
  rename _ = Data.cell _ => hcell
  have hcell : _ = Data.cell (some (.ref d)) := hcell
  rename d < _ => hdl₀
  have hdl := ltN hdl₀
  ((repeat' (first | (k_unfold; (try dsimp only)) | (((((((fail_if_success (with_reducible show wpAny _ _ (eval (Expr.ListComp _ _ _ _) _) _ _ _)); (fail_if_success (with_reducible show wpAny _ _ (exec (Stmt.While _ _ _ _) _) _ _ _)); (fail_if_success (with_reducible show wpAny _ _ (exec (Stmt.For _ _ _ _ _) _) _ _ _)); (fail_if_success (with_reducible show wpAny _ _ (exec (Stmt.Assign [Expr.Name _ _] (Expr.ListComp _ _ _ _) _) _) _ _ _)); (fail_if_success (with_reducible show wpAny _ _ (pyIter _) _ _ _)); (fail_if_success (with_reducible show wpAny _ _ (call (Value.type "range") _ _) _ _ _)); (fail_if_success (with_reducible show wpAny _ _ (call (Value.type "zip") _ _) _ _ _)))); (fail_if_success (with_reducible show wpAny _ _ (exec (Stmt.If _ _ _ _) _) _ _ _)))); (fail_if_success (with_reducible show wpAny _ _ (exec (Stmt.Assign _ _ _) _) _ _ _))); walk1) | (((((((fail_if_success (with_reducible show wpAny _ _ (eval (Expr.ListComp _ _ _ _) _) _ _ _)); (fail_if_success (with_reducible show wpAny _ _ (exec (Stmt.While _ _ _ _) _) _ _ _)); (fail_if_success (with_reducible show wpAny _ _ (exec (Stmt.For _ _ _ _ _) _) _ _ _)); (fail_if_success (with_reducible show wpAny _ _ (exec (Stmt.Assign [Expr.Name _ _] (Expr.ListComp _ _ _ _) _) _) _ _ _)); (fail_if_success (with_reducible show wpAny _ _ (pyIter _) _ _ _)); (fail_if_success (with_reducible show wpAny _ _ (call (Value.type "range") _ _) _ _ _)); (fail_if_success (with_reducible show wpAny _ _ (call (Value.type "zip") _ _) _ _ _)))); (fail_if_success (with_reducible show wpAny _ _ (exec (Stmt.If _ _ _ _) _) _ _ _)))); (fail_if_success (with_reducible show wpAny _ _ (exec (Stmt.Assign _ _ _) _) _ _ _))); dsimp only; walk1))); (all_goals try dsimp only))
  rename Fr _ _ _ _ => F
  rename News _ _ _ _ => N
  refine wp_grow (n := 1) (by first | omega | (dsimp only; omega)) ?_
  refine cut_cell F N (fun f m' n₂ => f = .next ∧ ∃ o₁ ra vs n A m₀, n₂ = [(ra, listOf (List.toArray vs) n), (d, o₁)] ∧ ra ≠ d ∧ DealO b₀ o₁ ∧ IntsAre vs (fillF (A.map (fun c : Nat => (c : Int))) 8) ∧ (∀ c ∈ A, c ∈ ([65, 66, 90, 48, 57, 36, 97, 122, 81] : List Nat)) ∧ A ≠ [] ∧ m' = withL [(Str.ofString "raw", .ref ra)] m₀) (fun CC hCC => ?_) ?_
  · ((repeat' (first | (k_unfold; (try dsimp only)) | (((fail_if_success (with_reducible show wpAny _ _ (eval (Expr.ListComp _ _ _ _) _) _ _ _)); (fail_if_success (with_reducible show wpAny _ _ (exec (Stmt.While _ _ _ _) _) _ _ _)); (fail_if_success (with_reducible show wpAny _ _ (exec (Stmt.For _ _ _ _ _) _) _ _ _)); (fail_if_success (with_reducible show wpAny _ _ (exec (Stmt.Assign [Expr.Name _ _] (Expr.ListComp _ _ _ _) _) _) _ _ _)); (fail_if_success (with_reducible show wpAny _ _ (pyIter _) _ _ _)); (fail_if_success (with_reducible show wpAny _ _ (call (Value.type "range") _ _) _ _ _)); (fail_if_success (with_reducible show wpAny _ _ (call (Value.type "zip") _ _) _ _ _))); walk1) | (((fail_if_success (with_reducible show wpAny _ _ (eval (Expr.ListComp _ _ _ _) _) _ _ _)); (fail_if_success (with_reducible show wpAny _ _ (exec (Stmt.While _ _ _ _) _) _ _ _)); (fail_if_success (with_reducible show wpAny _ _ (exec (Stmt.For _ _ _ _ _) _) _ _ _)); (fail_if_success (with_reducible show wpAny _ _ (exec (Stmt.Assign [Expr.Name _ _] (Expr.ListComp _ _ _ _) _) _) _ _ _)); (fail_if_success (with_reducible show wpAny _ _ (pyIter _) _ _ _)); (fail_if_success (with_reducible show wpAny _ _ (call (Value.type "range") _ _) _ _ _)); (fail_if_success (with_reducible show wpAny _ _ (call (Value.type "zip") _ _) _ _ _))); dsimp only; walk1))); (all_goals try dsimp only))
    rename Fr _ _ _ _ => F
    rename News _ _ _ _ => N
    refine wp_grow (n := 1) (by first | omega | (dsimp only; omega)) ?_
    refine take_F F N X T (by k_updF) hb D rfl rfl rfl (by decide) (by decide) fun r t' h' tk o₁ r0 r1 F' N' D₁ htk₂ => ?_
    clear F N
    dsimp only at htk₂
    obtain ⟨j, rfl⟩ := Int.eq_ofNat_of_zero_le r0
    ((repeat' (first | (k_unfold; (try dsimp only)) | (((fail_if_success (with_reducible show wpAny _ _ (eval (Expr.ListComp _ _ _ _) _) _ _ _)); (fail_if_success (with_reducible show wpAny _ _ (exec (Stmt.While _ _ _ _) _) _ _ _)); (fail_if_success (with_reducible show wpAny _ _ (exec (Stmt.For _ _ _ _ _) _) _ _ _)); (fail_if_success (with_reducible show wpAny _ _ (exec (Stmt.Assign [Expr.Name _ _] (Expr.ListComp _ _ _ _) _) _) _ _ _)); (fail_if_success (with_reducible show wpAny _ _ (pyIter _) _ _ _)); (fail_if_success (with_reducible show wpAny _ _ (call (Value.type "range") _ _) _ _ _)); (fail_if_success (with_reducible show wpAny _ _ (call (Value.type "zip") _ _) _ _ _))); walk1) | (((fail_if_success (with_reducible show wpAny _ _ (eval (Expr.ListComp _ _ _ _) _) _ _ _)); (fail_if_success (with_reducible show wpAny _ _ (exec (Stmt.While _ _ _ _) _) _ _ _)); (fail_if_success (with_reducible show wpAny _ _ (exec (Stmt.For _ _ _ _ _) _) _ _ _)); (fail_if_success (with_reducible show wpAny _ _ (exec (Stmt.Assign [Expr.Name _ _] (Expr.ListComp _ _ _ _) _) _) _ _ _)); (fail_if_success (with_reducible show wpAny _ _ (pyIter _) _ _ _)); (fail_if_success (with_reducible show wpAny _ _ (call (Value.type "range") _ _) _ _ _)); (fail_if_success (with_reducible show wpAny _ _ (call (Value.type "zip") _ _) _ _ _))); dsimp only; walk1))); (all_goals try dsimp only))
    rename Fr _ _ _ _ => F
    rename News _ _ _ _ => N
    refine wp_grow (n := 1) (by first | omega | (dsimp only; omega)) ?_
    refine part_F (size := 7) F N X T (by k_updF) hb D₁ rfl rfl rfl (by decide) fun l t' h' tk o₂ hl F' N' D₂ htk₂ => ?_
    clear F N
    have hll := hl.2
    dsimp only at htk₂
    have hcl := clean_ok hl
    have hAA : ∀ c ∈ ([65, 66, 90, 48, 57, 36].getD j 0 :: cleanL l), c ∈ ([65, 66, 90, 48, 57, 36, 97, 122, 81] : List Nat) := by
      intro c hc
      rcases List.mem_cons.mp hc with rfl | hc
      · have key : ∀ j : Fin 6, [65, 66, 90, 48, 57, 36].getD j.val 0 ∈ ([65, 66, 90, 48, 57, 36, 97, 122, 81] : List Nat) := by decide
        exact key ⟨j, by omega⟩
      · exact hcl.1 c hc
    ((repeat' (first | (k_unfold; (try dsimp only)) | (((fail_if_success (with_reducible show wpAny _ _ (eval (Expr.ListComp _ _ _ _) _) _ _ _)); (fail_if_success (with_reducible show wpAny _ _ (exec (Stmt.While _ _ _ _) _) _ _ _)); (fail_if_success (with_reducible show wpAny _ _ (exec (Stmt.For _ _ _ _ _) _) _ _ _)); (fail_if_success (with_reducible show wpAny _ _ (exec (Stmt.Assign [Expr.Name _ _] (Expr.ListComp _ _ _ _) _) _) _ _ _)); (fail_if_success (with_reducible show wpAny _ _ (pyIter _) _ _ _)); (fail_if_success (with_reducible show wpAny _ _ (call (Value.type "range") _ _) _ _ _)); (fail_if_success (with_reducible show wpAny _ _ (call (Value.type "zip") _ _) _ _ _))); walk1) | (((fail_if_success (with_reducible show wpAny _ _ (eval (Expr.ListComp _ _ _ _) _) _ _ _)); (fail_if_success (with_reducible show wpAny _ _ (exec (Stmt.While _ _ _ _) _) _ _ _)); (fail_if_success (with_reducible show wpAny _ _ (exec (Stmt.For _ _ _ _ _) _) _ _ _)); (fail_if_success (with_reducible show wpAny _ _ (exec (Stmt.Assign [Expr.Name _ _] (Expr.ListComp _ _ _ _) _) _) _ _ _)); (fail_if_success (with_reducible show wpAny _ _ (pyIter _) _ _ _)); (fail_if_success (with_reducible show wpAny _ _ (call (Value.type "range") _ _) _ _ _)); (fail_if_success (with_reducible show wpAny _ _ (call (Value.type "zip") _ _) _ _ _))); dsimp only; walk1))); (all_goals try dsimp only))
    rename Fr _ _ _ _ => F
    rename News _ _ _ _ => N
    refine wp_top (filledL_P (l := [65, 66, 90, 48, 57, 36].getD j 0 :: cleanL l) (sz := 8) (X.keeps F.keep) (T.keeps F.keep) rfl (nine_lt hAA) (by rw [List.length_cons]; omega) (by decide) fun l₁ vs₁ n₁ h₁ tk₁ st₁ hD₁ hl₁ hi₁ => ?_) rfl rfl rfl
    obtain ⟨F', N'⟩ := grown_of F N st₁
    have hne := ne_fresh hD₁ N
    have N' := news_fresh F N' hD₁ hl₁
    clear F N
    ((repeat' (first | (k_unfold; (try dsimp only)) | (((fail_if_success (with_reducible show wpAny _ _ (eval (Expr.ListComp _ _ _ _) _) _ _ _)); (fail_if_success (with_reducible show wpAny _ _ (exec (Stmt.While _ _ _ _) _) _ _ _)); (fail_if_success (with_reducible show wpAny _ _ (exec (Stmt.For _ _ _ _ _) _) _ _ _)); (fail_if_success (with_reducible show wpAny _ _ (exec (Stmt.Assign [Expr.Name _ _] (Expr.ListComp _ _ _ _) _) _) _ _ _)); (fail_if_success (with_reducible show wpAny _ _ (pyIter _) _ _ _)); (fail_if_success (with_reducible show wpAny _ _ (call (Value.type "range") _ _) _ _ _)); (fail_if_success (with_reducible show wpAny _ _ (call (Value.type "zip") _ _) _ _ _))); walk1) | (((fail_if_success (with_reducible show wpAny _ _ (eval (Expr.ListComp _ _ _ _) _) _ _ _)); (fail_if_success (with_reducible show wpAny _ _ (exec (Stmt.While _ _ _ _) _) _ _ _)); (fail_if_success (with_reducible show wpAny _ _ (exec (Stmt.For _ _ _ _ _) _) _ _ _)); (fail_if_success (with_reducible show wpAny _ _ (exec (Stmt.Assign [Expr.Name _ _] (Expr.ListComp _ _ _ _) _) _) _ _ _)); (fail_if_success (with_reducible show wpAny _ _ (pyIter _) _ _ _)); (fail_if_success (with_reducible show wpAny _ _ (call (Value.type "range") _ _) _ _ _)); (fail_if_success (with_reducible show wpAny _ _ (call (Value.type "zip") _ _) _ _ _))); dsimp only; walk1))); (all_goals try dsimp only))
    rename Fr _ _ _ _ => F
    rename News _ _ _ _ => N
    have hne' := hne.2.1
    exact hCC _ _ _ _ _ F (news_sub N (by kqd_sub)) ⟨rfl, _, _, _, _, _, _, rfl, (fun e => hne' e.symm), D₂, hi₁, hAA, by simp, withL_of _ _ ⟨rfl, trivial⟩⟩
  rintro _ h' tk m' _ F₁ N₁ ⟨rfl, o₁, ra, vs, n, A, m₀, rfl, hrd, D₁, hi, hA, hne, rfl⟩ htk₂
  dsimp only at htk₂
  clear F N
  have hrd' := neN hrd
  have hlv := hi.length
  rw [fillF_len] at hlv
  ((repeat' (first | (k_unfold; (try dsimp only)) | (((((((fail_if_success (with_reducible show wpAny _ _ (eval (Expr.ListComp _ _ _ _) _) _ _ _)); (fail_if_success (with_reducible show wpAny _ _ (exec (Stmt.While _ _ _ _) _) _ _ _)); (fail_if_success (with_reducible show wpAny _ _ (exec (Stmt.For _ _ _ _ _) _) _ _ _)); (fail_if_success (with_reducible show wpAny _ _ (exec (Stmt.Assign [Expr.Name _ _] (Expr.ListComp _ _ _ _) _) _) _ _ _)); (fail_if_success (with_reducible show wpAny _ _ (pyIter _) _ _ _)); (fail_if_success (with_reducible show wpAny _ _ (call (Value.type "range") _ _) _ _ _)); (fail_if_success (with_reducible show wpAny _ _ (call (Value.type "zip") _ _) _ _ _)))); (fail_if_success (with_reducible show wpAny _ _ (exec (Stmt.If _ _ _ _) _) _ _ _)))); (fail_if_success (with_reducible show wpAny _ _ (exec (Stmt.Assign _ _ _) _) _ _ _))); walk1) | (((((((fail_if_success (with_reducible show wpAny _ _ (eval (Expr.ListComp _ _ _ _) _) _ _ _)); (fail_if_success (with_reducible show wpAny _ _ (exec (Stmt.While _ _ _ _) _) _ _ _)); (fail_if_success (with_reducible show wpAny _ _ (exec (Stmt.For _ _ _ _ _) _) _ _ _)); (fail_if_success (with_reducible show wpAny _ _ (exec (Stmt.Assign [Expr.Name _ _] (Expr.ListComp _ _ _ _) _) _) _ _ _)); (fail_if_success (with_reducible show wpAny _ _ (pyIter _) _ _ _)); (fail_if_success (with_reducible show wpAny _ _ (call (Value.type "range") _ _) _ _ _)); (fail_if_success (with_reducible show wpAny _ _ (call (Value.type "zip") _ _) _ _ _)))); (fail_if_success (with_reducible show wpAny _ _ (exec (Stmt.If _ _ _ _) _) _ _ _)))); (fail_if_success (with_reducible show wpAny _ _ (exec (Stmt.Assign _ _ _) _) _ _ _))); dsimp only; walk1))); (all_goals try dsimp only))
  rename Fr _ _ _ _ => F
  rename News _ _ _ _ => N
  refine cut_cell F N (fun f m' n₂ => f = .next ∧ ∃ (o₁ : Obj) (ra : Addr) (vs : List Value) (n : Nat) (B : List Nat) (m₀ : Str → Option Value), n₂ = [(ra, listOf (List.toArray vs) n), (d, o₁)] ∧ ra ≠ d ∧ DealO b₀ o₁ ∧ IntsAre vs (fillF (A.map (fun c : Nat => (c : Int))) 8 ++ fillF (B.map (fun c : Nat => (c : Int))) 3) ∧ (∀ c ∈ B, c ∈ ([65, 66, 90, 48, 57, 36, 97, 122, 81] : List Nat)) ∧ m' = withL [(Str.ofString "raw", .ref ra)] m₀) (fun CC hCC => ?_) ?_
  · ((repeat' (first | (k_unfold; (try dsimp only)) | (((fail_if_success (with_reducible show wpAny _ _ (eval (Expr.ListComp _ _ _ _) _) _ _ _)); (fail_if_success (with_reducible show wpAny _ _ (exec (Stmt.While _ _ _ _) _) _ _ _)); (fail_if_success (with_reducible show wpAny _ _ (exec (Stmt.For _ _ _ _ _) _) _ _ _)); (fail_if_success (with_reducible show wpAny _ _ (exec (Stmt.Assign [Expr.Name _ _] (Expr.ListComp _ _ _ _) _) _) _ _ _)); (fail_if_success (with_reducible show wpAny _ _ (pyIter _) _ _ _)); (fail_if_success (with_reducible show wpAny _ _ (call (Value.type "range") _ _) _ _ _)); (fail_if_success (with_reducible show wpAny _ _ (call (Value.type "zip") _ _) _ _ _))); walk1) | (((fail_if_success (with_reducible show wpAny _ _ (eval (Expr.ListComp _ _ _ _) _) _ _ _)); (fail_if_success (with_reducible show wpAny _ _ (exec (Stmt.While _ _ _ _) _) _ _ _)); (fail_if_success (with_reducible show wpAny _ _ (exec (Stmt.For _ _ _ _ _) _) _ _ _)); (fail_if_success (with_reducible show wpAny _ _ (exec (Stmt.Assign [Expr.Name _ _] (Expr.ListComp _ _ _ _) _) _) _ _ _)); (fail_if_success (with_reducible show wpAny _ _ (pyIter _) _ _ _)); (fail_if_success (with_reducible show wpAny _ _ (call (Value.type "range") _ _) _ _ _)); (fail_if_success (with_reducible show wpAny _ _ (call (Value.type "zip") _ _) _ _ _))); dsimp only; walk1))); (all_goals try dsimp only))
    rename Fr _ _ _ _ => F
    rename News _ _ _ _ => N
    refine wp_grow (n := 1) (by first | omega | (dsimp only; omega)) ?_
    refine part_F (size := 3) F N X T (by k_updF) hb D₁ rfl rfl rfl (by decide) fun l t' h' tk o₂ hl F' N' D₂ htk₂ => ?_
    clear F N
    have hll := hl.2
    have hcl := clean_ok hl
    dsimp only at htk₂
    ((repeat' (first | (k_unfold; (try dsimp only)) | (((fail_if_success (with_reducible show wpAny _ _ (eval (Expr.ListComp _ _ _ _) _) _ _ _)); (fail_if_success (with_reducible show wpAny _ _ (exec (Stmt.While _ _ _ _) _) _ _ _)); (fail_if_success (with_reducible show wpAny _ _ (exec (Stmt.For _ _ _ _ _) _) _ _ _)); (fail_if_success (with_reducible show wpAny _ _ (exec (Stmt.Assign [Expr.Name _ _] (Expr.ListComp _ _ _ _) _) _) _ _ _)); (fail_if_success (with_reducible show wpAny _ _ (pyIter _) _ _ _)); (fail_if_success (with_reducible show wpAny _ _ (call (Value.type "range") _ _) _ _ _)); (fail_if_success (with_reducible show wpAny _ _ (call (Value.type "zip") _ _) _ _ _))); walk1) | (((fail_if_success (with_reducible show wpAny _ _ (eval (Expr.ListComp _ _ _ _) _) _ _ _)); (fail_if_success (with_reducible show wpAny _ _ (exec (Stmt.While _ _ _ _) _) _ _ _)); (fail_if_success (with_reducible show wpAny _ _ (exec (Stmt.For _ _ _ _ _) _) _ _ _)); (fail_if_success (with_reducible show wpAny _ _ (exec (Stmt.Assign [Expr.Name _ _] (Expr.ListComp _ _ _ _) _) _) _ _ _)); (fail_if_success (with_reducible show wpAny _ _ (pyIter _) _ _ _)); (fail_if_success (with_reducible show wpAny _ _ (call (Value.type "range") _ _) _ _ _)); (fail_if_success (with_reducible show wpAny _ _ (call (Value.type "zip") _ _) _ _ _))); dsimp only; walk1))); (all_goals try dsimp only))
    rename Fr _ _ _ _ => F
    rename News _ _ _ _ => N
    refine wp_top (filledL_P (l := cleanL l) (sz := 3) (X.keeps F.keep) (T.keeps F.keep) rfl (nine_lt hcl.1) (by omega) (by decide) fun l₁ vs₁ n₁ h₁ tk₁ st₁ hD₁ hl₁ hi₁ => ?_) rfl rfl rfl
    obtain ⟨F', N'⟩ := grown_of F N st₁
    have N' := news_fresh F N' hD₁ hl₁
    clear F N
    have hlv₁ := hi₁.length
    rw [fillF_len] at hlv₁
    have hdh := Heap.lt_size (N' (d, o₂) (by k_mem)).1
    ((repeat' (first | (k_unfold; (try dsimp only)) | (((fail_if_success (with_reducible show wpAny _ _ (eval (Expr.ListComp _ _ _ _) _) _ _ _)); (fail_if_success (with_reducible show wpAny _ _ (exec (Stmt.While _ _ _ _) _) _ _ _)); (fail_if_success (with_reducible show wpAny _ _ (exec (Stmt.For _ _ _ _ _) _) _ _ _)); (fail_if_success (with_reducible show wpAny _ _ (exec (Stmt.Assign [Expr.Name _ _] (Expr.ListComp _ _ _ _) _) _) _ _ _)); (fail_if_success (with_reducible show wpAny _ _ (pyIter _) _ _ _)); (fail_if_success (with_reducible show wpAny _ _ (call (Value.type "range") _ _) _ _ _)); (fail_if_success (with_reducible show wpAny _ _ (call (Value.type "zip") _ _) _ _ _))); walk1) | (((fail_if_success (with_reducible show wpAny _ _ (eval (Expr.ListComp _ _ _ _) _) _ _ _)); (fail_if_success (with_reducible show wpAny _ _ (exec (Stmt.While _ _ _ _) _) _ _ _)); (fail_if_success (with_reducible show wpAny _ _ (exec (Stmt.For _ _ _ _ _) _) _ _ _)); (fail_if_success (with_reducible show wpAny _ _ (exec (Stmt.Assign [Expr.Name _ _] (Expr.ListComp _ _ _ _) _) _) _ _ _)); (fail_if_success (with_reducible show wpAny _ _ (pyIter _) _ _ _)); (fail_if_success (with_reducible show wpAny _ _ (call (Value.type "range") _ _) _ _ _)); (fail_if_success (with_reducible show wpAny _ _ (call (Value.type "zip") _ _) _ _ _))); dsimp only; walk1))); (all_goals try dsimp only))
    rename Fr _ _ _ _ => F
    rename News _ _ _ _ => N
    exact hCC _ _ _ _ _ F (news_sub N (by kqd_sub)) ⟨rfl, _, _, _, _, cleanL l, _, rfl, Nat.ne_of_gt hdh, D₂, hi.append hi₁, hcl.1, withL_of _ _ ⟨rfl, trivial⟩⟩
  rintro _ h' tk m' _ F₁ N₁ ⟨rfl, o₁, ra, vs, n, B, m₀, rfl, hrd, D₁, hi, hB, rfl⟩
  clear F N hrd' hlv
  have hrd' := neN hrd
  obtain ⟨P, hPe, hPl, hPs, hPn⟩ := fill_shape (n := 8) hA
  obtain ⟨K, hKe, hKl, hKs, -⟩ := fill_shape (n := 3) hB
  rw [hPe, hKe] at hi
  obtain ⟨raw, hraw⟩ : ∃ raw, raw = (P ++ List.replicate (8 - P.length) 32) ++ (K ++ List.replicate (3 - K.length) 32) := ⟨_, rfl⟩
  rw [← hraw] at hi
  have R : RawOK raw P K := ⟨hraw, hPl, hKl, hPs, hKs, hPn hne (by decide)⟩
  clear hPe hKe hPl hKl hPs hKs hPn hraw hA hB hne
  have hlv := hi.length
  rw [R.len] at hlv
  ((repeat' (first | (k_unfold; (try dsimp only)) | (((((((fail_if_success (with_reducible show wpAny _ _ (eval (Expr.ListComp _ _ _ _) _) _ _ _)); (fail_if_success (with_reducible show wpAny _ _ (exec (Stmt.While _ _ _ _) _) _ _ _)); (fail_if_success (with_reducible show wpAny _ _ (exec (Stmt.For _ _ _ _ _) _) _ _ _)); (fail_if_success (with_reducible show wpAny _ _ (exec (Stmt.Assign [Expr.Name _ _] (Expr.ListComp _ _ _ _) _) _) _ _ _)); (fail_if_success (with_reducible show wpAny _ _ (pyIter _) _ _ _)); (fail_if_success (with_reducible show wpAny _ _ (call (Value.type "range") _ _) _ _ _)); (fail_if_success (with_reducible show wpAny _ _ (call (Value.type "zip") _ _) _ _ _)))); (fail_if_success (with_reducible show wpAny _ _ (exec (Stmt.If _ _ _ _) _) _ _ _)))); (fail_if_success (with_reducible show wpAny _ _ (exec (Stmt.Assign _ _ _) _) _ _ _))); walk1) | (((((((fail_if_success (with_reducible show wpAny _ _ (eval (Expr.ListComp _ _ _ _) _) _ _ _)); (fail_if_success (with_reducible show wpAny _ _ (exec (Stmt.While _ _ _ _) _) _ _ _)); (fail_if_success (with_reducible show wpAny _ _ (exec (Stmt.For _ _ _ _ _) _) _ _ _)); (fail_if_success (with_reducible show wpAny _ _ (exec (Stmt.Assign [Expr.Name _ _] (Expr.ListComp _ _ _ _) _) _) _ _ _)); (fail_if_success (with_reducible show wpAny _ _ (pyIter _) _ _ _)); (fail_if_success (with_reducible show wpAny _ _ (call (Value.type "range") _ _) _ _ _)); (fail_if_success (with_reducible show wpAny _ _ (call (Value.type "zip") _ _) _ _ _)))); (fail_if_success (with_reducible show wpAny _ _ (exec (Stmt.If _ _ _ _) _) _ _ _)))); (fail_if_success (with_reducible show wpAny _ _ (exec (Stmt.Assign _ _ _) _) _ _ _))); dsimp only; walk1))); (all_goals try dsimp only))
  rename Fr _ _ _ _ => F
  rename News _ _ _ _ => N
  refine cut_cell F N (fun f m' n₂ => f = .next ∧ ∃ (o₁ : Obj) (fa : Addr) (vsf : List Value) (nf : Nat) (fl : List Int) (m₀ : Str → Option Value), n₂ = [(fa, listOf (List.toArray vsf) nf), (ra, listOf (List.toArray vs) n), (d, o₁)] ∧ fa ≠ d ∧ DealO b₀ o₁ ∧ IntsAre vsf fl ∧ fl.length = 11 ∧ (∀ x ∈ fl, x = 0 ∨ x = 128) ∧ m' = withL [(Str.ofString "flags", .ref fa), (Str.ofString "raw", .ref ra)] m₀) (fun CC hCC => ?_) ?_
  · (try (k_unmd; k_fold))
    refine' Assign_ListComp_ct (cl := _) [d] ?hsw ?hc ?h1 ?h2 ?h3 ?hy ?hp ?_ ?hs
    (case hsw => exact rfl)
    (case hc => exact rfl)
    (case h1 => decide)
    (case h2 => exact rfl)
    (case h3 => decide)
    (case hy => exact rfl)
    (case hp => exact rfl)
    (case hs => intro _; exact rfl)
    ((repeat' (first | (k_unfold; (try dsimp only)) | (((fail_if_success (with_reducible show wpAny _ _ (eval (Expr.ListComp _ _ _ _) _) _ _ _)); (fail_if_success (with_reducible show wpAny _ _ (exec (Stmt.While _ _ _ _) _) _ _ _)); (fail_if_success (with_reducible show wpAny _ _ (exec (Stmt.For _ _ _ _ _) _) _ _ _)); (fail_if_success (with_reducible show wpAny _ _ (exec (Stmt.Assign [Expr.Name _ _] (Expr.ListComp _ _ _ _) _) _) _ _ _)); (fail_if_success (with_reducible show wpAny _ _ (pyIter _) _ _ _)); (fail_if_success (with_reducible show wpAny _ _ (call (Value.type "range") _ _) _ _ _)); (fail_if_success (with_reducible show wpAny _ _ (call (Value.type "zip") _ _) _ _ _))); walk1) | (((fail_if_success (with_reducible show wpAny _ _ (eval (Expr.ListComp _ _ _ _) _) _ _ _)); (fail_if_success (with_reducible show wpAny _ _ (exec (Stmt.While _ _ _ _) _) _ _ _)); (fail_if_success (with_reducible show wpAny _ _ (exec (Stmt.For _ _ _ _ _) _) _ _ _)); (fail_if_success (with_reducible show wpAny _ _ (exec (Stmt.Assign [Expr.Name _ _] (Expr.ListComp _ _ _ _) _) _) _ _ _)); (fail_if_success (with_reducible show wpAny _ _ (pyIter _) _ _ _)); (fail_if_success (with_reducible show wpAny _ _ (call (Value.type "range") _ _) _ _ _)); (fail_if_success (with_reducible show wpAny _ _ (call (Value.type "zip") _ _) _ _ _))); dsimp only; walk1))); (all_goals try dsimp only))
    rename Fr _ _ _ _ => F
    rename News _ _ _ _ => N
    refine core_deal (T := fun Q => wpAny _ _ (call (.type "range") [.int ((11 : Nat) : Int) _]) (fun xv s₁ => wpAny _ _ (pyIter xv) Q _ s₁) _ _) (P := _) (src_range (n := 11) rfl (by decide)) (by rw [sizeLine_eq]; decide) rfl rfl (fun (i : Nat) (y : Value) => ∃ (x : Int) (t : Tok), y = Value.int x t ∧ (x = 0 ∨ x = 128)) (News.get N (by k_mem)) D₁ ?_ fun h₂ tk wr st hs hwr => fin_DA rfl F N (by k_updF) ?_ h₂ tk wr st hs hwr
    · intro C k v h₃ tk m' o₃ hC hkn hv st F₃ N₃ D₃
      obtain ⟨t, rfl⟩ := hv
      have st₃ : g.StaysIn ((trunc h₃ C).hide d) := fun b o e => st b o (hide_stays F.keep hg b o e)
      have X₃ := X.keeps st₃
      have T₃ := T.keeps st₃
      have hb₃ : b₀.StaysIn ((trunc h₃ C).hide d) := fun b o e => st₃ b o (hb b o e)
      have hc₃ := st _ _ ((Heap.hide_ne _ (Nat.ne_of_gt (Nat.lt_succ_of_lt hdl))).trans (N _ (.head _)).1)
      clear F N
      k_unmd; k_fold
      dsimp only [compEnvC]
      ((repeat' (first | (k_unfold; (try dsimp only)) | (((fail_if_success (with_reducible show wpAny _ _ (eval (Expr.ListComp _ _ _ _) _) _ _ _)); (fail_if_success (with_reducible show wpAny _ _ (exec (Stmt.While _ _ _ _) _) _ _ _)); (fail_if_success (with_reducible show wpAny _ _ (exec (Stmt.For _ _ _ _ _) _) _ _ _)); (fail_if_success (with_reducible show wpAny _ _ (exec (Stmt.Assign [Expr.Name _ _] (Expr.ListComp _ _ _ _) _) _) _ _ _)); (fail_if_success (with_reducible show wpAny _ _ (pyIter _) _ _ _)); (fail_if_success (with_reducible show wpAny _ _ (call (Value.type "range") _ _) _ _ _)); (fail_if_success (with_reducible show wpAny _ _ (call (Value.type "zip") _ _) _ _ _))); walk1) | (((fail_if_success (with_reducible show wpAny _ _ (eval (Expr.ListComp _ _ _ _) _) _ _ _)); (fail_if_success (with_reducible show wpAny _ _ (exec (Stmt.While _ _ _ _) _) _ _ _)); (fail_if_success (with_reducible show wpAny _ _ (exec (Stmt.For _ _ _ _ _) _) _ _ _)); (fail_if_success (with_reducible show wpAny _ _ (exec (Stmt.Assign [Expr.Name _ _] (Expr.ListComp _ _ _ _) _) _) _ _ _)); (fail_if_success (with_reducible show wpAny _ _ (pyIter _) _ _ _)); (fail_if_success (with_reducible show wpAny _ _ (call (Value.type "range") _ _) _ _ _)); (fail_if_success (with_reducible show wpAny _ _ (call (Value.type "zip") _ _) _ _ _))); dsimp only; walk1))); (all_goals try dsimp only))
      rename Fr _ _ _ _ => F
      rename News _ _ _ _ => N
      refine take_F F N X₃ T₃ (by k_updF) hb₃ D₃ rfl rfl rfl (by decide) (by decide) fun r t' h' tk o' r0 r1 F' N' D' => ?_
      clear F N
      ((repeat' (first | (k_unfold; (try dsimp only)) | (((fail_if_success (with_reducible show wpAny _ _ (eval (Expr.ListComp _ _ _ _) _) _ _ _)); (fail_if_success (with_reducible show wpAny _ _ (exec (Stmt.While _ _ _ _) _) _ _ _)); (fail_if_success (with_reducible show wpAny _ _ (exec (Stmt.For _ _ _ _ _) _) _ _ _)); (fail_if_success (with_reducible show wpAny _ _ (exec (Stmt.Assign [Expr.Name _ _] (Expr.ListComp _ _ _ _) _) _) _ _ _)); (fail_if_success (with_reducible show wpAny _ _ (pyIter _) _ _ _)); (fail_if_success (with_reducible show wpAny _ _ (call (Value.type "range") _ _) _ _ _)); (fail_if_success (with_reducible show wpAny _ _ (call (Value.type "zip") _ _) _ _ _))); walk1) | (((fail_if_success (with_reducible show wpAny _ _ (eval (Expr.ListComp _ _ _ _) _) _ _ _)); (fail_if_success (with_reducible show wpAny _ _ (exec (Stmt.While _ _ _ _) _) _ _ _)); (fail_if_success (with_reducible show wpAny _ _ (exec (Stmt.For _ _ _ _ _) _) _ _ _)); (fail_if_success (with_reducible show wpAny _ _ (exec (Stmt.Assign [Expr.Name _ _] (Expr.ListComp _ _ _ _) _) _) _ _ _)); (fail_if_success (with_reducible show wpAny _ _ (pyIter _) _ _ _)); (fail_if_success (with_reducible show wpAny _ _ (call (Value.type "range") _ _) _ _ _)); (fail_if_success (with_reducible show wpAny _ _ (call (Value.type "zip") _ _) _ _ _))); dsimp only; walk1))); (all_goals try dsimp only))
      rename Fr _ _ _ _ => F
      rename News _ _ _ _ => N
      exact ⟨⟨⟨_, _, rfl, by omega⟩, EltEndD.mk F N D'⟩⟩
    · intro D h' tk ys kk o' hlen' hR F' N' D' hlt hD
      obtain ⟨fl, hfl, hfll, hflr⟩ := ints_ex (P := fun x => x = 0 ∨ x = 128) hR
      have hdD := Nat.lt_of_lt_of_le (Heap.lt_size (News.get N (by k_mem) : _ = some o₁)) hD
      exact hCC _ _ _ _ _ F' (news_sub N' (by kqd_sub)) ⟨rfl, _, _, _, _, fl, _, rfl, Nat.ne_of_gt hdD, D', hfl, by omega, hflr, withL_of _ _ ⟨rfl, rfl, trivial⟩⟩
  rintro _ h' tk m' _ F₁ N₁ ⟨rfl, o₁, fa, vsf, nf, fl, m₀, rfl, hfd, D₁, hif, hfl, hfr, rfl⟩
  clear F N
  have hfd' := neN hfd
  ((repeat' (first | (k_unfold; (try dsimp only)) | (((((((fail_if_success (with_reducible show wpAny _ _ (eval (Expr.ListComp _ _ _ _) _) _ _ _)); (fail_if_success (with_reducible show wpAny _ _ (exec (Stmt.While _ _ _ _) _) _ _ _)); (fail_if_success (with_reducible show wpAny _ _ (exec (Stmt.For _ _ _ _ _) _) _ _ _)); (fail_if_success (with_reducible show wpAny _ _ (exec (Stmt.Assign [Expr.Name _ _] (Expr.ListComp _ _ _ _) _) _) _ _ _)); (fail_if_success (with_reducible show wpAny _ _ (pyIter _) _ _ _)); (fail_if_success (with_reducible show wpAny _ _ (call (Value.type "range") _ _) _ _ _)); (fail_if_success (with_reducible show wpAny _ _ (call (Value.type "zip") _ _) _ _ _)))); (fail_if_success (with_reducible show wpAny _ _ (exec (Stmt.If _ _ _ _) _) _ _ _)))); (fail_if_success (with_reducible show wpAny _ _ (exec (Stmt.Assign _ _ _) _) _ _ _))); walk1) | (((((((fail_if_success (with_reducible show wpAny _ _ (eval (Expr.ListComp _ _ _ _) _) _ _ _)); (fail_if_success (with_reducible show wpAny _ _ (exec (Stmt.While _ _ _ _) _) _ _ _)); (fail_if_success (with_reducible show wpAny _ _ (exec (Stmt.For _ _ _ _ _) _) _ _ _)); (fail_if_success (with_reducible show wpAny _ _ (exec (Stmt.Assign [Expr.Name _ _] (Expr.ListComp _ _ _ _) _) _) _ _ _)); (fail_if_success (with_reducible show wpAny _ _ (pyIter _) _ _ _)); (fail_if_success (with_reducible show wpAny _ _ (call (Value.type "range") _ _) _ _ _)); (fail_if_success (with_reducible show wpAny _ _ (call (Value.type "zip") _ _) _ _ _)))); (fail_if_success (with_reducible show wpAny _ _ (exec (Stmt.If _ _ _ _) _) _ _ _)))); (fail_if_success (with_reducible show wpAny _ _ (exec (Stmt.Assign _ _ _) _) _ _ _))); dsimp only; walk1))); (all_goals try dsimp only))
  rename Fr _ _ _ _ => F
  rename News _ _ _ _ => N
  refine cut_cell F N (fun f m' n₂ => f = .next ∧ ∃ (ga : Addr) (vsg : List Value) (ng : Nat) (gl : List Int) (m₀ : Str → Option Value), n₂ = [(ga, listOf (List.toArray vsg) ng), (ra, listOf (List.toArray vs) n), (d, o₁)] ∧ ga ≠ d ∧ IntsAre vsg gl ∧ gl.length = 11 ∧ gl.map (· % 128) = raw ∧ m' = withL [(Str.ofString "flagged", .ref ga), (Str.ofString "raw", .ref ra)] m₀) (fun CC hCC => ?_) ?_
  · have hlf := hif.length
    ((try (k_unmd; k_fold)); refine' Assign_ListComp_ct (cl := _) [] ?hsw_236 ?hc_236 ?h1_236 ?h2_236 ?h3_236 ?hy_236 ?hp_236 ?_ ?hs_236; (case hsw_236 => exact rfl); (case hc_236 => exact rfl); (case h1_236 => decide); (case h2_236 => exact rfl); (case h3_236 => decide); (case hy_236 => exact rfl); (case hp_236 => exact rfl); (case hs_236 => intro _; exact rfl))
    ((repeat' (first | (k_unfold; (try dsimp only)) | (((fail_if_success (with_reducible show wpAny _ _ (eval (Expr.ListComp _ _ _ _) _) _ _ _)); (fail_if_success (with_reducible show wpAny _ _ (exec (Stmt.While _ _ _ _) _) _ _ _)); (fail_if_success (with_reducible show wpAny _ _ (exec (Stmt.For _ _ _ _ _) _) _ _ _)); (fail_if_success (with_reducible show wpAny _ _ (exec (Stmt.Assign [Expr.Name _ _] (Expr.ListComp _ _ _ _) _) _) _ _ _)); (fail_if_success (with_reducible show wpAny _ _ (pyIter _) _ _ _)); (fail_if_success (with_reducible show wpAny _ _ (call (Value.type "range") _ _) _ _ _)); (fail_if_success (with_reducible show wpAny _ _ (call (Value.type "zip") _ _) _ _ _))); walk1) | (((fail_if_success (with_reducible show wpAny _ _ (eval (Expr.ListComp _ _ _ _) _) _ _ _)); (fail_if_success (with_reducible show wpAny _ _ (exec (Stmt.While _ _ _ _) _) _ _ _)); (fail_if_success (with_reducible show wpAny _ _ (exec (Stmt.For _ _ _ _ _) _) _ _ _)); (fail_if_success (with_reducible show wpAny _ _ (exec (Stmt.Assign [Expr.Name _ _] (Expr.ListComp _ _ _ _) _) _) _ _ _)); (fail_if_success (with_reducible show wpAny _ _ (pyIter _) _ _ _)); (fail_if_success (with_reducible show wpAny _ _ (call (Value.type "range") _ _) _ _ _)); (fail_if_success (with_reducible show wpAny _ _ (call (Value.type "zip") _ _) _ _ _))); dsimp only; walk1))); (all_goals try dsimp only))
    rename Fr _ _ _ _ => F
    rename News _ _ _ _ => N
    have hsz : min vs.length vsf.length ≤ sizeLine := by rw [sizeLine_eq]; omega
    refine core_zip (T := fun Q => wpAny _ _ (call (.type "zip") [.ref ra, .ref fa]) (fun xv s₁ => wpAny _ _ (pyIter xv) Q _ s₁) _ _) (l1 := ra) (l2 := fa) (xs := vs) (ys := vsf) rfl (src_zip rfl (News.isList N (by k_mem)) (News.isList N (by k_mem))) hsz rfl rfl rfl
      (fun k zs => zs.length = k ∧ ∀ (i : Nat) (y : Value), zs[i]? = some y → ∃ t, y = Value.int (raw.getD i 0 + fl.getD i 0) t) ⟨rfl, fun i y e => by simp at e⟩ ?_ fun h₂ tk wr st hs hwr => fin_A (R := fun (i : Nat) (y : Value) => ∃ t, y = Value.int (raw.getD i 0 + fl.getD i 0) t) rfl F N ?_ h₂ tk wr st hs hwr
    · intro C k h₃ tk m' zs x y hC hk hx hy hJ st F₃ N₃
      obtain ⟨z, t, rfl, hz⟩ := hi.at k x hx
      obtain ⟨z', t', rfl, hz'⟩ := hif.at k y hy
      have X₃ := X.keeps fun b o e => st b o (F.keep b o e)
      have T₃ := T.keeps fun b o e => st b o (F.keep b o e)
      clear F N
      refine wpAny_tests_nil ?_
      rw [if_pos rfl]
      k_unmd; k_fold
      dsimp only [compEnvC]
      ((repeat' (first | (k_unfold; (try dsimp only)) | (((fail_if_success (with_reducible show wpAny _ _ (eval (Expr.ListComp _ _ _ _) _) _ _ _)); (fail_if_success (with_reducible show wpAny _ _ (exec (Stmt.While _ _ _ _) _) _ _ _)); (fail_if_success (with_reducible show wpAny _ _ (exec (Stmt.For _ _ _ _ _) _) _ _ _)); (fail_if_success (with_reducible show wpAny _ _ (exec (Stmt.Assign [Expr.Name _ _] (Expr.ListComp _ _ _ _) _) _) _ _ _)); (fail_if_success (with_reducible show wpAny _ _ (pyIter _) _ _ _)); (fail_if_success (with_reducible show wpAny _ _ (call (Value.type "range") _ _) _ _ _)); (fail_if_success (with_reducible show wpAny _ _ (call (Value.type "zip") _ _) _ _ _))); walk1) | (((fail_if_success (with_reducible show wpAny _ _ (eval (Expr.ListComp _ _ _ _) _) _ _ _)); (fail_if_success (with_reducible show wpAny _ _ (exec (Stmt.While _ _ _ _) _) _ _ _)); (fail_if_success (with_reducible show wpAny _ _ (exec (Stmt.For _ _ _ _ _) _) _ _ _)); (fail_if_success (with_reducible show wpAny _ _ (exec (Stmt.Assign [Expr.Name _ _] (Expr.ListComp _ _ _ _) _) _) _ _ _)); (fail_if_success (with_reducible show wpAny _ _ (pyIter _) _ _ _)); (fail_if_success (with_reducible show wpAny _ _ (call (Value.type "range") _ _) _ _ _)); (fail_if_success (with_reducible show wpAny _ _ (call (Value.type "zip") _ _) _ _ _))); dsimp only; walk1))); (all_goals try dsimp only))
      rename Fr _ _ _ _ => F'
      exact ⟨⟨JP.snoc (R := fun (i : Nat) (y : Value) => ∃ t, y = Value.int (raw.getD i 0 + fl.getD i 0) t) (h := h₃) (h' := h₃) hJ ⟨_, by rw [getD_at hz, getD_at hz']⟩, EltEnd.mk F'⟩⟩
    · intro D h' tk ys kk hlen' hR F' N' hlt hD
      have hg' := ints_zip (fun a b => a + b) (by rw [hlen', hi.length, hif.length]) hR
      have hdD := Nat.lt_of_lt_of_le (Heap.lt_size (News.get N (by k_mem) : _ = some o₁)) hD
      exact hCC _ _ _ _ _ F' (news_sub N' (by kqd_sub)) ⟨rfl, _, _, _, _, _, rfl, Nat.ne_of_gt hdD, hg', by rw [List.length_zipWith, R.len, hfl]; rfl, flags_mod R.range hfr (R.len.trans hfl.symm), withL_of _ _ ⟨rfl, rfl, trivial⟩⟩
  rintro _ h' tk m' _ F₁ N₁ ⟨rfl, ga, vsg, ng, gl, m₀, rfl, hgd, hig, hgl, hgm, rfl⟩
  clear F N hfd' hif hfl hfr hfd fl vsf nf fa
  have hgd' := neN hgd
  ((repeat' (first | (k_unfold; (try dsimp only)) | (((((((fail_if_success (with_reducible show wpAny _ _ (eval (Expr.ListComp _ _ _ _) _) _ _ _)); (fail_if_success (with_reducible show wpAny _ _ (exec (Stmt.While _ _ _ _) _) _ _ _)); (fail_if_success (with_reducible show wpAny _ _ (exec (Stmt.For _ _ _ _ _) _) _ _ _)); (fail_if_success (with_reducible show wpAny _ _ (exec (Stmt.Assign [Expr.Name _ _] (Expr.ListComp _ _ _ _) _) _) _ _ _)); (fail_if_success (with_reducible show wpAny _ _ (pyIter _) _ _ _)); (fail_if_success (with_reducible show wpAny _ _ (call (Value.type "range") _ _) _ _ _)); (fail_if_success (with_reducible show wpAny _ _ (call (Value.type "zip") _ _) _ _ _)))); (fail_if_success (with_reducible show wpAny _ _ (exec (Stmt.If _ _ _ _) _) _ _ _)))); (fail_if_success (with_reducible show wpAny _ _ (exec (Stmt.Assign _ _ _) _) _ _ _))); walk1) | (((((((fail_if_success (with_reducible show wpAny _ _ (eval (Expr.ListComp _ _ _ _) _) _ _ _)); (fail_if_success (with_reducible show wpAny _ _ (exec (Stmt.While _ _ _ _) _) _ _ _)); (fail_if_success (with_reducible show wpAny _ _ (exec (Stmt.For _ _ _ _ _) _) _ _ _)); (fail_if_success (with_reducible show wpAny _ _ (exec (Stmt.Assign [Expr.Name _ _] (Expr.ListComp _ _ _ _) _) _) _ _ _)); (fail_if_success (with_reducible show wpAny _ _ (pyIter _) _ _ _)); (fail_if_success (with_reducible show wpAny _ _ (call (Value.type "range") _ _) _ _ _)); (fail_if_success (with_reducible show wpAny _ _ (call (Value.type "zip") _ _) _ _ _)))); (fail_if_success (with_reducible show wpAny _ _ (exec (Stmt.If _ _ _ _) _) _ _ _)))); (fail_if_success (with_reducible show wpAny _ _ (exec (Stmt.Assign _ _ _) _) _ _ _))); dsimp only; walk1))); (all_goals try dsimp only))
  rename Fr _ _ _ _ => F
  rename News _ _ _ _ => N
  refine cut_cell F N (fun f m' n₂ => f = .next ∧ ∃ (o₂ : Obj) (pa : Addr) (vsp : List Value) (np : Nat) (tx : List Nat) (j : Nat) (oct : List Int) (m₀ : Str → Option Value), n₂ = [(pa, listOf (List.toArray vsp) np), (ga, listOf (List.toArray vsg) ng), (ra, listOf (List.toArray vs) n), (d, o₂)] ∧ pa ≠ d ∧ DealO b₀ o₂ ∧ IntsAre vsp oct ∧ nameRel tx j oct ∧ m' = withL [(Str.ofString "pattern", .ref pa), (Str.ofString "flagged", .ref ga), (Str.ofString "raw", .ref ra)] m₀) (fun CC hCC => ?_) ?_
  · ((repeat' (first | (k_unfold; (try dsimp only)) | (((fail_if_success (with_reducible show wpAny _ _ (eval (Expr.ListComp _ _ _ _) _) _ _ _)); (fail_if_success (with_reducible show wpAny _ _ (exec (Stmt.While _ _ _ _) _) _ _ _)); (fail_if_success (with_reducible show wpAny _ _ (exec (Stmt.For _ _ _ _ _) _) _ _ _)); (fail_if_success (with_reducible show wpAny _ _ (exec (Stmt.Assign [Expr.Name _ _] (Expr.ListComp _ _ _ _) _) _) _ _ _)); (fail_if_success (with_reducible show wpAny _ _ (pyIter _) _ _ _)); (fail_if_success (with_reducible show wpAny _ _ (call (Value.type "range") _ _) _ _ _)); (fail_if_success (with_reducible show wpAny _ _ (call (Value.type "zip") _ _) _ _ _))); walk1) | (((fail_if_success (with_reducible show wpAny _ _ (eval (Expr.ListComp _ _ _ _) _) _ _ _)); (fail_if_success (with_reducible show wpAny _ _ (exec (Stmt.While _ _ _ _) _) _ _ _)); (fail_if_success (with_reducible show wpAny _ _ (exec (Stmt.For _ _ _ _ _) _) _ _ _)); (fail_if_success (with_reducible show wpAny _ _ (exec (Stmt.Assign [Expr.Name _ _] (Expr.ListComp _ _ _ _) _) _) _ _ _)); (fail_if_success (with_reducible show wpAny _ _ (pyIter _) _ _ _)); (fail_if_success (with_reducible show wpAny _ _ (call (Value.type "range") _ _) _ _ _)); (fail_if_success (with_reducible show wpAny _ _ (call (Value.type "zip") _ _) _ _ _))); dsimp only; walk1))); (all_goals try dsimp only))
    rename Fr _ _ _ _ => F
    rename News _ _ _ _ => N
    refine name_F F N X T (by k_updF) hb D₁ rfl rfl rfl fun p a j tx oct vsp np h' tk o₂ t1 t2 hRel F' N' D₂ hip hpd had => ?_
    clear F N
    ((repeat' (first | (k_unfold; (try dsimp only)) | (((fail_if_success (with_reducible show wpAny _ _ (eval (Expr.ListComp _ _ _ _) _) _ _ _)); (fail_if_success (with_reducible show wpAny _ _ (exec (Stmt.While _ _ _ _) _) _ _ _)); (fail_if_success (with_reducible show wpAny _ _ (exec (Stmt.For _ _ _ _ _) _) _ _ _)); (fail_if_success (with_reducible show wpAny _ _ (exec (Stmt.Assign [Expr.Name _ _] (Expr.ListComp _ _ _ _) _) _) _ _ _)); (fail_if_success (with_reducible show wpAny _ _ (pyIter _) _ _ _)); (fail_if_success (with_reducible show wpAny _ _ (call (Value.type "range") _ _) _ _ _)); (fail_if_success (with_reducible show wpAny _ _ (call (Value.type "zip") _ _) _ _ _))); walk1) | (((fail_if_success (with_reducible show wpAny _ _ (eval (Expr.ListComp _ _ _ _) _) _ _ _)); (fail_if_success (with_reducible show wpAny _ _ (exec (Stmt.While _ _ _ _) _) _ _ _)); (fail_if_success (with_reducible show wpAny _ _ (exec (Stmt.For _ _ _ _ _) _) _ _ _)); (fail_if_success (with_reducible show wpAny _ _ (exec (Stmt.Assign [Expr.Name _ _] (Expr.ListComp _ _ _ _) _) _) _ _ _)); (fail_if_success (with_reducible show wpAny _ _ (pyIter _) _ _ _)); (fail_if_success (with_reducible show wpAny _ _ (call (Value.type "range") _ _) _ _ _)); (fail_if_success (with_reducible show wpAny _ _ (call (Value.type "zip") _ _) _ _ _))); dsimp only; walk1))); (all_goals try dsimp only))
    rename Fr _ _ _ _ => F
    rename News _ _ _ _ => N
    exact hCC _ _ _ _ _ F (news_sub N (by kqd_sub)) ⟨rfl, _, _, _, _, _, _, _, _, rfl, had, D₂, hip, hRel, withL_of _ _ ⟨rfl, rfl, rfl, trivial⟩⟩
  rintro _ h' tk m' _ F₁ N₁ ⟨rfl, o₂, pa, vsp, np, tx, j, oct, m₀, rfl, hpd, D₂, hip, hRel, rfl⟩
  clear F N
  have hpd' := neN hpd
  obtain ⟨-, -, hol, -⟩ := name_len hRel
  have hor := name_range hRel
  have hlp := hip.length
  have hlg := hig.length
  ((repeat' (first | (k_unfold; (try dsimp only)) | (((((((fail_if_success (with_reducible show wpAny _ _ (eval (Expr.ListComp _ _ _ _) _) _ _ _)); (fail_if_success (with_reducible show wpAny _ _ (exec (Stmt.While _ _ _ _) _) _ _ _)); (fail_if_success (with_reducible show wpAny _ _ (exec (Stmt.For _ _ _ _ _) _) _ _ _)); (fail_if_success (with_reducible show wpAny _ _ (exec (Stmt.Assign [Expr.Name _ _] (Expr.ListComp _ _ _ _) _) _) _ _ _)); (fail_if_success (with_reducible show wpAny _ _ (pyIter _) _ _ _)); (fail_if_success (with_reducible show wpAny _ _ (call (Value.type "range") _ _) _ _ _)); (fail_if_success (with_reducible show wpAny _ _ (call (Value.type "zip") _ _) _ _ _)))); (fail_if_success (with_reducible show wpAny _ _ (exec (Stmt.If _ _ _ _) _) _ _ _)))); (fail_if_success (with_reducible show wpAny _ _ (exec (Stmt.Assign _ _ _) _) _ _ _))); walk1) | (((((((fail_if_success (with_reducible show wpAny _ _ (eval (Expr.ListComp _ _ _ _) _) _ _ _)); (fail_if_success (with_reducible show wpAny _ _ (exec (Stmt.While _ _ _ _) _) _ _ _)); (fail_if_success (with_reducible show wpAny _ _ (exec (Stmt.For _ _ _ _ _) _) _ _ _)); (fail_if_success (with_reducible show wpAny _ _ (exec (Stmt.Assign [Expr.Name _ _] (Expr.ListComp _ _ _ _) _) _) _ _ _)); (fail_if_success (with_reducible show wpAny _ _ (pyIter _) _ _ _)); (fail_if_success (with_reducible show wpAny _ _ (call (Value.type "range") _ _) _ _ _)); (fail_if_success (with_reducible show wpAny _ _ (call (Value.type "zip") _ _) _ _ _)))); (fail_if_success (with_reducible show wpAny _ _ (exec (Stmt.If _ _ _ _) _) _ _ _)))); (fail_if_success (with_reducible show wpAny _ _ (exec (Stmt.Assign _ _ _) _) _ _ _))); dsimp only; walk1))); (all_goals try dsimp only))
  rename Fr _ _ _ _ => F
  rename News _ _ _ _ => N
  refine cut_cell F N (fun f m' n₂ => f = .next ∧ n₂ = [(pa, listOf (List.toArray vsp) np), (ga, listOf (List.toArray vsg) ng), (ra, listOf (List.toArray vs) n), (d, o₂)] ∧ ∃ (m₀ : Str → Option Value), m' = withL [(Str.ofString "due", .bool (dueB oct raw)), (Str.ofString "pattern", .ref pa), (Str.ofString "flagged", .ref ga), (Str.ofString "raw", .ref ra)] m₀) (fun CC hCC => ?_) ?_
  · ((repeat' (first | (k_unfold; (try dsimp only)) | (((fail_if_success (with_reducible show wpAny _ _ (eval (Expr.ListComp _ _ _ _) _) _ _ _)); (fail_if_success (with_reducible show wpAny _ _ (exec (Stmt.While _ _ _ _) _) _ _ _)); (fail_if_success (with_reducible show wpAny _ _ (exec (Stmt.For _ _ _ _ _) _) _ _ _)); (fail_if_success (with_reducible show wpAny _ _ (exec (Stmt.Assign [Expr.Name _ _] (Expr.ListComp _ _ _ _) _) _) _ _ _)); (fail_if_success (with_reducible show wpAny _ _ (pyIter _) _ _ _)); (fail_if_success (with_reducible show wpAny _ _ (call (Value.type "range") _ _) _ _ _)); (fail_if_success (with_reducible show wpAny _ _ (call (Value.type "zip") _ _) _ _ _))); walk1) | (((fail_if_success (with_reducible show wpAny _ _ (eval (Expr.ListComp _ _ _ _) _) _ _ _)); (fail_if_success (with_reducible show wpAny _ _ (exec (Stmt.While _ _ _ _) _) _ _ _)); (fail_if_success (with_reducible show wpAny _ _ (exec (Stmt.For _ _ _ _ _) _) _ _ _)); (fail_if_success (with_reducible show wpAny _ _ (exec (Stmt.Assign [Expr.Name _ _] (Expr.ListComp _ _ _ _) _) _) _ _ _)); (fail_if_success (with_reducible show wpAny _ _ (pyIter _) _ _ _)); (fail_if_success (with_reducible show wpAny _ _ (call (Value.type "range") _ _) _ _ _)); (fail_if_success (with_reducible show wpAny _ _ (call (Value.type "zip") _ _) _ _ _))); dsimp only; walk1))); (all_goals try dsimp only))
    ((try (k_unmd; k_fold)); refine' ListComp_ct (cl := _) [] ?hc_244 ?h1_244 ?h2_244 ?h3_244 ?_ ?hs_244; (case hc_244 => exact rfl); (case h1_244 => decide); (case h2_244 => exact rfl); (case h3_244 => decide); (case hs_244 => intro _; exact rfl))
    ((repeat' (first | (k_unfold; (try dsimp only)) | (((fail_if_success (with_reducible show wpAny _ _ (eval (Expr.ListComp _ _ _ _) _) _ _ _)); (fail_if_success (with_reducible show wpAny _ _ (exec (Stmt.While _ _ _ _) _) _ _ _)); (fail_if_success (with_reducible show wpAny _ _ (exec (Stmt.For _ _ _ _ _) _) _ _ _)); (fail_if_success (with_reducible show wpAny _ _ (exec (Stmt.Assign [Expr.Name _ _] (Expr.ListComp _ _ _ _) _) _) _ _ _)); (fail_if_success (with_reducible show wpAny _ _ (pyIter _) _ _ _)); (fail_if_success (with_reducible show wpAny _ _ (call (Value.type "range") _ _) _ _ _)); (fail_if_success (with_reducible show wpAny _ _ (call (Value.type "zip") _ _) _ _ _))); walk1) | (((fail_if_success (with_reducible show wpAny _ _ (eval (Expr.ListComp _ _ _ _) _) _ _ _)); (fail_if_success (with_reducible show wpAny _ _ (exec (Stmt.While _ _ _ _) _) _ _ _)); (fail_if_success (with_reducible show wpAny _ _ (exec (Stmt.For _ _ _ _ _) _) _ _ _)); (fail_if_success (with_reducible show wpAny _ _ (exec (Stmt.Assign [Expr.Name _ _] (Expr.ListComp _ _ _ _) _) _) _ _ _)); (fail_if_success (with_reducible show wpAny _ _ (pyIter _) _ _ _)); (fail_if_success (with_reducible show wpAny _ _ (call (Value.type "range") _ _) _ _ _)); (fail_if_success (with_reducible show wpAny _ _ (call (Value.type "zip") _ _) _ _ _))); dsimp only; walk1))); (all_goals try dsimp only))
    rename Fr _ _ _ _ => F
    rename News _ _ _ _ => N
    have hsz : min vsp.length vs.length ≤ sizeLine := by rw [sizeLine_eq]; omega
    refine core_zip (T := fun Q => wpAny _ _ (call (.type "zip") [.ref pa, .ref ra]) (fun xv s₁ => wpAny _ _ (pyIter xv) Q _ s₁) _ _) (l1 := pa) (l2 := ra) (xs := vsp) (ys := vs) rfl (src_zip rfl (News.isList N (by k_mem)) (News.isList N (by k_mem))) hsz rfl rfl rfl
      (fun k zs => (zs = [] ↔ ∀ i, i < k → oct.getD i 0 = 63 ∨ oct.getD i 0 = raw.getD i 0) ∧ ∀ (i : Nat) (y : Value), zs[i]? = some y → ∃ t, y = Value.int 1 t) ⟨⟨fun _ i hi => absurd hi (Nat.not_lt_zero _), fun _ => rfl⟩, fun i y e => by simp at e⟩ ?_ fun h₂ tk wr st hs hwr => fin_EJ (J := fun k zs => (zs = [] ↔ ∀ i, i < k → oct.getD i 0 = 63 ∨ oct.getD i 0 = raw.getD i 0) ∧ ∀ (i : Nat) (y : Value), zs[i]? = some y → ∃ t, y = Value.int 1 t) F N ?_ h₂ tk wr st hs hwr
    · intro C k h₃ tk m' zs x y hC hk hx hy hJ st F₃ N₃
      obtain ⟨z, t, rfl, hz⟩ := hip.at k x hx
      obtain ⟨z', t', rfl, hz'⟩ := hi.at k y hy
      have X₃ := X.keeps fun b o e => st b o (F.keep b o e)
      have T₃ := T.keeps fun b o e => st b o (F.keep b o e)
      clear F N
      refine wpAny_tests_one ?_
      k_unmd; k_fold
      dsimp only [compEnvC]
      ((repeat' (first | (k_unfold; (try dsimp only)) | (((fail_if_success (with_reducible show wpAny _ _ (eval (Expr.ListComp _ _ _ _) _) _ _ _)); (fail_if_success (with_reducible show wpAny _ _ (exec (Stmt.While _ _ _ _) _) _ _ _)); (fail_if_success (with_reducible show wpAny _ _ (exec (Stmt.For _ _ _ _ _) _) _ _ _)); (fail_if_success (with_reducible show wpAny _ _ (exec (Stmt.Assign [Expr.Name _ _] (Expr.ListComp _ _ _ _) _) _) _ _ _)); (fail_if_success (with_reducible show wpAny _ _ (pyIter _) _ _ _)); (fail_if_success (with_reducible show wpAny _ _ (call (Value.type "range") _ _) _ _ _)); (fail_if_success (with_reducible show wpAny _ _ (call (Value.type "zip") _ _) _ _ _))); walk1) | (((fail_if_success (with_reducible show wpAny _ _ (eval (Expr.ListComp _ _ _ _) _) _ _ _)); (fail_if_success (with_reducible show wpAny _ _ (exec (Stmt.While _ _ _ _) _) _ _ _)); (fail_if_success (with_reducible show wpAny _ _ (exec (Stmt.For _ _ _ _ _) _) _ _ _)); (fail_if_success (with_reducible show wpAny _ _ (exec (Stmt.Assign [Expr.Name _ _] (Expr.ListComp _ _ _ _) _) _) _ _ _)); (fail_if_success (with_reducible show wpAny _ _ (pyIter _) _ _ _)); (fail_if_success (with_reducible show wpAny _ _ (call (Value.type "range") _ _) _ _ _)); (fail_if_success (with_reducible show wpAny _ _ (call (Value.type "zip") _ _) _ _ _))); dsimp only; walk1))); (all_goals try dsimp only))
      all_goals rename Fr _ _ _ _ => F'
      · have h1 : z ≠ 63 := by assumption
        have h2 : z ≠ z' := by assumption
        exact ⟨⟨⟨due_out (P := fun i => oct.getD i 0 = 63 ∨ oct.getD i 0 = raw.getD i 0) (by rw [getD_at hz, getD_at hz']; exact fun q => q.elim h1 h2), ones_snoc hJ.2⟩, EltEnd.mk F'⟩⟩
      · have h2 : z = z' := by assumption
        exact ⟨⟨⟨due_in (P := fun i => oct.getD i 0 = 63 ∨ oct.getD i 0 = raw.getD i 0) hJ.1 (by rw [getD_at hz, getD_at hz']; exact .inr h2), hJ.2⟩, EltEnd.mk F'⟩⟩
      · have h1 : z = 63 := by assumption
        exact ⟨⟨⟨due_in (P := fun i => oct.getD i 0 = 63 ∨ oct.getD i 0 = raw.getD i 0) hJ.1 (by rw [getD_at hz, getD_at hz']; exact .inl h1), hJ.2⟩, EltEnd.mk F'⟩⟩
    · intro D h' tk ys kk hJ hlen' F' N' hlt hD
      have hys := ints_ones hJ.2
      clear F N
      ((repeat' (first | (k_unfold; (try dsimp only)) | (((fail_if_success (with_reducible show wpAny _ _ (eval (Expr.ListComp _ _ _ _) _) _ _ _)); (fail_if_success (with_reducible show wpAny _ _ (exec (Stmt.While _ _ _ _) _) _ _ _)); (fail_if_success (with_reducible show wpAny _ _ (exec (Stmt.For _ _ _ _ _) _) _ _ _)); (fail_if_success (with_reducible show wpAny _ _ (exec (Stmt.Assign [Expr.Name _ _] (Expr.ListComp _ _ _ _) _) _) _ _ _)); (fail_if_success (with_reducible show wpAny _ _ (pyIter _) _ _ _)); (fail_if_success (with_reducible show wpAny _ _ (call (Value.type "range") _ _) _ _ _)); (fail_if_success (with_reducible show wpAny _ _ (call (Value.type "zip") _ _) _ _ _))); walk1) | (((fail_if_success (with_reducible show wpAny _ _ (eval (Expr.ListComp _ _ _ _) _) _ _ _)); (fail_if_success (with_reducible show wpAny _ _ (exec (Stmt.While _ _ _ _) _) _ _ _)); (fail_if_success (with_reducible show wpAny _ _ (exec (Stmt.For _ _ _ _ _) _) _ _ _)); (fail_if_success (with_reducible show wpAny _ _ (exec (Stmt.Assign [Expr.Name _ _] (Expr.ListComp _ _ _ _) _) _) _ _ _)); (fail_if_success (with_reducible show wpAny _ _ (pyIter _) _ _ _)); (fail_if_success (with_reducible show wpAny _ _ (call (Value.type "range") _ _) _ _ _)); (fail_if_success (with_reducible show wpAny _ _ (call (Value.type "zip") _ _) _ _ _))); dsimp only; walk1))); (all_goals try dsimp only))
      rename Fr _ _ _ _ => F
      rename News _ _ _ _ => N
      have hdb := due_iff (p := oct) (raw := raw) hol R.len
      have hm : min vsp.length vs.length = 11 := by omega
      refine hCC _ _ _ _ _ F (news_sub N (by kqd_sub)) ⟨rfl, rfl, _, withL_of _ _ ⟨congrArg (fun b => some (Value.bool b)) ?_, rfl, rfl, rfl, trivial⟩⟩
      rw [Bool.eq_iff_iff, decide_eq_true_iff, hdb, ones_nil _ ys rfl, ← hm]
      exact hJ.1
  rintro _ h' tk m' _ F₁ N₁ ⟨rfl, rfl, m₀, rfl⟩
  clear F N
  ((repeat' (first | (k_unfold; (try dsimp only)) | (((((fail_if_success (with_reducible show wpAny _ _ (eval (Expr.ListComp _ _ _ _) _) _ _ _)); (fail_if_success (with_reducible show wpAny _ _ (exec (Stmt.While _ _ _ _) _) _ _ _)); (fail_if_success (with_reducible show wpAny _ _ (exec (Stmt.For _ _ _ _ _) _) _ _ _)); (fail_if_success (with_reducible show wpAny _ _ (exec (Stmt.Assign [Expr.Name _ _] (Expr.ListComp _ _ _ _) _) _) _ _ _)); (fail_if_success (with_reducible show wpAny _ _ (pyIter _) _ _ _)); (fail_if_success (with_reducible show wpAny _ _ (call (Value.type "range") _ _) _ _ _)); (fail_if_success (with_reducible show wpAny _ _ (call (Value.type "zip") _ _) _ _ _)))); (fail_if_success (with_reducible show wpAny _ _ (exec (Stmt.If _ _ _ _) _) _ _ _))); walk1) | (((((fail_if_success (with_reducible show wpAny _ _ (eval (Expr.ListComp _ _ _ _) _) _ _ _)); (fail_if_success (with_reducible show wpAny _ _ (exec (Stmt.While _ _ _ _) _) _ _ _)); (fail_if_success (with_reducible show wpAny _ _ (exec (Stmt.For _ _ _ _ _) _) _ _ _)); (fail_if_success (with_reducible show wpAny _ _ (exec (Stmt.Assign [Expr.Name _ _] (Expr.ListComp _ _ _ _) _) _) _ _ _)); (fail_if_success (with_reducible show wpAny _ _ (pyIter _) _ _ _)); (fail_if_success (with_reducible show wpAny _ _ (call (Value.type "range") _ _) _ _ _)); (fail_if_success (with_reducible show wpAny _ _ (call (Value.type "zip") _ _) _ _ _)))); (fail_if_success (with_reducible show wpAny _ _ (exec (Stmt.If _ _ _ _) _) _ _ _))); dsimp only; walk1))); (all_goals try dsimp only))
  rename Fr _ _ _ _ => F
  rename News _ _ _ _ => N
  refine cut_cell F N (fun f m' n₂ => f = .next ∧ n₂ = [(ga, listOf (List.toArray vsg) ng), (ra, listOf (List.toArray vs) n), (d, o₂)] ∧ ∃ (m₀ : Str → Option Value), m' = withL [(Str.ofString "flagged", .ref ga), (Str.ofString "raw", .ref ra)] m₀) (fun CC hCC => ?_) ?_
  · ((repeat' (first | (k_unfold; (try dsimp only)) | (((fail_if_success (with_reducible show wpAny _ _ (eval (Expr.ListComp _ _ _ _) _) _ _ _)); (fail_if_success (with_reducible show wpAny _ _ (exec (Stmt.While _ _ _ _) _) _ _ _)); (fail_if_success (with_reducible show wpAny _ _ (exec (Stmt.For _ _ _ _ _) _) _ _ _)); (fail_if_success (with_reducible show wpAny _ _ (exec (Stmt.Assign [Expr.Name _ _] (Expr.ListComp _ _ _ _) _) _) _ _ _)); (fail_if_success (with_reducible show wpAny _ _ (pyIter _) _ _ _)); (fail_if_success (with_reducible show wpAny _ _ (call (Value.type "range") _ _) _ _ _)); (fail_if_success (with_reducible show wpAny _ _ (call (Value.type "zip") _ _) _ _ _))); walk1) | (((fail_if_success (with_reducible show wpAny _ _ (eval (Expr.ListComp _ _ _ _) _) _ _ _)); (fail_if_success (with_reducible show wpAny _ _ (exec (Stmt.While _ _ _ _) _) _ _ _)); (fail_if_success (with_reducible show wpAny _ _ (exec (Stmt.For _ _ _ _ _) _) _ _ _)); (fail_if_success (with_reducible show wpAny _ _ (exec (Stmt.Assign [Expr.Name _ _] (Expr.ListComp _ _ _ _) _) _) _ _ _)); (fail_if_success (with_reducible show wpAny _ _ (pyIter _) _ _ _)); (fail_if_success (with_reducible show wpAny _ _ (call (Value.type "range") _ _) _ _ _)); (fail_if_success (with_reducible show wpAny _ _ (call (Value.type "zip") _ _) _ _ _))); dsimp only; walk1))); (all_goals try dsimp only))
    rename Fr _ _ _ _ => F
    rename News _ _ _ _ => N
    refine wp_top (matches_P (X.keeps F.keep) (T.keeps F.keep) (News.isList N (by k_mem)) hip hol (News.isList N (by k_mem)) hig hgl fun h' tk st => ?_) rfl rfl rfl
    obtain ⟨F', N'⟩ := grown_of F N st
    clear F N
    rw [match_due hor, hgm]
    ((repeat' (first | (k_unfold; (try dsimp only)) | (((fail_if_success (with_reducible show wpAny _ _ (eval (Expr.ListComp _ _ _ _) _) _ _ _)); (fail_if_success (with_reducible show wpAny _ _ (exec (Stmt.While _ _ _ _) _) _ _ _)); (fail_if_success (with_reducible show wpAny _ _ (exec (Stmt.For _ _ _ _ _) _) _ _ _)); (fail_if_success (with_reducible show wpAny _ _ (exec (Stmt.Assign [Expr.Name _ _] (Expr.ListComp _ _ _ _) _) _) _ _ _)); (fail_if_success (with_reducible show wpAny _ _ (pyIter _) _ _ _)); (fail_if_success (with_reducible show wpAny _ _ (call (Value.type "range") _ _) _ _ _)); (fail_if_success (with_reducible show wpAny _ _ (call (Value.type "zip") _ _) _ _ _))); walk1) | (((fail_if_success (with_reducible show wpAny _ _ (eval (Expr.ListComp _ _ _ _) _) _ _ _)); (fail_if_success (with_reducible show wpAny _ _ (exec (Stmt.While _ _ _ _) _) _ _ _)); (fail_if_success (with_reducible show wpAny _ _ (exec (Stmt.For _ _ _ _ _) _) _ _ _)); (fail_if_success (with_reducible show wpAny _ _ (exec (Stmt.Assign [Expr.Name _ _] (Expr.ListComp _ _ _ _) _) _) _ _ _)); (fail_if_success (with_reducible show wpAny _ _ (pyIter _) _ _ _)); (fail_if_success (with_reducible show wpAny _ _ (call (Value.type "range") _ _) _ _ _)); (fail_if_success (with_reducible show wpAny _ _ (call (Value.type "zip") _ _) _ _ _))); dsimp only; walk1))); (all_goals try dsimp only))
    · rename (dueB oct raw != dueB oct raw) = true => hx
      simp at hx
    rename Fr _ _ _ _ => F
    rename News _ _ _ _ => N
    rename IntsAre (List.flatten _) _ => hw
    have hw : IntsAre _ (List.replicate 11 (63 : Int)) := hw
    refine wp_top (matches_P (X.keeps F.keep) (T.keeps F.keep) (News.isList N (by k_mem)) hw (by decide) (News.isList N (by k_mem)) hig hgl fun h' tk st => ?_) rfl rfl rfl
    obtain ⟨F', N'⟩ := grown_of F N st
    clear F N
    rw [match_any]
    ((repeat' (first | (k_unfold; (try dsimp only)) | (((fail_if_success (with_reducible show wpAny _ _ (eval (Expr.ListComp _ _ _ _) _) _ _ _)); (fail_if_success (with_reducible show wpAny _ _ (exec (Stmt.While _ _ _ _) _) _ _ _)); (fail_if_success (with_reducible show wpAny _ _ (exec (Stmt.For _ _ _ _ _) _) _ _ _)); (fail_if_success (with_reducible show wpAny _ _ (exec (Stmt.Assign [Expr.Name _ _] (Expr.ListComp _ _ _ _) _) _) _ _ _)); (fail_if_success (with_reducible show wpAny _ _ (pyIter _) _ _ _)); (fail_if_success (with_reducible show wpAny _ _ (call (Value.type "range") _ _) _ _ _)); (fail_if_success (with_reducible show wpAny _ _ (call (Value.type "zip") _ _) _ _ _))); walk1) | (((fail_if_success (with_reducible show wpAny _ _ (eval (Expr.ListComp _ _ _ _) _) _ _ _)); (fail_if_success (with_reducible show wpAny _ _ (exec (Stmt.While _ _ _ _) _) _ _ _)); (fail_if_success (with_reducible show wpAny _ _ (exec (Stmt.For _ _ _ _ _) _) _ _ _)); (fail_if_success (with_reducible show wpAny _ _ (exec (Stmt.Assign [Expr.Name _ _] (Expr.ListComp _ _ _ _) _) _) _ _ _)); (fail_if_success (with_reducible show wpAny _ _ (pyIter _) _ _ _)); (fail_if_success (with_reducible show wpAny _ _ (call (Value.type "range") _ _) _ _ _)); (fail_if_success (with_reducible show wpAny _ _ (call (Value.type "zip") _ _) _ _ _))); dsimp only; walk1))); (all_goals try dsimp only))
    rename Fr _ _ _ _ => F
    rename News _ _ _ _ => N
    refine wp_top (matches_P (X.keeps F.keep) (T.keeps F.keep) (News.isList N (by k_mem)) hig hgl (News.isList N (by k_mem)) hi R.len fun h' tk st => ?_) rfl rfl rfl
    obtain ⟨F', N'⟩ := grown_of F N st
    clear F N
    rw [match_self R.range hgm]
    ((repeat' (first | (k_unfold; (try dsimp only)) | (((fail_if_success (with_reducible show wpAny _ _ (eval (Expr.ListComp _ _ _ _) _) _ _ _)); (fail_if_success (with_reducible show wpAny _ _ (exec (Stmt.While _ _ _ _) _) _ _ _)); (fail_if_success (with_reducible show wpAny _ _ (exec (Stmt.For _ _ _ _ _) _) _ _ _)); (fail_if_success (with_reducible show wpAny _ _ (exec (Stmt.Assign [Expr.Name _ _] (Expr.ListComp _ _ _ _) _) _) _ _ _)); (fail_if_success (with_reducible show wpAny _ _ (pyIter _) _ _ _)); (fail_if_success (with_reducible show wpAny _ _ (call (Value.type "range") _ _) _ _ _)); (fail_if_success (with_reducible show wpAny _ _ (call (Value.type "zip") _ _) _ _ _))); walk1) | (((fail_if_success (with_reducible show wpAny _ _ (eval (Expr.ListComp _ _ _ _) _) _ _ _)); (fail_if_success (with_reducible show wpAny _ _ (exec (Stmt.While _ _ _ _) _) _ _ _)); (fail_if_success (with_reducible show wpAny _ _ (exec (Stmt.For _ _ _ _ _) _) _ _ _)); (fail_if_success (with_reducible show wpAny _ _ (exec (Stmt.Assign [Expr.Name _ _] (Expr.ListComp _ _ _ _) _) _) _ _ _)); (fail_if_success (with_reducible show wpAny _ _ (pyIter _) _ _ _)); (fail_if_success (with_reducible show wpAny _ _ (call (Value.type "range") _ _) _ _ _)); (fail_if_success (with_reducible show wpAny _ _ (call (Value.type "zip") _ _) _ _ _))); dsimp only; walk1))); (all_goals try dsimp only))
    rename Fr _ _ _ _ => F
    rename News _ _ _ _ => N
    exact hCC _ _ _ _ _ F (news_sub N (by kqd_sub)) ⟨rfl, rfl, _, withL_of _ _ ⟨rfl, rfl, trivial⟩⟩
  rintro _ h' tk m' _ F₁ N₁ ⟨rfl, rfl, m₀, rfl⟩
  clear F N hip hRel hpd hpd' hol hor hlp pa vsp np tx j oct
  ((repeat' (first | (k_unfold; (try dsimp only)) | (((((fail_if_success (with_reducible show wpAny _ _ (eval (Expr.ListComp _ _ _ _) _) _ _ _)); (fail_if_success (with_reducible show wpAny _ _ (exec (Stmt.While _ _ _ _) _) _ _ _)); (fail_if_success (with_reducible show wpAny _ _ (exec (Stmt.For _ _ _ _ _) _) _ _ _)); (fail_if_success (with_reducible show wpAny _ _ (exec (Stmt.Assign [Expr.Name _ _] (Expr.ListComp _ _ _ _) _) _) _ _ _)); (fail_if_success (with_reducible show wpAny _ _ (pyIter _) _ _ _)); (fail_if_success (with_reducible show wpAny _ _ (call (Value.type "range") _ _) _ _ _)); (fail_if_success (with_reducible show wpAny _ _ (call (Value.type "zip") _ _) _ _ _)))); (fail_if_success (with_reducible show wpAny _ _ (exec (Stmt.If _ _ _ _) _) _ _ _))); walk1) | (((((fail_if_success (with_reducible show wpAny _ _ (eval (Expr.ListComp _ _ _ _) _) _ _ _)); (fail_if_success (with_reducible show wpAny _ _ (exec (Stmt.While _ _ _ _) _) _ _ _)); (fail_if_success (with_reducible show wpAny _ _ (exec (Stmt.For _ _ _ _ _) _) _ _ _)); (fail_if_success (with_reducible show wpAny _ _ (exec (Stmt.Assign [Expr.Name _ _] (Expr.ListComp _ _ _ _) _) _) _ _ _)); (fail_if_success (with_reducible show wpAny _ _ (pyIter _) _ _ _)); (fail_if_success (with_reducible show wpAny _ _ (call (Value.type "range") _ _) _ _ _)); (fail_if_success (with_reducible show wpAny _ _ (call (Value.type "zip") _ _) _ _ _)))); (fail_if_success (with_reducible show wpAny _ _ (exec (Stmt.If _ _ _ _) _) _ _ _))); dsimp only; walk1))); (all_goals try dsimp only))
  rename Fr _ _ _ _ => F
  rename News _ _ _ _ => N
  refine cut_cell F N (fun f m' n₂ => f = .next ∧ n₂ = [(ga, listOf (List.toArray vsg) ng), (d, o₂)] ∧ ∃ (m₀ : Str → Option Value), m' = withL [(Str.ofString "flagged", .ref ga)] m₀) (fun CC hCC => ?_) ?_
  · ((repeat' (first | (k_unfold; (try dsimp only)) | (((fail_if_success (with_reducible show wpAny _ _ (eval (Expr.ListComp _ _ _ _) _) _ _ _)); (fail_if_success (with_reducible show wpAny _ _ (exec (Stmt.While _ _ _ _) _) _ _ _)); (fail_if_success (with_reducible show wpAny _ _ (exec (Stmt.For _ _ _ _ _) _) _ _ _)); (fail_if_success (with_reducible show wpAny _ _ (exec (Stmt.Assign [Expr.Name _ _] (Expr.ListComp _ _ _ _) _) _) _ _ _)); (fail_if_success (with_reducible show wpAny _ _ (pyIter _) _ _ _)); (fail_if_success (with_reducible show wpAny _ _ (call (Value.type "range") _ _) _ _ _)); (fail_if_success (with_reducible show wpAny _ _ (call (Value.type "zip") _ _) _ _ _))); walk1) | (((fail_if_success (with_reducible show wpAny _ _ (eval (Expr.ListComp _ _ _ _) _) _ _ _)); (fail_if_success (with_reducible show wpAny _ _ (exec (Stmt.While _ _ _ _) _) _ _ _)); (fail_if_success (with_reducible show wpAny _ _ (exec (Stmt.For _ _ _ _ _) _) _ _ _)); (fail_if_success (with_reducible show wpAny _ _ (exec (Stmt.Assign [Expr.Name _ _] (Expr.ListComp _ _ _ _) _) _) _ _ _)); (fail_if_success (with_reducible show wpAny _ _ (pyIter _) _ _ _)); (fail_if_success (with_reducible show wpAny _ _ (call (Value.type "range") _ _) _ _ _)); (fail_if_success (with_reducible show wpAny _ _ (call (Value.type "zip") _ _) _ _ _))); dsimp only; walk1))); (all_goals try dsimp only))
    rename Fr _ _ _ _ => F
    rename News _ _ _ _ => N
    refine wp_top (show_name_P (X.keeps F.keep) (T.keeps F.keep) (News.isList N (by k_mem)) hig hgl fun h' t' tk st => ?_) rfl rfl rfl
    obtain ⟨F', N'⟩ := grown_of F N st
    clear F N
    ((repeat' (first | (k_unfold; (try dsimp only)) | (((fail_if_success (with_reducible show wpAny _ _ (eval (Expr.ListComp _ _ _ _) _) _ _ _)); (fail_if_success (with_reducible show wpAny _ _ (exec (Stmt.While _ _ _ _) _) _ _ _)); (fail_if_success (with_reducible show wpAny _ _ (exec (Stmt.For _ _ _ _ _) _) _ _ _)); (fail_if_success (with_reducible show wpAny _ _ (exec (Stmt.Assign [Expr.Name _ _] (Expr.ListComp _ _ _ _) _) _) _ _ _)); (fail_if_success (with_reducible show wpAny _ _ (pyIter _) _ _ _)); (fail_if_success (with_reducible show wpAny _ _ (call (Value.type "range") _ _) _ _ _)); (fail_if_success (with_reducible show wpAny _ _ (call (Value.type "zip") _ _) _ _ _))); walk1) | (((fail_if_success (with_reducible show wpAny _ _ (eval (Expr.ListComp _ _ _ _) _) _ _ _)); (fail_if_success (with_reducible show wpAny _ _ (exec (Stmt.While _ _ _ _) _) _ _ _)); (fail_if_success (with_reducible show wpAny _ _ (exec (Stmt.For _ _ _ _ _) _) _ _ _)); (fail_if_success (with_reducible show wpAny _ _ (exec (Stmt.Assign [Expr.Name _ _] (Expr.ListComp _ _ _ _) _) _) _ _ _)); (fail_if_success (with_reducible show wpAny _ _ (pyIter _) _ _ _)); (fail_if_success (with_reducible show wpAny _ _ (call (Value.type "range") _ _) _ _ _)); (fail_if_success (with_reducible show wpAny _ _ (call (Value.type "zip") _ _) _ _ _))); dsimp only; walk1))); (all_goals try dsimp only))
    rename Fr _ _ _ _ => F
    rename News _ _ _ _ => N
    refine wp_top (parse_name_P (X.keeps F.keep) (T.keeps F.keep) (showName_size gl hgl) fun l₁ vs₁ n₁ h₁ tk₁ st₁ hD₁ hl₁ hi₁ => ?_) rfl rfl rfl
    obtain ⟨F', N'⟩ := grown_of F N st₁
    have N' := news_fresh F N' hD₁ hl₁
    clear F N
    rw [show_parse R hgm] at hi₁
    have hl₁v := hi₁.length
    rw [R.len] at hl₁v
    ((repeat' (first | (k_unfold; (try dsimp only)) | (((fail_if_success (with_reducible show wpAny _ _ (eval (Expr.ListComp _ _ _ _) _) _ _ _)); (fail_if_success (with_reducible show wpAny _ _ (exec (Stmt.While _ _ _ _) _) _ _ _)); (fail_if_success (with_reducible show wpAny _ _ (exec (Stmt.For _ _ _ _ _) _) _ _ _)); (fail_if_success (with_reducible show wpAny _ _ (exec (Stmt.Assign [Expr.Name _ _] (Expr.ListComp _ _ _ _) _) _) _ _ _)); (fail_if_success (with_reducible show wpAny _ _ (pyIter _) _ _ _)); (fail_if_success (with_reducible show wpAny _ _ (call (Value.type "range") _ _) _ _ _)); (fail_if_success (with_reducible show wpAny _ _ (call (Value.type "zip") _ _) _ _ _))); walk1) | (((fail_if_success (with_reducible show wpAny _ _ (eval (Expr.ListComp _ _ _ _) _) _ _ _)); (fail_if_success (with_reducible show wpAny _ _ (exec (Stmt.While _ _ _ _) _) _ _ _)); (fail_if_success (with_reducible show wpAny _ _ (exec (Stmt.For _ _ _ _ _) _) _ _ _)); (fail_if_success (with_reducible show wpAny _ _ (exec (Stmt.Assign [Expr.Name _ _] (Expr.ListComp _ _ _ _) _) _) _ _ _)); (fail_if_success (with_reducible show wpAny _ _ (pyIter _) _ _ _)); (fail_if_success (with_reducible show wpAny _ _ (call (Value.type "range") _ _) _ _ _)); (fail_if_success (with_reducible show wpAny _ _ (call (Value.type "zip") _ _) _ _ _))); dsimp only; walk1))); (all_goals try dsimp only))
    rename Fr _ _ _ _ => F
    rename News _ _ _ _ => N
    refine wp_top (is_plain_P (X.keeps F.keep) (T.keeps F.keep) (News.isList N (by k_mem)) hig hgl fun h' tk st => ?_) rfl rfl rfl
    obtain ⟨F', N'⟩ := grown_of F N st
    clear F N
    rw [R.plain hgm]
    ((repeat' (first | (k_unfold; (try dsimp only)) | (((fail_if_success (with_reducible show wpAny _ _ (eval (Expr.ListComp _ _ _ _) _) _ _ _)); (fail_if_success (with_reducible show wpAny _ _ (exec (Stmt.While _ _ _ _) _) _ _ _)); (fail_if_success (with_reducible show wpAny _ _ (exec (Stmt.For _ _ _ _ _) _) _ _ _)); (fail_if_success (with_reducible show wpAny _ _ (exec (Stmt.Assign [Expr.Name _ _] (Expr.ListComp _ _ _ _) _) _) _ _ _)); (fail_if_success (with_reducible show wpAny _ _ (pyIter _) _ _ _)); (fail_if_success (with_reducible show wpAny _ _ (call (Value.type "range") _ _) _ _ _)); (fail_if_success (with_reducible show wpAny _ _ (call (Value.type "zip") _ _) _ _ _))); walk1) | (((fail_if_success (with_reducible show wpAny _ _ (eval (Expr.ListComp _ _ _ _) _) _ _ _)); (fail_if_success (with_reducible show wpAny _ _ (exec (Stmt.While _ _ _ _) _) _ _ _)); (fail_if_success (with_reducible show wpAny _ _ (exec (Stmt.For _ _ _ _ _) _) _ _ _)); (fail_if_success (with_reducible show wpAny _ _ (exec (Stmt.Assign [Expr.Name _ _] (Expr.ListComp _ _ _ _) _) _) _ _ _)); (fail_if_success (with_reducible show wpAny _ _ (pyIter _) _ _ _)); (fail_if_success (with_reducible show wpAny _ _ (call (Value.type "range") _ _) _ _ _)); (fail_if_success (with_reducible show wpAny _ _ (call (Value.type "zip") _ _) _ _ _))); dsimp only; walk1))); (all_goals try dsimp only))
    rename Fr _ _ _ _ => F
    rename News _ _ _ _ => N
    exact hCC _ _ _ _ _ F (news_sub N (by kqd_sub)) ⟨rfl, rfl, _, withL_of _ _ ⟨rfl, trivial⟩⟩
  rintro _ h' tk m' _ F₁ N₁ ⟨rfl, rfl, m₀, rfl⟩
  clear F N
  ((repeat' (first | (k_unfold; (try dsimp only)) | (((((((fail_if_success (with_reducible show wpAny _ _ (eval (Expr.ListComp _ _ _ _) _) _ _ _)); (fail_if_success (with_reducible show wpAny _ _ (exec (Stmt.While _ _ _ _) _) _ _ _)); (fail_if_success (with_reducible show wpAny _ _ (exec (Stmt.For _ _ _ _ _) _) _ _ _)); (fail_if_success (with_reducible show wpAny _ _ (exec (Stmt.Assign [Expr.Name _ _] (Expr.ListComp _ _ _ _) _) _) _ _ _)); (fail_if_success (with_reducible show wpAny _ _ (pyIter _) _ _ _)); (fail_if_success (with_reducible show wpAny _ _ (call (Value.type "range") _ _) _ _ _)); (fail_if_success (with_reducible show wpAny _ _ (call (Value.type "zip") _ _) _ _ _)))); (fail_if_success (with_reducible show wpAny _ _ (exec (Stmt.If _ _ _ _) _) _ _ _)))); (fail_if_success (with_reducible show wpAny _ _ (exec (Stmt.Assign _ _ _) _) _ _ _))); walk1) | (((((((fail_if_success (with_reducible show wpAny _ _ (eval (Expr.ListComp _ _ _ _) _) _ _ _)); (fail_if_success (with_reducible show wpAny _ _ (exec (Stmt.While _ _ _ _) _) _ _ _)); (fail_if_success (with_reducible show wpAny _ _ (exec (Stmt.For _ _ _ _ _) _) _ _ _)); (fail_if_success (with_reducible show wpAny _ _ (exec (Stmt.Assign [Expr.Name _ _] (Expr.ListComp _ _ _ _) _) _) _ _ _)); (fail_if_success (with_reducible show wpAny _ _ (pyIter _) _ _ _)); (fail_if_success (with_reducible show wpAny _ _ (call (Value.type "range") _ _) _ _ _)); (fail_if_success (with_reducible show wpAny _ _ (call (Value.type "zip") _ _) _ _ _)))); (fail_if_success (with_reducible show wpAny _ _ (exec (Stmt.If _ _ _ _) _) _ _ _)))); (fail_if_success (with_reducible show wpAny _ _ (exec (Stmt.Assign _ _ _) _) _ _ _))); dsimp only; walk1))); (all_goals try dsimp only))
  rename Fr _ _ _ _ => F
  rename News _ _ _ _ => N
  refine cut_cell F N (fun f m' n₂ => f = .next ∧ ∃ (oa : Addr) (vso : List Value) (no : Nat) (m₀ : Str → Option Value), n₂ = [(oa, listOf (List.toArray vso) no), (ga, listOf (List.toArray vsg) ng), (d, o₂)] ∧ oa ≠ d ∧ oa ≠ ga ∧ IntsAre vso gl ∧ m' = withL [(Str.ofString "odd", .ref oa), (Str.ofString "flagged", .ref ga)] m₀) (fun CC hCC => ?_) ?_
  · ((repeat' (first | (k_unfold; (try dsimp only)) | (((fail_if_success (with_reducible show wpAny _ _ (eval (Expr.ListComp _ _ _ _) _) _ _ _)); (fail_if_success (with_reducible show wpAny _ _ (exec (Stmt.While _ _ _ _) _) _ _ _)); (fail_if_success (with_reducible show wpAny _ _ (exec (Stmt.For _ _ _ _ _) _) _ _ _)); (fail_if_success (with_reducible show wpAny _ _ (exec (Stmt.Assign [Expr.Name _ _] (Expr.ListComp _ _ _ _) _) _) _ _ _)); (fail_if_success (with_reducible show wpAny _ _ (pyIter _) _ _ _)); (fail_if_success (with_reducible show wpAny _ _ (call (Value.type "range") _ _) _ _ _)); (fail_if_success (with_reducible show wpAny _ _ (call (Value.type "zip") _ _) _ _ _))); walk1) | (((fail_if_success (with_reducible show wpAny _ _ (eval (Expr.ListComp _ _ _ _) _) _ _ _)); (fail_if_success (with_reducible show wpAny _ _ (exec (Stmt.While _ _ _ _) _) _ _ _)); (fail_if_success (with_reducible show wpAny _ _ (exec (Stmt.For _ _ _ _ _) _) _ _ _)); (fail_if_success (with_reducible show wpAny _ _ (exec (Stmt.Assign [Expr.Name _ _] (Expr.ListComp _ _ _ _) _) _) _ _ _)); (fail_if_success (with_reducible show wpAny _ _ (pyIter _) _ _ _)); (fail_if_success (with_reducible show wpAny _ _ (call (Value.type "range") _ _) _ _ _)); (fail_if_success (with_reducible show wpAny _ _ (call (Value.type "zip") _ _) _ _ _))); dsimp only; walk1))); (all_goals try dsimp only))
    rename Fr _ _ _ _ => F
    rename News _ _ _ _ => N
    rename IntsAre _ gl => hio
    rename _ < _ ∧ _ => hl1
    exact hCC _ _ _ _ _ F (news_sub N (by kqd_sub)) ⟨rfl, _, _, _, _, rfl, Nat.ne_of_gt hl1.2.2, Nat.ne_of_gt hl1.2.1, hio, withL_of _ _ ⟨rfl, rfl, trivial⟩⟩
  rintro _ h' tk m' _ F₁ N₁ ⟨rfl, oa, vso, no, m₀, rfl, hod, hog, hio, rfl⟩
  clear F N
  have hod' := neN hod
  have hog' := neN hog
  have hlo := hio.length
  have hco := ne_cell hcell N₁ (.head _) (.tail _ (.head _))
  ((repeat' (first | (k_unfold; (try dsimp only)) | (((((((fail_if_success (with_reducible show wpAny _ _ (eval (Expr.ListComp _ _ _ _) _) _ _ _)); (fail_if_success (with_reducible show wpAny _ _ (exec (Stmt.While _ _ _ _) _) _ _ _)); (fail_if_success (with_reducible show wpAny _ _ (exec (Stmt.For _ _ _ _ _) _) _ _ _)); (fail_if_success (with_reducible show wpAny _ _ (exec (Stmt.Assign [Expr.Name _ _] (Expr.ListComp _ _ _ _) _) _) _ _ _)); (fail_if_success (with_reducible show wpAny _ _ (pyIter _) _ _ _)); (fail_if_success (with_reducible show wpAny _ _ (call (Value.type "range") _ _) _ _ _)); (fail_if_success (with_reducible show wpAny _ _ (call (Value.type "zip") _ _) _ _ _)))); (fail_if_success (with_reducible show wpAny _ _ (exec (Stmt.If _ _ _ _) _) _ _ _)))); (fail_if_success (with_reducible show wpAny _ _ (exec (Stmt.Assign _ _ _) _) _ _ _))); walk1) | (((((((fail_if_success (with_reducible show wpAny _ _ (eval (Expr.ListComp _ _ _ _) _) _ _ _)); (fail_if_success (with_reducible show wpAny _ _ (exec (Stmt.While _ _ _ _) _) _ _ _)); (fail_if_success (with_reducible show wpAny _ _ (exec (Stmt.For _ _ _ _ _) _) _ _ _)); (fail_if_success (with_reducible show wpAny _ _ (exec (Stmt.Assign [Expr.Name _ _] (Expr.ListComp _ _ _ _) _) _) _ _ _)); (fail_if_success (with_reducible show wpAny _ _ (pyIter _) _ _ _)); (fail_if_success (with_reducible show wpAny _ _ (call (Value.type "range") _ _) _ _ _)); (fail_if_success (with_reducible show wpAny _ _ (call (Value.type "zip") _ _) _ _ _)))); (fail_if_success (with_reducible show wpAny _ _ (exec (Stmt.If _ _ _ _) _) _ _ _)))); (fail_if_success (with_reducible show wpAny _ _ (exec (Stmt.Assign _ _ _) _) _ _ _))); dsimp only; walk1))); (all_goals try dsimp only))
  rename Fr _ _ _ _ => F
  rename News _ _ _ _ => N
  refine cut_cell F N (fun f m' n₂ => f = .next ∧ ∃ (o₃ : Obj) (vso : List Value) (no : Nat) (od : List Int) (m₀ : Str → Option Value), n₂ = [(oa, listOf (List.toArray vso) no), (ga, listOf (List.toArray vsg) ng), (d, o₃)] ∧ DealO b₀ o₃ ∧ IntsAre vso od ∧ od.length = 11 ∧ (decide (od.getD 0 0 % 128 ≠ 32) && (od.map plainSign).all id) = false ∧ m' = withL [(Str.ofString "odd", .ref oa), (Str.ofString "flagged", .ref ga)] m₀) (fun CC hCC => ?_) ?_
  · ((repeat' (first | (k_unfold; (try dsimp only)) | (((fail_if_success (with_reducible show wpAny _ _ (eval (Expr.ListComp _ _ _ _) _) _ _ _)); (fail_if_success (with_reducible show wpAny _ _ (exec (Stmt.While _ _ _ _) _) _ _ _)); (fail_if_success (with_reducible show wpAny _ _ (exec (Stmt.For _ _ _ _ _) _) _ _ _)); (fail_if_success (with_reducible show wpAny _ _ (exec (Stmt.Assign [Expr.Name _ _] (Expr.ListComp _ _ _ _) _) _) _ _ _)); (fail_if_success (with_reducible show wpAny _ _ (pyIter _) _ _ _)); (fail_if_success (with_reducible show wpAny _ _ (call (Value.type "range") _ _) _ _ _)); (fail_if_success (with_reducible show wpAny _ _ (call (Value.type "zip") _ _) _ _ _))); walk1) | (((fail_if_success (with_reducible show wpAny _ _ (eval (Expr.ListComp _ _ _ _) _) _ _ _)); (fail_if_success (with_reducible show wpAny _ _ (exec (Stmt.While _ _ _ _) _) _ _ _)); (fail_if_success (with_reducible show wpAny _ _ (exec (Stmt.For _ _ _ _ _) _) _ _ _)); (fail_if_success (with_reducible show wpAny _ _ (exec (Stmt.Assign [Expr.Name _ _] (Expr.ListComp _ _ _ _) _) _) _ _ _)); (fail_if_success (with_reducible show wpAny _ _ (pyIter _) _ _ _)); (fail_if_success (with_reducible show wpAny _ _ (call (Value.type "range") _ _) _ _ _)); (fail_if_success (with_reducible show wpAny _ _ (call (Value.type "zip") _ _) _ _ _))); dsimp only; walk1))); (all_goals try dsimp only))
    ((try (k_unmd; k_fold)); refine' ListComp_ct (cl := _) [] ?hc_262 ?h1_262 ?h2_262 ?h3_262 ?_ ?hs_262; (case hc_262 => exact rfl); (case h1_262 => decide); (case h2_262 => exact rfl); (case h3_262 => decide); (case hs_262 => intro _; exact rfl))
    ((repeat' (first | (k_unfold; (try dsimp only)) | (((fail_if_success (with_reducible show wpAny _ _ (eval (Expr.ListComp _ _ _ _) _) _ _ _)); (fail_if_success (with_reducible show wpAny _ _ (exec (Stmt.While _ _ _ _) _) _ _ _)); (fail_if_success (with_reducible show wpAny _ _ (exec (Stmt.For _ _ _ _ _) _) _ _ _)); (fail_if_success (with_reducible show wpAny _ _ (exec (Stmt.Assign [Expr.Name _ _] (Expr.ListComp _ _ _ _) _) _) _ _ _)); (fail_if_success (with_reducible show wpAny _ _ (pyIter _) _ _ _)); (fail_if_success (with_reducible show wpAny _ _ (call (Value.type "range") _ _) _ _ _)); (fail_if_success (with_reducible show wpAny _ _ (call (Value.type "zip") _ _) _ _ _))); walk1) | (((fail_if_success (with_reducible show wpAny _ _ (eval (Expr.ListComp _ _ _ _) _) _ _ _)); (fail_if_success (with_reducible show wpAny _ _ (exec (Stmt.While _ _ _ _) _) _ _ _)); (fail_if_success (with_reducible show wpAny _ _ (exec (Stmt.For _ _ _ _ _) _) _ _ _)); (fail_if_success (with_reducible show wpAny _ _ (exec (Stmt.Assign [Expr.Name _ _] (Expr.ListComp _ _ _ _) _) _) _ _ _)); (fail_if_success (with_reducible show wpAny _ _ (pyIter _) _ _ _)); (fail_if_success (with_reducible show wpAny _ _ (call (Value.type "range") _ _) _ _ _)); (fail_if_success (with_reducible show wpAny _ _ (call (Value.type "zip") _ _) _ _ _))); dsimp only; walk1))); (all_goals try dsimp only))
    rename Fr _ _ _ _ => F
    rename News _ _ _ _ => N
    refine core_pure (T := fun Q => wpAny _ _ (pyIter (.str _ _)) Q _ _) (P := fun i v => SignAt (Str.ofString "<>.,;:=?*[]") i v) (src_str rfl) (by rw [sizeLine_eq, lit_odd]; decide) rfl rfl (fun (i : Nat) (y : Value) => ∃ t, y = Value.int ((([60, 62, 46, 44, 59, 58, 61, 63, 42, 91, 93] : List Nat).getD i 0 : Nat) : Int) t) ?_ fun h₂ tk wr st hs hwr => fin_E F N ?_ h₂ tk wr st hs hwr
    · rintro C k v h₃ tk m' hC hk ⟨c, u, hcu, rfl⟩ st F₃ N₃
      have X₃ := X.keeps fun b o e => st b o (F.keep b o e)
      have T₃ := T.keeps fun b o e => st b o (F.keep b o e)
      clear F N
      k_unmd; k_fold
      dsimp only [compEnvC]
      ((repeat' (first | (k_unfold; (try dsimp only)) | (((fail_if_success (with_reducible show wpAny _ _ (eval (Expr.ListComp _ _ _ _) _) _ _ _)); (fail_if_success (with_reducible show wpAny _ _ (exec (Stmt.While _ _ _ _) _) _ _ _)); (fail_if_success (with_reducible show wpAny _ _ (exec (Stmt.For _ _ _ _ _) _) _ _ _)); (fail_if_success (with_reducible show wpAny _ _ (exec (Stmt.Assign [Expr.Name _ _] (Expr.ListComp _ _ _ _) _) _) _ _ _)); (fail_if_success (with_reducible show wpAny _ _ (pyIter _) _ _ _)); (fail_if_success (with_reducible show wpAny _ _ (call (Value.type "range") _ _) _ _ _)); (fail_if_success (with_reducible show wpAny _ _ (call (Value.type "zip") _ _) _ _ _))); walk1) | (((fail_if_success (with_reducible show wpAny _ _ (eval (Expr.ListComp _ _ _ _) _) _ _ _)); (fail_if_success (with_reducible show wpAny _ _ (exec (Stmt.While _ _ _ _) _) _ _ _)); (fail_if_success (with_reducible show wpAny _ _ (exec (Stmt.For _ _ _ _ _) _) _ _ _)); (fail_if_success (with_reducible show wpAny _ _ (exec (Stmt.Assign [Expr.Name _ _] (Expr.ListComp _ _ _ _) _) _) _ _ _)); (fail_if_success (with_reducible show wpAny _ _ (pyIter _) _ _ _)); (fail_if_success (with_reducible show wpAny _ _ (call (Value.type "range") _ _) _ _ _)); (fail_if_success (with_reducible show wpAny _ _ (call (Value.type "zip") _ _) _ _ _))); dsimp only; walk1))); (all_goals try dsimp only))
      rename Fr _ _ _ _ => F'
      have hg : ([60, 62, 46, 44, 59, 58, 61, 63, 42, 91, 93] : List Nat)[k]? = some c := by rw [lit_odd] at hcu; simpa [mkS] using hcu
      exact ⟨⟨⟨_, by rw [List.getD_eq_getElem?_getD, hg]; rfl⟩, EltEnd.mk F'⟩⟩
    · intro D h' tk ys kk hlen' hR F' N' hlt hD
      have hys : IntsAre ys (([60, 62, 46, 44, 59, 58, 61, 63, 42, 91, 93] : List Nat).map (fun c : Nat => (c : Int))) := ints_row (by rw [hlen', lit_odd]; simp [mkS]) hR
      have hys : IntsAre ys ([60, 62, 46, 44, 59, 58, 61, 63, 42, 91, 93] : List Int) := hys
      have hyl := hys.length
      have hdD := neN (Nat.ne_of_gt (Nat.lt_of_lt_of_le (Heap.lt_size (News.get N (by k_mem) : _ = some o₂)) hD))
      have hdo := neN (Nat.ne_of_gt hlt.2.1)
      clear F N
      ((repeat' (first | (k_unfold; (try dsimp only)) | (((fail_if_success (with_reducible show wpAny _ _ (eval (Expr.ListComp _ _ _ _) _) _ _ _)); (fail_if_success (with_reducible show wpAny _ _ (exec (Stmt.While _ _ _ _) _) _ _ _)); (fail_if_success (with_reducible show wpAny _ _ (exec (Stmt.For _ _ _ _ _) _) _ _ _)); (fail_if_success (with_reducible show wpAny _ _ (exec (Stmt.Assign [Expr.Name _ _] (Expr.ListComp _ _ _ _) _) _) _ _ _)); (fail_if_success (with_reducible show wpAny _ _ (pyIter _) _ _ _)); (fail_if_success (with_reducible show wpAny _ _ (call (Value.type "range") _ _) _ _ _)); (fail_if_success (with_reducible show wpAny _ _ (call (Value.type "zip") _ _) _ _ _))); walk1) | (((fail_if_success (with_reducible show wpAny _ _ (eval (Expr.ListComp _ _ _ _) _) _ _ _)); (fail_if_success (with_reducible show wpAny _ _ (exec (Stmt.While _ _ _ _) _) _ _ _)); (fail_if_success (with_reducible show wpAny _ _ (exec (Stmt.For _ _ _ _ _) _) _ _ _)); (fail_if_success (with_reducible show wpAny _ _ (exec (Stmt.Assign [Expr.Name _ _] (Expr.ListComp _ _ _ _) _) _) _ _ _)); (fail_if_success (with_reducible show wpAny _ _ (pyIter _) _ _ _)); (fail_if_success (with_reducible show wpAny _ _ (call (Value.type "range") _ _) _ _ _)); (fail_if_success (with_reducible show wpAny _ _ (call (Value.type "zip") _ _) _ _ _))); dsimp only; walk1))); (all_goals try dsimp only))
      rename Fr _ _ _ _ => F
      rename News _ _ _ _ => N
      refine take_F F N X T (by k_updF) hb D₂ rfl rfl rfl (by decide) (by decide) fun r t' h' tk o₃ r0 r1 F' N' D₃ => ?_
      clear F N
      ((repeat' (first | (k_unfold; (try dsimp only)) | (((fail_if_success (with_reducible show wpAny _ _ (eval (Expr.ListComp _ _ _ _) _) _ _ _)); (fail_if_success (with_reducible show wpAny _ _ (exec (Stmt.While _ _ _ _) _) _ _ _)); (fail_if_success (with_reducible show wpAny _ _ (exec (Stmt.For _ _ _ _ _) _) _ _ _)); (fail_if_success (with_reducible show wpAny _ _ (exec (Stmt.Assign [Expr.Name _ _] (Expr.ListComp _ _ _ _) _) _) _ _ _)); (fail_if_success (with_reducible show wpAny _ _ (pyIter _) _ _ _)); (fail_if_success (with_reducible show wpAny _ _ (call (Value.type "range") _ _) _ _ _)); (fail_if_success (with_reducible show wpAny _ _ (call (Value.type "zip") _ _) _ _ _))); walk1) | (((fail_if_success (with_reducible show wpAny _ _ (eval (Expr.ListComp _ _ _ _) _) _ _ _)); (fail_if_success (with_reducible show wpAny _ _ (exec (Stmt.While _ _ _ _) _) _ _ _)); (fail_if_success (with_reducible show wpAny _ _ (exec (Stmt.For _ _ _ _ _) _) _ _ _)); (fail_if_success (with_reducible show wpAny _ _ (exec (Stmt.Assign [Expr.Name _ _] (Expr.ListComp _ _ _ _) _) _) _ _ _)); (fail_if_success (with_reducible show wpAny _ _ (pyIter _) _ _ _)); (fail_if_success (with_reducible show wpAny _ _ (call (Value.type "range") _ _) _ _ _)); (fail_if_success (with_reducible show wpAny _ _ (call (Value.type "zip") _ _) _ _ _))); dsimp only; walk1))); (all_goals try dsimp only))
      rename Fr _ _ _ _ => F
      rename News _ _ _ _ => N
      refine take_F F N X T (by k_updF) hb D₃ rfl rfl rfl (by decide) (by decide) fun b t' h' tk o₄ b0 b1 F' N' D₄ => ?_
      clear F N
      ((repeat' (first | (k_unfold; (try dsimp only)) | (((fail_if_success (with_reducible show wpAny _ _ (eval (Expr.ListComp _ _ _ _) _) _ _ _)); (fail_if_success (with_reducible show wpAny _ _ (exec (Stmt.While _ _ _ _) _) _ _ _)); (fail_if_success (with_reducible show wpAny _ _ (exec (Stmt.For _ _ _ _ _) _) _ _ _)); (fail_if_success (with_reducible show wpAny _ _ (exec (Stmt.Assign [Expr.Name _ _] (Expr.ListComp _ _ _ _) _) _) _ _ _)); (fail_if_success (with_reducible show wpAny _ _ (pyIter _) _ _ _)); (fail_if_success (with_reducible show wpAny _ _ (call (Value.type "range") _ _) _ _ _)); (fail_if_success (with_reducible show wpAny _ _ (call (Value.type "zip") _ _) _ _ _))); walk1) | (((fail_if_success (with_reducible show wpAny _ _ (eval (Expr.ListComp _ _ _ _) _) _ _ _)); (fail_if_success (with_reducible show wpAny _ _ (exec (Stmt.While _ _ _ _) _) _ _ _)); (fail_if_success (with_reducible show wpAny _ _ (exec (Stmt.For _ _ _ _ _) _) _ _ _)); (fail_if_success (with_reducible show wpAny _ _ (exec (Stmt.Assign [Expr.Name _ _] (Expr.ListComp _ _ _ _) _) _) _ _ _)); (fail_if_success (with_reducible show wpAny _ _ (pyIter _) _ _ _)); (fail_if_success (with_reducible show wpAny _ _ (call (Value.type "range") _ _) _ _ _)); (fail_if_success (with_reducible show wpAny _ _ (call (Value.type "zip") _ _) _ _ _))); dsimp only; walk1))); (all_goals try dsimp only))
      rename Fr _ _ _ _ => F
      rename News _ _ _ _ => N
      refine take_F F N X T (by k_updF) hb D₄ rfl rfl rfl (by decide) (by decide) fun i t' h' tk o₅ i0 i1 F' N' D₅ => ?_
      clear F N
      ((repeat' (first | (k_unfold; (try dsimp only)) | (((fail_if_success (with_reducible show wpAny _ _ (eval (Expr.ListComp _ _ _ _) _) _ _ _)); (fail_if_success (with_reducible show wpAny _ _ (exec (Stmt.While _ _ _ _) _) _ _ _)); (fail_if_success (with_reducible show wpAny _ _ (exec (Stmt.For _ _ _ _ _) _) _ _ _)); (fail_if_success (with_reducible show wpAny _ _ (exec (Stmt.Assign [Expr.Name _ _] (Expr.ListComp _ _ _ _) _) _) _ _ _)); (fail_if_success (with_reducible show wpAny _ _ (pyIter _) _ _ _)); (fail_if_success (with_reducible show wpAny _ _ (call (Value.type "range") _ _) _ _ _)); (fail_if_success (with_reducible show wpAny _ _ (call (Value.type "zip") _ _) _ _ _))); walk1) | (((fail_if_success (with_reducible show wpAny _ _ (eval (Expr.ListComp _ _ _ _) _) _ _ _)); (fail_if_success (with_reducible show wpAny _ _ (exec (Stmt.While _ _ _ _) _) _ _ _)); (fail_if_success (with_reducible show wpAny _ _ (exec (Stmt.For _ _ _ _ _) _) _ _ _)); (fail_if_success (with_reducible show wpAny _ _ (exec (Stmt.Assign [Expr.Name _ _] (Expr.ListComp _ _ _ _) _) _) _ _ _)); (fail_if_success (with_reducible show wpAny _ _ (pyIter _) _ _ _)); (fail_if_success (with_reducible show wpAny _ _ (call (Value.type "range") _ _) _ _ _)); (fail_if_success (with_reducible show wpAny _ _ (call (Value.type "zip") _ _) _ _ _))); dsimp only; walk1))); (all_goals try dsimp only))
      rename Fr _ _ _ _ => F
      rename News _ _ _ _ => N
      rename IntsAre _ (List.set _ _ _) => hset
      exact hCC _ _ _ _ _ F (news_sub N (by kqd_sub)) ⟨rfl, _, _, _, _, _, rfl, D₅, hset, by rw [List.length_set]; exact hgl, odd_bad (by omega) (odd_item r0 r1 b0 b1), withL_of _ _ ⟨rfl, rfl, trivial⟩⟩
  rintro _ h' tk m' _ F₁ N₁ ⟨rfl, o₃, vso, no, od, m₀, rfl, D₃, hio, hdl, hdb, rfl⟩
  clear F N hlo
  have hlo := hio.length
  ((repeat' (first | (k_unfold; (try dsimp only)) | (((fail_if_success (with_reducible show wpAny _ _ (eval (Expr.ListComp _ _ _ _) _) _ _ _)); (fail_if_success (with_reducible show wpAny _ _ (exec (Stmt.While _ _ _ _) _) _ _ _)); (fail_if_success (with_reducible show wpAny _ _ (exec (Stmt.For _ _ _ _ _) _) _ _ _)); (fail_if_success (with_reducible show wpAny _ _ (exec (Stmt.Assign [Expr.Name _ _] (Expr.ListComp _ _ _ _) _) _) _ _ _)); (fail_if_success (with_reducible show wpAny _ _ (pyIter _) _ _ _)); (fail_if_success (with_reducible show wpAny _ _ (call (Value.type "range") _ _) _ _ _)); (fail_if_success (with_reducible show wpAny _ _ (call (Value.type "zip") _ _) _ _ _))); walk1) | (((fail_if_success (with_reducible show wpAny _ _ (eval (Expr.ListComp _ _ _ _) _) _ _ _)); (fail_if_success (with_reducible show wpAny _ _ (exec (Stmt.While _ _ _ _) _) _ _ _)); (fail_if_success (with_reducible show wpAny _ _ (exec (Stmt.For _ _ _ _ _) _) _ _ _)); (fail_if_success (with_reducible show wpAny _ _ (exec (Stmt.Assign [Expr.Name _ _] (Expr.ListComp _ _ _ _) _) _) _ _ _)); (fail_if_success (with_reducible show wpAny _ _ (pyIter _) _ _ _)); (fail_if_success (with_reducible show wpAny _ _ (call (Value.type "range") _ _) _ _ _)); (fail_if_success (with_reducible show wpAny _ _ (call (Value.type "zip") _ _) _ _ _))); dsimp only; walk1))); (all_goals try dsimp only))
  rename Fr _ _ _ _ => F
  rename News _ _ _ _ => N
  refine wp_top (is_plain_P (X.keeps F.keep) (T.keeps F.keep) (News.isList N (by k_mem)) hio hdl fun h' tk st => ?_) rfl rfl rfl
  obtain ⟨F', N'⟩ := grown_of F N st
  clear F N
  rw [hdb]
  ((repeat' (first | (k_unfold; (try dsimp only)) | (((fail_if_success (with_reducible show wpAny _ _ (eval (Expr.ListComp _ _ _ _) _) _ _ _)); (fail_if_success (with_reducible show wpAny _ _ (exec (Stmt.While _ _ _ _) _) _ _ _)); (fail_if_success (with_reducible show wpAny _ _ (exec (Stmt.For _ _ _ _ _) _) _ _ _)); (fail_if_success (with_reducible show wpAny _ _ (exec (Stmt.Assign [Expr.Name _ _] (Expr.ListComp _ _ _ _) _) _) _ _ _)); (fail_if_success (with_reducible show wpAny _ _ (pyIter _) _ _ _)); (fail_if_success (with_reducible show wpAny _ _ (call (Value.type "range") _ _) _ _ _)); (fail_if_success (with_reducible show wpAny _ _ (call (Value.type "zip") _ _) _ _ _))); walk1) | (((fail_if_success (with_reducible show wpAny _ _ (eval (Expr.ListComp _ _ _ _) _) _ _ _)); (fail_if_success (with_reducible show wpAny _ _ (exec (Stmt.While _ _ _ _) _) _ _ _)); (fail_if_success (with_reducible show wpAny _ _ (exec (Stmt.For _ _ _ _ _) _) _ _ _)); (fail_if_success (with_reducible show wpAny _ _ (exec (Stmt.Assign [Expr.Name _ _] (Expr.ListComp _ _ _ _) _) _) _ _ _)); (fail_if_success (with_reducible show wpAny _ _ (pyIter _) _ _ _)); (fail_if_success (with_reducible show wpAny _ _ (call (Value.type "range") _ _) _ _ _)); (fail_if_success (with_reducible show wpAny _ _ (call (Value.type "zip") _ _) _ _ _))); dsimp only; walk1))); (all_goals try dsimp only))
  rename Fr _ _ _ _ => F
  rename News _ _ _ _ => N
  rename IntsAre _ ([32] ++ _) => hw
  have hw : IntsAre _ (32 :: List.drop 1 gl) := hw
  refine wp_top (is_plain_P (X.keeps F.keep) (T.keeps F.keep) (News.isList N (by k_mem)) hw (by rw [List.length_cons, List.length_drop]; omega) fun h' tk st => ?_) rfl rfl rfl
  obtain ⟨F', N'⟩ := grown_of F N st
  clear F N
  rw [blank_bad]
  ((repeat' (first | (k_unfold; (try dsimp only)) | (((fail_if_success (with_reducible show wpAny _ _ (eval (Expr.ListComp _ _ _ _) _) _ _ _)); (fail_if_success (with_reducible show wpAny _ _ (exec (Stmt.While _ _ _ _) _) _ _ _)); (fail_if_success (with_reducible show wpAny _ _ (exec (Stmt.For _ _ _ _ _) _) _ _ _)); (fail_if_success (with_reducible show wpAny _ _ (exec (Stmt.Assign [Expr.Name _ _] (Expr.ListComp _ _ _ _) _) _) _ _ _)); (fail_if_success (with_reducible show wpAny _ _ (pyIter _) _ _ _)); (fail_if_success (with_reducible show wpAny _ _ (call (Value.type "range") _ _) _ _ _)); (fail_if_success (with_reducible show wpAny _ _ (call (Value.type "zip") _ _) _ _ _))); walk1) | (((fail_if_success (with_reducible show wpAny _ _ (eval (Expr.ListComp _ _ _ _) _) _ _ _)); (fail_if_success (with_reducible show wpAny _ _ (exec (Stmt.While _ _ _ _) _) _ _ _)); (fail_if_success (with_reducible show wpAny _ _ (exec (Stmt.For _ _ _ _ _) _) _ _ _)); (fail_if_success (with_reducible show wpAny _ _ (exec (Stmt.Assign [Expr.Name _ _] (Expr.ListComp _ _ _ _) _) _) _ _ _)); (fail_if_success (with_reducible show wpAny _ _ (pyIter _) _ _ _)); (fail_if_success (with_reducible show wpAny _ _ (call (Value.type "range") _ _) _ _ _)); (fail_if_success (with_reducible show wpAny _ _ (call (Value.type "zip") _ _) _ _ _))); dsimp only; walk1))); (all_goals try dsimp only))
  rename Fr _ _ _ _ => F
  rename News _ _ _ _ => N
  exact ret _ _ _ F.keep (News.get N (by k_mem)) D₃
end
end
theorem off_D8 : True := by
  w_top off
  trivial
section
/-- the heap that holds one list at nu and nothing else -/
def single (nu : Nat) (vs : Array Value) (n : Nat) : Heap := { objs := (Array.replicate nu ({ cls := .none, data := .freed } : Obj)).push (listOf vs n) }
theorem single_at (nu : Nat) (vs : Array Value) (n : Nat) : (single nu vs n).get? nu = some (listOf vs n) := by
  unfold single Heap.get?
  have e : ((Array.replicate nu ({ cls := .none, data := .freed } : Obj)).push (listOf vs n))[nu]? = some (listOf vs n) := by
    rw [Array.getElem?_push, if_pos (by simp)]
  dsimp only
  rw [show @getElem? (Array Obj) Addr _ _ _ ((Array.replicate nu ({ cls := .none, data := .freed } : Obj)).push (listOf vs n)) nu = some (listOf vs n) from e]
theorem single_other {nu b : Nat} {vs : Array Value} {n : Nat} (h : b ≠ nu) : (single nu vs n).get? b = none := by
  unfold single Heap.get?
  dsimp only
  have e : ((Array.replicate nu ({ cls := .none, data := .freed } : Obj)).push (listOf vs n))[b]? = if b < nu then some ({ cls := .none, data := .freed } : Obj) else none := by
    rw [Array.getElem?_push, if_neg (by simpa using h), Array.getElem?_replicate]
  rw [show @getElem? (Array Obj) Addr _ _ _ ((Array.replicate nu ({ cls := .none, data := .freed } : Obj)).push (listOf vs n)) b = _ from e]
  by_cases q : b < nu
  · rw [if_pos q]
  · rw [if_neg q]
theorem single_stays {h : Heap} {nu : Addr} {vs : Array Value} {n : Nat} (e : h.get? nu = some (listOf vs n)) : (single nu vs n).StaysIn h := by
  intro b o hb
  by_cases q : b = nu
  · subst q
    rw [single_at] at hb
    rw [e, hb]
  · have q' : @Ne Nat b nu := q
    rw [single_other q'] at hb
    cases hb
theorem single_list (nu : Addr) (vs : Array Value) (n : Nat) : (single nu vs n).IsList nu vs := ⟨_, single_at nu vs n, rfl, n, rfl⟩
section
variable {prog : Program} {w : World} {mean : ExcName → Option Value} {mg mb : Str → Option Value} {s : Shared} {Q E : Value → Shared → Prop} (X : (hd.heap_1 w.params).In s.heap) (T : Top qv (looseW qv []) mean mg mb s.heap)
include X T
theorem deal_P2 {l : Addr} {vs : List Value} {ns : List Int} (hl : s.heap.IsList l vs.toArray) (hi : IntsAre vs ns) (hlen : ns.length ≤ 63)
    (ret : ∀ d nu o ks n h' tk, s.heap.StaysIn h' → s.heap.get? d = none → s.heap.get? nu = none → nu ≠ d → h'.get? d = some o → h'.get? nu = some (listOf (List.toArray ks) n) → DealO (single nu ks.toArray n) o → Q (.ref d) { s with heap := h', toks := tk }) :
    wpAny (model prog w) (At 700 7000) (call (.ref 137) [.ref l]) Q E s := by
  (refine' enterC (g := _) (sub := _) ?k_273 ?sz_273 ?X_273 ?T_273 ?S_273 ?ho_273 ?hcd_273 ?hroom_273 ?hb_273 ?hloc_273 ?hcell_273 ?c1_273 ?c2_273 ?c3_273 ?_; (case k_273 => first | assumption | exact stays_refl _); (case X_273 => with_reducible assumption); (case sz_273 => first | assumption | exact Nat.le_refl _); (case T_273 => with_reducible assumption); (case S_273 => first | assumption | exact List.forall_mem_nil _); (case ho_273 => k_is); (case hcd_273 => k_is); (case hroom_273 => exact Nat.le_of_ble_eq_true rfl); (case hb_273 => exact BindsTo.of_eq rfl); (case hloc_273 => exact locs rfl); (case hcell_273 => decide); (case c1_273 => exact rfl); (case c2_273 => exact rfl); (case c3_273 => exact rfl); intro xL xh xF xN xl; (try dsimp only at xF); (try simp only [AllLt, and_true] at xl); (try dsimp only); k_fold)
  ((repeat' (first | (k_unfold; (try dsimp only)) | (((fail_if_success (with_reducible show wpAny _ _ (eval (Expr.ListComp _ _ _ _) _) _ _ _)); (fail_if_success (with_reducible show wpAny _ _ (exec (Stmt.While _ _ _ _) _) _ _ _)); (fail_if_success (with_reducible show wpAny _ _ (exec (Stmt.For _ _ _ _ _) _) _ _ _)); (fail_if_success (with_reducible show wpAny _ _ (exec (Stmt.Assign [Expr.Name _ _] (Expr.ListComp _ _ _ _) _) _) _ _ _)); (fail_if_success (with_reducible show wpAny _ _ (pyIter _) _ _ _)); (fail_if_success (with_reducible show wpAny _ _ (call (Value.type "range") _ _) _ _ _)); (fail_if_success (with_reducible show wpAny _ _ (call (Value.type "zip") _ _) _ _ _))); walk1) | (((fail_if_success (with_reducible show wpAny _ _ (eval (Expr.ListComp _ _ _ _) _) _ _ _)); (fail_if_success (with_reducible show wpAny _ _ (exec (Stmt.While _ _ _ _) _) _ _ _)); (fail_if_success (with_reducible show wpAny _ _ (exec (Stmt.For _ _ _ _ _) _) _ _ _)); (fail_if_success (with_reducible show wpAny _ _ (exec (Stmt.Assign [Expr.Name _ _] (Expr.ListComp _ _ _ _) _) _) _ _ _)); (fail_if_success (with_reducible show wpAny _ _ (pyIter _) _ _ _)); (fail_if_success (with_reducible show wpAny _ _ (call (Value.type "range") _ _) _ _ _)); (fail_if_success (with_reducible show wpAny _ _ (call (Value.type "zip") _ _) _ _ _))); dsimp only; walk1))); (all_goals try dsimp only))
  ((try (k_unmd; k_fold)); refine' Assign_ListComp_ct (cl := _) [] ?hsw_275 ?hc_275 ?h1_275 ?h2_275 ?h3_275 ?hy_275 ?hp_275 ?_ ?hs_275; (case hsw_275 => exact rfl); (case hc_275 => exact rfl); (case h1_275 => decide); (case h2_275 => exact rfl); (case h3_275 => decide); (case hy_275 => exact rfl); (case hp_275 => exact rfl); (case hs_275 => intro _; exact rfl))
  have hlv := hi.length
  ((repeat' (first | (k_unfold; (try dsimp only)) | (((fail_if_success (with_reducible show wpAny _ _ (eval (Expr.ListComp _ _ _ _) _) _ _ _)); (fail_if_success (with_reducible show wpAny _ _ (exec (Stmt.While _ _ _ _) _) _ _ _)); (fail_if_success (with_reducible show wpAny _ _ (exec (Stmt.For _ _ _ _ _) _) _ _ _)); (fail_if_success (with_reducible show wpAny _ _ (exec (Stmt.Assign [Expr.Name _ _] (Expr.ListComp _ _ _ _) _) _) _ _ _)); (fail_if_success (with_reducible show wpAny _ _ (pyIter _) _ _ _)); (fail_if_success (with_reducible show wpAny _ _ (call (Value.type "range") _ _) _ _ _)); (fail_if_success (with_reducible show wpAny _ _ (call (Value.type "zip") _ _) _ _ _))); walk1) | (((fail_if_success (with_reducible show wpAny _ _ (eval (Expr.ListComp _ _ _ _) _) _ _ _)); (fail_if_success (with_reducible show wpAny _ _ (exec (Stmt.While _ _ _ _) _) _ _ _)); (fail_if_success (with_reducible show wpAny _ _ (exec (Stmt.For _ _ _ _ _) _) _ _ _)); (fail_if_success (with_reducible show wpAny _ _ (exec (Stmt.Assign [Expr.Name _ _] (Expr.ListComp _ _ _ _) _) _) _ _ _)); (fail_if_success (with_reducible show wpAny _ _ (pyIter _) _ _ _)); (fail_if_success (with_reducible show wpAny _ _ (call (Value.type "range") _ _) _ _ _)); (fail_if_success (with_reducible show wpAny _ _ (call (Value.type "zip") _ _) _ _ _))); dsimp only; walk1))); (all_goals try dsimp only))
  rename Fr _ _ _ _ => F
  rename News _ _ _ _ => N
  rename IntsAre _ (List.take 40 ns) => hj
  have hjl := hj.length
  refine core_pure (T := fun Q => wpAny _ _ (pyIter (.ref _)) Q _ _) (P := fun i v => _) (src_list rfl (News.isList N (.head _))) (by rw [sizeLine_eq]; omega) rfl rfl (fun (i : Nat) (y : Value) => ∃ x t, y = Value.int x t ∧ 0 ≤ x ∧ x < 1000003) ?_ fun h₂ tk wr st hs hwr => fin_A rfl F N ?_ h₂ tk wr st hs hwr
  · intro C k v h₃ tk m' hC hk hv st F₃ N₃
    obtain ⟨z, t, rfl, hz⟩ := hj.at k v hv
    have X₃ := X.keeps fun b o e => st b o (F.keep b o e)
    have T₃ := T.keeps fun b o e => st b o (F.keep b o e)
    clear F N
    k_unmd; k_fold
    dsimp only [compEnvC]
    ((repeat' (first | (k_unfold; (try dsimp only)) | (((fail_if_success (with_reducible show wpAny _ _ (eval (Expr.ListComp _ _ _ _) _) _ _ _)); (fail_if_success (with_reducible show wpAny _ _ (exec (Stmt.While _ _ _ _) _) _ _ _)); (fail_if_success (with_reducible show wpAny _ _ (exec (Stmt.For _ _ _ _ _) _) _ _ _)); (fail_if_success (with_reducible show wpAny _ _ (exec (Stmt.Assign [Expr.Name _ _] (Expr.ListComp _ _ _ _) _) _) _ _ _)); (fail_if_success (with_reducible show wpAny _ _ (pyIter _) _ _ _)); (fail_if_success (with_reducible show wpAny _ _ (call (Value.type "range") _ _) _ _ _)); (fail_if_success (with_reducible show wpAny _ _ (call (Value.type "zip") _ _) _ _ _))); walk1) | (((fail_if_success (with_reducible show wpAny _ _ (eval (Expr.ListComp _ _ _ _) _) _ _ _)); (fail_if_success (with_reducible show wpAny _ _ (exec (Stmt.While _ _ _ _) _) _ _ _)); (fail_if_success (with_reducible show wpAny _ _ (exec (Stmt.For _ _ _ _ _) _) _ _ _)); (fail_if_success (with_reducible show wpAny _ _ (exec (Stmt.Assign [Expr.Name _ _] (Expr.ListComp _ _ _ _) _) _) _ _ _)); (fail_if_success (with_reducible show wpAny _ _ (pyIter _) _ _ _)); (fail_if_success (with_reducible show wpAny _ _ (call (Value.type "range") _ _) _ _ _)); (fail_if_success (with_reducible show wpAny _ _ (call (Value.type "zip") _ _) _ _ _))); dsimp only; walk1))); (all_goals try dsimp only))
    rename Fr _ _ _ _ => F'
    refine ⟨⟨?_, EltEnd.mk F'⟩⟩
    refine ⟨_, _, rfl, ?_⟩
    rw [Int.fmod_eq_emod_of_nonneg _ (by decide)]
    exact ⟨Int.emod_nonneg _ (by decide), Int.emod_lt_of_pos _ (by decide)⟩
  · intro D h' tk ys kk hlen' hR F' N' _ hD
    clear F N
    have hys : ∃ ks, IntsAre ys ks ∧ ks.length = ys.length ∧ ∀ x ∈ ks, 0 ≤ x ∧ x < 1000003 := ints_ex (P := fun x => 0 ≤ x ∧ x < 1000003) hR
    obtain ⟨ks, hks, hkl, hkr⟩ := hys
    ((repeat' (first | (k_unfold; (try dsimp only)) | (((fail_if_success (with_reducible show wpAny _ _ (eval (Expr.ListComp _ _ _ _) _) _ _ _)); (fail_if_success (with_reducible show wpAny _ _ (exec (Stmt.While _ _ _ _) _) _ _ _)); (fail_if_success (with_reducible show wpAny _ _ (exec (Stmt.For _ _ _ _ _) _) _ _ _)); (fail_if_success (with_reducible show wpAny _ _ (exec (Stmt.Assign [Expr.Name _ _] (Expr.ListComp _ _ _ _) _) _) _ _ _)); (fail_if_success (with_reducible show wpAny _ _ (pyIter _) _ _ _)); (fail_if_success (with_reducible show wpAny _ _ (call (Value.type "range") _ _) _ _ _)); (fail_if_success (with_reducible show wpAny _ _ (call (Value.type "zip") _ _) _ _ _))); walk1) | (((fail_if_success (with_reducible show wpAny _ _ (eval (Expr.ListComp _ _ _ _) _) _ _ _)); (fail_if_success (with_reducible show wpAny _ _ (exec (Stmt.While _ _ _ _) _) _ _ _)); (fail_if_success (with_reducible show wpAny _ _ (exec (Stmt.For _ _ _ _ _) _) _ _ _)); (fail_if_success (with_reducible show wpAny _ _ (exec (Stmt.Assign [Expr.Name _ _] (Expr.ListComp _ _ _ _) _) _) _ _ _)); (fail_if_success (with_reducible show wpAny _ _ (pyIter _) _ _ _)); (fail_if_success (with_reducible show wpAny _ _ (call (Value.type "range") _ _) _ _ _)); (fail_if_success (with_reducible show wpAny _ _ (call (Value.type "zip") _ _) _ _ _))); dsimp only; walk1))); (all_goals try dsimp only))
    refine wpAny_For ?_
    k_unmd; k_fold
    ((repeat' (first | (k_unfold; (try dsimp only)) | (((fail_if_success (with_reducible show wpAny _ _ (eval (Expr.ListComp _ _ _ _) _) _ _ _)); (fail_if_success (with_reducible show wpAny _ _ (exec (Stmt.While _ _ _ _) _) _ _ _)); (fail_if_success (with_reducible show wpAny _ _ (exec (Stmt.For _ _ _ _ _) _) _ _ _)); (fail_if_success (with_reducible show wpAny _ _ (exec (Stmt.Assign [Expr.Name _ _] (Expr.ListComp _ _ _ _) _) _) _ _ _)); (fail_if_success (with_reducible show wpAny _ _ (pyIter _) _ _ _)); (fail_if_success (with_reducible show wpAny _ _ (call (Value.type "range") _ _) _ _ _)); (fail_if_success (with_reducible show wpAny _ _ (call (Value.type "zip") _ _) _ _ _))); walk1) | (((fail_if_success (with_reducible show wpAny _ _ (eval (Expr.ListComp _ _ _ _) _) _ _ _)); (fail_if_success (with_reducible show wpAny _ _ (exec (Stmt.While _ _ _ _) _) _ _ _)); (fail_if_success (with_reducible show wpAny _ _ (exec (Stmt.For _ _ _ _ _) _) _ _ _)); (fail_if_success (with_reducible show wpAny _ _ (exec (Stmt.Assign [Expr.Name _ _] (Expr.ListComp _ _ _ _) _) _) _ _ _)); (fail_if_success (with_reducible show wpAny _ _ (pyIter _) _ _ _)); (fail_if_success (with_reducible show wpAny _ _ (call (Value.type "range") _ _) _ _ _)); (fail_if_success (with_reducible show wpAny _ _ (call (Value.type "zip") _ _) _ _ _))); dsimp only; walk1))); (all_goals try dsimp only))
    rename Fr _ _ _ _ => F
    rename News _ _ _ _ => N
    have N := news_head N
    refine for_src (T := fun Q => wpAny _ _ (pyIter (.ref D)) Q _ _) (srcw_list rfl (News.isList N (.head _))) rfl F N rfl rfl
      (fun i m₁ news₁ => news₁ = [(D, listOf (List.toArray ys) kk)] ∧ ∃ sd t m₀, m₁ = withL [(Str.ofString "seed", .int sd t), (Str.ofString "numbers", .ref D)] m₀ ∧ 0 ≤ sd ∧ sd < 2147483647) ⟨rfl, _, _, _, withL_of _ _ ⟨rfl, rfl, trivial⟩, by decide, by decide⟩ ?_ ?_ ?_ ?_
    · intro b hb
      rw [List.mem_singleton.mp hb]
      refine ⟨(N _ (.head _)).2.1, fun o e => .inr fun i m₁ news₁ hJ => ?_⟩
      obtain ⟨rfl, -⟩ := hJ
      have e' := (N _ (.head _)).1
      rw [e] at e'
      cases e'
      exact .head _
    · intro b hb
      rw [List.mem_singleton.mp hb]
      exact ⟨_, (N _ (.head _)).1⟩
    · rintro i v m₁ news₁ I o h₁ tk₁ hin hv ⟨rfl, sd, t, m₀, rfl, s0, s1⟩ F₁ N₁ hne hI
      obtain ⟨z, t, rfl, hz⟩ := hks.at i v hv
      clear F N
      k_unmd; k_fold
      ((repeat' (first | (k_unfold; (try dsimp only)) | (((fail_if_success (with_reducible show wpAny _ _ (eval (Expr.ListComp _ _ _ _) _) _ _ _)); (fail_if_success (with_reducible show wpAny _ _ (exec (Stmt.While _ _ _ _) _) _ _ _)); (fail_if_success (with_reducible show wpAny _ _ (exec (Stmt.For _ _ _ _ _) _) _ _ _)); (fail_if_success (with_reducible show wpAny _ _ (exec (Stmt.Assign [Expr.Name _ _] (Expr.ListComp _ _ _ _) _) _) _ _ _)); (fail_if_success (with_reducible show wpAny _ _ (pyIter _) _ _ _)); (fail_if_success (with_reducible show wpAny _ _ (call (Value.type "range") _ _) _ _ _)); (fail_if_success (with_reducible show wpAny _ _ (call (Value.type "zip") _ _) _ _ _))); walk1) | (((fail_if_success (with_reducible show wpAny _ _ (eval (Expr.ListComp _ _ _ _) _) _ _ _)); (fail_if_success (with_reducible show wpAny _ _ (exec (Stmt.While _ _ _ _) _) _ _ _)); (fail_if_success (with_reducible show wpAny _ _ (exec (Stmt.For _ _ _ _ _) _) _ _ _)); (fail_if_success (with_reducible show wpAny _ _ (exec (Stmt.Assign [Expr.Name _ _] (Expr.ListComp _ _ _ _) _) _) _ _ _)); (fail_if_success (with_reducible show wpAny _ _ (pyIter _) _ _ _)); (fail_if_success (with_reducible show wpAny _ _ (call (Value.type "range") _ _) _ _ _)); (fail_if_success (with_reducible show wpAny _ _ (call (Value.type "zip") _ _) _ _ _))); dsimp only; walk1))); (all_goals try dsimp only))
      rename Fr _ _ _ _ => F
      rename News _ _ _ _ => N
      show Endd _
      have f0 := Int.emod_nonneg (sd * 16807 + z + 11) (b := 2147483647) (by decide)
      have f1 := Int.emod_lt_of_pos (sd * 16807 + z + 11) (b := 2147483647) (by decide)
      rw [← Int.fmod_eq_emod_of_nonneg _ (by decide)] at f0 f1
      exact ⟨⟨_, _, _, _, rfl, F, N, hne, rfl, _, _, _, withL_of _ _ ⟨rfl, rfl, trivial⟩, f0, f1⟩⟩
    · rintro h' tk' m' news' F₁ N₁ ⟨rfl, sd, t, m₀, rfl, s0, s1⟩
      clear F N
      ((repeat' (first | (k_unfold; (try dsimp only)) | (((fail_if_success (with_reducible show wpAny _ _ (eval (Expr.ListComp _ _ _ _) _) _ _ _)); (fail_if_success (with_reducible show wpAny _ _ (exec (Stmt.While _ _ _ _) _) _ _ _)); (fail_if_success (with_reducible show wpAny _ _ (exec (Stmt.For _ _ _ _ _) _) _ _ _)); (fail_if_success (with_reducible show wpAny _ _ (exec (Stmt.Assign [Expr.Name _ _] (Expr.ListComp _ _ _ _) _) _) _ _ _)); (fail_if_success (with_reducible show wpAny _ _ (pyIter _) _ _ _)); (fail_if_success (with_reducible show wpAny _ _ (call (Value.type "range") _ _) _ _ _)); (fail_if_success (with_reducible show wpAny _ _ (call (Value.type "zip") _ _) _ _ _))); walk1) | (((fail_if_success (with_reducible show wpAny _ _ (eval (Expr.ListComp _ _ _ _) _) _ _ _)); (fail_if_success (with_reducible show wpAny _ _ (exec (Stmt.While _ _ _ _) _) _ _ _)); (fail_if_success (with_reducible show wpAny _ _ (exec (Stmt.For _ _ _ _ _) _) _ _ _)); (fail_if_success (with_reducible show wpAny _ _ (exec (Stmt.Assign [Expr.Name _ _] (Expr.ListComp _ _ _ _) _) _) _ _ _)); (fail_if_success (with_reducible show wpAny _ _ (pyIter _) _ _ _)); (fail_if_success (with_reducible show wpAny _ _ (call (Value.type "range") _ _) _ _ _)); (fail_if_success (with_reducible show wpAny _ _ (call (Value.type "zip") _ _) _ _ _))); dsimp only; walk1))); (all_goals try dsimp only))
      rename Fr _ _ _ _ => F
      rename News _ _ _ _ => N
      rename (_ : Nat) < _ => hlt
      refine ret _ D _ ys kk _ _ F.keep (N _ (.head _)).2.2 (N _ (.tail _ (.head _))).2.2 (Nat.ne_of_lt hlt) (N _ (.head _)).1 (N _ (.tail _ (.head _))).1 ⟨D, 0, sd, _, _, 0, ys, ks, rfl, single_list _ _ _, hks, ?_, by decide, by omega, hkr, s0, s1⟩
      have e1 := hlen'
      have e2 := (List.length_take (i := 40) (l := ns))
      omega
end
theorem turn_F {prog : Program} {w : World} {mean mg mb} {f : Addr}
    (C : ∀ {s : Shared} {Q E : Value → Shared → Prop} {b₀ g : Heap} {d : Addr} {o : Obj}, g.StaysIn s.heap → g.objs.size ≤ s.heap.objs.size → (hd.heap_1 w.params).In g → Top qv (looseW qv []) mean mg mb g → s.heap.get? d = some o → g.get? d = none → b₀.StaysIn g → DealO b₀ o → 1 ≤ s.toks →
      (∀ h' tk o', g.StaysIn h' → h'.get? d = some o' → DealO b₀ o' → Q (.bool true) { s with heap := h', toks := tk }) → wpAny (model prog w) (At 500 5000) (call (.ref f) [.ref d]) Q E s)
    {A : Around} {b₀ h₀ : Heap} {L : Addr} {m : Str → Option Value} {news : List (Addr × Obj)} {upd : Obj → List (Addr × Obj)} {s : Shared} {d : Addr} {o : Obj} {Q E : Value → Shared → Prop}
    (F : Fr h₀ L s.heap m) (N : News h₀ L s.heap news) (X : (hd.heap_1 w.params).In h₀) (T : Top qv (looseW qv []) mean mg mb h₀) (U : UpdF d o news upd) (hb : b₀.StaysIn (s.heap.hide d)) (D : DealO b₀ o)
    (hh : A.handled = none) (hd : Nat.ble A.depth 500 = true) (hu : Nat.ble A.units 5000 = true) (htk : 1 ≤ s.toks)
    (ret : ∀ h' tk o', Fr h₀ L h' m → News h₀ L h' (upd o') → DealO b₀ o' → Q (.bool true) { s with heap := h', toks := tk }) :
    wpAny (model prog w) A (call (.ref f) [.ref d]) Q E s := by
  have P := part_of F N U
  refine wp_top (C P.stays P.size (X.keeps P.base) (T.keeps P.base) P.at_ P.hid hb D htk fun h' tk o' st ho' D' => ?_) hh hd hu
  obtain ⟨F', N'⟩ := P.back h' o' st ho'
  exact ret h' tk o' F' N' D'
theorem law_holds : PySem.Challenge.rw_rh0266_01.Holds := hd (by
  k_go0
  all_goals (try k_fold)
  rename Top _ _ _ _ _ _ => T
  rename Frag.In _ _ => X
  rename IntsAre _ _ => hi
  rename Heap.IsList _ _ _ => hl
  rename Ground _ _ _ _ _ _ _ _ _ => G
  rename Glob _ _ _ _ _ _ _ _ => GL
  rename TopE _ _ _ _ => TE
  rename TopW _ _ _ => TW
  rename BMod _ _ _ _ _ => M
  rename Tables _ _ _ _ => B
  clear GL TE TW M B
  ((repeat' (first | (k_unfold; (try dsimp only)) | (((((((fail_if_success (with_reducible show wpAny _ _ (eval (Expr.ListComp _ _ _ _) _) _ _ _)); (fail_if_success (with_reducible show wpAny _ _ (exec (Stmt.While _ _ _ _) _) _ _ _)); (fail_if_success (with_reducible show wpAny _ _ (exec (Stmt.For _ _ _ _ _) _) _ _ _)); (fail_if_success (with_reducible show wpAny _ _ (exec (Stmt.Assign [Expr.Name _ _] (Expr.ListComp _ _ _ _) _) _) _ _ _)); (fail_if_success (with_reducible show wpAny _ _ (pyIter _) _ _ _)); (fail_if_success (with_reducible show wpAny _ _ (call (Value.type "range") _ _) _ _ _)); (fail_if_success (with_reducible show wpAny _ _ (call (Value.type "zip") _ _) _ _ _)))); (fail_if_success (with_reducible show wpAny _ _ (exec (Stmt.If _ _ _ _) _) _ _ _)))); (fail_if_success (with_reducible show wpAny _ _ (exec (Stmt.Assign _ _ _) _) _ _ _))); walk1) | (((((((fail_if_success (with_reducible show wpAny _ _ (eval (Expr.ListComp _ _ _ _) _) _ _ _)); (fail_if_success (with_reducible show wpAny _ _ (exec (Stmt.While _ _ _ _) _) _ _ _)); (fail_if_success (with_reducible show wpAny _ _ (exec (Stmt.For _ _ _ _ _) _) _ _ _)); (fail_if_success (with_reducible show wpAny _ _ (exec (Stmt.Assign [Expr.Name _ _] (Expr.ListComp _ _ _ _) _) _) _ _ _)); (fail_if_success (with_reducible show wpAny _ _ (pyIter _) _ _ _)); (fail_if_success (with_reducible show wpAny _ _ (call (Value.type "range") _ _) _ _ _)); (fail_if_success (with_reducible show wpAny _ _ (call (Value.type "zip") _ _) _ _ _)))); (fail_if_success (with_reducible show wpAny _ _ (exec (Stmt.If _ _ _ _) _) _ _ _)))); (fail_if_success (with_reducible show wpAny _ _ (exec (Stmt.Assign _ _ _) _) _ _ _))); dsimp only; walk1))); (all_goals try dsimp only))
  rename Fr _ _ _ _ => F
  rename News _ _ _ _ => N
  refine cut_at F (fun f m' news' => f = .next ∧ ∃ d nu o ks n m₀, news' = [(d, o), (nu, listOf (List.toArray ks) n)] ∧ nu ≠ d ∧ DealO (single nu ks.toArray n) o ∧ m' = withL [(Str.ofString "deal", .ref d)] m₀) (fun CC hCC => ?_) ?_
  · ((repeat' (first | (k_unfold; (try dsimp only)) | (((((fail_if_success (with_reducible show wpAny _ _ (eval (Expr.ListComp _ _ _ _) _) _ _ _)); (fail_if_success (with_reducible show wpAny _ _ (exec (Stmt.While _ _ _ _) _) _ _ _)); (fail_if_success (with_reducible show wpAny _ _ (exec (Stmt.For _ _ _ _ _) _) _ _ _)); (fail_if_success (with_reducible show wpAny _ _ (exec (Stmt.Assign [Expr.Name _ _] (Expr.ListComp _ _ _ _) _) _) _ _ _)); (fail_if_success (with_reducible show wpAny _ _ (pyIter _) _ _ _)); (fail_if_success (with_reducible show wpAny _ _ (call (Value.type "range") _ _) _ _ _)); (fail_if_success (with_reducible show wpAny _ _ (call (Value.type "zip") _ _) _ _ _)))); (fail_if_success (with_reducible show wpAny _ _ (call (Value.ref 137) _) _ _ _)); (fail_if_success (with_reducible show wpAny _ _ (call (Value.ref 168) _) _ _ _)); (fail_if_success (with_reducible show wpAny _ _ (call (Value.ref 173) _) _ _ _)); (fail_if_success (with_reducible show wpAny _ _ (call (Value.ref 178) _) _ _ _))); walk1) | (((((fail_if_success (with_reducible show wpAny _ _ (eval (Expr.ListComp _ _ _ _) _) _ _ _)); (fail_if_success (with_reducible show wpAny _ _ (exec (Stmt.While _ _ _ _) _) _ _ _)); (fail_if_success (with_reducible show wpAny _ _ (exec (Stmt.For _ _ _ _ _) _) _ _ _)); (fail_if_success (with_reducible show wpAny _ _ (exec (Stmt.Assign [Expr.Name _ _] (Expr.ListComp _ _ _ _) _) _) _ _ _)); (fail_if_success (with_reducible show wpAny _ _ (pyIter _) _ _ _)); (fail_if_success (with_reducible show wpAny _ _ (call (Value.type "range") _ _) _ _ _)); (fail_if_success (with_reducible show wpAny _ _ (call (Value.type "zip") _ _) _ _ _)))); (fail_if_success (with_reducible show wpAny _ _ (call (Value.ref 137) _) _ _ _)); (fail_if_success (with_reducible show wpAny _ _ (call (Value.ref 168) _) _ _ _)); (fail_if_success (with_reducible show wpAny _ _ (call (Value.ref 173) _) _ _ _)); (fail_if_success (with_reducible show wpAny _ _ (call (Value.ref 178) _) _ _ _))); dsimp only; walk1))); (all_goals try dsimp only))
    rename Fr _ _ _ _ => F
    rename News _ _ _ _ => N
    refine wp_top (deal_P2 (X.keeps F.keep) (T.keeps F.keep) (by exact stays_list F.keep hl) hi (by omega) fun d nu o ks n h' tk st hd hnu hne ho' hnu' D => ?_) rfl rfl rfl
    obtain ⟨F', N'⟩ := grown_of F N st
    have N' := news_fresh F (news_fresh F N' hnu hnu') hd ho'
    clear F N
    ((repeat' (first | (k_unfold; (try dsimp only)) | (((((fail_if_success (with_reducible show wpAny _ _ (eval (Expr.ListComp _ _ _ _) _) _ _ _)); (fail_if_success (with_reducible show wpAny _ _ (exec (Stmt.While _ _ _ _) _) _ _ _)); (fail_if_success (with_reducible show wpAny _ _ (exec (Stmt.For _ _ _ _ _) _) _ _ _)); (fail_if_success (with_reducible show wpAny _ _ (exec (Stmt.Assign [Expr.Name _ _] (Expr.ListComp _ _ _ _) _) _) _ _ _)); (fail_if_success (with_reducible show wpAny _ _ (pyIter _) _ _ _)); (fail_if_success (with_reducible show wpAny _ _ (call (Value.type "range") _ _) _ _ _)); (fail_if_success (with_reducible show wpAny _ _ (call (Value.type "zip") _ _) _ _ _)))); (fail_if_success (with_reducible show wpAny _ _ (call (Value.ref 137) _) _ _ _)); (fail_if_success (with_reducible show wpAny _ _ (call (Value.ref 168) _) _ _ _)); (fail_if_success (with_reducible show wpAny _ _ (call (Value.ref 173) _) _ _ _)); (fail_if_success (with_reducible show wpAny _ _ (call (Value.ref 178) _) _ _ _))); walk1) | (((((fail_if_success (with_reducible show wpAny _ _ (eval (Expr.ListComp _ _ _ _) _) _ _ _)); (fail_if_success (with_reducible show wpAny _ _ (exec (Stmt.While _ _ _ _) _) _ _ _)); (fail_if_success (with_reducible show wpAny _ _ (exec (Stmt.For _ _ _ _ _) _) _ _ _)); (fail_if_success (with_reducible show wpAny _ _ (exec (Stmt.Assign [Expr.Name _ _] (Expr.ListComp _ _ _ _) _) _) _ _ _)); (fail_if_success (with_reducible show wpAny _ _ (pyIter _) _ _ _)); (fail_if_success (with_reducible show wpAny _ _ (call (Value.type "range") _ _) _ _ _)); (fail_if_success (with_reducible show wpAny _ _ (call (Value.type "zip") _ _) _ _ _)))); (fail_if_success (with_reducible show wpAny _ _ (call (Value.ref 137) _) _ _ _)); (fail_if_success (with_reducible show wpAny _ _ (call (Value.ref 168) _) _ _ _)); (fail_if_success (with_reducible show wpAny _ _ (call (Value.ref 173) _) _ _ _)); (fail_if_success (with_reducible show wpAny _ _ (call (Value.ref 178) _) _ _ _))); dsimp only; walk1))); (all_goals try dsimp only))
    rename Fr _ _ _ _ => F
    rename News _ _ _ _ => N
    exact hCC _ _ _ _ _ F (news_two N (.head _) (.tail _ (.head _))) ⟨rfl, d, nu, _, _, _, _, rfl, hne, D, withL_of _ _ ⟨rfl, trivial⟩⟩
  rintro _ h' tk m' _ F₁ N₁ ⟨rfl, d, nu, o, ks, n, m₀, rfl, hne, D, rfl⟩
  clear F N
  have hne' : @Ne Nat d nu := fun e => hne e.symm
  ((repeat' (first | (k_unfold; (try dsimp only)) | (((((fail_if_success (with_reducible show wpAny _ _ (eval (Expr.ListComp _ _ _ _) _) _ _ _)); (fail_if_success (with_reducible show wpAny _ _ (exec (Stmt.While _ _ _ _) _) _ _ _)); (fail_if_success (with_reducible show wpAny _ _ (exec (Stmt.For _ _ _ _ _) _) _ _ _)); (fail_if_success (with_reducible show wpAny _ _ (exec (Stmt.Assign [Expr.Name _ _] (Expr.ListComp _ _ _ _) _) _) _ _ _)); (fail_if_success (with_reducible show wpAny _ _ (pyIter _) _ _ _)); (fail_if_success (with_reducible show wpAny _ _ (call (Value.type "range") _ _) _ _ _)); (fail_if_success (with_reducible show wpAny _ _ (call (Value.type "zip") _ _) _ _ _)))); (fail_if_success (with_reducible show wpAny _ _ (call (Value.ref 137) _) _ _ _)); (fail_if_success (with_reducible show wpAny _ _ (call (Value.ref 168) _) _ _ _)); (fail_if_success (with_reducible show wpAny _ _ (call (Value.ref 173) _) _ _ _)); (fail_if_success (with_reducible show wpAny _ _ (call (Value.ref 178) _) _ _ _))); walk1) | (((((fail_if_success (with_reducible show wpAny _ _ (eval (Expr.ListComp _ _ _ _) _) _ _ _)); (fail_if_success (with_reducible show wpAny _ _ (exec (Stmt.While _ _ _ _) _) _ _ _)); (fail_if_success (with_reducible show wpAny _ _ (exec (Stmt.For _ _ _ _ _) _) _ _ _)); (fail_if_success (with_reducible show wpAny _ _ (exec (Stmt.Assign [Expr.Name _ _] (Expr.ListComp _ _ _ _) _) _) _ _ _)); (fail_if_success (with_reducible show wpAny _ _ (pyIter _) _ _ _)); (fail_if_success (with_reducible show wpAny _ _ (call (Value.type "range") _ _) _ _ _)); (fail_if_success (with_reducible show wpAny _ _ (call (Value.type "zip") _ _) _ _ _)))); (fail_if_success (with_reducible show wpAny _ _ (call (Value.ref 137) _) _ _ _)); (fail_if_success (with_reducible show wpAny _ _ (call (Value.ref 168) _) _ _ _)); (fail_if_success (with_reducible show wpAny _ _ (call (Value.ref 173) _) _ _ _)); (fail_if_success (with_reducible show wpAny _ _ (call (Value.ref 178) _) _ _ _))); dsimp only; walk1))); (all_goals try dsimp only))
  refine wpAny_For ?_
  k_unmd; k_fold
  ((repeat' (first | (k_unfold; (try dsimp only)) | (((((fail_if_success (with_reducible show wpAny _ _ (eval (Expr.ListComp _ _ _ _) _) _ _ _)); (fail_if_success (with_reducible show wpAny _ _ (exec (Stmt.While _ _ _ _) _) _ _ _)); (fail_if_success (with_reducible show wpAny _ _ (exec (Stmt.For _ _ _ _ _) _) _ _ _)); (fail_if_success (with_reducible show wpAny _ _ (exec (Stmt.Assign [Expr.Name _ _] (Expr.ListComp _ _ _ _) _) _) _ _ _)); (fail_if_success (with_reducible show wpAny _ _ (pyIter _) _ _ _)); (fail_if_success (with_reducible show wpAny _ _ (call (Value.type "range") _ _) _ _ _)); (fail_if_success (with_reducible show wpAny _ _ (call (Value.type "zip") _ _) _ _ _)))); (fail_if_success (with_reducible show wpAny _ _ (call (Value.ref 137) _) _ _ _)); (fail_if_success (with_reducible show wpAny _ _ (call (Value.ref 168) _) _ _ _)); (fail_if_success (with_reducible show wpAny _ _ (call (Value.ref 173) _) _ _ _)); (fail_if_success (with_reducible show wpAny _ _ (call (Value.ref 178) _) _ _ _))); walk1) | (((((fail_if_success (with_reducible show wpAny _ _ (eval (Expr.ListComp _ _ _ _) _) _ _ _)); (fail_if_success (with_reducible show wpAny _ _ (exec (Stmt.While _ _ _ _) _) _ _ _)); (fail_if_success (with_reducible show wpAny _ _ (exec (Stmt.For _ _ _ _ _) _) _ _ _)); (fail_if_success (with_reducible show wpAny _ _ (exec (Stmt.Assign [Expr.Name _ _] (Expr.ListComp _ _ _ _) _) _) _ _ _)); (fail_if_success (with_reducible show wpAny _ _ (pyIter _) _ _ _)); (fail_if_success (with_reducible show wpAny _ _ (call (Value.type "range") _ _) _ _ _)); (fail_if_success (with_reducible show wpAny _ _ (call (Value.type "zip") _ _) _ _ _)))); (fail_if_success (with_reducible show wpAny _ _ (call (Value.ref 137) _) _ _ _)); (fail_if_success (with_reducible show wpAny _ _ (call (Value.ref 168) _) _ _ _)); (fail_if_success (with_reducible show wpAny _ _ (call (Value.ref 173) _) _ _ _)); (fail_if_success (with_reducible show wpAny _ _ (call (Value.ref 178) _) _ _ _))); dsimp only; walk1))); (all_goals try dsimp only))
  rename Fr _ _ _ _ => F
  rename News _ _ _ _ => N
  refine for_srcT (T := fun Q => wpAny _ _ (call (.type "range") [.int ((2 : Nat) : Int) _]) (fun xv s₁ => wpAny _ _ (pyIter xv) Q _ s₁) _ _) (srcw_range (n := 2) rfl (by decide)) rfl F N rfl rfl
    (fun i m₁ news₁ => ∃ o m₀, news₁ = [(d, o), (nu, listOf (List.toArray ks) n)] ∧ DealO (single nu ks.toArray n) o ∧ m₁ = withL [(Str.ofString "deal", .ref d)] m₀) ⟨_, _, rfl, D, withL_of _ _ ⟨rfl, trivial⟩⟩ (fun b hb => nomatch hb) (fun b hb => nomatch hb) ?_ ?_
  · rintro i v m₁ news₁ I oI h₁ tk₁ htk hin ⟨t, rfl⟩ ⟨o, m₀, rfl, D, rfl⟩ F₁ N₁ hnI hI
    clear F N
    have hI1 := neN (hnI (d, o) (.head _))
    have hI2 := neN (hnI (nu, listOf (List.toArray ks) n) (.tail _ (.head _)))
    have hne₁ : @Ne Nat d nu := hne'
    k_unmd; k_fold
    ((repeat' (first | (k_unfold; (try dsimp only)) | (((((fail_if_success (with_reducible show wpAny _ _ (eval (Expr.ListComp _ _ _ _) _) _ _ _)); (fail_if_success (with_reducible show wpAny _ _ (exec (Stmt.While _ _ _ _) _) _ _ _)); (fail_if_success (with_reducible show wpAny _ _ (exec (Stmt.For _ _ _ _ _) _) _ _ _)); (fail_if_success (with_reducible show wpAny _ _ (exec (Stmt.Assign [Expr.Name _ _] (Expr.ListComp _ _ _ _) _) _) _ _ _)); (fail_if_success (with_reducible show wpAny _ _ (pyIter _) _ _ _)); (fail_if_success (with_reducible show wpAny _ _ (call (Value.type "range") _ _) _ _ _)); (fail_if_success (with_reducible show wpAny _ _ (call (Value.type "zip") _ _) _ _ _)))); (fail_if_success (with_reducible show wpAny _ _ (call (Value.ref 137) _) _ _ _)); (fail_if_success (with_reducible show wpAny _ _ (call (Value.ref 168) _) _ _ _)); (fail_if_success (with_reducible show wpAny _ _ (call (Value.ref 173) _) _ _ _)); (fail_if_success (with_reducible show wpAny _ _ (call (Value.ref 178) _) _ _ _))); walk1) | (((((fail_if_success (with_reducible show wpAny _ _ (eval (Expr.ListComp _ _ _ _) _) _ _ _)); (fail_if_success (with_reducible show wpAny _ _ (exec (Stmt.While _ _ _ _) _) _ _ _)); (fail_if_success (with_reducible show wpAny _ _ (exec (Stmt.For _ _ _ _ _) _) _ _ _)); (fail_if_success (with_reducible show wpAny _ _ (exec (Stmt.Assign [Expr.Name _ _] (Expr.ListComp _ _ _ _) _) _) _ _ _)); (fail_if_success (with_reducible show wpAny _ _ (pyIter _) _ _ _)); (fail_if_success (with_reducible show wpAny _ _ (call (Value.type "range") _ _) _ _ _)); (fail_if_success (with_reducible show wpAny _ _ (call (Value.type "zip") _ _) _ _ _)))); (fail_if_success (with_reducible show wpAny _ _ (call (Value.ref 137) _) _ _ _)); (fail_if_success (with_reducible show wpAny _ _ (call (Value.ref 168) _) _ _ _)); (fail_if_success (with_reducible show wpAny _ _ (call (Value.ref 173) _) _ _ _)); (fail_if_success (with_reducible show wpAny _ _ (call (Value.ref 178) _) _ _ _))); dsimp only; walk1))); (all_goals try dsimp only))
    rename Fr _ _ _ _ => F
    rename News _ _ _ _ => N
    refine wp_grow (n := 1) (by first | omega | (dsimp only; omega)) ?_
    refine turn_F (fun k hsz X T ho hg hb D _ ret => row_LP k hsz X T ho hg hb D ret) F N X T (by k_updF) (hide_stays (single_stays (News.get N (by k_mem))) (single_other hne')) D rfl rfl rfl (by first | omega | (dsimp only; omega)) fun h' tk o₁ F' N' D₁ htk₁ => ?_
    clear F N
    dsimp only at htk₁
    ((repeat' (first | (k_unfold; (try dsimp only)) | (((((fail_if_success (with_reducible show wpAny _ _ (eval (Expr.ListComp _ _ _ _) _) _ _ _)); (fail_if_success (with_reducible show wpAny _ _ (exec (Stmt.While _ _ _ _) _) _ _ _)); (fail_if_success (with_reducible show wpAny _ _ (exec (Stmt.For _ _ _ _ _) _) _ _ _)); (fail_if_success (with_reducible show wpAny _ _ (exec (Stmt.Assign [Expr.Name _ _] (Expr.ListComp _ _ _ _) _) _) _ _ _)); (fail_if_success (with_reducible show wpAny _ _ (pyIter _) _ _ _)); (fail_if_success (with_reducible show wpAny _ _ (call (Value.type "range") _ _) _ _ _)); (fail_if_success (with_reducible show wpAny _ _ (call (Value.type "zip") _ _) _ _ _)))); (fail_if_success (with_reducible show wpAny _ _ (call (Value.ref 137) _) _ _ _)); (fail_if_success (with_reducible show wpAny _ _ (call (Value.ref 168) _) _ _ _)); (fail_if_success (with_reducible show wpAny _ _ (call (Value.ref 173) _) _ _ _)); (fail_if_success (with_reducible show wpAny _ _ (call (Value.ref 178) _) _ _ _))); walk1) | (((((fail_if_success (with_reducible show wpAny _ _ (eval (Expr.ListComp _ _ _ _) _) _ _ _)); (fail_if_success (with_reducible show wpAny _ _ (exec (Stmt.While _ _ _ _) _) _ _ _)); (fail_if_success (with_reducible show wpAny _ _ (exec (Stmt.For _ _ _ _ _) _) _ _ _)); (fail_if_success (with_reducible show wpAny _ _ (exec (Stmt.Assign [Expr.Name _ _] (Expr.ListComp _ _ _ _) _) _) _ _ _)); (fail_if_success (with_reducible show wpAny _ _ (pyIter _) _ _ _)); (fail_if_success (with_reducible show wpAny _ _ (call (Value.type "range") _ _) _ _ _)); (fail_if_success (with_reducible show wpAny _ _ (call (Value.type "zip") _ _) _ _ _)))); (fail_if_success (with_reducible show wpAny _ _ (call (Value.ref 137) _) _ _ _)); (fail_if_success (with_reducible show wpAny _ _ (call (Value.ref 168) _) _ _ _)); (fail_if_success (with_reducible show wpAny _ _ (call (Value.ref 173) _) _ _ _)); (fail_if_success (with_reducible show wpAny _ _ (call (Value.ref 178) _) _ _ _))); dsimp only; walk1))); (all_goals try dsimp only))
    rename Fr _ _ _ _ => F
    rename News _ _ _ _ => N
    refine wp_grow (n := 1) (by first | omega | (dsimp only; omega)) ?_
    refine turn_F (fun k hsz X T ho hg hb D _ ret => number_LP k hsz X T ho hg hb D ret) F N X T (by k_updF) (hide_stays (single_stays (News.get N (by k_mem))) (single_other hne')) D₁ rfl rfl rfl (by first | omega | (dsimp only; omega)) fun h' tk o₂ F' N' D₂ htk₂ => ?_
    clear F N
    dsimp only at htk₂
    ((repeat' (first | (k_unfold; (try dsimp only)) | (((((fail_if_success (with_reducible show wpAny _ _ (eval (Expr.ListComp _ _ _ _) _) _ _ _)); (fail_if_success (with_reducible show wpAny _ _ (exec (Stmt.While _ _ _ _) _) _ _ _)); (fail_if_success (with_reducible show wpAny _ _ (exec (Stmt.For _ _ _ _ _) _) _ _ _)); (fail_if_success (with_reducible show wpAny _ _ (exec (Stmt.Assign [Expr.Name _ _] (Expr.ListComp _ _ _ _) _) _) _ _ _)); (fail_if_success (with_reducible show wpAny _ _ (pyIter _) _ _ _)); (fail_if_success (with_reducible show wpAny _ _ (call (Value.type "range") _ _) _ _ _)); (fail_if_success (with_reducible show wpAny _ _ (call (Value.type "zip") _ _) _ _ _)))); (fail_if_success (with_reducible show wpAny _ _ (call (Value.ref 137) _) _ _ _)); (fail_if_success (with_reducible show wpAny _ _ (call (Value.ref 168) _) _ _ _)); (fail_if_success (with_reducible show wpAny _ _ (call (Value.ref 173) _) _ _ _)); (fail_if_success (with_reducible show wpAny _ _ (call (Value.ref 178) _) _ _ _))); walk1) | (((((fail_if_success (with_reducible show wpAny _ _ (eval (Expr.ListComp _ _ _ _) _) _ _ _)); (fail_if_success (with_reducible show wpAny _ _ (exec (Stmt.While _ _ _ _) _) _ _ _)); (fail_if_success (with_reducible show wpAny _ _ (exec (Stmt.For _ _ _ _ _) _) _ _ _)); (fail_if_success (with_reducible show wpAny _ _ (exec (Stmt.Assign [Expr.Name _ _] (Expr.ListComp _ _ _ _) _) _) _ _ _)); (fail_if_success (with_reducible show wpAny _ _ (pyIter _) _ _ _)); (fail_if_success (with_reducible show wpAny _ _ (call (Value.type "range") _ _) _ _ _)); (fail_if_success (with_reducible show wpAny _ _ (call (Value.type "zip") _ _) _ _ _)))); (fail_if_success (with_reducible show wpAny _ _ (call (Value.ref 137) _) _ _ _)); (fail_if_success (with_reducible show wpAny _ _ (call (Value.ref 168) _) _ _ _)); (fail_if_success (with_reducible show wpAny _ _ (call (Value.ref 173) _) _ _ _)); (fail_if_success (with_reducible show wpAny _ _ (call (Value.ref 178) _) _ _ _))); dsimp only; walk1))); (all_goals try dsimp only))
    rename Fr _ _ _ _ => F
    rename News _ _ _ _ => N
    refine turn_F (fun k hsz X T ho hg hb D htk ret => files_LP k hsz X T ho hg hb D htk ret) F N X T (by k_updF) (hide_stays (single_stays (News.get N (by k_mem))) (single_other hne')) D₂ rfl rfl rfl (by first | omega | (dsimp only; omega)) fun h' tk o₃ F' N' D₃ => ?_
    clear F N
    ((repeat' (first | (k_unfold; (try dsimp only)) | (((((fail_if_success (with_reducible show wpAny _ _ (eval (Expr.ListComp _ _ _ _) _) _ _ _)); (fail_if_success (with_reducible show wpAny _ _ (exec (Stmt.While _ _ _ _) _) _ _ _)); (fail_if_success (with_reducible show wpAny _ _ (exec (Stmt.For _ _ _ _ _) _) _ _ _)); (fail_if_success (with_reducible show wpAny _ _ (exec (Stmt.Assign [Expr.Name _ _] (Expr.ListComp _ _ _ _) _) _) _ _ _)); (fail_if_success (with_reducible show wpAny _ _ (pyIter _) _ _ _)); (fail_if_success (with_reducible show wpAny _ _ (call (Value.type "range") _ _) _ _ _)); (fail_if_success (with_reducible show wpAny _ _ (call (Value.type "zip") _ _) _ _ _)))); (fail_if_success (with_reducible show wpAny _ _ (call (Value.ref 137) _) _ _ _)); (fail_if_success (with_reducible show wpAny _ _ (call (Value.ref 168) _) _ _ _)); (fail_if_success (with_reducible show wpAny _ _ (call (Value.ref 173) _) _ _ _)); (fail_if_success (with_reducible show wpAny _ _ (call (Value.ref 178) _) _ _ _))); walk1) | (((((fail_if_success (with_reducible show wpAny _ _ (eval (Expr.ListComp _ _ _ _) _) _ _ _)); (fail_if_success (with_reducible show wpAny _ _ (exec (Stmt.While _ _ _ _) _) _ _ _)); (fail_if_success (with_reducible show wpAny _ _ (exec (Stmt.For _ _ _ _ _) _) _ _ _)); (fail_if_success (with_reducible show wpAny _ _ (exec (Stmt.Assign [Expr.Name _ _] (Expr.ListComp _ _ _ _) _) _) _ _ _)); (fail_if_success (with_reducible show wpAny _ _ (pyIter _) _ _ _)); (fail_if_success (with_reducible show wpAny _ _ (call (Value.type "range") _ _) _ _ _)); (fail_if_success (with_reducible show wpAny _ _ (call (Value.type "zip") _ _) _ _ _)))); (fail_if_success (with_reducible show wpAny _ _ (call (Value.ref 137) _) _ _ _)); (fail_if_success (with_reducible show wpAny _ _ (call (Value.ref 168) _) _ _ _)); (fail_if_success (with_reducible show wpAny _ _ (call (Value.ref 173) _) _ _ _)); (fail_if_success (with_reducible show wpAny _ _ (call (Value.ref 178) _) _ _ _))); dsimp only; walk1))); (all_goals try dsimp only))
    rename Fr _ _ _ _ => F
    rename News _ _ _ _ => N
    show Endd _
    refine ⟨⟨_, _, _, _, rfl, F, N, fun p hp => ?_, _, _, rfl, D₃, withL_of _ _ ⟨rfl, trivial⟩⟩⟩
    rcases List.mem_cons.mp hp with rfl | hp
    · exact hnI (d, o) (.head _)
    · exact hnI p (.tail _ hp)
  · rintro h' tk' m' news' F₁ N₁ ⟨o, m₀, rfl, D, rfl⟩
    clear F N
    ((repeat' (first | (k_unfold; (try dsimp only)) | (((((fail_if_success (with_reducible show wpAny _ _ (eval (Expr.ListComp _ _ _ _) _) _ _ _)); (fail_if_success (with_reducible show wpAny _ _ (exec (Stmt.While _ _ _ _) _) _ _ _)); (fail_if_success (with_reducible show wpAny _ _ (exec (Stmt.For _ _ _ _ _) _) _ _ _)); (fail_if_success (with_reducible show wpAny _ _ (exec (Stmt.Assign [Expr.Name _ _] (Expr.ListComp _ _ _ _) _) _) _ _ _)); (fail_if_success (with_reducible show wpAny _ _ (pyIter _) _ _ _)); (fail_if_success (with_reducible show wpAny _ _ (call (Value.type "range") _ _) _ _ _)); (fail_if_success (with_reducible show wpAny _ _ (call (Value.type "zip") _ _) _ _ _)))); (fail_if_success (with_reducible show wpAny _ _ (call (Value.ref 137) _) _ _ _)); (fail_if_success (with_reducible show wpAny _ _ (call (Value.ref 168) _) _ _ _)); (fail_if_success (with_reducible show wpAny _ _ (call (Value.ref 173) _) _ _ _)); (fail_if_success (with_reducible show wpAny _ _ (call (Value.ref 178) _) _ _ _))); walk1) | (((((fail_if_success (with_reducible show wpAny _ _ (eval (Expr.ListComp _ _ _ _) _) _ _ _)); (fail_if_success (with_reducible show wpAny _ _ (exec (Stmt.While _ _ _ _) _) _ _ _)); (fail_if_success (with_reducible show wpAny _ _ (exec (Stmt.For _ _ _ _ _) _) _ _ _)); (fail_if_success (with_reducible show wpAny _ _ (exec (Stmt.Assign [Expr.Name _ _] (Expr.ListComp _ _ _ _) _) _) _ _ _)); (fail_if_success (with_reducible show wpAny _ _ (pyIter _) _ _ _)); (fail_if_success (with_reducible show wpAny _ _ (call (Value.type "range") _ _) _ _ _)); (fail_if_success (with_reducible show wpAny _ _ (call (Value.type "zip") _ _) _ _ _)))); (fail_if_success (with_reducible show wpAny _ _ (call (Value.ref 137) _) _ _ _)); (fail_if_success (with_reducible show wpAny _ _ (call (Value.ref 168) _) _ _ _)); (fail_if_success (with_reducible show wpAny _ _ (call (Value.ref 173) _) _ _ _)); (fail_if_success (with_reducible show wpAny _ _ (call (Value.ref 178) _) _ _ _))); dsimp only; walk1))); (all_goals try dsimp only))
    k_end
    wrow_close)
end
end Mine
theorem PySem.Challenge.cw_rh0266_01_holds : PySem.Challenge.rw_rh0266_01.Holds := by
  exact Mine.law_holds
