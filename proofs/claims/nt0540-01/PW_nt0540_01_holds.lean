import PyProof.Rows.All
import Wide.All
import OpenK.AllK
import Wide.FinOn
import PyProof.ZipIter
import PySem.Challenge.RW_nt0540_01
set_option Elab.async false
section
open PySem PySem.W PySem.Calls PyProof.Rows PySem.Spec
set_option maxRecDepth 100000
namespace Mine
/-- a code that may hold a bytearray's memory -/
def badC : Code → Bool
  | .builtin id _ => Builtin.Bytes.decodersThatHold.contains id || guardIds.contains id
  | _ => false
def SafeL (l : List (Code × Pos)) : Prop := ∀ x ∈ l, badC x.1 = false
/-- wpAny over the stacks that hold no such code -/
def wpS {α : Type} (M : Model) (A : Around) (t : Sem α) (Q : α → Shared → Prop) (E : Value → Shared → Prop) (s : Shared) : Prop :=
  ∀ Γ p, Γ.In A → badC Γ.code = false → SafeL Γ.below → Sem.wp M Γ t (fun a _ s' => Q a s') (fun e _ s' => E e s') p s
def codeS (M : Model) (A : Around) (c : Code) (R : Result → Shared → Prop) (s : Shared) : Prop :=
  ∀ Γ p, Γ.code = c → Γ.Below A → SafeL Γ.below → wpCode M Γ R p s
theorem caller_ok : badC (.builtin "claim.caller" {}) = false := by decide +kernel
/-- the claim's one thread ends: its stack is the caller's alone -/
theorem ends_safe {prog : Program} {w : World} {t : Sem Fin} {s : Shared} {R : Result → Shared → Prop} (hz : s.asleep)
    (h : wpS (model prog w) callerA t (fun fin s' => ∃ f, fin = .done f ∧ (R (.ok f) s' ∧ AllBare s'.gens)) (fun e s' => R (.error e) s' ∧ AllBare s'.gens) s) :
    ∃ n r s' s'', runN (denote table) prog w n s ⟨t, .builtin "claim.caller" {}, default, []⟩ = .halted (outcomeOf r) s' ∧
      schedN (denote table) prog w n (.single s ⟨t, .builtin "claim.caller" {}, default, []⟩) = .halted (outcomeOf r) s' ∧ s'.forget = s''.forget ∧ R r s'' := by
  have h0 := h ⟨.builtin "claim.caller" {}, none, none, [], none⟩ default caller_in caller_ok (fun x hx => nomatch hx)
  obtain ⟨n, r, s₁, s₂, hs, hn, hfo, hR⟩ := wp_halts_full (M := model prog w) (R := R) hz (Sem.wp_mono (model prog w) _ t (fun fin p' s' h' => by
      obtain ⟨f, rfl, h1, h2⟩ := h'
      exact ⟨h1, leftWithCleanup_false_of_bare h2⟩) (fun _ _ _ h' => ⟨h'.1, leftWithCleanup_false_of_bare h'.2⟩) default s h0)
  exact ⟨n, r, s₂, s₁, hn, hs, hfo, hR⟩
abbrev WalkS (q : Program) (loose : List Str) (XP : (Str → Option Value) → Heap → Prop) (YP : World → Heap → Prop) (r : RowW) (d : DefRec) (kwd : List (Str × Expr)) : Prop :=
  ∀ (w : World) (s₀ s₁ : Shared) (mg mb : Str → Option Value), Ground q loose r.records XP w s₀ mg mb s₁.heap → YP w s₁.heap → ∀ (a : Addr) (o : Obj) (pm cd doc dV kV : Value), s₁.heap.get? a = some o →
    o.data = .func { docDef d.name d.params d.body d.scope pm cd doc with defaults := dV, kwdefaults := kV } → s₁.heap.CodeRec cd d.name → Dflts mg s₁.heap d.params kwd dV kV → mg d.name = some (.ref a) → s₁.gens = #[] →
    ∀ (args : List WData) (vals : List Value) (as : List Addr), r.claim.pre args = true → WData.layableAll args = true → ReadsAllW r.records (classAt s₀.heap) s₁.heap vals args as → WellAll w.params s₁.heap vals args → (∀ a ∈ as, (a == sysModules) = false) →
      wpS (model r.prog w) callerA (PySem.call (.ref a) vals) (fun v s' => GoodWG r.claim (classAt s₀.heap) (ExcName.means s₀.heap) args s₁ (.ok (.ret v)) s')
        (fun e s' => GoodWG r.claim (classAt s₀.heap) (ExcName.means s₀.heap) args s₁ (.error e) s') s₁
/-- the head of an open law whose walk asks for the stack: as the library's holds_open, the walk over safe stacks -/
theorem holds_safe {r : OpenRow} {q : Program} {loose : List Str} {Xt : Shared → Bool} {XP : (Str → Option Value) → Heap → Prop} {α : Type} {Yf : Shared → α} {Ya : World → α} {YP : World → Heap → Prop} {d : DefRec} {kwd : List (Str × Expr)} {N : Nat}
    (left : LeftO r.prog q loose Xt Yf Ya N) (hY : ∀ w s, Yf s = Ya w → YP w s.heap) (hYk : ∀ w h h', YP w h → (∀ b o, h.get? b = some o → h'.get? b = some o) → YP w h')
    (hX : ∀ s, Xt s = true → XP (s.heap.nsMap mainGlobals) s.heap) (hXk : ∀ mg h h', XP mg h → (∀ b o, h.get? b = some o → h'.get? b = some o) → XP mg h')
    (hdef : defOf q r.name = some (d, kwd)) (hp : r.prog.theDef r.name = some (d.params, d.body, d.scope)) (hk : kwWritten? d.params.kwonlyargs d.params.kw_defaults = some kwd) (hRf : ∀ s, Xt s = true → RecFacts r.records s.heap) (hwr : (!r.writes || r.records.isEmpty) = true)
    (k1 : r.wellSaid = true) (ok : (chainsOk q && opensWell r.prog && (frees r.toRowW && r.within.isEmpty)) = true) (hb : r.prog.bare) (hw : r.toRowW.promised)
    (call : WalkS q loose XP YP r.toRowW d kwd) : r.Holds := by
  obtain ⟨hc1, hc2⟩ := Bool.and_eq_true_iff.mp ok
  obtain ⟨hchain, hopens⟩ := Bool.and_eq_true_iff.mp hc1
  obtain ⟨hfree, hin0⟩ := Bool.and_eq_true_iff.mp hc2
  obtain ⟨fsame, fu, fa, fap, fm⟩ := frees_parts hfree
  have hwi : r.toRowW.claim.within = [] := List.isEmpty_iff.mp hin0
  have hid := ident_freeW fu fa fap
  refine ⟨k1, hw, ⟨⟨hb, hopens, ?_⟩, hw.witness, fun w => ⟨(left.behind hX hchain w).1, fun sT hsT => ?_⟩⟩⟩
  · show r.toRowW.makers.map _ = []
    rw [fm]; rfl
  obtain ⟨s₀, hfence, hg0, s, hran, hasleep, hgz, hns, GR, yv⟩ := (left.behind (XP := fun mg h => XP mg h ∧ RecFacts r.records h) (fun s hs => ⟨hX s hs, hRf s hs⟩) hchain w).2 sT hsT
  have Gn : Ground q loose [] XP w s (s.heap.nsMap mainGlobals) (s.heap.nsMap builtinsNs) s.heap := ⟨GR.T, GR.B, GR.D, GR.TE, GR.TD, GR.W, GR.X.1, GR.cls, GR.has, GR.apart, GR.once, GR.K⟩
  have RF := GR.X.2
  have hg : s.gens = #[] := Array.eq_empty_of_size_eq_zero (beq_iff_eq.mp hgz)
  have GS : Ground q loose r.records XP w s _ _ s.heap := RF.ground Gn
  refine ⟨s₀, hfence, hg0, s, hran, fun n hn => ?_, RF.1, RF.2.1, ?_⟩
  · obtain rfl : n = r.name := by split at hn <;> simp_all
    exact pinned_of_view hns Gn hdef hp hk
  intro args hpre hlay ord hord
  obtain ⟨⟨vs, s₁⟩, hlaid⟩ := Option.isSome_iff_exists.mp (layAllW_isSome (P := w.params) (ord := ord) GS.has args r.args s (pre_splitW hpre).1)
  have keeps := layAllW_keeps _ _ _ hlaid
  have hal := layAllW_rest _ _ _ hlaid
  obtain ⟨as, hrd, hin, hold⟩ := reads_layAllW hord _ _ _ hlaid hlay s₁.heap (fun _ _ e => e)
  have LL : Laid r.records w s s₁ args vs as := ⟨⟨ord, hord, hlaid⟩, hrd, hin, hold, keeps, hal.1.trans hg, hal.2.2.1⟩
  have G₁ := GS.keeps hXk keeps
  obtain ⟨a, o, pm, cd, doc, dV, kV, c1, c2, c3, c4, c5⟩ := G₁.fn hdef
  have walk := call w s s₁ _ _ G₁ (hYk _ _ _ (hY w s yv) keeps) a o pm cd doc dV kV c2 c3 c4 c5 (defOf_name hdef ▸ c1) LL.gens args vs as hpre hlay LL.reads LL.well (LL.low GS.low)
  have hthread : wpS (model r.prog w) callerA (do match ← nsGet mainNs r.name with
      | some f => do ret (← PySem.call f vs)
      | none => unsupported "claim.caller:no-such-global")
      (fun fin s' => ∃ f, fin = .done f ∧ (((r.toRowW.claim.Ends s args vs s₁ (.ok f) s' ∧ s'.os = s.os) ∧ (r.writes = true → namesKept r.prog r.keeps s.heap s'.heap ∧ ∀ x ∈ r.records, ∀ a, classAt s.heap x.1 = some a → recordClass s'.heap a x.1 (x.2.map (·.1)) = true)) ∧ AllBare s'.gens))
      (fun e s' => (((r.toRowW.claim.Ends s args vs s₁ (.error e) s' ∧ s'.os = s.os) ∧ (r.writes = true → namesKept r.prog r.keeps s.heap s'.heap ∧ ∀ x ∈ r.records, ∀ a, classAt s.heap x.1 = some a → recordClass s'.heap a x.1 (x.2.map (·.1)) = true)) ∧ AllBare s'.gens)) s₁ := by
    intro Γ p hΓ hb1 hb2
    have get := (wpAny_nsGet (M := model r.prog w) (A := callerA) (E := fun _ _ => False) (Q := fun v s' => v = some (.ref a) ∧ s' = s₁) G₁.T.g ⟨c1, rfl⟩) Γ p hΓ
    show Sem.wp _ Γ (nsGet mainNs r.name >>= _) _ _ p s₁
    rw [Sem.wp_bind']
    refine Sem.wp_mono _ Γ _ (fun v p' s' h' => ?_) (fun _ _ _ h' => h'.elim) p s₁ get
    obtain ⟨rfl, rfl⟩ := h'
    show Sem.wp _ Γ (PySem.call (.ref a) vs >>= fun v => ret v) _ _ p' _
    rw [Sem.wp_bind']
    refine Sem.wp_mono _ Γ _ (fun v p'' s'' g => ?_) (fun e p'' s'' g => ?_) p' _ (walk Γ p' hΓ hb1 hb2)
    · have z := GoodWG.laid (c := r.toRowW.claim) fsame hwi hid LL g
      exact ⟨_, rfl, ⟨⟨z.1, z.2.1⟩, fun q => ⟨namesKept_of hran hns r.keeps keeps g.2.1.old, noTable hwr q⟩⟩, z.2.2⟩
    · have z := GoodWG.laid (c := r.toRowW.claim) fsame hwi hid LL g
      exact ⟨⟨⟨z.1, z.2.1⟩, fun q => ⟨namesKept_of hran hns r.keeps keeps g.2.1.old, noTable hwr q⟩⟩, z.2.2⟩
  obtain ⟨k, res, s', s'', hrun, hsched, hfo, ⟨hcase, hos⟩, hkp⟩ := ends_safe (prog := r.prog) (w := w) (R := fun res s' => (r.toRowW.claim.Ends s args vs s₁ res s' ∧ s'.os = s.os) ∧ (r.writes = true → namesKept r.prog r.keeps s.heap s'.heap ∧ ∀ x ∈ r.records, ∀ a, classAt s.heap x.1 = some a → recordClass s'.heap a x.1 (x.2.map (·.1)) = true)) (Shared.asleep_of_life hal.2.2.2 hasleep) hthread
  obtain ⟨eh, _, _, eo, _⟩ := Shared.forget_eq hfo
  have hcase := hcase.congr eh
  rw [← eo] at hos
  rw [← eh] at hkp
  have hlife : s'.heap.life = s.heap.life := (runN_life _ _ _ hrun).trans hal.2.2.2
  refine ⟨vs, s₁, hlaid, k, _, s', hsched, ?_, (fun _ i x hx => by rw [hg] at hx; simp at hx), hkp, by rw [hlife], Shared.rest_eq hos⟩
  rcases hcase with ⟨v, rfl, d1, d2, d3, d4, d5⟩ | ⟨e, ob, cls, rfl, d1, d2, d3, d4, d5⟩
  · exact .inl ⟨v, rfl, d1, d2, d3, fun b o y _ => d4 b o y, d5⟩
  · exact .inr ⟨e, ob, cls, rfl, d1, d2, d3, d4, fun b o y _ => d5 b o y⟩
end Mine
end
section
open PySem PySem.W PySem.Calls PyProof.Rows PySem.Spec
set_option maxRecDepth 100000
namespace Mine
/-- the top's defs and classes, without the three names `__name__` -/
def topV : Program := PySem.W.view PySem.Challenge.pw_nt0540_01 [1, 2, 3, 5, 6, 8, 9, 10, 11, 12, 13, 14, 15, 16, 17]
abbrev topX (s : Shared) : Bool := xlAt topV [] s && recOk (RowW.records (OpenRow.toRowW (OpenLaw.row PySem.Challenge.rw_nt0540_01))) s
/-- the start-up of a plain program is the library's own run: the top alone is left to run -/
theorem left_of_boot {p q : Program} {loose : List Str} {Xt : Shared → Bool} {α : Type} {Yf : Shared → α} {Ya : World → α} {N : Nat}
    (e : opening p = plainProg p.main.scope.names) (hN : Nat.ble 600 N = true) (f : ∀ s, fenceModules? p s = some s)
    (h : ∀ (w : World) (os : OsState), (topFrom treeTable p w N ⟨boot_heap w.params, Array.mk [], boot_drawn, boot_toks, os⟩).map (fun s => (openSeen q loose (importedModules p.main.body) Xt true s, Yf s)) = some (openGood q loose, Ya w)) :
    LeftO p q loose Xt Yf Ya N := fun w => by
  obtain ⟨s, hs, hv⟩ := Option.map_eq_some_iff.mp (boot_open e hN f w)
  obtain ⟨h1, g, d, k, os⟩ := s
  obtain ⟨rfl, r⟩ := Prod.mk.inj hv
  obtain ⟨rfl, r⟩ := Prod.mk.inj r
  obtain ⟨rfl, rfl⟩ := Prod.mk.inj r
  unfold openEnds
  rw [hs]
  exact h w os
/-- the head's run: the start-up is the library's, the rest of the top's 1655 steps the kernel walks at once, by the library's quick twins of topRun and openSeen (the kit's pieces make the same proof ten times as large) -/
local macro_rules
  | `(tactic| o_head $H) => `(tactic| (
      refine Mine.holds_safe (q := Mine.topV) (loose := []) (Xt := Mine.topX) (XP := XL Mine.topV []) (Yf := Hook.obs $H) (Ya := Hook.val $H) (YP := Hook.says $H) (N := 2000) ?hl (Hook.of $H) (Hook.keeps $H) (fun s e => xl_of s (Bool.and_eq_true_iff.mp e).1) XL.keeps (by rfl) (by rfl) (by rfl) (fun s e => recFacts_of (Bool.and_eq_true_iff.mp e).2) (by rfl) (by first | assumption | decide +kernel) (by decide +kernel) ⟨rfl, rfl, rfl, rfl, rfl, by decide +kernel⟩ ?hw ?hc
      (case hl => exact left_of_boot (by kernel_rfl) (by kernel_rfl) (fun s => by kernel_rfl) (fun w os => by first | (unfold topFrom; rw [PySem.W.Fast.te14082659384304107361, PySem.W.Fast.te4187177175401517315]; kernel_rfl) | kernel_rfl))))
set_option maxHeartbeats 8000000 in
open_top hd for PySem.Challenge.rw_nt0540_01
end Mine
end
section
open PySem PySem.W PyProof.Rows
namespace Mine
theorem fill : PySem.Challenge.rw_nt0540_01 = PySem.Challenge.rw_nt0540_01 ∧ Mine.hd.heap_39 = Mine.hd.heap_39 := by
  w_top off
  k_fill
  exact ⟨rfl, rfl⟩
abbrev Led := List (Addr × Obj)
abbrev Called (hn : Option Value) (w : World) (p : Program) (loose : List Str) (mean : ExcName → Option Value) (mg mb : Str → Option Value) (f : Addr) (vs : List Value) (news : Led) (dd uu : Nat)
    (Side : Heap → Prop) (Ret : (Value → Led → Prop) → Prop) : Prop :=
  ∀ (dp un : Nat) (gd : Option (List Code)) (cn : Str) (cs : Scope) (a : Addr) (ccd : Value) (cl : List (Str × Addr)) (outer : List Env) (A₀ : Around) (base h₀ : Heap) (L : Addr) (m : Str → Option Value) (s : Shared) (Q E : Value → Shared → Prop),
    Below A₀ base outer h₀ → Fr h₀ L s.heap m → (Mine.hd.heap_39 w.params).In h₀ → News h₀ L s.heap news → Top p loose mean mg mb h₀ → cs.kind = .function →
    dp + dd < recursionLimit → un + uu < cLine → Side base →
    Ret (fun v news' => ∀ (h' : Heap) (tk' : Nat), Fr h₀ L h' m → News h₀ L h' news' → Q v { s with heap := h', toks := tk' }) →
      wpAny (model PySem.Challenge.pw_nt0540_01 w) ({ handled := hn, depth := dp, frames := some (envX cn cs L a ccd cl :: outer), guards := gd, units := un } : Around) (call (.ref f) vs) Q E s
theorem news_sub {h₀ h : Heap} {L : Addr} {l l' : Led} (N : News h₀ L h l) (hs : ∀ p ∈ l', p ∈ l) : News h₀ L h l' := fun p hp => N p (hs p hp)
theorem news_out {h₀ h : Heap} {L : Addr} {pre post : Led} {e : Addr × Obj} (N : News h₀ L h (pre ++ e :: post)) : News h₀ L h (e :: (pre ++ post)) :=
  news_sub N (by intro p hp; simp only [List.mem_append, List.mem_cons] at hp ⊢; rcases hp with rfl | hp | hp <;> simp_all)
theorem news_in {h₀ h : Heap} {L : Addr} {pre post : Led} {e : Addr × Obj} (N : News h₀ L h (e :: (pre ++ post))) : News h₀ L h (pre ++ e :: post) :=
  news_sub N (by intro p hp; simp only [List.mem_append, List.mem_cons] at hp ⊢; rcases hp with hp | rfl | hp <;> simp_all)
abbrev on (x : Str) (v : Value) (m : Str → Option Value) : Str → Option Value := fun y => if y = x then some v else m y
theorem on1 {x1 : Str} {v1 : Value} {m : Str → Option Value} (h1 : m x1 = some v1) : m = on x1 v1 m := funext fun y => by
  by_cases hy : y = x1
  · subst hy; simp [on, h1]
  · simp [on, hy]
theorem on2 {x1 x2 : Str} {v1 v2 : Value} {m : Str → Option Value} (h1 : m x1 = some v1) (h2 : m x2 = some v2) : m = on x1 v1 (on x2 v2 m) := by
  rw [← on1 h2]; exact on1 h1
theorem on3 {x1 x2 x3 : Str} {v1 v2 v3 : Value} {m : Str → Option Value} (h1 : m x1 = some v1) (h2 : m x2 = some v2) (h3 : m x3 = some v3) : m = on x1 v1 (on x2 v2 (on x3 v3 m)) := by
  rw [← on1 h3]; exact on2 h1 h2
theorem on4 {x1 x2 x3 x4 : Str} {v1 v2 v3 v4 : Value} {m : Str → Option Value} (h1 : m x1 = some v1) (h2 : m x2 = some v2) (h3 : m x3 = some v3) (h4 : m x4 = some v4) : m = on x1 v1 (on x2 v2 (on x3 v3 (on x4 v4 m))) := by
  rw [← on1 h4]; exact on3 h1 h2 h3
abbrev tupO (vs : List Value) : Obj := { cls := .type "tuple", data := .seq vs.toArray }
theorem fr1 {h₀ h : Heap} {L : Addr} {m : Str → Option Value} {x1 : Str} {v1 : Value} (F : Fr h₀ L h m) (h1 : m x1 = some v1) : Fr h₀ L h (on x1 v1 m) := by rw [← on1 h1]; exact F
theorem fr2 {h₀ h : Heap} {L : Addr} {m : Str → Option Value} {x1 x2 : Str} {v1 v2 : Value} (F : Fr h₀ L h m) (h1 : m x1 = some v1) (h2 : m x2 = some v2) : Fr h₀ L h (on x1 v1 (on x2 v2 m)) := by rw [← on2 h1 h2]; exact F
theorem fr3 {h₀ h : Heap} {L : Addr} {m : Str → Option Value} {x1 x2 x3 : Str} {v1 v2 v3 : Value} (F : Fr h₀ L h m) (h1 : m x1 = some v1) (h2 : m x2 = some v2) (h3 : m x3 = some v3) : Fr h₀ L h (on x1 v1 (on x2 v2 (on x3 v3 m))) := by rw [← on3 h1 h2 h3]; exact F
def bitsZ (v : Int) : Nat → List Bool
  | 0 => []
  | z + 1 => decide (v / 2 ^ z % 2 = 1) :: bitsZ v z
def rowBits (nums : List (Int × Int)) : List Bool := nums.flatMap fun p => bitsZ p.1 p.2.toNat
def strB (bs : List Bool) : Str := ⟨(bs.map fun b => if b then 49 else 48).toArray⟩
theorem strB_append (a b : List Bool) : strB (a ++ b) = strB a ++ strB b := by
  show _ = (⟨_⟩ : Str)
  unfold strB
  simp
def Nums (tup : Led) (vs : List Value) (nums : List (Int × Int)) : Prop :=
  vs.length = nums.length ∧ ∀ (i : Nat) (v z : Int), nums[i]? = some (v, z) → ∃ (a : Addr) (tv tz : Tok), vs[i]? = some (.ref a) ∧ (a, tupO [.int v tv, .int z tz]) ∈ tup
theorem Nums.nil : Nums [] [] [] := ⟨rfl, fun _ _ _ h => by simp at h⟩
theorem Nums.snoc {tup : Led} {vs : List Value} {nums : List (Int × Int)} {a : Addr} {v z : Int} {tv tz : Tok} (h : Nums tup vs nums) :
    Nums ((a, tupO [.int v tv, .int z tz]) :: tup) (vs ++ [.ref a]) (nums ++ [(v, z)]) := by
  refine ⟨by simp [h.1], fun i v' z' hi => ?_⟩
  rcases Nat.lt_or_ge i nums.length with hlt | hge
  · rw [List.getElem?_append_left hlt] at hi
    obtain ⟨a', tv', tz', e, hm⟩ := h.2 i v' z' hi
    exact ⟨a', tv', tz', by rw [List.getElem?_append_left (by rw [h.1]; exact hlt)]; exact e, .tail _ hm⟩
  · rw [List.getElem?_append_right hge] at hi
    have hi0 : i - nums.length = 0 := by
      rcases Nat.eq_zero_or_pos (i - nums.length) with h0 | h0
      · exact h0
      · rw [List.getElem?_eq_none (by simp; omega)] at hi; cases hi
    rw [hi0] at hi
    simp at hi
    obtain ⟨rfl, rfl⟩ := hi
    exact ⟨a, tv, tz, by rw [List.getElem?_append_right (by rw [h.1]; exact hge), h.1, hi0]; rfl, .head _⟩
end Mine
end
section
open PySem PySem.W PyProof.Rows PySem.Spec
namespace Mine
def LoopM (prog : Program) (w : World) (A : Around) (h₀ : Heap) (env : Env) (x : Str) (body : List Stmt) (Q : Flow → Shared → Prop) (E : Value → Shared → Prop) (it : Value) (s₂ : Shared) : Prop := LoopAtV prog w A h₀ env x body Q E it s₂
def TurnG (h₀ : Heap) (L : Addr) (I : Addr) (oI : Obj) (Jn : (Str → Option Value) → Led → Prop) (s₁ : Shared) (Q : Flow → Shared → Prop) (f : Flow) (s₂ : Shared) : Prop :=
  match f with
  | .ret v => Q (.ret v) s₂
  | .brk => Q .next s₂
  | _ => ∃ h' tk m' news', s₂ = { s₁ with heap := h', toks := tk } ∧ Fr h₀ L h' m' ∧ News h₀ L h' ((I, oI) :: news') ∧ (∀ p ∈ news', p.1 ≠ I) ∧ Jn m' news'
theorem TurnG.next {h₀ : Heap} {L I : Addr} {oI : Obj} {Jn : (Str → Option Value) → Led → Prop} {s₁ : Shared} {Q : Flow → Shared → Prop} {h' : Heap} {tk : Nat} {m' : Str → Option Value} {news' : Led}
    (F : Fr h₀ L h' m') (N : News h₀ L h' ((I, oI) :: news')) (hne : ∀ p ∈ news', p.1 ≠ I) (hJ : Jn m' news') : TurnG h₀ L I oI Jn s₁ Q .next { s₁ with heap := h', toks := tk } :=
  ⟨h', tk, m', news', rfl, F, N, hne, hJ⟩
section
variable {prog : Program} {w : World} {A : Around} {E : Value → Shared → Prop} {s : Shared} {env : Env} {h₀ : Heap} {x : Str} {body : List Stmt} {Q : Flow → Shared → Prop}
theorem range_loop {r : Addr} {a₀ b₀ c₀ : Int} {t₀ u₀ v₀ : Tok} {n : Nat} {m₀ : Str → Option Value} {news : Led} (J : Nat → (Str → Option Value) → Led → Prop)
    (hh : A.handled = none) (hr : IsRange s.heap r a₀ b₀ c₀ t₀ u₀ v₀) (hsmall : Builtin.Range.small a₀ b₀ c₀ = true) (hn : Builtin.Range.rangeSize a₀ b₀ c₀ = (n : Int)) (F : Fr h₀ env.locals s.heap m₀) (N : News h₀ env.locals s.heap news) (hj : J 0 m₀ news)
    (turn : ∀ i m₁ news₁ I oI h tk t, i < n → J i m₁ news₁ → (∀ p ∈ news₁, p.1 ≠ I) → Fr h₀ env.locals h (fun y => if y = x then some (.int (a₀ + i * c₀) t) else m₁ y) → News h₀ env.locals h ((I, oI) :: news₁) →
      wpAny (model prog w) A (execs body env) (TurnG h₀ env.locals I oI (J (i + 1)) { s with heap := h, toks := tk } Q) E { s with heap := h, toks := tk })
    (done : ∀ m₁ news₁ h tk, J n m₁ news₁ → Fr h₀ env.locals h m₁ → News h₀ env.locals h news₁ → Q .next { s with heap := h, toks := tk }) :
    wpAny (model prog w) A (pyIter (.ref r)) (fun it s₂ => LoopM prog w A h₀ env x body Q E it s₂) E s := by
  refine wpAny_pyIter_range hr hsmall ?_
  have W : Walks prog w A s.heap.objs.size [s.heap.objs.size] [s.heap.objs.size] n (fun i v => i < n ∧ ∃ t, v = .int (a₀ + i * c₀) t)
      (fun i h => IsRangeIter h s.heap.objs.size (a₀ + (i : Nat) * c₀) ((n : Int) - (i : Nat)) c₀) := (Walks.range hh _ a₀ c₀ n).bound
  refine ⟨_, _, _, n, _, _, m₀, news, J, rfl, W, ?_, ?_, ?_, ?_, F.push _, (fun p hp => ⟨Heap.get?_push_of_some _ (N p hp).1, (N p hp).2⟩), hj, ?_, ?_⟩
  · intro hm
    exact absurd F.ns.lt ((List.mem_singleton.mp hm) ▸ Nat.lt_irrefl _)
  · intro b hb
    rw [List.mem_singleton.mp hb]
    exact next_is_new F
  · intro p hp hI
    exact absurd (Heap.lt_size (N p hp).1) ((List.mem_singleton.mp hI) ▸ Nat.lt_irrefl _)
  · show IsRangeIter _ _ _ _ _; rw [hn]; simpa using Heap.get?_push_size _ rfl
  · rintro i v m₁ news₁ s₁ own ⟨hh', tk', rfl⟩ hin ⟨_, t, rfl⟩ hJ hoff hown hown2 hall hst' F₁ N₁
    obtain ⟨oI, hI⟩ : ∃ o, hh'.get? s.heap.objs.size = some o := ⟨_, hst'⟩
    have hIo := hall s.heap.objs.size (List.mem_singleton.mpr rfl) (next_is_new F) _ hI
    have hone : ∀ p ∈ own, p = (s.heap.objs.size, oI) := fun p hp => by
      have e1 : p.1 = s.heap.objs.size := List.mem_singleton.mp (hown p hp)
      have e2 := hown2 p hp
      have e3 : hh'.get? p.1 = some p.2 := e2
      rw [e1, hI] at e3
      exact Prod.ext e1 (Option.some.inj e3).symm
    refine wpAny_mono (turn i m₁ news₁ s.heap.objs.size oI hh' tk' t hin hJ (fun p hp e => hoff p hp (List.mem_singleton.mpr e)) F₁ (fun p hp => ?_)) (fun f s₂ p => ?_) fun _ _ e => e
    · rcases List.mem_cons.mp hp with rfl | hp
      · exact N₁ _ (List.mem_append_left _ hIo)
      · exact N₁ _ (List.mem_append_right _ hp)
    · have fin : ∀ f', (∃ h' tk m' news', s₂ = { ({ s with heap := hh', toks := tk' } : Shared) with heap := h', toks := tk } ∧ Fr h₀ env.locals h' m' ∧ News h₀ env.locals h' ((s.heap.objs.size, oI) :: news') ∧ (∀ p ∈ news', p.1 ≠ s.heap.objs.size) ∧ J (i + 1) m' news') →
          f' = Flow.next → LoopStepU h₀ env.locals [s.heap.objs.size] own (J (i + 1)) { s with heap := hh', toks := tk' } f' s₂ := by
        rintro f' ⟨h', tk, m', news', e, F', N', hn', hm⟩ rfl
        refine ⟨rfl, h', tk, m', news', e, F', fun p hp => ?_, fun p hp hq => hn' p hp (List.mem_singleton.mp hq), hm⟩
        rcases List.mem_append.mp hp with hp | hp
        · rw [hone p hp]; exact N' _ (.head _)
        · exact N' _ (.tail _ hp)
      cases f with
      | ret v => exact .ret p
      | brk => exact .brk p
      | next => exact .next (fin _ p rfl)
      | cont => exact .cont (fin _ p rfl)
  · rintro h' tk m' news' F' N' _ hJ
    exact done m' news' h' tk hJ F' N'
end

def TurnT (h₀ : Heap) (L : Addr) (I : Addr) (oI : Obj) (Jn : (Str → Option Value) → Led → Prop) (s₁ : Shared) (f : Flow) (s₂ : Shared) : Prop :=
  f = .next ∧ ∃ h' tk m' news', s₂ = { s₁ with heap := h', toks := tk } ∧ Fr h₀ L h' m' ∧ News h₀ L h' ((I, oI) :: news') ∧ (∀ p ∈ news', p.1 ≠ I) ∧ Jn m' news'
theorem TurnT.next {h₀ : Heap} {L I : Addr} {oI : Obj} {Jn : (Str → Option Value) → Led → Prop} {s₁ : Shared} {h' : Heap} {tk : Nat} {m' : Str → Option Value} {news' : Led}
    (F : Fr h₀ L h' m') (N : News h₀ L h' ((I, oI) :: news')) (hne : ∀ p ∈ news', p.1 ≠ I) (hJ : Jn m' news') : TurnT h₀ L I oI Jn s₁ .next { s₁ with heap := h', toks := tk } :=
  ⟨rfl, h', tk, m', news', rfl, F, N, hne, hJ⟩
section
variable {prog : Program} {w : World} {A : Around} {E : Value → Shared → Prop} {s : Shared} {env : Env} {h₀ : Heap} {target : Expr} {body : List Stmt} {Q : Flow → Shared → Prop}
theorem list_loopT {l : Addr} {lo : Obj} {vs : List Value} {m₀ : Str → Option Value} {news : Led} (J : Nat → (Str → Option Value) → Led → Prop)
    (hh : A.handled = none) (hm : (l, lo) ∈ news) (hlo : ∀ h : Heap, h.get? l = some lo → h.IsList l vs.toArray) (hkeep : ∀ i m₁ news₁, J i m₁ news₁ → (l, lo) ∈ news₁) (F : Fr h₀ env.locals s.heap m₀) (N : News h₀ env.locals s.heap news) (hj : J 0 m₀ news)
    (turn : ∀ i v m₁ news₁ I oI (s₁ : Shared), vs[i]? = some v → J i m₁ news₁ → (∀ p ∈ news₁, p.1 ≠ I) → Fr h₀ env.locals s₁.heap m₁ → News h₀ env.locals s₁.heap ((I, oI) :: news₁) →
      wpAny (model prog w) A (assign target env v) (fun _ s₃ => wpAny (model prog w) A (execs body env) (TurnT h₀ env.locals I oI (J (i + 1)) s₁) E s₃) E s₁)
    (done : ∀ m₁ news₁ h tk, J vs.length m₁ news₁ → Fr h₀ env.locals h m₁ → News h₀ env.locals h news₁ → Q .next { s with heap := h, toks := tk }) :
    wpAny (model prog w) A (pyIter (.ref l)) (fun it s₂ => LoopAtT prog w A h₀ env target body Q E it s₂) E s := by
  have hls : s.heap.IsList l vs.toArray := hlo _ (N _ hm).1
  have hne : l ≠ s.heap.objs.size := Nat.ne_of_lt (Heap.lt_size (N _ hm).1)
  refine wpAny_pyIter_list hls ?_
  have W := Walks.list (prog := prog) (w := w) hh s.heap.objs.size l hne vs.toArray
  have hlen : vs.toArray.size = vs.length := by simp
  rw [hlen] at W
  refine ⟨_, _, _, vs.length, _, _, m₀, news, J, rfl, W, ?_, ?_, ?_, ⟨⟨_, Heap.get?_push_size _ rfl, rfl, rfl⟩, hls.at fun o e => Heap.get?_push_of_some _ e⟩, F.push _, (fun p hp => ⟨Heap.get?_push_of_some _ (N p hp).1, (N p hp).2⟩), (fun i s' v Q' st hQ' => letGo_listiter st.1 hQ'), hj, ?_, ?_⟩
  · intro hm'
    rcases List.mem_cons.mp hm' with e | hm'
    · exact absurd F.ns.lt (e ▸ Nat.lt_irrefl _)
    · exact (N _ hm).2.1 (List.mem_singleton.mp hm').symm
  · intro b hb
    rw [List.mem_singleton.mp hb]
    exact next_is_new F
  · intro p hp hI
    exact absurd (Heap.lt_size (N p hp).1) ((List.mem_singleton.mp hI) ▸ Nat.lt_irrefl _)
  · rintro i v m₁ news₁ s₁ own hin hP hJ hoff hown hown2 hall hst' F₁ N₁
    have hP' : vs[i]? = some v := by simpa using hP
    obtain ⟨⟨oI, hI, _⟩, _⟩ := hst'
    have hIo := hall s.heap.objs.size (.head _) (next_is_new F) _ hI
    have hl₁ : s₁.heap.get? l = some lo := (N₁ _ (List.mem_append_right _ (hkeep _ _ _ hJ))).1
    have hone : ∀ p ∈ own, p = (s.heap.objs.size, oI) ∨ p = (l, lo) := fun p hp => by
      have e3 := hown2 p hp
      rcases List.mem_cons.mp (hown p hp) with e1 | e1
      · rw [e1, hI] at e3; exact .inl (Prod.ext e1 (Option.some.inj e3).symm)
      · have e1 := List.mem_singleton.mp e1
        rw [e1, hl₁] at e3; exact .inr (Prod.ext e1 (Option.some.inj e3).symm)
    have hlI : l ≠ s.heap.objs.size := hne
    refine wpAny_mono (turn i v m₁ news₁ s.heap.objs.size oI s₁ hP' hJ (fun p hp e => hoff p hp (List.mem_singleton.mpr e)) F₁ (fun p hp => ?_)) (fun _ s₂ p => wpAny_mono p (fun f s₃ p => ?_) fun _ _ e => e) fun _ _ e => e
    · rcases List.mem_cons.mp hp with rfl | hp
      · exact N₁ _ (List.mem_append_left _ hIo)
      · exact N₁ _ (List.mem_append_right _ hp)
    · obtain ⟨rfl, h', tk, m', news', rfl, F', N', hn', hJ'⟩ := p
      refine ⟨rfl, h', tk, m', news', rfl, F', fun p hp => ?_, fun p hp hq => hn' p hp (List.mem_singleton.mp hq), hJ'⟩
      rcases List.mem_append.mp hp with hp | hp
      · rcases hone p hp with e | e
        · rw [e]; exact N' _ (.head _)
        · rw [e]; exact N' _ (.tail _ (hkeep _ _ _ hJ'))
      · exact N' _ (.tail _ hp)
  · rintro h' tk m' news' F' N' _ hJ
    exact done m' news' h' tk hJ F' N'
end

section
variable {prog : Program} {w : World} {A : Around} {E : Value → Shared → Prop} {s : Shared} {env : Env} {h₀ : Heap} {x : Str} {body : List Stmt} {Q : Flow → Shared → Prop}
theorem For_M {m : Str → Option Value} {px pos : Pos} {iter : Expr} (F : Fr h₀ env.locals s.heap m) (hx : env.kindOf x = some .local)
    (hp : (env.scope.kind == .class || (env.scope.kind == .module && env.locals != env.globals)) = false)
    (h : wpAny (model prog w) A (eval iter env) (fun xv s₁ => wpAny (model prog w) A (pyIter xv) (fun it s₂ => LoopM prog w A h₀ env x body Q E it s₂) E s₁) E s)
    (hs : ∀ x, foldedSetIterable iter env x = pure x := by intro _; rfl)
    (hE : PassesOwn (model prog w) A env E := by passes_own) :
    wpAny (model prog w) A (exec (.For (.Name x px) iter body [] pos) env) Q E s := For_invVF F hx hp h hs hE
end
end Mine
end
section
open PySem PySem.W PyProof.Rows
namespace Mine
theorem reset_NT_take : True := by
  w_top off
  exact True.intro
local macro_rules | `(tactic| k_all) => `(tactic| with_reducible assumption)
theorem mulok_fmod (a b : Int) : IntMulOk (a.fmod 2147483647) b := .of_left (PySem.intBits_le_64 (by have := Int.fmod_nonneg_of_pos a (b := 2147483647) (by decide); omega) (by have := Int.fmod_lt_of_pos a (b := 2147483647) (by decide); omega))
local macro_rules | `(tactic| mul_fits) => `(tactic| k_dflt (exact mulok_fmod _ _))
set_option maxRecDepth 100000 in
set_option maxHeartbeats 8000000 in
theorem take_spec {w : World} {p : Program} {loose : List Str} {mean : ExcName → Option Value} {mg mb : Str → Option Value}
    {src : Addr} {rest : Led} {x0 x1 : Int} {t0 t1 : Tok} {n : Nat} {top : Int} {tt : Tok}
    (h0 : 0 ≤ x0) (h1 : 0 ≤ x1) (h1' : x1 < 2147483647) (ht : 1 ≤ top) (ht2 : top ≤ 2 ^ 20) (hne : ∀ q ∈ rest, q.1 ≠ src) :
    Called none w p loose mean mg mb 156 [.ref src, .int top tt] ((src, listOf #[.int x0 t0, .int x1 t1] n) :: rest) 1 8 (fun _ => True)
      (fun P => ∀ (y0 y1 r : Int) (u0 u1 ur : Tok), 0 ≤ y0 → 0 ≤ y1 → y1 < 2147483647 → 0 ≤ r → r < top → P (.int r ur) ((src, listOf #[.int y0 u0, .int y1 u1] n) :: rest)) := by
  intro dp un gd cn cs a ccd cl outer A₀ base h₀ L m s Q E B F X N T hk hd hu hS hret
  refine wpAny_call ?_
  (first | k_dflt cell_enter | fail "not entered")
  w_strict (k_steps)
  all_goals (try dsimp only)
  · refine hret _ _ _ _ _ _ ?_ ?_ ?_ ?_ ?_ _ _ (by assumption) (by assumption)
    · exact Int.fdiv_nonneg h0 (by omega)
    · exact h1
    · exact h1'
    · exact Int.fmod_nonneg_of_pos _ (by omega)
    · exact Int.fmod_lt_of_pos _ (by omega)
  · refine hret _ _ _ _ _ _ ?_ ?_ ?_ ?_ ?_ _ _ (by assumption) (by assumption)
    · exact h0
    · exact Int.fmod_nonneg_of_pos _ (by omega)
    · exact Int.fmod_lt_of_pos _ (by omega)
    · exact Int.fmod_nonneg_of_pos _ (by omega)
    · exact Int.fmod_lt_of_pos _ (by omega)
theorem take_use {w : World} {p : Program} {loose : List Str} {mean : ExcName → Option Value} {mg mb : Str → Option Value}
    {src : Addr} {news : Led} {g : Obj → Led} {x0 x1 : Int} {t0 t1 : Tok} {n : Nat} {top : Int} {tt : Tok}
    (U : UpdF src (listOf #[.int x0 t0, .int x1 t1] n) news g) (h0 : 0 ≤ x0) (h1 : 0 ≤ x1) (h1' : x1 < 2147483647) (ht : 1 ≤ top) (ht2 : top ≤ 2 ^ 20) :
    Called none w p loose mean mg mb 156 [.ref src, .int top tt] news 1 8 (fun _ => True)
      (fun P => ∀ (y0 y1 r : Int) (u0 u1 ur : Tok), 0 ≤ y0 → 0 ≤ y1 → y1 < 2147483647 → 0 ≤ r → r < top → P (.int r ur) (g (listOf #[.int y0 u0, .int y1 u1] n))) := by
  intro dp un gd cn cs a ccd cl outer A₀ base h₀ L m s Q E B F X N T hk hd hu hS hret
  obtain ⟨pre, post, rfl, hg, a1, a2⟩ := U.split
  refine take_spec (rest := pre ++ post) h0 h1 h1' ht ht2 (fun q hq => (List.mem_append.mp hq).elim (a1 q) (a2 q)) _ _ _ _ _ _ _ _ _ _ _ _ _ _ _ _ _ B F X (news_out N) T hk hd hu hS ?_
  intro y0 y1 r u0 u1 ur c1 c2 c3 c4 c5 h' tk' F' N'
  exact hret y0 y1 r u0 u1 ur c1 c2 c3 c4 c5 h' tk' F' (by rw [hg]; exact news_in N')
end Mine
end
section
open PySem PySem.W PyProof.Rows
namespace Mine
theorem reset_NT_pool : True := by
  w_top off
  exact True.intro
local macro_rules | `(tactic| k_all) => `(tactic| with_reducible assumption)
set_option maxRecDepth 100000 in
set_option maxHeartbeats 8000000 in
theorem pool_spec {w : World} {p : Program} {loose : List Str} {mean : ExcName → Option Value} {mg mb : Str → Option Value}
    {rest : Led} {l : Addr} {vs : List Value} {ns : List Int} (hi : IntsAre vs ns) (hlen : ns.length ≤ 63) :
    Called none w p loose mean mg mb 149 [.ref l] rest 1 8 (fun h => h.IsList l vs.toArray)
      (fun P => ∀ (q : Addr) (y0 y1 : Int) (u0 u1 : Tok), 0 ≤ y0 → 0 ≤ y1 → y1 < 2147483647 → (∀ p ∈ rest, p.1 < q) → P (.ref q) ((q, listOf #[.int y0 u0, .int y1 u1] 0) :: rest)) := by
  intro dp un gd cn cs a ccd cl outer A₀ base h₀ L m s Q E B F X N T hk hd hu hS hret
  refine wpAny_call ?_
  (first | k_dflt cell_enter | fail "not entered")
  (k_with "pyIter ref" => k_state (fun pre m => 0 ≤ m ∧ m < 2147483647) "mixed")
  w_strict (k_steps)
  all_goals (try dsimp only)
  k_with_none
  all_goals (refine hret _ _ _ _ _ ?_ ?_ ?_ ?_ _ _ (by assumption) (by assumption) <;> first | assumption | omega | (refine Int.le_trans ?_ (by assumption); decide))
end Mine
end
section
open PySem PySem.W PyProof.Rows
namespace Mine
theorem reset_NT_numbers : True := by
  w_top off
  exact True.intro
local macro_rules | `(tactic| k_all) => `(tactic| with_reducible assumption)
theorem pow_lo (r : Int) : (1 : Int) ≤ 1 * 2 ^ r.toNat := by
  have h := Nat.one_le_two_pow (n := r.toNat)
  have e : ((2 ^ r.toNat : Nat) : Int) = 2 ^ r.toNat := by push_cast; rfl
  rw [Int.one_mul, ← e]; omega
theorem pow_hi {r : Int} (h : r < 18) : (1 : Int) * 2 ^ r.toNat ≤ 2 ^ 20 := by
  have h := Nat.pow_le_pow_right (n := 2) (by decide) (show r.toNat ≤ 20 by omega)
  have e : ((2 ^ r.toNat : Nat) : Int) = 2 ^ r.toNat := by push_cast; rfl
  rw [Int.one_mul, ← e]; exact_mod_cast h
abbrev GoodNums (nums : List (Int × Int)) : Prop := ∀ z ∈ nums, 0 ≤ z.2 ∧ z.2 < 18 ∧ 0 ≤ z.1 ∧ z.1 < 1 * 2 ^ z.2.toNat
def NumJ (q src : Addr) (rest : Led) (n : Nat) (i : Nat) (m : Str → Option Value) (news : Led) : Prop :=
  ∃ (u : Str → Option Value) (k : Nat) (vs : List Value) (nums : List (Int × Int)) (tup : Led) (y0 y1 : Int) (u0 u1 : Tok), m = on "found" (.ref q) (on "source" (.ref src) u) ∧
    news = (q, listOf vs.toArray k) :: (src, listOf #[.int y0 u0, .int y1 u1] n) :: (tup ++ rest) ∧ Nums tup vs nums ∧ GoodNums nums ∧ nums.length = i ∧ 0 ≤ y0 ∧ 0 ≤ y1 ∧ y1 < 2147483647 ∧ (∀ z ∈ tup, q < z.1) ∧ src < q ∧ (∀ z ∈ rest, z.1 < q) ∧ (∀ z ∈ rest, z.1 ≠ src)
theorem NumJ.start {q src : Addr} {rest : Led} {n k : Nat} {m : Str → Option Value} {y0 y1 : Int} {u0 u1 : Tok} (h1 : m "found" = some (.ref q)) (h2 : m "source" = some (.ref src)) (a : 0 ≤ y0) (b : 0 ≤ y1) (c : y1 < 2147483647) (d : src < q ∧ AllLt q rest) (e : ∀ z ∈ rest, z.1 ≠ src) :
    NumJ q src rest n 0 m ((q, listOf #[] k) :: (src, listOf #[.int y0 u0, .int y1 u1] n) :: rest) :=
  ⟨m, k, [], [], [], y0, y1, u0, u1, on2 h1 h2, rfl, Nums.nil, (by intro z hz; cases hz), rfl, a, b, c, (by intro z hz; cases hz), d.1, ktn_ltOf d.2, e⟩
theorem ne_lt {a b : Nat} (h : ¬ a = b) : a < b ∨ b < a := Nat.lt_or_gt_of_ne h
theorem num_f1 {q src : Addr} {tup rest : Led} (h : ∀ z ∈ tup, q < z.1) (hs : src < q) (hr : ∀ z ∈ rest, z.1 ≠ src) : ∀ z ∈ tup ++ rest, z.1 ≠ src := fun z hz => (List.mem_append.mp hz).elim (fun a => Nat.ne_of_gt (Nat.lt_trans hs (h z a))) (hr z)
theorem num_f2 {q : Addr} {tup rest : Led} (h : ∀ z ∈ tup, q < z.1) (hr : ∀ z ∈ rest, z.1 < q) : ∀ z ∈ tup ++ rest, z.1 ≠ q := fun z hz => (List.mem_append.mp hz).elim (fun a => Nat.ne_of_gt (h z a)) (fun a => Nat.ne_of_lt (hr z a))
theorem NumJ.next {h₀ h' : Heap} {L I D q src : Addr} {oI : Obj} {m' : Str → Option Value} {tup rest : Led} {vs : List Value} {nums : List (Int × Int)} {v z y0 y1 c0' c1' : Int} {tv tz u0 u1 w0 w1 : Tok} {k n i : Nat} {s₁ : Shared} {Q : Flow → Shared → Prop} {tk : Nat}
    (F : Fr h₀ L h' m') (N : News h₀ L h' ((D, tupO [.int v tv, .int z tz]) :: (I, oI) :: (q, listOf (vs.toArray.push (.ref D)) (k + 1)) :: (src, listOf #[.int y0 u0, .int y1 u1] n) :: (tup ++ rest)))
    (h1 : m' "found" = some (.ref q)) (h2 : m' "source" = some (.ref src)) (hN : Nums tup vs nums) (hg : GoodNums nums) (hc : nums.length = i) (z0 : 0 ≤ z) (z1 : z < 18) (v0 : 0 ≤ v) (v1 : v < 1 * 2 ^ z.toNat)
    (c0 : 0 ≤ y0) (c1 : 0 ≤ y1) (c2 : y1 < 2147483647) (ht : ∀ z ∈ tup, q < z.1) (hs : src < q) (hr : ∀ z ∈ rest, z.1 < q) (hr' : ∀ z ∈ rest, z.1 ≠ src)
    (l1 : I < D ∧ q < D ∧ src < D ∧ AllLt D (tup ++ rest)) (hI : ∀ p ∈ (q, listOf vs.toArray k) :: (src, listOf #[.int c0' w0, .int c1' w1] n) :: (tup ++ rest), p.1 ≠ I) :
    TurnG h₀ L I oI (NumJ q src rest n (i + 1)) s₁ Q .next { s₁ with heap := h', toks := tk } := by
  refine TurnG.next (news' := (q, listOf (vs ++ [Value.ref D]).toArray (k + 1)) :: (src, listOf #[.int y0 u0, .int y1 u1] n) :: (((D, tupO [.int v tv, .int z tz]) :: tup) ++ rest)) F (news_sub N ?_) ?_ ⟨m', k + 1, _, _, _, y0, y1, u0, u1, on2 h1 h2, rfl, hN.snoc, ?_, by simp [hc], c0, c1, c2, ?_, hs, hr, hr'⟩
  · intro p hp
    have e : (vs ++ [Value.ref D]).toArray = vs.toArray.push (.ref D) := by simp
    rw [e] at hp
    simp only [List.mem_cons, List.cons_append] at hp ⊢
    rcases hp with h | h | h | h | h <;> simp [h]
  · intro p hp
    simp only [List.mem_cons, List.cons_append] at hp
    rcases hp with rfl | rfl | rfl | h
    · exact hI (q, listOf vs.toArray k) (.head _)
    · exact hI (src, listOf #[.int c0' w0, .int c1' w1] n) (.tail _ (.head _))
    · exact Nat.ne_of_gt l1.1
    · exact hI _ (.tail _ (.tail _ h))
  · intro a ha
    rcases List.mem_append.mp ha with h | h
    · exact hg a h
    · rw [List.mem_singleton.mp h]; exact ⟨z0, z1, v0, v1⟩
  · intro a ha
    rcases List.mem_cons.mp ha with rfl | h
    · exact l1.2.1
    · exact ht a h
local macro_rules | `(tactic| size_fits) => `(tactic| (simp only [List.size_toArray]; rw [sizeLine_eq]; omega))
local macro_rules | `(tactic| walk_at "call ref") => `(tactic| (k_here; (with_reducible show wpAny _ _ (call (Value.ref 156) _) _ _ _); k_dflt (refine' take_use ?U ?h0 ?h1 ?h1' ?ht ?ht2 _ _ _ _ _ _ _ _ _ _ _ _ _ _ _ _ _ ?B ?F ?X ?N ?T ?K ?d ?u True.intro ?_; (case B => k_asm); (case F => k_asm); (case X => k_asm); (case N => k_asm); (case T => k_asm); (case K => exact rfl); (case U => k_updF); (case h0 => assumption); (case h1 => assumption); (case h1' => assumption); (case ht => (first | omega | exact pow_lo _)); (case ht2 => (first | omega | exact pow_hi (by assumption))); (case d => ktr_room); (case u => ktr_units); k_whole); intro y0 y1 r u0 u1 ur hy0 hy1 hy1' hr0 hr1 h' tk' F' N'; (try dsimp only at N')))
local macro_rules | `(tactic| walk_at "exec For Name Call cons nil") => `(tactic| (k_here; (rename Fr _ _ _ _ => lF'); (with_unfolding_all refine' For_invVF lF' ?k1 ?k2 ?_; (case k1 => exact rfl); (case k2 => exact rfl); k_whole)))
local macro_rules | `(tactic| walk_at "call type:range") => `(tactic| (k_here; (with_reducible show wpAny _ _ (call _ [_]) _ _ _); k_dflt (refine' range1_rows ?F ?N ?_; (case F => k_asm); (case N => k_asm); k_whole); intro h' tk t₁ u₁ v₁ rgX F' N' st'))
local macro_rules | `(tactic| walk_at "pyIter ref") => `(tactic| ((with_reducible show wpAny _ _ (pyIter (Value.ref _)) (fun it s₂ => LoopAtV _ _ _ _ _ _ _ _ _ it s₂) _ _); k_dflt (refine' range_loop (NumJ _ _ _ _) ?hh ?hr ?hs ?hn ?F ?N ?hj ?turn ?done; (case hh => rfl); (case hr => k_asm); (case hs => exact small_one (by omega) (by omega) (by omega) (by omega)); (case hn => exact rangeSize_nat _ _); (case F => k_asm); (case N => k_asm); (case hj => (refine' NumJ.start ?a ?b ?c ?d ?e ?f ?g; (case a => exact rfl); (case b => exact rfl); (case c => assumption); (case d => assumption); (case e => assumption); (case f => assumption); (case g => assumption)))); (all_goals (first | (intro i m₁ news₁ I oI h tk t hi hJ hneI F' N'; obtain ⟨u, k, vs, nums, tup, y0, y1, u0, u1, e1, e2, hNums, hgood, hcount, hy0, hy1, hy1', htup, hsq, hrq, hrs⟩ := hJ; subst e1; subst e2; (have hA1 := num_f1 htup hsq hrs); (have hA2 := num_f2 htup hrq); (have hA3 := ne_lt (hneI _ (.head _))); (have hA4 := ne_lt (hneI _ (.tail _ (.head _)))); (dsimp only at hA3 hA4); (have hV : vs.length < 8 := by (have hv1 := hNums.1; omega)); (try k_fold)) | (intro m₁ news₁ h tk hJ F' N'; obtain ⟨u, k, vs, nums, tup, y0, y1, u0, u1, e1, e2, hNums, hgood, hcount, hy0, hy1, hy1', htup, hsq, hrq, hrs⟩ := hJ; subst e1; subst e2; (try dsimp only); (try k_fold))))))
set_option maxRecDepth 100000 in
set_option maxHeartbeats 8000000 in
theorem numbers_spec {w : World} {p : Program} {loose : List Str} {mean : ExcName → Option Value} {mg mb : Str → Option Value}
    {src : Addr} {rest : Led} {x0 x1 : Int} {t0 t1 : Tok} {n : Nat}
    (h0 : 0 ≤ x0) (h1 : 0 ≤ x1) (h1' : x1 < 2147483647) (hne : ∀ q ∈ rest, q.1 ≠ src) :
    Called none w p loose mean mg mb 163 [.ref src] ((src, listOf #[.int x0 t0, .int x1 t1] n) :: rest) 2 16 (fun _ => True)
      (fun P => ∀ (q : Addr) (k : Nat) (vs : List Value) (nums : List (Int × Int)) (tup : Led) (y0 y1 : Int) (u0 u1 : Tok), 0 ≤ y0 → 0 ≤ y1 → y1 < 2147483647 →
        Nums tup vs nums → GoodNums nums → nums.length ≤ 7 → (∀ z ∈ rest, z.1 < q) → src < q → (∀ z ∈ tup, q < z.1) →
        P (.ref q) ((q, listOf vs.toArray k) :: (src, listOf #[.int y0 u0, .int y1 u1] n) :: (tup ++ rest))) := by
  intro dp un gd cn cs a ccd cl outer A₀ base h₀ L m s Q E B F X N T hk hd hu hS hret
  refine wpAny_call ?_
  (first | k_dflt cell_enter | fail "not entered")
  w_strict (k_steps)
  · exact NumJ.next (by k_asm) (by k_asm) (by exact rfl) (by exact rfl) (by assumption) (by assumption) (by assumption) (by assumption) (by assumption) (by assumption) (by assumption) (by assumption) (by assumption) (by assumption) (by assumption) (by assumption) (by assumption) (by assumption) (by assumption) (by assumption)
  · refine' hret _ _ _ _ _ _ _ _ _ ?_ ?_ ?_ ?_ ?_ ?_ ?_ ?_ ?_ _ _ (by assumption) (by assumption) <;> first | assumption | omega
end Mine
end
section
open PySem PySem.W PyProof.Rows
namespace Mine
theorem strB_length (a : List Bool) : (strB a).length = a.length := by
  show (Array.size _) = _
  simp [strB]
theorem bitsZ_length (v : Int) : ∀ z : Nat, (bitsZ v z).length = z
  | 0 => rfl
  | z + 1 => by simp [bitsZ, bitsZ_length v z]
theorem bitsZ_at (v : Int) : ∀ (z j : Nat), j < z → (bitsZ v z)[j]? = some (decide (v / 2 ^ (z - 1 - j) % 2 = 1))
  | 0, _, h => absurd h (Nat.not_lt_zero _)
  | z + 1, 0, _ => by simp [bitsZ]
  | z + 1, j + 1, h => by
    have := bitsZ_at v z j (by omega)
    rw [show z + 1 - 1 - (j + 1) = z - 1 - j by omega]
    simpa [bitsZ] using this
theorem bitsZ_take (v : Int) {z j : Nat} (h : j < z) : (bitsZ v z).take (j + 1) = (bitsZ v z).take j ++ [decide (v / 2 ^ (z - 1 - j) % 2 = 1)] := by
  rw [List.take_add_one, bitsZ_at v z j h]; rfl
theorem rowBits_take {nums : List (Int × Int)} {i : Nat} {v z : Int} (h : nums[i]? = some (v, z)) : rowBits (nums.take (i + 1)) = rowBits (nums.take i) ++ bitsZ v z.toNat := by
  unfold rowBits
  rw [List.take_add_one, h]; simp
theorem rowBits_length_le : ∀ {nums : List (Int × Int)}, (∀ z ∈ nums, 0 ≤ z.2 ∧ z.2 < 18 ∧ 0 ≤ z.1) → (rowBits nums).length ≤ 18 * nums.length
  | [], _ => by simp [rowBits]
  | p :: r, h => by
    have ih := rowBits_length_le (nums := r) fun z hz => h z (.tail _ hz)
    have h1 := h p (.head _)
    have e : rowBits (p :: r) = bitsZ p.1 p.2.toNat ++ rowBits r := by simp [rowBits]
    rw [e, List.length_append, bitsZ_length, List.length_cons]
    omega
theorem bit_val (v : Int) {n : Nat} : Builtin.bitAnd (v.fdiv (2 ^ n)) 1 = if decide (v / 2 ^ n % 2 = 1) = true then 1 else 0 := by
  rw [bitAnd_m1, Int.fdiv_eq_ediv_of_nonneg _ (Int.pow_nonneg (by decide))]
  have h := Int.emod_two_eq (v / 2 ^ n)
  rcases h with h | h <;> simp [h]
section
variable {prog : Program} {w : World} {A : Around} {E : Value → Shared → Prop} {s : Shared}
theorem str_bit {x : Int} {t : Tok} {b : Bool} {Q : Value → Shared → Prop} (hx : x = if b = true then 1 else 0) (h : ∀ t' tk, Q (.str (strB [b]) t') { s with toks := tk }) :
    wpAny (model prog w) A (call (.type "str") [.int x t]) Q E s := by
  subst hx
  cases b
  · refine PySem.P.str_of_int (a := 0) (by decide) ?_
    have e : (toString (0 : Int) : Str) = strB [false] := by rfl
    rw [e]; exact h _ _
  · refine PySem.P.str_of_int (a := 1) (by decide) ?_
    have e : (toString (1 : Int) : Str) = strB [true] := by rfl
    rw [e]; exact h _ _
theorem add_bits {a b : List Bool} {t u : Tok} {Q : Value → Shared → Prop} (hsz : a.length + b.length ≤ 1000000) (h : ∀ t' tk, Q (.str (strB (a ++ b)) t') { s with toks := tk }) :
    wpAny (model prog w) A (binaryOp .Add (.str (strB a) t) (.str (strB b) u)) Q E s := by
  refine PyProof.Rows.add_str (fun t' tk => ?_) ?_
  · rw [← strB_append]; exact h t' tk
  · rw [strB_length, strB_length, sizeLine_eq]; omega
end
end Mine
end
section
open PySem PySem.W PyProof.Rows
namespace Mine
theorem reset_NT_row : True := by
  w_top off
  exact True.intro
local macro_rules | `(tactic| k_all) => `(tactic| with_reducible assumption)
local macro_rules | `(tactic| walk_at "exec For Tuple Name cons nil") => `(tactic| (k_here; (rename Fr _ _ _ _ => lF'); (with_unfolding_all refine' For_invTF lF' ?_ ?k2; (case k2 => (intro _; rfl)); k_whole)))
local macro_rules | `(tactic| walk_at "exec For Name Call cons nil") => `(tactic| (k_here; (rename Fr _ _ _ _ => lF'); (with_unfolding_all refine' For_M lF' ?k1 ?k2 ?_; (case k1 => exact rfl); (case k2 => exact rfl); k_whole)))
local macro_rules | `(tactic| walk_at "call type:range") => `(tactic| (k_here; (with_reducible show wpAny _ _ (call _ [_]) _ _ _); k_dflt (refine' range1_rows ?F ?N ?_; (case F => k_asm); (case N => k_asm); k_whole); intro h' tk t₁ u₁ v₁ rgX F' N' st'))
local macro_rules | `(tactic| walk_at "call type:range") => `(tactic| (k_here; (with_reducible show wpAny _ _ (call _ [_, _, _]) _ _ _); k_dflt (refine' range3_rows ?F ?N ?c ?_; (case F => k_asm); (case N => k_asm); (case c => decide); k_whole); intro h' tk t₁ u₁ v₁ rgX F' N' st'))
def RowJ (nums : List (Int × Int)) (news : Led) (i : Nat) (m : Str → Option Value) (news₁ : Led) : Prop :=
  ∃ (u : Str → Option Value) (t : Tok), m = on "row" (.str (strB (rowBits (nums.take i))) t) u ∧ news₁ = news
theorem RowJ.start {nums : List (Int × Int)} {news : Led} {m : Str → Option Value} {t : Tok} (h : m "row" = some (.str (strB []) t)) : RowJ nums news 0 m news := ⟨m, t, on1 h, rfl⟩
def InJ (pre : List Bool) (v z : Int) (tv : Tok) (news : Led) (i : Nat) (m : Str → Option Value) (news₁ : Led) : Prop :=
  ∃ (u : Str → Option Value) (t : Tok), m = on "row" (.str (strB (pre ++ (bitsZ v z.toNat).take i)) t) (on "value" (.int v tv) u) ∧ news₁ = news
theorem InJ.start {pre : List Bool} {v z : Int} {tv t : Tok} {news : Led} {m : Str → Option Value} (h : m "row" = some (.str (strB pre) t)) (h' : m "value" = some (.int v tv)) : InJ pre v z tv news 0 m news :=
  ⟨m, t, by simpa using on2 h h', rfl⟩
theorem InJ.next {pre : List Bool} {v z : Int} {tv t : Tok} {news : Led} {m : Str → Option Value} {j : Nat} (h : m "row" = some (.str (strB ((pre ++ (bitsZ v z.toNat).take j) ++ [decide (v / 2 ^ (z - 1 + (j : Int) * -1).toNat % 2 = 1)])) t))
    (h' : m "value" = some (.int v tv)) (hj : j < z.toNat) : InJ pre v z tv news (j + 1) m news := by
  refine ⟨m, t, on2 ?_ h', rfl⟩
  rw [bitsZ_take v hj, ← List.append_assoc, h, show (z - 1 + (j : Int) * -1).toNat = z.toNat - 1 - j by omega]
theorem RowJ.next {nums : List (Int × Int)} {news : Led} {m : Str → Option Value} {t : Tok} {i n : Nat} {v z : Int} (h : m "row" = some (.str (strB (rowBits (nums.take i) ++ (bitsZ v z.toNat).take n)) t)) (hz : nums[i]? = some (v, z)) (hn : z.toNat ≤ n) : RowJ nums news (i + 1) m news := by
  refine ⟨m, t, on1 ?_, rfl⟩
  rw [rowBits_take hz, h, List.take_of_length_le (l := bitsZ v z.toNat) (by rw [bitsZ_length]; exact hn)]
local macro_rules | `(tactic| k_mem) => `(tactic| assumption)
local macro_rules | `(tactic| walk_at "call type:str") => `(tactic| (k_here; (with_reducible show wpAny _ _ (call (Value.type "str") [Value.int _ _]) _ _ _); k_dflt (refine' str_bit (bit_val _) ?_); intro t' tk'))
local macro_rules | `(tactic| walk_at "binaryOp Add str str") => `(tactic| (k_here; (with_reducible show wpAny _ _ (binaryOp Operator.Add (Value.str (strB _) _) (Value.str (strB _) _)) _ _ _); k_dflt (refine' add_bits ?z ?_; (case z => (simp only [List.length_append, List.length_take, List.length_cons, List.length_nil, bitsZ_length]; omega))); intro t' tk'))
set_option maxRecDepth 100000 in
set_option maxHeartbeats 8000000 in
theorem row_spec {w : World} {p : Program} {loose : List Str} {mean : ExcName → Option Value} {mg mb : Str → Option Value}
    {q : Addr} {k : Nat} {vs : List Value} {nums : List (Int × Int)} {tup news : Led} (hN : Nums tup vs nums) (hT : ∀ e ∈ tup, e ∈ news) (hq : (q, listOf vs.toArray k) ∈ news) (hz : ∀ z ∈ nums, 0 ≤ z.2 ∧ z.2 < 18 ∧ 0 ≤ z.1) (hlen : nums.length ≤ 1000) :
    Called none w p loose mean mg mb 170 [.ref q] news 2 16 (fun _ => True)
      (fun P => ∀ (t : Tok), P (.str (strB (rowBits nums)) t) news) := by
  intro dp un gd cn cs a ccd cl outer A₀ base h₀ L m s Q E B F X N T hk hd hu hS hret
  refine wpAny_call ?_
  (first | k_dflt cell_enter | fail "not entered")
  w_strict (k_steps)
  refine' list_loopT (RowJ nums news) rfl hq (fun h e => PySem.IsL.isList (n := k) e) ?_ (by k_asm) (by k_asm) ?_ ?_ ?_
  · rintro i m₁ news₁ ⟨u, t, rfl, rfl⟩; exact hq
  · exact RowJ.start rfl
  · rintro i v m₁ news₁ I oI s₁ hv ⟨u, t, rfl, rfl⟩ hI F' N'
    have hi : i < nums.length := by
      rcases Nat.lt_or_ge i vs.length with h | h
      · rw [← hN.1]; exact h
      · rw [List.getElem?_eq_none h] at hv; cases hv
    obtain ⟨v0, z0, hz0⟩ : ∃ v0 z0, nums[i]? = some (v0, z0) := ⟨nums[i].1, nums[i].2, by simp [hi]⟩
    obtain ⟨a', tv, tz, e1, hmem⟩ := hN.2 i v0 z0 hz0
    rw [e1] at hv
    cases hv
    have hm := hT _ hmem
    have hzz := hz _ (List.mem_of_getElem? hz0)
    have hrl : (rowBits (nums.take i)).length ≤ 18 * 1000 := by
      refine Nat.le_trans (rowBits_length_le fun z hz' => hz z (List.mem_of_mem_take hz')) ?_
      rw [List.length_take]; omega
    dsimp only at hzz
    (try dsimp only)
    (try k_fold)
    w_strict (k_steps)
    refine' range_loop (InJ (rowBits (nums.take i)) v0 z0 tv ((I, oI) :: news₁)) rfl (by k_asm) (small_down (by omega) (by omega) (by omega) (by omega)) (rangeSize_downNat _ _) (by k_asm) (by k_asm) (InJ.start rfl rfl) ?_ ?_
    · rintro j m₁ news₂ I2 oI2 h tk t hj ⟨u, t, rfl, rfl⟩ hI2 F' N'
      (try dsimp only)
      (try k_fold)
      w_strict (k_steps)
      have hj' : j < z0.toNat := by omega
      exact TurnG.next (by k_asm) (by k_asm) hI2 (InJ.next (by exact rfl) (by exact rfl) hj')
    · rintro m₁ news₂ h tk ⟨u, t, rfl, rfl⟩ F' N'
      w_strict (k_steps)
      exact TurnT.next (by k_asm) (by k_asm) hI (RowJ.next (by exact rfl) hz0 (by omega))
  · rintro m₁ news₁ h tk ⟨u, t, rfl, rfl⟩ F' N'
    w_strict (k_steps)
    have e : nums.take vs.length = nums := List.take_of_length_le (Nat.le_of_eq hN.1.symm)
    rw [e]
    exact hret _ _ _ (by k_asm) (by k_asm)
end Mine
end
section
open PySem PySem.W PyProof.Rows
namespace Mine
section
variable {α β : Type} {M : Model} {A : Around} {E : Value → Shared → Prop} {s : Shared}
theorem wpS_any {t : Sem α} {Q : α → Shared → Prop} (h : wpAny M A t Q E s) : wpS M A t Q E s := fun Γ p hi _ _ => h Γ p hi
theorem codeS_any {c : Code} {R : Result → Shared → Prop} (h : codeAny M A c R s) : codeS M A c R s := fun Γ p hc hb _ => h Γ p hc hb
theorem wpS_pure {a : α} {Q : α → Shared → Prop} (h : Q a s) : wpS M A (pure a) Q E s := fun _ _ _ _ _ => h
theorem wpS_mono {t : Sem α} {Q Q' : α → Shared → Prop} {E' : Value → Shared → Prop} (h : wpS M A t Q E s) (hQ : ∀ a s, Q a s → Q' a s) (hE : ∀ e s, E e s → E' e s) : wpS M A t Q' E' s :=
  fun Γ p hi hb hs => Sem.wp_mono M Γ t (fun a _ s => hQ a s) (fun e _ s => hE e s) p s (h Γ p hi hb hs)
theorem wpS_bind {m : Sem α} {f : α → Sem β} {Q : β → Shared → Prop} (h : wpS M A m (fun a s' => wpS M A (f a) Q E s') E s) : wpS M A (m >>= f) Q E s := fun Γ p hi hb hs => by
  rw [Sem.wp_bind']
  exact Sem.wp_mono M Γ m (fun a p' s' h' => h' Γ p' hi hb hs) (fun _ _ _ h' => h') p s (h Γ p hi hb hs)
theorem wpS_tryCatch {m : Sem α} {k : Value → Sem α} {Q : α → Shared → Prop} (h : wpS M A m Q (fun e s' => wpS M A (k e) Q E s') s) : wpS M A (tryCatch m k) Q E s := fun Γ p hi hb hs => by
  rw [Sem.wp_tryCatch']
  exact Sem.wp_mono M Γ m (fun _ _ _ h' => h') (fun e p' s' h' => h' Γ p' hi hb hs) p s (h Γ p hi hb hs)
theorem wpS_onRaise {m : Sem α} {k : Value → Sem Unit} {Q : α → Shared → Prop} (h : wpS M A m Q (fun e s' => wpS M A (k e) (fun _ s'' => E e s'') E s') s) : wpS M A (m.onRaise k) Q E s := fun Γ p hi hb hs => by
  rw [Sem.wp_onRaise]
  exact Sem.wp_mono M Γ m (fun _ _ _ h' => h') (fun e p' s' h' => h' Γ p' hi hb hs) p s (h Γ p hi hb hs)
theorem wpS_attempt {m : Sem α} {Q : Except Value α → Shared → Prop} (h : wpS M A m (fun a => Q (.ok a)) (fun e => Q (.error e)) s) : wpS M A m.attempt Q E s :=
  fun Γ p hi hb hs => by rw [Sem.wp_attempt]; exact h Γ p hi hb hs
theorem wpS_holding {vs : List Value} {m : Sem α} {Q : α → Shared → Prop} (h : wpS M A m Q E s) : wpS M A (holding vs m) Q E s :=
  fun Γ p hi hb hs => by rw [Sem.wp_holding]; exact h Γ p hi hb hs
theorem wpS_standAt {pos : Pos} {Q : Unit → Shared → Prop} (h : Q () s) : wpS M A (standAt pos) Q E s := fun _ _ _ _ _ => h
theorem wpS_point {Q : Unit → Shared → Prop} (h : Q () s) : wpS M A point Q E s := fun _ _ _ _ _ => h
theorem wpS_run {c : Code} {h : Option Value} {Q : Flow → Shared → Prop} (hc : codeS M (A.mark h) c (fun r s' => match r with | .ok f => Q f s' | .error e => E e s') s) (hnb : h ≠ some byPass := by intro x; cases x) :
    wpS M A (run c h) Q E s := fun Γ p hi hb hs => by
  rw [Sem.wp_run]
  exact hc _ p rfl (hi.enter c h p hnb) (fun x hx => by rcases List.mem_cons.mp hx with rfl | hx; exact hb; exact hs x hx)
theorem wpS_runValue {c : Code} {Q : Value → Shared → Prop} (hc : codeS M A c (fun r s' => match r with | .ok (.ret v) => Q v s' | .ok _ => False | .error e => E e s') s) : wpS M A (runValue c) Q E s := fun Γ p hi hb hs => by
  rw [Sem.wp_runValue]
  exact hc _ p rfl (hi.enter c none p (by intro x; cases x)) (fun x hx => by rcases List.mem_cons.mp hx with rfl | hx; exact hb; exact hs x hx)
theorem wpS_call {f : Value} {pos : List Value} {kw : List (Str × Value)} {Q : Value → Shared → Prop} (hc : codeS M A (.call f ⟨pos, kw⟩) (fun r s' => match r with | .ok (.ret v) => Q v s' | .ok _ => False | .error e => E e s') s) :
    wpS M A (call f pos kw) Q E s := wpS_runValue hc
theorem codeS_mono {c : Code} {R R' : Result → Shared → Prop} (h : codeS M A c R s) (hR : ∀ r s, R r s → R' r s) : codeS M A c R' s := fun Γ p hc hb hs => wpCode_mono hR (h Γ p hc hb hs)
theorem codeS_of_tree {c : Code} {R : Result → Shared → Prop} (hbad : badC c = false)
    (h : wpS M (A.under c) (M.den c) (fun fin s' => match fin with | .done f => R (.ok f) s' | .again c' => c'.quiet = true ∧ codeS M A c' R s') (fun e s' => R (.error e) s') s) : codeS M A c R s := fun Γ p hc hΓ hs => by
  rw [wpCode_iff_wp, hc]
  refine Sem.wp_mono M Γ _ (fun fin p' s' h' => ?_) (fun _ _ _ h' => h') p s (h Γ p (hc ▸ hΓ.in) (hc ▸ hbad) hs)
  cases fin with
  | done f => exact h'
  | again c' => exact ⟨h'.1, h'.2 (Γ.goto c') p' rfl (hΓ.goto c') hs⟩
theorem codeS_loop {c : Code} {R : Result → Shared → Prop} (hbad : badC c = false) (hq : c.quiet = true) (I : Nat → Shared → Prop)
    (turn : ∀ n s, I n s → wpS M (A.under c) (M.den c) (fun fin s' => match fin with | .done f => R (.ok f) s' | .again c' => c' = c ∧ ∃ m, m < n ∧ I m s') (fun e s' => R (.error e) s') s)
    (n : Nat) (h : I n s) : codeS M A c R s := by
  induction n using Nat.strongRecOn generalizing s with
  | ind n ih =>
    refine codeS_of_tree hbad (wpS_mono (turn n s h) (fun fin s' hf => ?_) fun _ _ h' => h')
    cases fin with
    | done f => exact hf
    | again c' => obtain ⟨rfl, m, hm, hI⟩ := hf; exact ⟨hq, ih m hm hI⟩
theorem any_safe {f : Code × Pos → Bool} {l : List (Code × Pos)} (hf : ∀ c p, badC c = false → f (c, p) = false) (hl : SafeL l) : l.any f = false := by
  rw [List.any_eq_false]
  intro x hx
  rw [hf x.1 x.2 (hl x hx)]
  exact Bool.false_ne_true
/-- no decoder is at work -/
theorem wpS_exported {v : Value} {Q : Bool → Shared → Prop} (h : Q false s) : wpS M A (Builtin.Bytes.exported v) Q E s := fun Γ p _ hb hs => by
  show Q (((Γ.code, p) :: Γ.below).any _) s
  rw [any_safe]
  · exact h
  · intro c p hc
    unfold badC at hc
    split <;> simp_all [guardIds]
  · intro x hx
    rcases List.mem_cons.mp hx with rfl | hx
    · exact hb
    · exact hs x hx
end
end Mine
end
section
open PySem PySem.W PySem.Calls PyProof.Rows PySem.Spec
set_option maxRecDepth 100000
namespace Mine
abbrev NoE : Value → Shared → Prop := fun _ _ => False
section
variable {α : Type} {M : Model} {A : Around} {E : Value → Shared → Prop} {s : Shared} {env : Env}
theorem wpS_keep {vs : List Value} {m : Sem α} {Q : α → Shared → Prop} (h : wpS M A m Q E s) : wpS M A (m.keep vs) Q E s := fun Γ p hi hb hs => by rw [Sem.wp_keep]; exact h Γ p hi hb hs
theorem wpS_then {β : Type} {m : Sem α} {f : α → Sem β} {Q : β → Shared → Prop} (h : wpAny M A m (fun a s' => wpS M A (f a) Q E s') E s) : wpS M A (m >>= f) Q E s := wpS_bind (wpS_any h)
theorem wpS_bindName {x : Str} {v : Value} {Q : Unit → Shared → Prop} (h : wpAny M A (storeName env x v) Q E s) : wpS M A (bindName env x v) Q E s := wpS_any (wpAny_bindName h)
theorem execsS_nil {Q : Flow → Shared → Prop} (h : Q .next s) : wpS M A (execs [] env) Q E s := wpS_any (wpAny_execs_nil h)
theorem execsS_cons {st rest} {Q : Flow → Shared → Prop} (h : wpS M A (exec st env) (fun f s' => match f with | .next => wpS M A (execs rest env) Q E s' | f => Q f s') E s) : wpS M A (execs (st :: rest) env) Q E s := by
  show wpS M A (exec st env >>= fun f => match f with | .next => execs rest env | f => pure f) Q E s
  refine wpS_bind (wpS_mono h (fun f s' h' => ?_) fun _ _ x => x)
  cases f <;> first | exact h' | exact wpS_pure h'
/-- a statement that asks nothing of the stack -/
theorem execsS_leaf {st rest} {Q : Flow → Shared → Prop} (h : wpAny M A (exec st env) (fun f s' => match f with | .next => wpS M A (execs rest env) Q E s' | f => Q f s') E s) : wpS M A (execs (st :: rest) env) Q E s := execsS_cons (wpS_any h)
theorem ExprS {e pos} {Q : Flow → Shared → Prop} (h : wpS M A (eval e env) (fun v s' => match v with | .ref _ => False | _ => Q .next s') E s)
    (hi : interactive env = false := by rfl) (hs : swapsWith e none pos.line env = pure false := by rfl) : wpS M A (exec (.Expr e pos) env) Q E s := by
  rw [exec_Expr env e pos hi hs]
  refine wpS_bind (wpS_standAt (wpS_bind (wpS_mono h (fun v s' h' => ?_) fun _ _ x => x)))
  have hv : ∀ a, v ≠ .ref a := fun a hva => by subst hva; exact h'
  rw [dropValue_plain hv]
  refine wpS_pure ?_
  cases v <;> first | exact h' | exact (hv _ rfl).elim
theorem AssignS {x pos' value pos} {Q : Flow → Shared → Prop} (h : wpS M A (eval value env) (fun v s₁ => wpAny M A (storeName env x v) (fun _ => Q .next) E s₁) E s)
    (hs : swapsWith value (some (.Name x pos')) pos.line env = pure false := by rfl) : wpS M A (exec (.Assign [.Name x pos'] value pos) env) Q E s := by
  rw [exec_Assign_Name env x pos' value pos hs]
  refine wpS_bind (wpS_standAt (wpS_bind (wpS_mono h (fun v s' h' => ?_) fun _ _ x => x)))
  refine wpS_bind (wpS_standAt (wpS_bind (wpS_mono (wpS_bindName h') (fun _ s'' h'' => wpS_pure h'') fun _ _ x => x)))
theorem AssignAttrS {o attr pos' value pos} {Q : Flow → Shared → Prop} (h : wpS M A (eval value env) (fun v s₁ => wpAny M A (eval o env) (fun ov s₂ => wpAny M A (setAttr ov attr v) (fun _ => Q .next) E s₂) E s₁) E s)
    (hs : swapsWith value (some (.Attribute o attr pos')) pos.line env = pure false := by rfl) : wpS M A (exec (.Assign [.Attribute o attr pos'] value pos) env) Q E s := fun Γ p hΓ hb hss => by
  simp only [plainObj_exec_Assign_Attribute o attr pos' value pos hs, assign_Attribute, Sem.wp_bind', Sem.wp_holding, Sem.wp_cmd_standAt, Sem.wp_release, Sem.wp_pure']
  exact Sem.wp_mono M Γ _ (fun v p₁ s₁ h₁ => Sem.wp_mono M Γ _ (fun ov _ s₂ h₂ => h₂ Γ _ hΓ) (fun _ _ _ h' => h') _ _ (h₁ Γ p₁ hΓ)) (fun _ _ _ h' => h') _ _ (h Γ _ hΓ hb hss)
theorem IfS {test body orelse pos} {Q : Flow → Shared → Prop} (h : wpS M A (isTrue test env (eval test env)) (fun b s₂ => if b then wpS M A (execs body env) Q E s₂ else wpS M A (execs orelse env) Q E s₂) E s) :
    wpS M A (exec (.If test body orelse pos) env) Q E s := by
  rw [exec_If]
  refine wpS_bind (wpS_standAt (wpS_bind (wpS_mono h (fun b s' h' => ?_) fun _ _ x => x)))
  cases b <;> exact h'
theorem ReturnS {e pos} {Q : Flow → Shared → Prop} (h : wpS M A (eval e env) (fun v => Q (.ret v)) E s) : wpS M A (exec (.Return (some e) pos) env) Q E s := by
  rw [exec_Return_some]
  exact wpS_bind (wpS_standAt (wpS_bind (wpS_mono h (fun v s' h' => wpS_pure h') fun _ _ x => x)))
theorem isTrueCompareS {l op r pos whole} {Q : Bool → Shared → Prop} (h : wpS M A (eval l env) (fun a s₁ => wpAny M A (eval r env) (fun b s₂ => wpAny M A (compareOp op a b) (fun c s₃ => wpAny M A (truthy c) Q E s₃) E s₂) E s₁) E s)
    (hm : behindInMarks op r = false := by with_unfolding_all rfl) : wpS M A (isTrue (.Compare l [op] [r] pos) env whole) Q E s := fun Γ p hΓ hb hs => by
  simp only [isTrue_Compare1, markedBehindIn_of_false hm, Sem.wp_bind', Sem.wp_holding, Sem.wp_cmd_standAt, Sem.wp_operate]
  exact Sem.wp_mono M Γ _ (fun a p₁ s₁ h₁ => Sem.wp_mono M Γ _ (fun b _ s₂ h₂ => Sem.wp_mono M Γ _ (fun c p₃ s₃ h₃ => h₃ Γ p₃ hΓ)
    (fun _ _ _ h' => h') _ _ (h₂ Γ _ hΓ)) (fun _ _ _ h' => h') _ _ (h₁ Γ p₁ hΓ)) (fun _ _ _ h' => h') _ _ (h Γ p hΓ hb hs)
theorem isTrueOrS_nil {pos whole} {Q : Bool → Shared → Prop} (h : Q false s) : wpS M A (isTrue (.BoolOp .Or [] pos) env whole) Q E s := wpS_any (isTrue_or_nil h)
theorem isTrueOrS {x rest pos whole} {Q : Bool → Shared → Prop} (h : wpS M A (isTrue x env (eval x env)) (fun c s' => if c then Q true s' else wpS M A (isTrue (.BoolOp .Or rest pos) env whole) Q E s') E s) :
    wpS M A (isTrue (.BoolOp .Or (x :: rest) pos) env whole) Q E s := by
  show wpS M A (isTrue x env (eval x env) >>= fun c => match BoolOp.Or, c with
    | .And, false => pure false
    | .Or, true => pure true
    | _, _ => allTrue .Or rest env) Q E s
  refine wpS_bind (wpS_mono h (fun c s' h' => ?_) fun _ _ x => x)
  cases c
  · exact h'
  · exact wpS_pure h'
theorem MethodS {o : Expr} {name : Str} {apos pos : Pos} {args : List Expr} {pl : Sem Bool} {Q : Value → Shared → Prop}
    (h : wpAny M A (eval o env) (fun ov s₁ => wpAny M A (getMethod ov name pl) (fun fx s₂ => wpS M A (callWith pos fx.1 fx.2 (backTo pos (starEach args env)) []) Q E s₂) E s₁) E s)
    (he : eval (.Call (.Attribute o name apos) args [] pos) env = (do
      let ov ← eval o env
      standAt apos.atName
      let (f, first) ← holding [ov] (getMethod ov name pl)
      callWith pos f first (backTo pos (starEach args env)) []) := by rfl) :
    wpS M A (eval (.Call (.Attribute o name apos) args [] pos) env) Q E s := by
  rw [he]
  refine wpS_bind (wpS_any (wpAny_mono h (fun ov s₁ h₁ => wpS_bind (wpS_standAt (wpS_bind (wpS_holding (wpS_any (wpAny_mono h₁ (fun fx s₂ h₂ => ?_) fun _ _ x => x)))))) fun _ _ x => x))
  exact h₂
theorem CallNameS {f : Expr} {args : List Expr} {pos : Pos} {Q : Value → Shared → Prop}
    (h : wpAny M A (eval f env) (fun f s₁ => wpS M A (callWith pos f [] (backTo pos (starEach args env)) []) Q E s₁) E s)
    (he : eval (.Call f args [] pos) env = (do callWith pos (← eval f env) [] (backTo pos (starEach args env)) (backToKw pos (keywordEach [] env))) := by rfl) :
    wpS M A (eval (.Call f args [] pos) env) Q E s := by
  rw [he]; exact wpS_bind (wpS_any h)
theorem callWithS_of {pos : Pos} {f : Value} {first : List Value} {Q : Value → Shared → Prop} {P : Heap → Prop} {args : List (Bool × Sem Value)} {keywords : List (Option Str × Sem Value)} (hplain : (args.any (·.1) || keywords.any (·.1.isNone)) = false)
    (hk : ∀ h, P h → ∃ k, (k = Keeper.frame ∨ k = Keeper.machine ∨ k = Keeper.boundFrame) ∧ Looks M h (keeperOf f) k)
    (h : wpAny M A (evalArgs f true args keywords) (fun a s₁ => P s₁.heap ∧ wpS M A (call f (first ++ a.pos) a.kw) Q E s₁) E s) : wpS M A (callWith pos f first args keywords) Q E s := by
  unfold callWith
  refine wpS_bind (wpS_holding (wpS_any (wpAny_mono h (fun a s₁ h₁ => wpS_bind (wpS_standAt ?_)) fun _ _ x => x)))
  obtain ⟨k, hk', L⟩ := hk _ h₁.1
  simp only [hplain]
  refine wpS_bind (wpS_any (L.here ?_))
  have tail : ∀ {t : Sem Value}, wpS M A t Q E s₁ → wpS M A (t >>= fun r => holding [r] point >>= fun _ => pure r) Q E s₁ :=
    fun ht => wpS_bind (wpS_mono ht (fun r s₂ hr => wpS_bind (wpS_holding (wpS_point (wpS_pure hr)))) fun _ _ x => x)
  have marked (mk : Value) : wpS M A (callMarked mk f (first ++ a.pos) a.kw) Q E s₁ := by unfold callMarked; exact wpS_keep h₁.2
  rcases hk' with rfl | rfl | rfl <;> dsimp only <;> first | exact tail h₁.2 | (split <;> first | exact tail h₁.2 | exact tail (marked _))
theorem callWithS_K {K : Frag} {pos : Pos} {f : Value} {first : List Value} {Q : Value → Shared → Prop} {e : Expr} {rest : List Expr} (hk : keepIn K f = true) (h : wpAny M A (spliced (backTo pos (starEach (e :: rest) env))) (fun vs s₁ => K.In s₁.heap ∧ wpS M A (call f (first ++ vs)) Q E s₁) E s)
    (he : starEach (e :: rest) env = (false, eval e env) :: starEach rest env := by rfl) (hplain : (backTo pos (starEach rest env)).any (·.1) = false := by rfl) :
    wpS M A (callWith pos f first (backTo pos (starEach (e :: rest) env)) []) Q E s := by
  rw [he] at h ⊢
  exact callWithS_of (by show ((false || (backTo pos (starEach rest env)).any (·.1)) || false) = false; rw [hplain]; rfl) (keeps_K hk) (evalArgs_plain h)
theorem callWithS_type0 {pos : Pos} {T : String} {first : List Value} {Q : Value → Shared → Prop} (h : wpS M A (call (.type T) (first ++ [])) Q E s) : wpS M A (callWith pos (.type T) first (backTo pos (starEach [] env)) []) Q E s :=
  callWithS_of (P := fun _ => True) rfl (fun h _ => ⟨.machine, .inr (.inl rfl), Looks.of_pure rfl⟩) (evalArgs_nil3 ⟨trivial, h⟩)
theorem callWithS_K0 {K : Frag} {pos : Pos} {f : Value} {first : List Value} {Q : Value → Shared → Prop} (X : K.In s.heap) (hk : keepIn K f = true) (h : wpS M A (call f (first ++ [])) Q E s) : wpS M A (callWith pos f first (backTo pos (starEach [] env)) []) Q E s :=
  callWithS_of rfl (keeps_K hk) (evalArgs_nil3 ⟨X, h⟩)
end
section
variable {prog : Program} {w : World} {A : Around} {R : Result → Shared → Prop} {s : Shared}
theorem codeS_func {body env} (h : wpS (model prog w) (A.deeper env) (execs body env) (fun f s' => R (.ok (.ret (match f with | .ret v => v | _ => .none))) s') NoE s) : codeS (model prog w) A (.func body env) R s := by
  refine codeS_of_tree rfl ?_
  show wpS _ (A.deeper env) (point >>= fun _ => (execs body env).onRaise (leaving env) >>= fun x => match x with | .ret v => ret v | _ => ret .none) _ _ s
  refine wpS_bind (wpS_point (wpS_bind (wpS_onRaise (wpS_mono h (fun f s' h' => ?_) fun _ _ h' => h'.elim))))
  cases f <;> exact wpS_pure h'
theorem codeS_call_function {a : Addr} {args : Args} {o : Obj} {fd : FuncData} {body : List Stmt} (hroom : A.depth < recursionLimit) (ho : s.heap.get? a = some o)
    (hd' : o.data = .func fd) (hco : fd.scope.isCoroutine = false) (hgen : fd.scope.isGenerator = false) (hbody : fd.body = .stmts body) (hcd : s.heap.CodeRec fd.code fd.qualname)
    (h : wpAny (model prog w) A.in1 (bindArgs fd args) (fun binds s₁ =>
      wpAny (model prog w) A.in1 (newFunctionEnv fd.scope fd.globals fd.closure binds (fd.qualname ++ ".<locals>.") (some a) fd.code none fd.builtins)
        (fun env s₂ => s₂.heap.NoLimit ∧ codeS (model prog w) A (.func body env) R s₂) NoE s₁) NoE s) :
    codeS (model prog w) A (.call (.ref a) args) R s := by
  refine codeS_of_tree rfl ?_
  show wpS _ A.in1 (callAny (.ref a) args) _ _ s
  simp only [callAny]
  refine wpS_bind (wpS_any (wpAny_load ho ?_))
  obtain ⟨c, oc, vs, tq, hc, hoc, hdc, hq⟩ := hcd
  simp only [hd', callFunction, hco, hgen, hbody, hc]
  rw [hc] at h
  refine wpS_bind (m := field (.ref c) 1) (wpS_any (wpAny_field hoc hdc hq (wpS_bind (wpS_pure ?_))))
  exact wpS_bind (wpS_any (wpAny_mono h (fun binds s₁ h₁ => wpS_bind (wpS_any (wpAny_mono h₁ (fun env s₂ h₂ => wpS_bind (wpS_any (wpAny_enterFrame h₂.1 hroom
    (wpS_pure (And.intro rfl h₂.2))))) fun _ _ h' => h'.elim))) fun _ _ h' => h'.elim))
end
section
variable {prog : Program} {w : World} {A₀ A : Around} {s : Shared} {base h₀ : Heap} {outer : List Env} {L : Addr} {m : Str → Option Value} {env : Env} {news : List (Addr × Obj)}
  {R : Result → Shared → Prop} {name qual : Str} {params : Arguments} {body : List Stmt} {scope : Scope} {cl : List (Str × Addr)} {dV kV doc pm cdv ct : Value} {an : Option Addr} {fo : Obj} {f : Addr} {args : Args} {binds : List (Str × Value)}
theorem callS_def (B : Below A₀ base outer h₀) (F : Fr h₀ L s.heap m) (N : News h₀ L s.heap news) (hlim : h₀.NoLimit) (hA : A.frames = some (env :: outer)) (hf : env.frame = some L) (hke : env.scope.kind = .function)
    (ho : s.heap.get? f = some fo) (hd : fo.data = .func (fnX name qual params body scope cl dV kV doc pm an cdv ct)) (hcd : s.heap.CodeRec cdv qual) (hroom : A.depth < recursionLimit)
    (hbind : BindsTo s (fnX name qual params body scope cl dV kV doc pm an cdv ct) args binds) (hloc : ∀ y ∈ binds, scope.names.lookup y.1 = some .local)
    (h : ∀ g L' h₁, Fr h₀ L g m → Fr g L' h₁ (fun y => binds.reverse.lookup y) → News g L' h₁ news → Below A base (env :: outer) g → h₀.StaysIn g → (∀ p ∈ news, p.1 < L') →
      wpS (model prog w) (A.deeper (envX qual scope L' f cdv cl)) (execs body (envX qual scope L' f cdv cl))
        (fun fl s' => LeaveK h₀ L m g R (match fl with | .ret v => v | _ => .none) s') NoE
        { s with heap := h₁, toks := s.toks + binds.length })
    (hcell : ∀ x ∈ scope.names, x.2 ≠ .cell) (hco : scope.isCoroutine = false := by rfl) (hgen : scope.isGenerator = false := by rfl) (hk : scope.kind = .function := by rfl) : codeS (model prog w) A (.call (.ref f) args) R s := by
  obtain ⟨FG, BG, st, lv⟩ := groundX (R := R) B F N hA hf hke
  refine codeS_call_function (fd := fnX name qual params body scope cl dV kV doc pm an cdv ct) (body := body) hroom ho hd hco hgen rfl hcd (hbind _ _ _ _ ?_)
  refine wpAny_newFunctionEnv hcell hloc (fun h₁ hns hsb => ⟨(hlim.keeps F.keep).fresh _ hsb, codeS_func ?_⟩) hk
  have hk₁ : ∀ b o, s.heap.get? b = some o → h₁.get? b = some o := fun b o e => hsb.extBut b o (Nat.ne_of_lt (Heap.lt_size e)) (Heap.get?_push_of_some _ e)
  exact wpS_mono (h _ s.heap.objs.size h₁ FG ⟨hns, fun b o e => hk₁ b o (of_hideAll _ e), Nat.le_of_eq (hideAll_size _ _)⟩
    (fun p hp => ⟨hk₁ _ _ (N p hp).1, Nat.ne_of_lt (Heap.lt_size (N p hp).1), hideAll_none _ (List.mem_map_of_mem hp)⟩) BG st (fun p hp => Heap.lt_size (N p hp).1)) (fun fl s' hl => lv _ _ hl) fun _ _ y => y
end
section
variable {prog : Program} {w : World} {A : Around} {R : Result → Shared → Prop} {s : Shared} {env : Env}
theorem codeS_loop' {M : Model} {c : Code} (hbad : badC c = false) (hq : c.quiet = true) (I : Nat → Shared → Prop)
    (turn : ∀ n s, I n s → wpS M (A.under c) (M.den c) (fun fin s' => match fin with
        | .done f => R (.ok f) s'
        | .again c' => (c' = c ∧ ∃ m, m < n ∧ I m s') ∨ (c'.quiet = true ∧ codeS M A c' R s')) (fun e s' => R (.error e) s') s)
    (n : Nat) (h : I n s) : codeS M A c R s := by
  induction n using Nat.strongRecOn generalizing s with
  | ind n ih =>
    refine codeS_of_tree hbad (wpS_mono (turn n s h) (fun fin s' hf => ?_) fun _ _ h' => h')
    cases fin with
    | done f => exact hf
    | again c' =>
      rcases hf with ⟨rfl, m, hm, hI⟩ | hf
      · exact ⟨hq, ih m hm hI⟩
      · exact hf
theorem codeS_whileLoop {test body} (I : Nat → Shared → Prop)
    (turn : ∀ n s, I n s → wpAny (model prog w) A (isTrue test env (eval test env)) (fun b s₂ =>
        if b then wpS (model prog w) A (execs body env) (fun f s₃ => match f with
            | .next | .cont => ∃ m, m < n ∧ I m s₃
            | .brk => R (.ok .next) s₃
            | .ret v => R (.ok (.ret v)) s₃) NoE s₂
        else R (.ok .next) s₂) NoE s)
    (n : Nat) (h : I n s) : codeS (model prog w) A (.whileLoop test body [] env) R s := by
  refine codeS_loop rfl rfl I (fun n s hI => ?_) n h
  show wpS _ A ((whileTurn test body [] env).onRaise (fun x => do noteFrame x env; theTreesLotGoes x)) _ _ s
  refine wpS_onRaise (E := _) ?_
  simp only [whileTurn]
  refine wpS_bind (wpS_any (wpAny_mono (turn n s hI) (fun b s₂ h₂ => ?_) fun _ _ h' => h'.elim))
  cases b with
  | false =>
    simp only [Bool.false_eq_true, if_false] at h₂ ⊢
    exact wpS_bind (wpS_mono (execsS_nil (Q := fun f s' => f = .next ∧ R (.ok .next) s') (E := NoE) ⟨rfl, h₂⟩) (fun f s₃ h₃ => wpS_pure (by obtain ⟨rfl, h₃⟩ := h₃; exact h₃)) fun _ _ h' => h'.elim)
  | true =>
    simp only [if_true] at h₂ ⊢
    refine wpS_bind (wpS_mono h₂ (fun f s₃ h₃ => ?_) fun _ _ h' => h'.elim)
    cases f with
    | next => exact wpS_pure ⟨rfl, h₃⟩
    | cont => exact wpS_pure ⟨rfl, h₃⟩
    | brk => exact wpS_pure h₃
    | ret v => exact wpS_pure h₃
theorem runOwnS {M : Model} {c : Code} {Q : Flow → Shared → Prop} (hc : codeS M A c (fun r s' => match r with | .ok f => Q f s' | .error _ => False) s) : wpS M A (runOwn c env none) Q NoE s := by
  unfold runOwn
  refine wpS_onRaise (wpS_run (codeS_mono hc fun r s' h => ?_))
  cases r with
  | ok f => exact h
  | error e => exact h.elim
theorem WhileS {test body pos} {Q : Flow → Shared → Prop} (I : Nat → Shared → Prop)
    (turn : ∀ n s, I n s → wpAny (model prog w) A (isTrue test env (eval test env)) (fun b s₂ =>
        if b then wpS (model prog w) A (execs body env) (fun f s₃ => match f with
            | .next | .cont => ∃ m, m < n ∧ I m s₃
            | .brk => Q .next s₃
            | .ret v => Q (.ret v) s₃) NoE s₂
        else Q .next s₂) NoE s)
    (n : Nat) (h : I n s) : wpS (model prog w) A (exec (.While test body [] pos) env) Q NoE s := by
  rw [exec_While]
  exact wpS_bind (wpS_standAt (runOwnS (codeS_whileLoop I turn n h)))
theorem codeS_forLoop {target it body} (I : Nat → Shared → Prop)
    (turn : ∀ n s, I n s → wpAny (model prog w) A (pyNext it) (fun r s₁ => match r with
      | none => R (.ok .next) s₁
      | some v => wpAny (model prog w) A (letOwnedTupleGo target it v) (fun _ s₁' =>
          wpAny (model prog w) A (assign target env v) (fun _ s₂ => wpS (model prog w) A (execs body env) (fun f s₃ => match f with
            | .next | .cont => ∃ m, m < n ∧ I m s₃
            | .brk => R (.ok .next) s₃
            | .ret v => R (.ok (.ret v)) s₃) NoE s₂) NoE s₁') NoE s₁) NoE s)
    (n : Nat) (h : I n s) : codeS (model prog w) A (.forLoop target it body [] env) R s := by
  refine codeS_loop' rfl rfl I (fun n s hI => ?_) n h
  show wpS _ A ((forTurn target it body [] env).onRaise (fun x => do noteFrame x env; theTreesLotGoes x)) _ _ s
  refine wpS_onRaise ?_
  simp only [forTurn]
  refine wpS_bind (wpS_standAt (wpS_bind (wpS_onRaise (wpS_any (wpAny_mono (turn n s hI) (fun r s₁ h₁ => ?_) fun _ _ h' => h'.elim)))))
  cases r with
  | none => exact wpS_pure (.inr ⟨rfl, codeS_any (codeAny_block (wpAny_execs_nil h₁))⟩)
  | some v =>
    refine wpS_bind (wpS_any (wpAny_mono h₁ (fun _ s₁' h₁' => ?_) fun _ _ h' => h'.elim))
    refine wpS_bind (wpS_any (wpAny_mono h₁' (fun _ s₂ h₂ => wpS_bind (wpS_mono h₂ (fun f s₃ h₃ => ?_) fun _ _ h' => h'.elim)) fun _ _ h' => h'.elim))
    cases f with
    | next => exact wpS_pure (.inl ⟨rfl, h₃⟩)
    | cont => exact wpS_pure (.inl ⟨rfl, h₃⟩)
    | brk => exact wpS_pure h₃
    | ret v => exact wpS_pure h₃
theorem ForS {target iter body pos} {Q : Flow → Shared → Prop}
    (h : wpAny (model prog w) A (eval iter env) (fun x s₁ => wpAny (model prog w) A (pyIter x) (fun it s₂ =>
      codeS (model prog w) A (.forLoop target it body [] env) (fun r s' => match r with | .ok f => Q f s' | .error _ => False) s₂) NoE s₁) NoE s)
    (hs : ∀ x, foldedSetIterable iter env x = pure x := by intro _; rfl) :
    wpS (model prog w) A (exec (.For target iter body [] pos) env) Q NoE s := by
  rw [exec_For]
  refine wpS_bind (wpS_standAt (wpS_bind (wpS_any (wpAny_mono h (fun x s₁ h₁ => ?_) fun _ _ h' => h'))))
  rw [hs x]
  refine wpS_bind (wpS_pure (wpS_bind (wpS_standAt (wpS_bind (wpS_holding (wpS_any (wpAny_mono h₁ (fun it s₂ h₂ => runOwnS h₂) fun _ _ h' => h')))))))
end
end Mine
end
section
open PySem PySem.W PySem.Calls PyProof.Rows PySem.Spec
set_option maxRecDepth 100000
namespace Mine
section
variable {prog : Program} {w : World} {A : Around} {s : Shared} {env : Env} {h₀ : Heap} {target : Expr} {body : List Stmt} {Q : Flow → Shared → Prop}
theorem list_loopS {l : Addr} {lo : Obj} {vs : List Value} {m₀ : Str → Option Value} {news : Led} (J : Nat → (Str → Option Value) → Led → Prop)
    (hh : A.handled = none) (hm : (l, lo) ∈ news) (hlo : ∀ h : Heap, h.get? l = some lo → h.IsList l vs.toArray) (hkeep : ∀ i m₁ news₁, J i m₁ news₁ → (l, lo) ∈ news₁) (F : Fr h₀ env.locals s.heap m₀) (N : News h₀ env.locals s.heap news) (hj : J 0 m₀ news)
    (turn : ∀ i v m₁ news₁ I oI (s₁ : Shared), vs[i]? = some v → J i m₁ news₁ → (∀ p ∈ news₁, p.1 ≠ I) → Fr h₀ env.locals s₁.heap m₁ → News h₀ env.locals s₁.heap ((I, oI) :: news₁) →
      wpAny (model prog w) A (assign target env v) (fun _ s₃ => wpS (model prog w) A (execs body env) (TurnT h₀ env.locals I oI (J (i + 1)) s₁) NoE s₃) NoE s₁)
    (done : ∀ m₁ news₁ h tk, J vs.length m₁ news₁ → Fr h₀ env.locals h m₁ → News h₀ env.locals h news₁ → Q .next { s with heap := h, toks := tk }) :
    wpAny (model prog w) A (pyIter (.ref l)) (fun it s₂ => codeS (model prog w) A (.forLoop target it body [] env) (fun r s' => match r with | .ok f => Q f s' | .error _ => False) s₂) NoE s := by
  have hls : s.heap.IsList l vs.toArray := hlo _ (N _ hm).1
  have hne : l ≠ s.heap.objs.size := Nat.ne_of_lt (Heap.lt_size (N _ hm).1)
  refine wpAny_pyIter_list hls ?_
  have W := Walks.list (prog := prog) (w := w) hh s.heap.objs.size l hne vs.toArray
  have hlen : vs.toArray.size = vs.length := by simp
  rw [hlen] at W
  have hLI : env.locals ≠ s.heap.objs.size := Nat.ne_of_lt F.ns.lt
  have old : ∀ b o, h₀.get? b = some o → b ≠ s.heap.objs.size := fun b o e q => by have := next_is_new F; rw [← q, e] at this; cases this
  refine codeS_forLoop (fun k s' => ∃ h' tk m' news' i, s' = { s with heap := h', toks := tk } ∧ h'.IsListIter s.heap.objs.size l i ∧ Fr h₀ env.locals h' m' ∧ News h₀ env.locals h' news' ∧ (∀ p ∈ news', p.1 ≠ s.heap.objs.size) ∧ J i m' news' ∧ i ≤ vs.length ∧ k = vs.length + 1 - i) ?_ (vs.length + 1)
    ⟨_, _, m₀, news, 0, rfl, ⟨_, Heap.get?_push_size _ rfl, rfl, rfl⟩, F.push _, (fun p hp => ⟨Heap.get?_push_of_some _ (N p hp).1, (N p hp).2⟩), (fun p hp => Nat.ne_of_lt (Heap.lt_size (N p hp).1)), hj, Nat.zero_le _, rfl⟩
  rintro k s' ⟨h', tk, m', news', i, rfl, hit, F', N', hn', hJ, hi, rfl⟩
  have hl' : h'.IsList l vs.toArray := hlo _ (N' _ (hkeep _ _ _ hJ)).1
  have next : ∀ h₁ : Heap, (∀ b o, b ∉ [s.heap.objs.size] → h'.get? b = some o → h₁.get? b = some o) → Fr h₀ env.locals h₁ m' ∧ News h₀ env.locals h₁ news' := fun h₁ hk₁ =>
    ⟨⟨F'.ns.at' fun o e => hk₁ _ o (by simpa using hLI) e, fun b o e => hk₁ b o (by simpa using old b o e) (F'.keep b o e), F'.above⟩, fun p hp => ⟨hk₁ _ _ (by simpa using hn' p hp) (N' p hp).1, (N' p hp).2⟩⟩
  by_cases hlt : i < vs.length
  · refine W.item i _ _ _ hlt ⟨hit, hl'⟩ fun v h₁ tk₁ hP hst₁ hk₁ => ?_
    obtain ⟨F₁, N₁⟩ := next h₁ hk₁
    have hP' : vs[i]? = some v := by simpa using hP
    obtain ⟨hit₁, _⟩ := hst₁
    obtain ⟨oI, hI, hIc, hId⟩ := id hit₁
    have NI : News h₀ env.locals h₁ ((s.heap.objs.size, oI) :: news') := by
      intro p hp
      rcases List.mem_cons.mp hp with rfl | hp
      · exact ⟨hI, hLI.symm, next_is_new F⟩
      · exact N₁ p hp
    refine letGo_listiter (s' := { s with heap := h₁, toks := tk₁ }) hit₁ ?_
    refine wpAny_mono (turn i v m' news' s.heap.objs.size oI { s with heap := h₁, toks := tk₁ } hP' hJ hn' F₁ NI) (fun _ s₂ h₂ => wpS_mono h₂ (fun f s₃ h₃ => ?_) fun _ _ e => e) fun _ _ e => e
    obtain ⟨rfl, h₃', tk₃, m₂, news₂, rfl, F₃, N₃, ha₃, hJ₃⟩ := h₃
    exact ⟨vs.length + 1 - (i + 1), by omega, h₃', tk₃, m₂, news₂, i + 1, rfl, ⟨oI, (N₃ _ (.head _)).1, hIc, hId⟩, F₃, fun p hp => N₃ p (.tail _ hp), ha₃, hJ₃, hlt, rfl⟩
  · have hin : i = vs.length := by omega
    subst hin
    refine W.done _ _ _ ⟨hit, hl'⟩ fun h₁ tk₁ hk₁ => ?_
    obtain ⟨F₁, N₁⟩ := next h₁ hk₁
    exact done m' news' h₁ tk₁ hJ F₁ N₁
end
end Mine
end
section
open PySem PySem.W PySem.Calls PyProof.Rows PySem.Spec
set_option maxRecDepth 100000
namespace Mine
abbrev baO (b : Array UInt8) : Obj := { cls := .type "bytearray", data := .bytearray b }
theorem ba_plainAttrs : PlainAttrs "bytearray" :=
  ⟨⟨"bytearray.__getattribute__", by rw [typeLookup_type, builtinLookup_eq_fast]; kernel_rfl, by decide +kernel⟩, by rw [typeLookup_type, builtinLookup_eq_fast]; kernel_rfl⟩
theorem ba_slot_append : Slot "bytearray" "append" "bytearray.append" :=
  .of (owner := "bytearray") (n := "append") (by rw [typeLookup_type, builtinLookup_eq_fast]; kernel_rfl) (by decide +kernel) (by decide +kernel) (by decide +kernel)
    (by first | exact .inl (by decide +kernel) | exact .inr (by decide +kernel)) (by rw [isSubtype_type]; kernel_rfl)
theorem ba_type_append : typeOf (.builtin "bytearray.append") = pure (.type "method_descriptor") := by show builtinType _ = _; rw [builtinType_eq_fast]; kernel_rfl
theorem ba_entry_append : entryFor table "bytearray.append" = some Builtin.«bytearray.append» := entryFor_of_tree (by kernel_rfl)
theorem ba_args_append (a b : Value) : argsOk "bytearray.append" ⟨[a, b], []⟩ := by unfold argsOk; kernel_rfl
theorem ba_slot_init : Slot "bytearray" "__init__" "bytearray.__init__" :=
  .of (owner := "bytearray") (n := "__init__") (by rw [typeLookup_type, builtinLookup_eq_fast]; kernel_rfl) (by decide +kernel) (by decide +kernel) (by decide +kernel)
    (by first | exact .inl (by decide +kernel) | exact .inr (by decide +kernel)) (by rw [isSubtype_type]; kernel_rfl)
theorem ba_mro : mroOf (.type "bytearray") = pure [.type "bytearray", .type "object"] := by rw [mroOf_type]; kernel_rfl
theorem ba_lookup_new : typeLookup (.type "bytearray") "__new__" = pure (some (.builtin "bytearray.__new__")) := by rw [typeLookup_type, builtinLookup_eq_fast]; kernel_rfl
theorem ba_called : TypeCalled "bytearray" "bytearray.__new__" "bytearray.__init__" :=
  ⟨by decide +kernel, by decide +kernel, ⟨_, _, ba_mro⟩, madeBy_type ba_mro ba_lookup_new (by decide +kernel), by decide +kernel, by rw [isSubtype_type]; kernel_rfl, ba_slot_init⟩
theorem ba_typeCall : checkTypeCall "bytearray" ⟨[], []⟩ = pure () := by kernel_rfl
theorem ba_newCall : checkBuiltinCall "bytearray.__new__" ⟨[.type "bytearray"], []⟩ = pure () := by kernel_rfl
theorem ba_fast_new : fastTable "bytearray.__new__" = none := by rw [fastTable_eq_tree]; kernel_rfl
theorem la_fast_new : fastTable "list.__new__" = some Builtin.«list.__new__» := by rw [fastTable_eq_tree]; kernel_rfl
theorem ba_entry_new : entryFor table "bytearray.__new__" = some Builtin.«list.__new__» := entryFor_alias ba_fast_new (by decide +kernel) (by decide +kernel) la_fast_new
theorem ba_entry_init : entryFor table "bytearray.__init__" = some Builtin.«bytearray.__init__» := entryFor_of_tree (by kernel_rfl)
theorem ba_args_init (a : Value) : argsOk "bytearray.__init__" ⟨[a], []⟩ := by unfold argsOk; kernel_rfl
theorem ba_plain_new : plainId "bytearray.__new__" = true := by decide +kernel
theorem ba_plain_init : plainId "bytearray.__init__" = true := by decide +kernel
theorem ba_plain_append : plainId "bytearray.append" = true := by decide +kernel
theorem ba_sub_self : isSubtype (.type "bytearray") (.type "bytearray") = pure true := by rw [isSubtype_type]; kernel_rfl
theorem ba_release : typeLookup (.type "bytearray") "__release_buffer__" = pure (some (.builtin "bytearray.__release_buffer__")) := by rw [typeLookup_type, builtinLookup_eq_fast]; kernel_rfl
theorem ba_bind : Builtin.Bytes.bindOptional "bytearray.__init__" "bytearray" ["source", "encoding", "errors"] [] [] = pure [none, none, none] := by kernel_rfl
set_option maxRecDepth 1000000 in
set_option maxHeartbeats 4000000 in
theorem ba_owner_new : ("bytearray.__new__".splitOn ".__new__").headD "" = "bytearray" := by simp +decide [String.splitOn, String.splitOnAux]
section
variable {prog : Program} {w : World} {A : Around} {E : Value → Shared → Prop} {s : Shared} {h₀ : Heap} {L D : Addr} {m : Str → Option Value} {news news' : Led} {b : Array UInt8} {R : Result → Shared → Prop}
theorem barrMethod {name : Str} {id : String} {pl : Sem Bool} {Q : Value × List Value → Shared → Prop} (N : News h₀ L s.heap news) (hm : (D, baO b) ∈ news) (slot : Slot "bytearray" name id) (hty : typeOf (.builtin id) = pure (.type "method_descriptor"))
    (h : Q (.builtin id, [.ref D]) s) : wpAny (model prog w) A (getMethod (.ref D) name pl) Q E s :=
  getMethod_builtin ⟨_, (N _ hm).1, rfl⟩ ba_plainAttrs slot hty (fun a e => by cases e; exact ⟨_, (N _ hm).1, rfl⟩) h
theorem callWithS_builtin {env : Env} {pos : Pos} {id : String} {first : List Value} {Q : Value → Shared → Prop} {e : Expr} {rest : List Expr} (h : wpAny (model prog w) A (spliced (backTo pos (starEach (e :: rest) env))) (fun vs s₁ => wpS (model prog w) A (call (.builtin id) (first ++ vs)) Q E s₁) E s)
    (he : starEach (e :: rest) env = (false, eval e env) :: starEach rest env := by rfl) (hplain : (backTo pos (starEach rest env)).any (·.1) = false := by rfl) :
    wpS (model prog w) A (callWith pos (.builtin id) first (backTo pos (starEach (e :: rest) env)) []) Q E s := by
  rw [he] at h ⊢
  exact callWithS_of (P := fun _ => True) (by show ((false || (backTo pos (starEach rest env)).any (·.1)) || false) = false; rw [hplain]; rfl) (fun h _ => ⟨.machine, .inr (.inl rfl), Looks.of_pure rfl⟩)
    (evalArgs_plain (wpAny_mono h (fun vs s₁ h₁ => ⟨trivial, h₁⟩) fun _ _ x => x))
theorem codeS_call_builtin {id : String} {args : Args} {bi : Builtin} (hbad : badC (.builtin id args) = false) (hq : plainId id = true) (hb : entryFor table id = some bi)
    (h : wpAny (model prog w) A.in1 (checkBuiltinCall id args) (fun _ s₁ => wpS (model prog w) A.in1 (bi args)
      (fun fin s' => match fin with | .done f => R (.ok f) s' | .again c' => c'.quiet = true ∧ codeS (model prog w) A c' R s') (fun e s' => R (.error e) s') s₁)
      (fun e s' => R (.error e) s') s) : codeS (model prog w) A (.call (.builtin id) args) R s := by
  refine codeS_of_tree rfl ?_
  show wpS _ A.in1 (checkBuiltinCall id args >>= fun _ => again (.builtin id args)) _ _ s
  refine wpS_bind (wpS_any (wpAny_mono h (fun _ s₁ h₁ => wpS_pure (And.intro (plainId_quiet hq args) (codeS_of_tree hbad ?_))) fun _ _ h' => h'))
  rw [Around.under_plainId hq args]
  show wpS _ _ (match entryFor table id with | some b => b args | none => unsupported ((withoutEnding? id "#data").getD id)) _ _ s₁
  rw [hb]; exact h₁
theorem wpS_orM {x y : Sem Bool} {Q : Bool → Shared → Prop} (h : wpS (model prog w) A x (fun b s' => if b = true then Q true s' else wpS (model prog w) A y Q E s') E s) : wpS (model prog w) A (x <||> y) Q E s := by
  unfold orM
  refine wpS_bind (wpS_mono h (fun b s' h' => ?_) fun _ _ x => x)
  cases b
  · exact h'
  · exact wpS_pure h'
theorem checkResizeS {a : Addr} {Q : Unit → Shared → Prop} (ho : s.heap.get? a = some (baO b)) (h : Q () s) : wpS (model prog w) A (Builtin.Bytes.checkResize (.ref a)) Q E s := by
  unfold Builtin.Bytes.checkResize
  refine wpS_bind ?_
  refine wpS_orM (wpS_exported ?_)
  show wpS _ _ (Builtin.Bytes.exportsOf (.ref a) >>= fun n => pure (decide (n > 0))) _ _ _
  refine wpS_bind ?_
  unfold Builtin.Bytes.exportsOf
  refine wpS_bind (wpS_any (wpAny_load ho ?_))
  exact wpS_pure (wpS_pure (wpS_pure h))
theorem writeB {a : Addr} {f : Array UInt8 → Array UInt8} {Q : Unit → Shared → Prop} (F : Fr h₀ L s.heap m) (N : News h₀ L s.heap news) (U : Upd a (baO b) (baO (f b)) news news') (hsz : (f b).size ≤ sizeLine)
    (h : ∀ h', Fr h₀ L h' m → News h₀ L h' news' → Q () { s with heap := h' }) : wpAny (model prog w) A (Builtin.Bytes.write (.ref a) f) Q E s := by
  obtain ⟨pre, post, rfl, rfl, h1, h2⟩ := U.split
  have z := N (a, baO b) (List.mem_append_right _ (.head _))
  show wpAny _ _ (updateBytearray a f) _ _ _
  unfold updateBytearray
  refine wpAny_bind (wpAny_load z.1 ?_)
  show wpAny _ _ (update a (Obj.mapBytearray f) >>= fun _ => lookBehind a) _ _ _
  refine wpAny_bind (wpAny_update z.1 ?_)
  obtain ⟨F', N'⟩ := news_upd (f := Obj.mapBytearray f) (o' := baO (f b)) F N h1 h2 rfl rfl
  refine wpAny_lookBehind (N' _ (List.mem_append_right _ (.head _))).1 ?_ (h _ F' N')
  show (if (f b).size > sizeLine then some "bytearray:memory" else none) = none
  rw [if_neg (Nat.not_lt.mpr hsz)]
theorem appendS {a : Addr} {x : Int} {t : Tok} {Q : Value → Shared → Prop} (F : Fr h₀ L s.heap m) (N : News h₀ L s.heap news) (U : Upd a (baO b) (baO (b.push x.toNat.toUInt8)) news news') (h0 : 0 ≤ x) (h1 : x < 256) (hsz : b.size + 1 ≤ sizeLine)
    (h : ∀ h', Fr h₀ L h' m → News h₀ L h' news' → Q .none { s with heap := h' }) : wpS (model prog w) A (call (.builtin "bytearray.append") [.ref a, .int x t]) Q E s := by
  have ho : s.heap.get? a = some (baO b) := by
    obtain ⟨pre, post, rfl, rfl, _, _⟩ := U.split
    exact (N (a, baO b) (List.mem_append_right _ (.head _))).1
  refine wpS_call (codeS_call_builtin rfl ba_plain_append ba_entry_append (ba_slot_append.check _ _ _ _ _ _ _ _ ⟨_, ho, rfl⟩ (ba_args_append _ _) ?_))
  show wpS _ _ (Builtin.Bytes.byteValue (.int x t) >>= fun c => Builtin.Bytes.checkResize (.ref a) >>= fun _ => Builtin.Bytes.write (.ref a) (·.push c) >>= fun _ => ret .none) _ _ _
  refine wpS_bind (wpS_any ?_)
  unfold Builtin.Bytes.byteValue
  refine wpAny_bind (wpAny_of_eq (rfl : asIndex (.int x t) = pure x) ?_)
  refine bm_if_false (by simp only [Bool.or_eq_false_iff, decide_eq_false_iff_not]; omega) ?_
  refine wpAny_pure (wpS_bind (checkResizeS ho (wpS_bind (wpS_any (writeB F N U ?_ fun h' F' N' => ?_)))))
  · simpa using hsz
  · exact wpS_pure (h h' F' N')
end
end Mine
end
section
open PySem PySem.W PySem.Calls PyProof.Rows PySem.Spec
set_option maxRecDepth 100000
namespace Mine
section
variable {prog : Program} {w : World} {A : Around} {E : Value → Shared → Prop} {s : Shared} {h₀ : Heap} {L : Addr} {m : Str → Option Value} {news : Led} {R : Result → Shared → Prop}
theorem codeS_builtin {id : String} {args : Args} {b : Builtin} (hbad : badC (.builtin id args) = false) (hb : entryFor table id = some b)
    (h : wpS (model prog w) (A.under (.builtin id args)) (b args) (fun fin s' => match fin with | .done f => R (.ok f) s' | .again c' => c'.quiet = true ∧ codeS (model prog w) A c' R s') (fun e s' => R (.error e) s') s) :
    codeS (model prog w) A (.builtin id args) R s := by
  refine codeS_of_tree hbad ?_
  show wpS _ _ (match entryFor table id with | some b => b args | none => unsupported ((withoutEnding? id "#data").getD id)) _ _ s
  rw [hb]; exact h
theorem ifS_false {α : Type} {M : Model} {c : Bool} {a b : Sem α} {Q : α → Shared → Prop} (hc : c = false) (h : wpS M A b Q E s) : wpS M A (if c = true then a else b) Q E s := by subst hc; exact h
theorem ifS_true {α : Type} {M : Model} {c : Bool} {a b : Sem α} {Q : α → Shared → Prop} (hc : c = true) (h : wpS M A a Q E s) : wpS M A (if c = true then a else b) Q E s := by subst hc; exact h
theorem wpS_eq {α β : Type} {M : Model} {t : Sem α} {a : α} {f : α → Sem β} {Q : β → Shared → Prop} (h : t = pure a) (hq : wpS M A (f a) Q E s) : wpS M A (t >>= f) Q E s := by subst h; exact hq
theorem ownReleaseF {M : Model} {v : Value} {Q : Bool → Shared → Prop} (hT : s.TypeIs v "bytearray") (h : Q false s) : wpAny M A (Builtin.Bytes.ownRelease v) Q E s := by
  unfold Builtin.Bytes.ownRelease Builtin.Bytes.slotIsOwn
  refine wpAny_bind (wpAny_bind (wpAny_specialOf hT ba_release ?_))
  dsimp only
  refine bm_if_false (by decide +kernel) ?_
  have e : ("bytearray.__release_buffer__".dropRight ("__release_buffer__".length + 1)) = "bytearray" := by decide +kernel
  rw [e]
  exact wpAny_isInstance hT ba_sub_self (wpAny_pure h)
theorem newBA {Q : Value → Shared → Prop} (F : Fr h₀ L s.heap m) (N : News h₀ L s.heap news) (h : ∀ a h', Fr h₀ L h' m → News h₀ L h' ((a, baO #[]) :: news) → (∀ p ∈ news, p.1 < a) → Q (.ref a) { s with heap := h' }) :
    wpS (model prog w) A (call (.type "bytearray") []) Q NoE s := by
  refine wpS_call (codeS_of_tree rfl ?_)
  show wpS _ _ (callAny (.type "bytearray") _) _ _ _
  refine wpS_pure ⟨Code.quiet_builtin _ (by decide +kernel), codeS_builtin (by decide +kernel) PySem.F.entry_type_call ?_⟩
  rw [Around.under_plain (weight_type_call_type "bytearray" [] []) rfl]
  unfold Builtin.«type.__call__»
  dsimp only
  refine ifS_false ba_called.notType ?_
  refine ifS_false ba_called.canCreate ?_
  refine wpS_eq ba_typeCall ?_
  refine wpS_eq ba_mro ?_
  refine ifS_false rfl ?_
  refine wpS_eq ba_called.made ?_
  dsimp only
  refine wpS_bind (wpS_pure ?_)
  refine wpS_bind (wpS_holding (wpS_call ?_))
  refine codeS_any (codeAny_of_tree ?_)
  show wpAny _ A.in1.in1 (checkBuiltinCall "bytearray.__new__" ⟨[.type "bytearray"], []⟩ >>= fun _ => again (.builtin "bytearray.__new__" ⟨[.type "bytearray"], []⟩)) _ _ s
  refine wpAny_bind (wpAny_of_eq ba_newCall (wpAny_pure ⟨plainId_quiet ba_plain_new _, codeAny_builtin_stack ba_entry_new rfl fun p st => ?_⟩))
  rw [Around.under_plainId ba_plain_new _]
  have hsub := ba_sub_self
  have hown := ba_owner_new
  have F' := F.push (baO #[])
  have N' := N.push F (baO #[])
  have hlt : ∀ p ∈ news, p.1 < s.heap.objs.size := fun p hp => Heap.lt_size (N p hp).1
  obtain ⟨hp, g, d, tk, os⟩ := s
  simp only [hown]
  wp_walk
  have hT : (⟨hp.push (baO #[]), g, d, tk, os⟩ : Shared).TypeIs (.ref hp.objs.size) "bytearray" := ⟨_, (N' _ (.head _)).1, rfl⟩
  refine wpS_then (wpAny_isInstance hT ba_sub_self ?_)
  refine ifS_false rfl ?_
  refine wpS_bind (wpS_holding ?_)
  unfold callSpecial?
  refine wpS_then (wpAny_specialOf hT ba_slot_init.lookup ?_)
  simp only [ba_slot_init.bind]
  refine wpS_holding (wpS_bind (wpS_pure (wpS_bind (wpS_call (codeS_call_builtin rfl ba_plain_init ba_entry_init (ba_slot_init.check _ _ _ _ _ _ _ _ hT (ba_args_init _) ?_))))))
  unfold Builtin.«bytearray.__init__»
  refine wpS_then (ownReleaseF hT ?_)
  refine ifS_false rfl ?_
  refine wpS_eq ba_bind ?_
  refine wpS_eq (a := ()) rfl ?_
  refine wpS_eq (a := ()) rfl ?_
  refine wpS_bind (wpS_orM (wpS_exported ?_))
  show wpS _ _ (Builtin.Bytes.exportsOf (.ref hp.objs.size) >>= fun n => pure (decide (n > 0))) _ _ _
  refine wpS_bind ?_
  unfold Builtin.Bytes.exportsOf
  refine wpS_then (wpAny_load (N' _ (.head _)).1 ?_)
  refine wpS_pure (wpS_pure (ifS_false (by decide) ?_))
  refine wpS_bind (wpS_any (writeB (f := fun _ => #[]) F' N' (Upd.head fun p hp => Nat.ne_of_lt (hlt p hp)) (Nat.zero_le _) fun h' F₂ N₂ => ?_))
  refine wpS_bind (ifS_false rfl (ifS_false rfl (wpS_pure ?_)))
  refine wpS_pure ?_
  dsimp only
  refine wpS_pure ?_
  exact wpS_pure (h _ _ F₂ N₂ hlt)

theorem codeS_call_builtin_at {id : String} {args : Args} {bi : Builtin} (hbad : badC (.builtin id args) = false) (hq : (Code.builtin id args).quiet = true) (hb : entryFor table id = some bi)
    (h : wpAny (model prog w) A.in1 (checkBuiltinCall id args) (fun _ s₁ => wpS (model prog w) (A.under (.builtin id args)) (bi args)
      (fun fin s' => match fin with | .done f => R (.ok f) s' | .again c' => c'.quiet = true ∧ codeS (model prog w) A c' R s') (fun e s' => R (.error e) s') s₁)
      (fun e s' => R (.error e) s') s) : codeS (model prog w) A (.call (.builtin id) args) R s := by
  refine codeS_of_tree rfl ?_
  show wpS _ A.in1 (checkBuiltinCall id args >>= fun _ => again (.builtin id args)) _ _ s
  exact wpS_bind (wpS_any (wpAny_mono h (fun _ s₁ h₁ => wpS_pure (And.intro hq (codeS_builtin hbad hb h₁))) fun _ _ h' => h'))
def InitS (x : Addr) (Q : Value → Shared → Prop) (r : Result) (s' : Shared) : Prop := match r with
  | .ok (.ret v) => v = .none ∧ Q (.ref x) s'
  | _ => False
theorem makeS {K : Frag} {C fI : Addr} {Q : Value → Shared → Prop} (F : Fr h₀ L s.heap m) (N : News h₀ L s.heap news) (X : K.In s.heap) (hm : makesIn K C = true)
    (hi : findIn K (.ref C) "__init__" = some (some (.ref fI))) (hf : typeIn K (.ref fI) = some (.type "function"))
    (h : ∀ x dx h', Fr h₀ L h' m → News h₀ L h' ((x, instObj C dx) :: (dx, emptyDict) :: news) → (∀ p ∈ news, p.1 < dx) → dx < x →
      codeS (model prog w) (A.under (.builtin "type.__call__" ⟨[.ref C], []⟩)) (.call (.ref fI) ⟨[.ref x], []⟩) (InitS x Q) { s with heap := h' }) :
    wpS (model prog w) A (call (.ref C) []) Q NoE s := by
  have Y := makes_of (M := model prog w) X hm
  have hil := looks_findIn (M := model prog w) X hi
  have hb := fun self => bind_fn (M := model prog w) X self hf
  obtain ⟨hh, g, d, t, os⟩ := s
  have N' := (N.push F emptyDict).push (F.push _) (instObj C hh.objs.size)
  rw [Heap.size_push] at N'
  have h2 := h _ hh.objs.size _ ((F.push _).push _) N' (fun p hp => Heap.lt_size (N p hp).1) (Nat.lt_succ_self _)
  have Y' := Y
  obtain ⟨⟨oc, od, cd, sl, hC, e1, e2, e4⟩, made, base, self, top, call, typ⟩ := Y
  refine wpS_call (codeS_of_tree rfl ?_)
  show wpS _ _ (callAny (.ref C) _) _ _ _
  refine wpS_then (wpAny_load hC ?_)
  show wpS _ _ (callAny.viaDunder (.ref C) _) _ _ _
  unfold callAny.viaDunder
  refine wpS_then (call.here ?_)
  dsimp only
  rw [tc_bind]
  refine wpS_bind (wpS_pure (wpS_bind (wpS_pure ?_)))
  refine wpS_pure (a := PySem.Fin.again (.call (.builtin "type.__call__") ⟨[.ref C], []⟩)) (And.intro rfl ?_)
  refine codeS_call_builtin_at rfl (Code.quiet_builtin _ (by decide +kernel)) entry_typeCall (check_slot tc_kind tc_split typ (tc_args _ _ _) ?_)
  unfold Builtin.«type.__call__»
  have hm : Looks (model prog w) hh (mroOf (.ref C)) cd.mro := ((Looks.ld (part := none) hC).andThen .now).andThen .now
  dsimp only
  refine ifS_false rfl ?_
  refine wpS_then (hm.here ?_)
  refine ifS_false e4 ?_
  refine wpS_then (made.here ?_)
  dsimp only
  refine wpS_bind (wpS_pure ?_)
  refine wpS_bind (wpS_holding (wpS_call (codeS_any ?_)))
  refine new_K Y' hil (.inl rfl) ?_
  have k : ∀ b o, hh.get? b = some o → ((hh.push emptyDict).push (instObj C hh.objs.size)).get? b = some o := fun b o e => Heap.get?_push_of_some _ (Heap.get?_push_of_some _ e)
  have hx : ((hh.push emptyDict).push (instObj C hh.objs.size)).get? (hh.objs.size + 1) = some (instObj C hh.objs.size) := (N' _ (.head _)).1
  have t1 : Looks (model prog w) ((hh.push emptyDict).push (instObj C hh.objs.size)) (typeOf (.ref (hh.objs.size + 1))) (.ref C) := (Looks.ld hx).andThen .now
  have s1 := self.keeps k
  have i1 := hil.keeps k
  have b1 := (hb (.ref (hh.objs.size + 1))).keeps k
  dsimp only
  refine wpS_then ?_
  unfold isInstance
  refine wpAny_bind (t1.here ?_)
  refine s1.here ?_
  refine ifS_false rfl ?_
  refine wpS_bind (wpS_holding ?_)
  unfold callSpecial? specialOf
  refine wpS_bind (wpS_any (wpAny_bind (t1.here (i1.here ?_))))
  refine wpS_holding (wpS_then (b1.here ?_))
  dsimp only
  refine wpS_bind (wpS_call (codeS_mono h2 fun r s' z => ?_))
  cases r with
  | error e => exact z.elim
  | ok f =>
    cases f with
    | ret v =>
      obtain ⟨rfl, z⟩ := z
      exact wpS_pure (wpS_pure z)
    | _ => exact z.elim
end
end Mine
end
section
open PySem PySem.W PySem.Calls PyProof.Rows PySem.Spec
set_option maxRecDepth 100000
namespace Mine
section
variable {prog : Program} {w : World} {A₀ A : Around} {s : Shared} {base h₀ : Heap} {outer : List Env} {L : Addr} {m : Str → Option Value} {env : Env} {news : List (Addr × Obj)} {K : Frag} {p : Program} {loose : List Str} {mean : ExcName → Option Value} {mg mb : Str → Option Value}
  {R : Result → Shared → Prop} {name qual : Str} {params : Arguments} {body : List Stmt} {scope : Scope} {dV kV doc pm cdv ct oc : Value} {an od : Option Addr} {osl : Array (Option Value)} {f : Addr} {args : Args} {binds : List (Str × Value)}
theorem defS (B : Below A₀ base outer h₀) (F : Fr h₀ L s.heap m) (X₀ : K.In h₀) (N : News h₀ L s.heap news) (T : Top p loose mean mg mb h₀) (hA : A.frames = some (env :: outer)) (hf : env.frame = some L) (hke : env.scope.kind = .function)
    (ho : K.lookup f = some ⟨oc, od, .func (fnX name qual params body scope [] dV kV doc pm an cdv ct), osl⟩) (hcd : codeIn K cdv qual = true) (hroom : A.depth < recursionLimit)
    (hbind : BindsTo s (fnX name qual params body scope [] dV kV doc pm an cdv ct) args binds) (hloc : ∀ y ∈ binds, scope.names.lookup y.1 = some .local)
    (h : ∀ g L' h₁, Fr h₀ L g m → Fr g L' h₁ (fun y => binds.reverse.lookup y) → News g L' h₁ news → Below A base (env :: outer) g → K.In g → Top p loose mean mg mb g →
      wpS (model prog w) (A.deeper (envOf qual scope L' f cdv)) (execs body (envOf qual scope L' f cdv))
        (fun fl s' => LeaveK h₀ L m g R (match fl with | .ret v => v | _ => .none) s') NoE
        { s with heap := h₁, toks := s.toks + binds.length })
    (hco : scope.isCoroutine = false) (hgen : scope.isGenerator = false) (hk : scope.kind = .function) (hcell : ∀ x ∈ scope.names, x.2 ≠ .cell) : codeS (model prog w) A (.call (.ref f) args) R s := by
  have X := X₀.keeps F.keep
  refine callS_def (cl := []) B F N T.nolimit hA hf hke (X _ _ ho) rfl (codeRec_of X hcd) hroom hbind hloc (fun g L' h₁ F1 F2 N2 B2 st _ => ?_) hcell hco hgen hk
  exact h g L' h₁ F1 F2 N2 B2 (X₀.keeps st) (T.keeps st)
end
abbrev CalledS (hn : Option Value) (w : World) (p : Program) (loose : List Str) (mean : ExcName → Option Value) (mg mb : Str → Option Value) (f : Addr) (vs : List Value) (news : Led) (dd uu : Nat)
    (Ret : (Value → Led → Prop) → Prop) : Prop :=
  ∀ (dp un : Nat) (gd : Option (List Code)) (cn : Str) (cs : Scope) (a : Addr) (ccd : Value) (cl : List (Str × Addr)) (outer : List Env) (A₀ : Around) (base h₀ : Heap) (L : Addr) (m : Str → Option Value) (s : Shared) (Q : Value → Shared → Prop),
    Below A₀ base outer h₀ → Fr h₀ L s.heap m → (Mine.hd.heap_39 w.params).In h₀ → News h₀ L s.heap news → Top p loose mean mg mb h₀ → cs.kind = .function →
    dp + dd < recursionLimit → un + uu < cLine →
    Ret (fun v news' => ∀ (h' : Heap) (tk' : Nat), Fr h₀ L h' m → News h₀ L h' news' → Q v { s with heap := h', toks := tk' }) →
      codeS (model PySem.Challenge.pw_nt0540_01 w) ({ handled := hn, depth := dp, frames := some (envX cn cs L a ccd cl :: outer), guards := gd, units := un } : Around) (.call (.ref f) ⟨vs, []⟩)
        (fun r s' => match r with | .ok (.ret v) => Q v s' | .ok _ => False | .error e => NoE e s') s
/-- what a writer's dict keeps beside its values -/
structure WM where
  h1 : Int
  h2 : Int
  h3 : Int
  k1 : Tok
  k2 : Tok
  k3 : Tok
abbrev wrD (M : WM) (b : Addr) (r z : Int) (tr tz : Tok) : Obj := dictOf [⟨M.h1, .str (Str.ofString "full") M.k1, .ref b⟩, ⟨M.h2, .str (Str.ofString "rest") M.k2, .int r tr⟩, ⟨M.h3, .str (Str.ofString "size") M.k3, .int z tz⟩] 3
end Mine
end
section
open PySem PySem.W PySem.Calls PyProof.Rows PySem.Spec
namespace Mine
theorem reset_NT_init : True := by
  w_top off
  exact True.intro
local macro_rules | `(tactic| k_all) => `(tactic| with_reducible assumption)
local macro_rules | `(tactic| walk_at "exec For Tuple Name cons nil") => `(tactic| (k_here; (rename Fr _ _ _ _ => lF'); (with_unfolding_all refine' For_invTF lF' ?_ ?k2; (case k2 => (intro _; rfl)); k_whole)))
local macro_rules | `(tactic| walk_at "exec For Name Call cons nil") => `(tactic| (k_here; (rename Fr _ _ _ _ => lF'); (with_unfolding_all refine' For_M lF' ?k1 ?k2 ?_; (case k1 => exact rfl); (case k2 => exact rfl); k_whole)))
local macro_rules | `(tactic| walk_at "call type:range") => `(tactic| (k_here; (with_reducible show wpAny _ _ (call _ [_]) _ _ _); k_dflt (refine' range1_rows ?F ?N ?_; (case F => k_asm); (case N => k_asm); k_whole); intro h' tk t₁ u₁ v₁ rgX F' N' st'))
local macro_rules | `(tactic| walk_at "call type:range") => `(tactic| (k_here; (with_reducible show wpAny _ _ (call _ [_, _, _]) _ _ _); k_dflt (refine' range3_rows ?F ?N ?c ?_; (case F => k_asm); (case N => k_asm); (case c => decide); k_whole); intro h' tk t₁ u₁ v₁ rgX F' N' st'))

local macro_rules | `(tactic| k_mem) => `(tactic| assumption)
set_option maxRecDepth 100000 in
set_option maxHeartbeats 8000000 in
theorem init_spec {w : World} {p : Program} {loose : List Str} {mean : ExcName → Option Value} {mg mb : Str → Option Value}
    {x dx : Addr} {rest : Led} (hx : dx < x) (hne : ∀ q ∈ rest, q.1 < dx) :
    CalledS none w p loose mean mg mb 72 [.ref x] ((x, instObj 96 dx) :: (dx, emptyDict) :: rest) 1 8
      (fun P => ∀ (b : Addr) (M : WM) (tr tz : Tok), (x < b) → (∀ q ∈ rest, q.1 < b) → P .none ((b, baO #[]) :: (x, instObj 96 dx) :: (dx, wrD M b 0 0 tr tz) :: rest)) := by
  have hx' := ltN hx
  have hne1 : ∀ q ∈ rest, q.1 ≠ dx := fun q hq => Nat.ne_of_lt (hne q hq)
  have hne2 : ∀ q ∈ rest, q.1 ≠ x := fun q hq => Nat.ne_of_lt (Nat.lt_trans (hne q hq) hx)
  intro dp un gd cn cs a ccd cl outer A₀ base h₀ L m s Q B F X N T hk hd hu hret
  k_dflt (refine' defS ?k1 ?k2 ?k3 ?k4 ?k5 ?kA ?kF ?kK ?k6 ?k7 ?k8 ?k9 ?kB ?_ ?c2 ?c3 ?c4 ?c5; (case kA => exact rfl); (case kF => exact rfl); (case kK => assumption); (case k1 => k_asm); (case k2 => k_asm); (case k3 => k_asm); (case k4 => k_asm); (case k5 => k_asm); (case k6 => k_is); (case k7 => k_is); (case k8 => ktr_room); (case k9 => exact BindsTo.of_eq rfl); (case c5 => decide); (case kB => exact locs rfl); (case c2 => exact rfl); (case c3 => exact rfl); (case c4 => exact rfl); k_whole)
  intro g' L' h' FG' F' N' B' X' T'
  (try dsimp only)
  refine execsS_cons (AssignAttrS (CallNameS ?_))
  w_strict (k_steps)
  refine callWithS_type0 (newBA (by k_asm) (by k_asm) ?_)
  intro b h2 F2 N2 l1
  k_lt l1
  (try dsimp only)
  w_strict (k_steps)
  refine wpS_any ?_
  w_strict (k_steps)
  exact hret b ⟨_, _, _, _, _, _⟩ _ _ l1.1 (ktn_ltOf l1.2.2) _ _ (by assumption) (by assumption)
end Mine
end
section
open PySem PySem.W PyProof.Rows
namespace Mine
def natB (bs : List Bool) : Nat := bs.foldl (fun a b => 2 * a + (if b then 1 else 0)) 0
theorem natB_acc (bs : List Bool) : ∀ a : Nat, bs.foldl (fun a b => 2 * a + (if b then 1 else 0)) a = a * 2 ^ bs.length + natB bs := by
  induction bs with
  | nil => intro a; simp [natB]
  | cons b r ih =>
    intro a
    unfold natB
    simp only [List.foldl_cons, List.length_cons]
    rw [ih, ih (2 * 0 + if b = true then 1 else 0), Nat.pow_succ, Nat.add_mul]
    have : 2 * a * 2 ^ r.length = a * (2 ^ r.length * 2) := by rw [Nat.mul_comm 2 a, Nat.mul_assoc, Nat.mul_comm 2]
    rw [this, Nat.mul_zero, Nat.zero_add, Nat.add_assoc]
theorem natB_nil : natB [] = 0 := rfl
theorem natB_append (a b : List Bool) : natB (a ++ b) = natB a * 2 ^ b.length + natB b := by
  unfold natB
  rw [List.foldl_append]
  exact natB_acc b _
theorem natB_cons (b : Bool) (r : List Bool) : natB (b :: r) = (if b then 1 else 0) * 2 ^ r.length + natB r := by
  have := natB_append [b] r
  simpa [natB] using this
theorem natB_lt : ∀ bs : List Bool, natB bs < 2 ^ bs.length
  | [] => by simp [natB]
  | b :: r => by
    have := natB_lt r
    rw [natB_cons, List.length_cons, Nat.pow_succ]
    cases b <;> simp <;> omega
theorem natB_bitsZ (v : Int) : ∀ z : Nat, 0 ≤ v → ((natB (bitsZ v z) : Nat) : Int) = v % 2 ^ z
  | 0, _ => by simp [bitsZ, natB]
  | z + 1, h => by
    rw [bitsZ, natB_cons, bitsZ_length]
    have ih := natB_bitsZ v z h
    have hp : (0 : Int) < 2 ^ z := Int.pow_pos (by decide)
    have e2 : ((2 ^ z : Nat) : Int) = 2 ^ z := by push_cast; rfl
    have key : v % 2 ^ (z + 1) = (v / 2 ^ z % 2) * 2 ^ z + v % 2 ^ z := by
      rw [Int.pow_succ, Int.mul_comm (2 ^ z) 2]
      have h1 := Int.emod_add_mul_ediv v (2 ^ z)
      have h2 := Int.emod_add_mul_ediv (v / 2 ^ z) 2
      have h3 : v / (2 * 2 ^ z) = v / 2 ^ z / 2 := by rw [Int.mul_comm, Int.ediv_ediv_of_nonneg (by omega)]
      have h4 := Int.emod_add_mul_ediv v (2 * 2 ^ z)
      rw [h3] at h4
      generalize v / 2 ^ z / 2 = q at *
      generalize v / 2 ^ z = d at *
      have h5 : 2 ^ z * d = 2 ^ z * (d % 2) + 2 * 2 ^ z * q := by
        rw [show d = d % 2 + 2 * q from h2.symm, Int.mul_add]
        have : (d % 2 + 2 * q) % 2 = d % 2 := by omega
        rw [this, show (2 : Int) ^ z * (2 * q) = 2 * 2 ^ z * q by rw [← Int.mul_assoc, Int.mul_comm (2 ^ z) 2]]
      have h6 : d % 2 * 2 ^ z = 2 ^ z * (d % 2) := Int.mul_comm _ _
      omega
    rw [key]
    have hm := Int.emod_two_eq (v / 2 ^ z)
    push_cast
    rw [ih]
    rcases hm with h' | h' <;> simp [h']
theorem natB_of {v : Int} {z : Nat} (h0 : 0 ≤ v) (h1 : v < 2 ^ z) : ((natB (bitsZ v z) : Nat) : Int) = v := by
  rw [natB_bitsZ v z h0, Int.emod_eq_of_lt h0 h1]
/-- the octets that are full -/
def packB (bits : List Bool) : Array UInt8 := ((List.range (bits.length / 8)).map fun k => (natB ((bits.drop (8 * k)).take 8)).toUInt8).toArray
theorem packB_size (bits : List Bool) : (packB bits).size = bits.length / 8 := by simp [packB]
theorem packB_push {full oct : List Bool} (h : full.length % 8 = 0) (ho : oct.length = 8) : packB (full ++ oct) = (packB full).push (natB oct).toUInt8 := by
  unfold packB
  have e : (full ++ oct).length / 8 = full.length / 8 + 1 := by rw [List.length_append, ho]; omega
  rw [e, List.range_succ, List.map_append]
  simp only [List.map_cons, List.map_nil, List.push_toArray]
  congr 1
  congr 1
  · apply List.map_congr_left
    intro k hk
    have hk := List.mem_range.mp hk
    congr 2
    rw [List.drop_append_of_le_length (by omega), List.take_append_of_le_length (by rw [List.length_drop]; omega)]
  · have e2 : 8 * (full.length / 8) = full.length := by omega
    rw [e2, List.drop_left, List.take_of_length_le (by omega)]
theorem packB_tail {full tl : List Bool} (h : full.length % 8 = 0) (ht : tl.length < 8) : packB (full ++ tl) = packB full := by
  unfold packB
  have e : (full ++ tl).length / 8 = full.length / 8 := by rw [List.length_append]; omega
  rw [e]
  congr 1
  apply List.map_congr_left
  intro k hk
  have hk := List.mem_range.mp hk
  congr 2
  rw [List.drop_append_of_le_length (by omega), List.take_append_of_le_length (by rw [List.length_drop]; omega)]
/-- the writer holds these bits -/
def WrI (bits : List Bool) (bs : Array UInt8) (r z : Int) : Prop :=
  ∃ full tl : List Bool, bits = full ++ tl ∧ full.length % 8 = 0 ∧ bs = packB full ∧ z = tl.length ∧ r = (natB tl : Nat)
theorem WrI.zero : WrI [] #[] 0 0 := ⟨[], [], rfl, rfl, rfl, rfl, rfl⟩
theorem shiftOr {r v : Int} {n : Nat} (hr : 0 ≤ r) (h0 : 0 ≤ v) (h1 : v < 2 ^ n) : Builtin.bitOr (r * 2 ^ n) v = r * 2 ^ n + v := by
  rw [bitOr_and]
  obtain ⟨a, rfl⟩ := Int.eq_ofNat_of_zero_le hr
  obtain ⟨b, rfl⟩ := Int.eq_ofNat_of_zero_le h0
  have e1 : ((a : Int) * 2 ^ n) = ((a * 2 ^ n : Nat) : Int) := by push_cast; rfl
  have hb : b < 2 ^ n := by
    have e2 : ((2 ^ n : Nat) : Int) = 2 ^ n := by push_cast; rfl
    rw [← e2] at h1; omega
  rw [e1, bitAnd_pp (by omega) (by omega)]
  have e3 : (((a * 2 ^ n : Nat) : Int).toNat &&& (b : Int).toNat) = 0 := by
    rw [Int.toNat_natCast, Int.toNat_natCast]
    apply Nat.eq_of_testBit_eq
    intro i
    rw [Nat.testBit_and, Nat.zero_testBit, Nat.mul_comm, Nat.testBit_two_pow_mul]
    rcases Nat.lt_or_ge i n with h | h
    · simp [Nat.not_le.mpr h]
    · rw [Nat.testBit_lt_two_pow (Nat.lt_of_lt_of_le hb (Nat.pow_le_pow_right (by decide) h))]; simp
  rw [e3]; simp
theorem andMask {r : Int} {n : Nat} (hr : 0 ≤ r) : Builtin.bitAnd r (1 * 2 ^ n - 1) = r % 2 ^ n := by
  obtain ⟨a, rfl⟩ := Int.eq_ofNat_of_zero_le hr
  have hp : 0 < 2 ^ n := Nat.two_pow_pos n
  have e1 : ((1 : Int) * 2 ^ n - 1) = ((2 ^ n - 1 : Nat) : Int) := by
    rw [Int.one_mul, Int.ofNat_sub hp]; push_cast; rfl
  have e2 : ((2 ^ n : Nat) : Int) = 2 ^ n := by push_cast; rfl
  rw [e1, bitAnd_pp (by omega) (by omega), Int.toNat_natCast, Int.toNat_natCast, Nat.and_two_pow_sub_one_eq_mod, ← e2]
  push_cast; rfl
theorem WrI.put {bits : List Bool} {bs : Array UInt8} {r z v sz : Int} (h : WrI bits bs r z) (hs : 0 ≤ sz) (h0 : 0 ≤ v) (h1 : v < 1 * 2 ^ sz.toNat) :
    WrI (bits ++ bitsZ v sz.toNat) bs (Builtin.bitOr (r * 2 ^ sz.toNat) v) (z + sz) := by
  obtain ⟨full, tl, rfl, hf, hb, hz, hr⟩ := h
  rw [Int.one_mul] at h1
  refine ⟨full, tl ++ bitsZ v sz.toNat, by rw [List.append_assoc], hf, hb, ?_, ?_⟩
  · rw [List.length_append, bitsZ_length, hz]; omega
  · rw [shiftOr (by rw [hr]; omega) h0 h1, natB_append, bitsZ_length, hr]
    push_cast
    rw [natB_of h0 h1]
theorem WrI.range {bits : List Bool} {bs : Array UInt8} {r z : Int} (h : WrI bits bs r z) : 0 ≤ z ∧ 0 ≤ r ∧ r < 2 ^ z.toNat ∧ bs.size * 8 + z = bits.length := by
  obtain ⟨full, tl, rfl, hf, hb, hz, hr⟩ := h
  refine ⟨by omega, by omega, ?_, ?_⟩
  · have := natB_lt tl
    rw [hr, hz, Int.toNat_natCast]
    have e2 : ((2 ^ tl.length : Nat) : Int) = 2 ^ tl.length := by push_cast; rfl
    rw [← e2]; omega
  · rw [hb, packB_size, List.length_append, hz]; omega
theorem WrI.turn {bits : List Bool} {bs : Array UInt8} {r z : Int} (h : WrI bits bs r z) (h8 : 8 ≤ z) :
    0 ≤ r.fdiv (2 ^ (z - 8).toNat) ∧ r.fdiv (2 ^ (z - 8).toNat) < 256 ∧ WrI bits (bs.push (r.fdiv (2 ^ (z - 8).toNat)).toNat.toUInt8) (Builtin.bitAnd r (1 * 2 ^ (z - 8).toNat - 1)) (z - 8) := by
  obtain ⟨full, tl, rfl, hf, hb, hz, hr⟩ := h
  have hl : 8 ≤ tl.length := by omega
  have e0 : tl = tl.take 8 ++ tl.drop 8 := (List.take_append_drop 8 tl).symm
  have hl8 : (tl.take 8).length = 8 := by rw [List.length_take]; omega
  have hld : (tl.drop 8).length = (z - 8).toNat := by rw [List.length_drop]; omega
  have hn : natB tl = natB (tl.take 8) * 2 ^ (z - 8).toNat + natB (tl.drop 8) := by
    conv => lhs; rw [e0]
    rw [natB_append, hld]
  have hlt := natB_lt (tl.drop 8)
  rw [hld] at hlt
  have h256 := natB_lt (tl.take 8)
  rw [hl8] at h256
  have hp : 0 < 2 ^ (z - 8).toNat := Nat.two_pow_pos _
  have hdiv : natB tl / 2 ^ (z - 8).toNat = natB (tl.take 8) := by
    rw [hn, Nat.mul_comm, Nat.mul_add_div hp, Nat.div_eq_of_lt hlt, Nat.add_zero]
  have hmod : natB tl % 2 ^ (z - 8).toNat = natB (tl.drop 8) := by
    rw [hn, Nat.mul_comm, Nat.mul_add_mod, Nat.mod_eq_of_lt hlt]
  have e2 : ((2 ^ (z - 8).toNat : Nat) : Int) = 2 ^ (z - 8).toNat := by push_cast; rfl
  have hfd : r.fdiv (2 ^ (z - 8).toNat) = (natB (tl.take 8) : Nat) := by
    rw [Int.fdiv_eq_ediv_of_nonneg _ (by rw [← e2]; omega), hr, ← e2, ← Int.natCast_ediv, hdiv]
  have hfm : Builtin.bitAnd r (1 * 2 ^ (z - 8).toNat - 1) = (natB (tl.drop 8) : Nat) := by
    rw [andMask (by omega), hr, ← e2, ← Int.natCast_emod, hmod]
  rw [hfd, hfm]
  refine ⟨by omega, by omega, full ++ tl.take 8, tl.drop 8, ?_, ?_, ?_, ?_, rfl⟩
  · rw [List.append_assoc, List.take_append_drop]
  · rw [List.length_append, hl8]; omega
  · rw [packB_push hf hl8, hb, Int.toNat_natCast]
  · rw [hld]; omega
theorem WrI.octets {bits : List Bool} {bs : Array UInt8} {r z : Int} (h : WrI bits bs r z) (h8 : z < 8) : bs = packB bits := by
  obtain ⟨full, tl, rfl, hf, hb, hz, hr⟩ := h
  rw [packB_tail hf (by omega)]; exact hb
end Mine
end
section
open PySem PySem.W PySem.Calls PyProof.Rows PySem.Spec
namespace Mine
theorem reset_NT_put : True := by
  w_top off
  exact True.intro
local macro_rules | `(tactic| k_all) => `(tactic| with_reducible assumption)
local macro_rules | `(tactic| walk_at "exec For Tuple Name cons nil") => `(tactic| (k_here; (rename Fr _ _ _ _ => lF'); (with_unfolding_all refine' For_invTF lF' ?_ ?k2; (case k2 => (intro _; rfl)); k_whole)))
local macro_rules | `(tactic| walk_at "exec For Name Call cons nil") => `(tactic| (k_here; (rename Fr _ _ _ _ => lF'); (with_unfolding_all refine' For_M lF' ?k1 ?k2 ?_; (case k1 => exact rfl); (case k2 => exact rfl); k_whole)))
local macro_rules | `(tactic| walk_at "call type:range") => `(tactic| (k_here; (with_reducible show wpAny _ _ (call _ [_]) _ _ _); k_dflt (refine' range1_rows ?F ?N ?_; (case F => k_asm); (case N => k_asm); k_whole); intro h' tk t₁ u₁ v₁ rgX F' N' st'))
local macro_rules | `(tactic| walk_at "call type:range") => `(tactic| (k_here; (with_reducible show wpAny _ _ (call _ [_, _, _]) _ _ _); k_dflt (refine' range3_rows ?F ?N ?c ?_; (case F => k_asm); (case N => k_asm); (case c => decide); k_whole); intro h' tk t₁ u₁ v₁ rgX F' N' st'))
local macro_rules | `(tactic| k_mem) => `(tactic| assumption)
/-- the writer's three objects -/
abbrev wrL (b x dx : Addr) (M : WM) (bs : Array UInt8) (r z : Int) (tr tz : Tok) (rest : Led) : Led := (b, baO bs) :: (x, instObj 96 dx) :: (dx, wrD M b r z tr tz) :: rest
theorem ltOr {a b : Nat} (h : a < b ∨ b < a) : a < b ∨ b < a := h
structure WrF (b x dx : Addr) (rest : Led) : Prop where
  h1 : dx < x ∨ x < dx
  h2 : b < x ∨ x < b
  h3 : b < dx ∨ dx < b
  r1 : ∀ q ∈ rest, q.1 ≠ dx
  r2 : ∀ q ∈ rest, q.1 ≠ x
  r3 : ∀ q ∈ rest, q.1 ≠ b
local macro_rules | `(tactic| walk_at "binaryOp LShift int int") => `(tactic| (k_here; (with_reducible refine lshift_int_small ?kb1 ?kb2 ?kb3 ?_); (case kb1 => omega); (case kb2 => omega); (case kb3 => omega)))
theorem WrI.small {bits : List Bool} {bs : Array UInt8} {r z : Int} (h : WrI bits bs r z) (h8 : z < 8) : 0 ≤ r ∧ r < 256 ∧ 0 ≤ z := by
  have h1 := h.range
  have h2 : (2 : Int) ^ z.toNat ≤ 2 ^ 8 := by
    have := Nat.pow_le_pow_right (n := 2) (by decide) (show z.toNat ≤ 8 by omega)
    have e2 : ((2 ^ z.toNat : Nat) : Int) = 2 ^ z.toNat := by push_cast; rfl
    rw [← e2]; exact_mod_cast this
  have e3 : (2 : Int) ^ 8 = 256 := by decide
  omega
set_option maxRecDepth 100000 in
set_option maxHeartbeats 8000000 in
theorem put_spec {hn : Option Value} {w : World} {p : Program} {loose : List Str} {mean : ExcName → Option Value} {mg mb : Str → Option Value}
    {b x dx : Addr} {M : WM} {bs : Array UInt8} {r z v sz : Int} {tr tz tv ts : Tok} {rest : Led} {bits : List Bool} (W : WrF b x dx rest) (hw : WrI bits bs r z) (hz8 : z < 8) (hbl : bits.length ≤ 100000) (s0 : 0 ≤ sz) (s1 : sz ≤ 60) (v0 : 0 ≤ v) (v1 : v < 1 * 2 ^ sz.toNat) :
    CalledS hn w p loose mean mg mb 79 [.ref x, .int v tv, .int sz ts] (wrL b x dx M bs r z tr tz rest) 1 16
      (fun P => ∀ (bs' : Array UInt8) (r' z' : Int) (tr' tz' : Tok), WrI (bits ++ bitsZ v sz.toNat) bs' r' z' → z' < 8 → P .none (wrL b x dx M bs' r' z' tr' tz' rest)) := by
  obtain ⟨g1, g2, g3, g4, g5, g6⟩ := W
  replace g1 := ltOr g1
  replace g2 := ltOr g2
  replace g3 := ltOr g3
  obtain ⟨q1, q2, q3⟩ := hw.small hz8
  intro dp un gd cn cs a ccd cl outer A₀ base h₀ L m s Q B F X N T hk hd hu hret
  dsimp only [wrL, wrD] at N
  k_dflt (refine' defS ?k1 ?k2 ?k3 ?k4 ?k5 ?kA ?kF ?kK ?k6 ?k7 ?k8 ?k9 ?kB ?_ ?c2 ?c3 ?c4 ?c5; (case kA => exact rfl); (case kF => exact rfl); (case kK => assumption); (case k1 => k_asm); (case k2 => k_asm); (case k3 => k_asm); (case k4 => k_asm); (case k5 => k_asm); (case k6 => k_is); (case k7 => k_is); (case k8 => ktr_room); (case k9 => exact BindsTo.of_eq rfl); (case c5 => decide); (case kB => exact locs rfl); (case c2 => exact rfl); (case c3 => exact rfl); (case c4 => exact rfl); k_whole)
  intro g' L' h' FG' F' N' B' X' T'
  (try dsimp only)
  refine execsS_leaf ?_
  w_strict (k_steps)
  (try dsimp only)
  refine execsS_leaf ?_
  w_strict (k_steps)
  (try dsimp only)
  refine execsS_leaf ?_
  w_strict (k_steps)
  (try dsimp only)
  refine execsS_cons ?_
  refine WhileS (fun k s' => ∃ (h' : Heap) (tk : Nat) (bs : Array UInt8) (r z : Int) (tr tz : Tok) (u : Str → Option Value), s' = { s with heap := h', toks := tk } ∧ Fr g' L' h' (on (Str.ofString "self") (.ref x) u) ∧ News g' L' h' (wrL b x dx M bs r z tr tz rest) ∧
    WrI (bits ++ bitsZ v sz.toNat) bs r z ∧ z.toNat = k ∧ z ≤ 67) ?turn (z + sz).toNat ⟨_, _, bs, _, _, _, _, _, rfl, fr1 (by k_asm) (by exact rfl), by k_asm, hw.put s0 v0 v1, rfl, by omega⟩
  rintro k s' ⟨h1, tk1, bs1, r1, z1, tr1, tz1, u1, rfl, F1, N1, hW, rfl, hzb⟩
  have hWr := hW.range
  have hlen : (bits ++ bitsZ v sz.toNat).length ≤ 100060 := by rw [List.length_append, bitsZ_length]; omega
  dsimp only [wrL, wrD] at N1
  w_strict (k_steps)
  · refine execsS_leaf ?_
    w_strict (k_steps)
    dsimp only
    refine execsS_cons (ExprS (MethodS ?_))
    w_strict (k_steps)
    refine barrMethod (by k_asm) (by k_mem) ba_slot_append ba_type_append ?_
    dsimp only
    refine callWithS_builtin ?_
    w_strict (k_steps)
    obtain ⟨a1, a2, hW'⟩ := hW.turn (by omega)
    refine appendS (by k_asm) (by k_asm) (by k_upd) a1 a2 (by rw [sizeLine_eq]; omega) ?_
    intro h3 F3 N3
    dsimp only
    refine execsS_leaf ?_
    w_strict (k_steps)
    dsimp only
    refine execsS_nil ?_
    exact ⟨(z1 - 8).toNat, by omega, _, _, _, _, _, _, _, _, rfl, fr1 (by k_asm) (by exact rfl), by k_asm, hW', rfl, by omega⟩
  · dsimp only
    refine execsS_nil ?_
    w_strict (k_steps)
    exact hret _ _ _ _ _ hW (by omega) _ _ (by k_asm) (by k_asm)
end Mine
end
section
open PySem PySem.W PySem.Calls PyProof.Rows PySem.Spec
namespace Mine
theorem reset_NT_exc : True := by
  w_top off
  exact True.intro
local macro_rules | `(tactic| k_all) => `(tactic| with_reducible assumption)
local macro_rules | `(tactic| walk_at "exec For Tuple Name cons nil") => `(tactic| (k_here; (rename Fr _ _ _ _ => lF'); (with_unfolding_all refine' For_invTF lF' ?_ ?k2; (case k2 => (intro _; rfl)); k_whole)))
local macro_rules | `(tactic| walk_at "exec For Name Call cons nil") => `(tactic| (k_here; (rename Fr _ _ _ _ => lF'); (with_unfolding_all refine' For_M lF' ?k1 ?k2 ?_; (case k1 => exact rfl); (case k2 => exact rfl); k_whole)))
local macro_rules | `(tactic| walk_at "call type:range") => `(tactic| (k_here; (with_reducible show wpAny _ _ (call _ [_]) _ _ _); k_dflt (refine' range1_rows ?F ?N ?_; (case F => k_asm); (case N => k_asm); k_whole); intro h' tk t₁ u₁ v₁ rgX F' N' st'))
local macro_rules | `(tactic| walk_at "call type:range") => `(tactic| (k_here; (with_reducible show wpAny _ _ (call _ [_, _, _]) _ _ _); k_dflt (refine' range3_rows ?F ?N ?c ?_; (case F => k_asm); (case N => k_asm); (case c => decide); k_whole); intro h' tk t₁ u₁ v₁ rgX F' N' st'))
abbrev excO (C t : Addr) : Obj := { cls := .ref C, data := .fields #[.ref t, .none, .none, .none, .bool false, .none] }
abbrev excD (C t d : Addr) : Obj := { cls := .ref C, dict := some d, data := .fields #[.ref t, .none, .none, .none, .bool false, .none] }
abbrev excBm : List Value := [.ref 31, .type "Exception", .type "BaseException", .type "object"]
structure ExcK (K : Frag) (C : Addr) : Prop where
  obj : ∃ nm q N bs sn sub ab col dd k0 k1 k2 k3 k5, K.lookup C = some (excClassObj nm q C N bs excBm true sn sub ab col dd k0 k1 k2 k3 k5 "Exception.__new__")
  init : findIn K (.ref C) "__init__" = some (some (.ref 28))
  fn : typeIn K (.ref 28) = some (.type "function")
  sa : findIn K (.ref C) "__setattr__" = some (some (.builtin "object.__setattr__"))
  taker : takerIn K C "message" = some none
  keep : keepIn K (.ref C) = true
theorem exc56 (w : World) : ExcK (Mine.hd.heap_39 w.params) 56 where
  obj := ⟨_, _, _, _, _, _, _, _, _, _, _, _, _, _, rfl⟩
  init := by with_unfolding_all rfl
  fn := by with_unfolding_all rfl
  sa := by with_unfolding_all rfl
  taker := by with_unfolding_all rfl
  keep := by with_unfolding_all rfl
theorem exc44 (w : World) : ExcK (Mine.hd.heap_39 w.params) 44 where
  obj := ⟨_, _, _, _, _, _, _, _, _, _, _, _, _, _, rfl⟩
  init := by with_unfolding_all rfl
  fn := by with_unfolding_all rfl
  sa := by with_unfolding_all rfl
  taker := by with_unfolding_all rfl
  keep := by with_unfolding_all rfl
theorem getm_e (w : World) : findCls (Mine.hd.heap_39 w.params) (.type "Exception") (.type "type") (Str.ofString "__init__") = some (.val (.builtin "Exception.__init__")) := by with_unfolding_all rfl
theorem bm_has {C : Addr} {T : String} (h : excBm.contains (.type T) = true) : (Value.ref C :: excBm).contains (.type T) = true := by rw [List.contains_cons, h, Bool.or_true]
theorem bm_not {C : Addr} {T : String} (h : excBm.contains (.type T) = false) : (Value.ref C :: excBm).contains (.type T) = false := by rw [List.contains_cons, h]; rfl
section
variable {prog : Program} {w : World} {A : Around} {E : Value → Shared → Prop} {R : Result → Shared → Prop} {h : Heap} {g : Array GenState} {d : Drawn} {t : Nat} {os : OsState} {M : Model}
variable {nm q : Str} {C N : Addr} {bs : List Value} {hdct : Bool} {sn : List Str} {sub : List Value} {ab : Bool} {col : Option Bool} {dd : Option Addr} {k0 k1 k2 k3 k5 : Option Value}
theorem exc_check_new {rest : List Value} {Q : Unit → Shared → Prop} (hC : h.get? C = some (excClassObj nm q C N bs excBm hdct sn sub ab col dd k0 k1 k2 k3 k5 "Exception.__new__"))
    (hq : Q () ⟨h, g, d, t, os⟩) : wpAny M A (checkBuiltinCall "Exception.__new__" ⟨.ref C :: rest, []⟩) Q E ⟨h, g, d, t, os⟩ := by
  have F := PySem.F.excBase_Exception
  have hcont : (Value.ref C :: excBm).contains (.type "Exception") = true := bm_has (by decide +kernel)
  simp only [checkBuiltinCall, F.newKind, F.newSplit, F.newRow]
  repeat (first | refine wpAny_loadPart_at hC ?_ | (refine wpAny_isSubtype_exc hC ?_; rw [hcont]) | refine wpAny_staticBase_exc hC ?_ | refine wpAny_madeBy_exc hC ?_ | simp only [bne_self_eq_false, Bool.false_eq_true, if_false] | wp_step)
  exact hq
theorem exc_new {rest : List Value} (hC : h.get? C = some (excClassObj nm q C N bs excBm hdct sn sub ab col dd k0 k1 k2 k3 k5 "Exception.__new__"))
    (hq : R (.ok (.ret (.ref (h.objs.size + 1)))) ⟨(h.push (tupO rest)).push (excO C h.objs.size), g, d, t, os⟩) (hrest : rest.length ≤ sizeLine) :
    codeAny (model prog w) A (.builtin "Exception.__new__" ⟨.ref C :: rest, []⟩) R ⟨h, g, d, t, os⟩ := by
  have F := PySem.F.excBase_Exception
  have hends := F.ends
  have hcB : (Value.ref C :: excBm).contains (.type "Exception") = true := bm_has (by decide +kernel)
  have hcA : (Value.ref C :: excBm).contains (.type "AttributeError") = false := bm_not (by decide +kernel)
  have hcN : (Value.ref C :: excBm).contains (.type "NameError") = false := bm_not (by decide +kernel)
  refine codeAny_builtinAt F.entry ?_
  unfold Builtin.«BaseException.__new__»
  refine _root_.PySem.wpAt_bind ?_
  show _root_.PySem.wpAt _ _ _ (stack >>= _) _ _ _
  refine _root_.PySem.wpAt_bind (_root_.PySem.wpAt_stack fun p below => _root_.PySem.wpAt_of_wpAny ?_)
  wp_walk
  refine _root_.PySem.wpAt_of_wpAny ?_
  rw [F.owner]
  repeat (first | with_reducible refine wpAny_madeHere_exc F.canon hC ?_ | with_reducible refine wpAny_loadPart_at hC ?_ | (with_reducible refine wpAny_isSubtype_exc hC ?_; first | rw [hcB] | rw [hcA] | rw [hcN]) | wp_step)
  show R _ _
  rw [Heap.size_push]
  exact hq
theorem exc_call {K : Frag} {rest : List Value} {Q : Value → Shared → Prop} (X : K.In h) (Y : ExcK K C) (hrest : rest.length ≤ sizeLine)
    (hq : codeAny (model prog w) (A.under (.builtin "type.__call__" ⟨.ref C :: rest, []⟩)) (.call (.ref 28) ⟨.ref (h.objs.size + 1) :: rest, []⟩)
      (fun r s' => match r with | .ok (.ret v) => v = .none ∧ Q (.ref (h.objs.size + 1)) s' | .ok _ => False | .error e => E e s') ⟨(h.push (tupO rest)).push (excO C h.objs.size), g, d, t, os⟩) :
    wpAny (model prog w) A (call (.ref C) rest) Q E ⟨h, g, d, t, os⟩ := by
  obtain ⟨nm, q, N, bs, sn, sub, ab, col, dd, k0, k1, k2, k3, k5, hK⟩ := Y.obj
  have hC := X _ _ hK
  have f1 := tc_lookup
  have f2 := tc_bind (.ref C)
  have hT : (⟨h, g, d, t, os⟩ : Shared).TypeIs (.ref C) "type" := ⟨_, hC, rfl⟩
  have F := PySem.F.excBase_Exception
  refine wpAny_call (codeAny_of_tree ?_)
  show wpAny _ _ (callAny (.ref C) _) _ _ _
  repeat (any_goals (first | assumption | with_reducible refine wpAny_loadPart_at hC ?_ | wp_step))
  refine ⟨rfl, ?_⟩
  refine codeAny_call_builtin_at (Code.quiet_builtin _ (by decide +kernel)) entry_typeCall (wpAny_check_type_call_sub hC ?_)
  repeat (first | with_reducible refine wpAny_loadPart_at hC ?_ | with_reducible refine wpAny_madeBy_exc hC ?_ | wp_step)
  refine codeAny_call_builtin_code (Code.quiet_builtin _ F.quiet) (exc_check_new hC ?_)
  refine exc_new hC ?_ hrest
  show wpAny _ _ _ _ _ _
  have kk : ∀ b o, h.get? b = some o → ((h.push (tupO rest)).push (excO C h.objs.size)).get? b = some o := fun b o e => Heap.get?_push_of_some _ (Heap.get?_push_of_some _ e)
  have hC₁ := kk _ _ hC
  have hget : ((h.push (tupO rest)).push (excO C h.objs.size)).get? (h.objs.size + 1) = some (excO C h.objs.size) := by heap_get
  have hcC : (Value.ref C :: excBm).contains (.ref C) = true := by simp
  have t1 : Looks (model prog w) ((h.push (tupO rest)).push (excO C h.objs.size)) (typeOf (.ref (h.objs.size + 1))) (.ref C) := (Looks.ld hget).andThen .now
  have i1 := (looks_findIn (M := model prog w) X Y.init).keeps kk
  have b1 := (bind_fn (M := model prog w) X (.ref (h.objs.size + 1)) Y.fn).keeps kk
  unfold isInstance
  repeat (first | with_reducible refine wpAny_loadPart_at hget ?_ | (refine wpAny_isSubtype_exc (C := C) hC₁ ?_; rw [hcC]) | wp_step)
  show wpAny _ _ (typeLookup (.ref C) _) _ _ _
  refine i1.here ?_
  refine wpAny_holding (wpAny_bind (b1.here ?_))
  dsimp only
  refine wpAny_bind (wpAny_call (codeAny_mono hq fun r s' z => ?_))
  cases r with
  | error e => exact z
  | ok f =>
    cases f with
    | ret v =>
      obtain ⟨rfl, z⟩ := z
      exact wpAny_pure (wpAny_pure z)
    | _ => exact z.elim
end
end Mine
end
section
open PySem PySem.W PySem.Calls PyProof.Rows PySem.Spec
namespace Mine
theorem reset_NT_exc2 : True := by
  w_top off
  exact True.intro
local macro_rules | `(tactic| k_all) => `(tactic| with_reducible assumption)
local macro_rules | `(tactic| walk_at "exec For Tuple Name cons nil") => `(tactic| (k_here; (rename Fr _ _ _ _ => lF'); (with_unfolding_all refine' For_invTF lF' ?_ ?k2; (case k2 => (intro _; rfl)); k_whole)))
local macro_rules | `(tactic| walk_at "exec For Name Call cons nil") => `(tactic| (k_here; (rename Fr _ _ _ _ => lF'); (with_unfolding_all refine' For_M lF' ?k1 ?k2 ?_; (case k1 => exact rfl); (case k2 => exact rfl); k_whole)))
local macro_rules | `(tactic| walk_at "call type:range") => `(tactic| (k_here; (with_reducible show wpAny _ _ (call _ [_]) _ _ _); k_dflt (refine' range1_rows ?F ?N ?_; (case F => k_asm); (case N => k_asm); k_whole); intro h' tk t₁ u₁ v₁ rgX F' N' st'))
local macro_rules | `(tactic| walk_at "call type:range") => `(tactic| (k_here; (with_reducible show wpAny _ _ (call _ [_, _, _]) _ _ _); k_dflt (refine' range3_rows ?F ?N ?c ?_; (case F => k_asm); (case N => k_asm); (case c => decide); k_whole); intro h' tk t₁ u₁ v₁ rgX F' N' st'))
set_option maxHeartbeats 4000000 in
theorem msg_none (w : World) : findIn (Mine.hd.heap_39 w.params) (.ref 56) "message" = some none ∧ findIn (Mine.hd.heap_39 w.params) (.ref 44) "message" = some none := ⟨by k_is, by k_is⟩
set_option maxHeartbeats 4000000 in
theorem mro_obj (w : World) : mroIn (Mine.hd.heap_39 w.params) 56 (.type "object") = some true ∧ mroIn (Mine.hd.heap_39 w.params) 44 (.type "object") = some true := ⟨by k_is, by k_is⟩
set_option maxHeartbeats 4000000 in
theorem mro_exc (w : World) : mroIn (Mine.hd.heap_39 w.params) 56 (.type "Exception") = some true ∧ mroIn (Mine.hd.heap_39 w.params) 44 (.type "Exception") = some true := ⟨by k_is, by k_is⟩
section
variable {prog : Program} {w : World} {A : Around} {E : Value → Shared → Prop} {s : Shared} {h₀ : Heap} {L : Addr} {m : Str → Option Value} {news : Led}
set_option maxHeartbeats 8000000 in
theorem exc_set {K : Frag} {C e t : Addr} {v : Value} {Q : Unit → Shared → Prop} (F : Fr h₀ L s.heap m) (N : News h₀ L s.heap ((e, excO C t) :: news)) (hne : ∀ q ∈ news, q.1 ≠ e) (X : K.In s.heap) (Y : ExcK K C)
    (hmsg : findIn K (.ref C) "message" = some none) (hobj : mroIn K C (.type "object") = some true)
    (hQ : ∀ d h' tk', Fr h₀ L h' m → News h₀ L h' ((e, excD C t d) :: news) → Q () { s with heap := h', toks := tk' }) : wpAny (model prog w) A (setAttr (.ref e) (Str.ofString "message") v) Q E s := by
  obtain ⟨nm, q, NN, bs, sn, sub, ab, col, dd, k0, k1, k2, k3, k5, hK⟩ := Y.obj
  have hC := X _ _ hK
  have hx : s.heap.get? e = some (excO C t) := (N _ (.head _)).1
  have I : InstAt s.heap e (excO C t) C none := ⟨hx, rfl, rfl, trivial⟩
  have hlt : e < s.heap.objs.size := Heap.lt_size hx
  have hL := F.ns.lt
  have heL : L ≠ e := fun z => (N _ (.head _)).2.1 z.symm
  have done : ∀ d h' tk', d = s.heap.objs.size → h'.get? e = some (excD C t d) → (∀ b o, b ≠ e → b ≠ d → s.heap.get? b = some o → h'.get? b = some o) → Q () { s with heap := h', toks := tk' } := fun d h' tk' hd he hk => by
    have hLd : L ≠ d := by rw [hd]; exact Nat.ne_of_lt hL
    obtain ⟨oL, es, ep, eL, rL⟩ := F.ns
    refine hQ d h' tk' ⟨⟨oL, es, ep, hk L oL heL hLd eL, rL⟩, fun b o z => hk b o ?_ ?_ (F.keep b o z), F.above⟩ fun p hp => ?_
    · rintro rfl; have := (N _ (.head _)).2.2; rw [z] at this; cases this
    · rw [hd]; exact Nat.ne_of_lt (Heap.lt_size (F.keep b o z))
    · rcases List.mem_cons.mp hp with rfl | hp
      · exact ⟨he, (N _ (.head _)).2⟩
      · have := N p (.tail _ hp)
        exact ⟨hk _ _ (hne p hp) (by rw [hd]; exact Nat.ne_of_lt (Heap.lt_size this.1)) this.1, this.2⟩
  refine set_plain X I Y.sa ?_
  obtain ⟨hp, g, dr, tk, os⟩ := s
  dsimp only at hx hC X I hlt hL done ⊢
  have SF := PySem.F.store_object
  have ty := I.type (M := model prog w)
  have sub' : Looks (model prog w) hp (isInstance (.ref e) (.type "object")) true := ty.andThen (looks_mroIn X hobj)
  refine codeAny_call_builtin SF.slot.plain SF.entry (@check_slot (model prog w) _ _ ⟨hp, g, dr, tk + 1, os⟩ "object.__setattr__" "object" "__setattr__" (.ref e) [.str (Str.ofString "message") tk, v] [] _ SF.kind SF.split sub' (SF.args (.ref e) (.str (Str.ofString "message") tk) v) ?_)
  have hm : Looks (model prog w) hp (mroOf (.ref C)) (.ref C :: excBm) := ((Looks.ld (part := none) hC).andThen .now).andThen .now
  rw [osa_eq, refuse_eq]
  refine wpAny_bind (wpAny_bind (ty.here (wpAny_bind (hm.here ?_))))
  rw [show (Value.ref C :: excBm) = (Value.ref C :: Value.ref 31 :: [.type "Exception", .type "BaseException", .type "object"]) from rfl, refuseLoop_ref, refuseLoop_ref, PySem.F.store_Exception.passes]
  refine wpAny_pure (wpAny_bind (ty.here (wpAny_bind ((looks_findIn X hmsg).here (wpAny_bind (wpAny_pure ?_))))))
  dsimp only
  have hcd : Looks (model prog w) hp (classData C) _ := (Looks.ld (part := none) hC).andThen .now
  refine wpAny_bind (wpAny_pure (wpAny_bind (wpAny_bind (wpAny_loadPart hx (wpAny_bind (hcd.here ?_))))))
  have hx₁ : (hp.push emptyDict).get? e = some (excO C t) := Heap.get?_push_of_some _ hx
  have hxs : e ≠ hp.objs.size := Nat.ne_of_lt hlt
  show wpAny _ _ (alloc emptyDict >>= fun d => update e (fun o => { o with dict := some d }) >>= fun _ => dictMade (.ref C) e d) _ _ _
  refine wpAny_bind (wpAny_alloc' ?_)
  refine wpAny_bind (wpAny_update' hx₁ ?_)
  refine wpAny_pure ?_
  have hgd : ((hp.push emptyDict).update e fun o => { o with dict := some hp.objs.size }).get? hp.objs.size = some emptyDict :=
    (Heap.get?_update_ne _ _ _ _ hxs.symm).trans (Heap.get?_push_at rfl rfl)
  have hnd : ((hp.push emptyDict).update e fun o => { o with dict := some hp.objs.size }).Ns hp.objs.size (fun _ => none) :=
    ⟨_, #[], _, hgd, rfl, fun e he => absurd he (by simp), fun _ => rfl⟩
  show wpAny _ _ (Builtin.ObjectAttr.storeInDict hp.objs.size _ _ v) _ _ _
  unfold Builtin.ObjectAttr.storeInDict Builtin.ObjectAttr.newKeyGuard
  refine wpAny_bind (wpAny_pure (wpAny_bind (wpAny_nsSet1 (Heap.Ns1.of_empty hnd) fun h' hn' hs => ?_)))
  obtain ⟨oD, esD, epD, hoD, hdD, hcD⟩ := hn'.count (Within.cons _ v Within.nil)
  refine wpAny_bind (wpAny_lookBehind hoD (by rw [hdD]; exact pastItsLine_dict (Nat.le_trans hcD (by rw [List.length_cons, List.length_nil, sizeLine_eq]; omega))) ?_)
  wp_walk
  refine done _ h' _ rfl ?_ fun b o hb hbd z => ?_
  · exact (hs.2 e hxs).trans (Heap.get?_update_self _ hx₁ rfl)
  · exact (hs.2 b hbd).trans ((Heap.get?_update_ne _ _ _ _ hb).trans (Heap.get?_push_of_some _ z))
end
end Mine
end
section
open PySem PySem.W PySem.Calls PyProof.Rows PySem.Spec
namespace Mine
theorem reset_NT_exc3 : True := by
  w_top off
  exact True.intro
local macro_rules | `(tactic| k_all) => `(tactic| with_reducible assumption)
local macro_rules | `(tactic| walk_at "exec For Tuple Name cons nil") => `(tactic| (k_here; (rename Fr _ _ _ _ => lF'); (with_unfolding_all refine' For_invTF lF' ?_ ?k2; (case k2 => (intro _; rfl)); k_whole)))
local macro_rules | `(tactic| walk_at "exec For Name Call cons nil") => `(tactic| (k_here; (rename Fr _ _ _ _ => lF'); (with_unfolding_all refine' For_M lF' ?k1 ?k2 ?_; (case k1 => exact rfl); (case k2 => exact rfl); k_whole)))
local macro_rules | `(tactic| walk_at "call type:range") => `(tactic| (k_here; (with_reducible show wpAny _ _ (call _ [_]) _ _ _); k_dflt (refine' range1_rows ?F ?N ?_; (case F => k_asm); (case N => k_asm); k_whole); intro h' tk t₁ u₁ v₁ rgX F' N' st'))
local macro_rules | `(tactic| walk_at "call type:range") => `(tactic| (k_here; (with_reducible show wpAny _ _ (call _ [_, _, _]) _ _ _); k_dflt (refine' range3_rows ?F ?N ?c ?_; (case F => k_asm); (case N => k_asm); (case c => decide); k_whole); intro h' tk t₁ u₁ v₁ rgX F' N' st'))
local macro_rules | `(tactic| k_mem) => `(tactic| assumption)
section
variable {prog : Program} {w : World} {A : Around} {E : Value → Shared → Prop} {s : Shared} {h₀ : Heap} {L : Addr} {m : Str → Option Value} {news : Led}
set_option maxHeartbeats 8000000 in
theorem exc_base_init {K : Frag} {C e t : Addr} {v : Value} {Q : Value → Shared → Prop} (F : Fr h₀ L s.heap m) (N : News h₀ L s.heap ((e, excO C t) :: news)) (hne : ∀ q ∈ news, q.1 ≠ e) (X : K.In s.heap) (Y : ExcK K C)
    (hexc : mroIn K C (.type "Exception") = some true)
    (hQ : ∀ t' h', Fr h₀ L h' m → News h₀ L h' ((e, excO C t') :: (t', tupO [v]) :: news) → (∀ q ∈ news, q.1 ≠ t') → e ≠ t' → Q .none { s with heap := h' }) : wpAny (model prog w) A (call (.builtin "Exception.__init__") [.ref e, v]) Q E s := by
  have SF := PySem.F.excBase_Exception
  have hx : s.heap.get? e = some (excO C t) := (N _ (.head _)).1
  have I : InstAt s.heap e (excO C t) C none := ⟨hx, rfl, rfl, trivial⟩
  have ty := I.type (M := model prog w)
  have sub' : Looks (model prog w) s.heap (isInstance (.ref e) (.type "Exception")) true := ty.andThen (looks_mroIn X hexc)
  have hlt : e < s.heap.objs.size := Heap.lt_size hx
  have hL := F.ns.lt
  have heL : L ≠ e := fun z => (N _ (.head _)).2.1 z.symm
  have done : ∀ t' h', t' = s.heap.objs.size → h'.get? e = some (excO C t') → h'.get? t' = some (tupO [v]) → (∀ b o, b ≠ e → b ≠ t' → s.heap.get? b = some o → h'.get? b = some o) → Q .none { s with heap := h' } := fun d h' hd he ht hk => by
    have hLd : L ≠ d := by rw [hd]; exact Nat.ne_of_lt hL
    obtain ⟨oL, es, ep, eL, rL⟩ := F.ns
    have old : ∀ b o, s.heap.get? b = some o → b ≠ d := fun b o z => by rw [hd]; exact Nat.ne_of_lt (Heap.lt_size z)
    refine hQ d h' ⟨⟨oL, es, ep, hk L oL heL hLd eL, rL⟩, fun b o z => hk b o ?_ (old _ _ (F.keep b o z)) (F.keep b o z), F.above⟩ (fun p hp => ?_) (fun q hq => old _ _ (N q (.tail _ hq)).1) (old _ _ hx)
    · rintro rfl; have := (N _ (.head _)).2.2; rw [z] at this; cases this
    · rcases List.mem_cons.mp hp with rfl | hp
      · exact ⟨he, (N _ (.head _)).2⟩
      · rcases List.mem_cons.mp hp with rfl | hp
        · exact ⟨ht, hLd.symm, by rw [hd]; exact next_is_new F⟩
        · have := N p (.tail _ hp)
          exact ⟨hk _ _ (hne p hp) (old _ _ this.1) this.1, this.2⟩
  obtain ⟨hp, g, dr, tk, os⟩ := s
  dsimp only at hx X I hlt hL done sub' ⊢
  have hshort := SF.noStar
  obtain ⟨nm, q, NN, bs, sn, sub, ab, col, dd, k0, k1, k2, k3, k5, hK⟩ := Y.obj
  have hC := X _ _ hK
  have hchk : ∀ {A' : Around} {Q' : Unit → Shared → Prop}, Q' () ⟨hp, g, dr, tk, os⟩ → wpAny (model prog w) A' (checkBuiltinCall "Exception.__init__" ⟨[.ref e, v], []⟩) Q' E ⟨hp, g, dr, tk, os⟩ := fun hq => by
    simp only [checkBuiltinCall, SF.initKind, SF.initSplit, SF.initRow]
    refine wpAny_bind (sub'.here ?_)
    repeat (first | with_reducible refine wpAny_loadPart_at hx ?_ | with_reducible refine wpAny_loadPart_at hC ?_ | wp_step)
    exact hq
  refine wpAny_call (codeAny_call_builtin SF.init.plain SF.initEntry (hchk ?_))
  wp_walk
  have hx₁ : (hp.push (tupO [v])).get? e = some (excO C t) := Heap.get?_push_of_some _ hx
  refine done _ _ rfl ?_ ?_ fun b o hb _ z => ?_
  · exact Heap.get?_update_self _ hx₁ rfl
  · exact (Heap.get?_update_other _ _ (Nat.ne_of_lt hlt)).trans (Heap.get?_push_at rfl rfl)
  · exact (Heap.get?_update_other _ _ (Ne.symm hb)).trans (Heap.get?_push_of_some _ z)
end
theorem callWith_b {M : Model} {A : Around} {E : Value → Shared → Prop} {s : Shared} {env : Env} {pos : Pos} {id : String} {first : List Value} {Q : Value → Shared → Prop} {e : Expr} {rest : List Expr} (h : wpAny M A (spliced (backTo pos (starEach (e :: rest) env))) (fun vs s₁ => wpAny M A (call (.builtin id) (first ++ vs)) Q E s₁) E s)
    (he : starEach (e :: rest) env = (false, eval e env) :: starEach rest env := by rfl) (hplain : (backTo pos (starEach rest env)).any (·.1) = false := by rfl) :
    wpAny M A (callWith pos (.builtin id) first (backTo pos (starEach (e :: rest) env)) []) Q E s := by
  rw [he] at h ⊢
  exact callWith_builtin (by show (false || (backTo pos (starEach rest env)).any (·.1)) = false; rw [hplain]; rfl) (evalArgs_plain h)
set_option maxRecDepth 100000 in
set_option maxHeartbeats 8000000 in
theorem init28_spec {hn : Option Value} {w : World} {p : Program} {loose : List Str} {mean : ExcName → Option Value} {mg mb : Str → Option Value}
    {C e t : Addr} {v : Str} {tv : Tok} {news : Led} (Y : ExcK (Mine.hd.heap_39 w.params) C) (hmsg : findIn (Mine.hd.heap_39 w.params) (.ref C) "message" = some none) (hobj : mroIn (Mine.hd.heap_39 w.params) C (.type "object") = some true) (hexc : mroIn (Mine.hd.heap_39 w.params) C (.type "Exception") = some true)
    (hne : ∀ q ∈ news, q.1 ≠ e)
    (dp un : Nat) (gd : Option (List Code)) (cn : Str) (cs : Scope) (a : Addr) (ccd : Value) (cl : List (Str × Addr)) (outer : List Env) (A₀ : Around) (base h₀ : Heap) (L : Addr) (m : Str → Option Value) (s : Shared) (Q E : Value → Shared → Prop)
    (B : Below A₀ base outer h₀) (F : Fr h₀ L s.heap m) (X : (Mine.hd.heap_39 w.params).In h₀) (N : News h₀ L s.heap ((e, excO C t) :: news)) (T : Top p loose mean mg mb h₀) (hk : cs.kind = .function)
    (hd : dp + 1 < recursionLimit) (hu : un + 8 < cLine)
    (hret : ∀ (t' d : Addr) (h' : Heap) (tk' : Nat), Fr h₀ L h' m → News h₀ L h' ((e, excD C t' d) :: (t', tupO [.str v tv]) :: news) → (∀ q ∈ news, q.1 ≠ t') → Q .none { s with heap := h', toks := tk' }) :
    codeAny (model PySem.Challenge.pw_nt0540_01 w) ({ handled := hn, depth := dp, frames := some (envX cn cs L a ccd cl :: outer), guards := gd, units := un } : Around) (.call (.ref 28) ⟨[.ref e, .str v tv], []⟩)
        (fun r s' => match r with | .ok (.ret v) => Q v s' | .ok _ => False | .error e => E e s') s := by
  k_dflt cell_enter
  w_strict (k_steps)
  rename_i g' L' h' FG' F' N' B' X' T'
  refine method_type (T := "Exception") F' X' rfl (by decide) (getm_e w) rfl ?_
  dsimp only
  refine callWith_b ?_
  w_strict (k_steps)
  refine exc_base_init F' N' hne (X'.keeps F'.keep) Y hexc ?_
  clear F' N'
  intro t' h' F' N' hnt het
  w_strict (k_steps)
  refine exc_set F' N' (fun q hq => ?ne) (X'.keeps F'.keep) Y hmsg hobj ?_
  case ne =>
    rcases List.mem_cons.mp hq with rfl | hq
    · exact het.symm
    · exact hne q hq
  clear F' N'
  intro d h' tk' F' N'
  w_strict (k_steps)
  exact hret _ _ _ _ (by k_asm) (by k_asm) hnt
end Mine
end
section
open PySem PySem.W PySem.Calls PyProof.Rows PySem.Spec
set_option maxRecDepth 100000
namespace Mine
theorem ExcK.at {K : Frag} {C : Addr} {h : Heap} (Y : ExcK K C) (X : K.In h) : ∃ nm q N bs sn sub ab col dd k0 k1 k2 k3 k5, h.get? C = some (excClassObj nm q C N bs excBm true sn sub ab col dd k0 k1 k2 k3 k5 "Exception.__new__") := by
  obtain ⟨nm, q, NN, bs, sn, sub, ab, col, dd, k0, k1, k2, k3, k5, hK⟩ := Y.obj
  exact ⟨nm, q, NN, bs, sn, sub, ab, col, dd, k0, k1, k2, k3, k5, X _ _ hK⟩
theorem excBm_base : excBm.contains (.type "BaseException") = true := by decide +kernel
section
variable {M : Model} {A : Around} {E : Value → Shared → Prop} {env : Env} {s : Shared} {C : Addr} {K : Frag}
theorem raise_made {x : Sem Value} {Q : Flow → Shared → Prop} (Y : ExcK K C) (hh : A.handled = none)
    (h : wpAny M A x (fun v s₁ => ∃ e t d, v = .ref e ∧ K.In s₁.heap ∧ s₁.heap.get? e = some (excD C t d) ∧ E (.ref e) s₁) E s) :
    wpAny M A (raiseStmt env (some x) none) Q E s := by
  have hcB : (Value.ref C :: excBm).contains (.type "BaseException") = true := bm_has excBm_base
  unfold raiseStmt
  refine wpAny_bind (wpAny_mono h (fun v s₁ h₁ => ?_) fun _ _ x => x)
  obtain ⟨e, t, d, rfl, X, he, hE⟩ := h₁
  obtain ⟨nm, q, NN, bs, sn, sub, ab, col, dd, k0, k1, k2, k3, k5, hC⟩ := Y.at X
  obtain ⟨hp, g, dr, tk, os⟩ := s₁
  dsimp only at he hC
  repeat (first | with_reducible refine wpAny_loadPart_at he ?_ | with_reducible refine wpAny_loadPart_at hC ?_ | (with_reducible refine wpAny_isSubtype_exc hC ?_; rw [hcB]) | wp_step)
  exact wpAny_raiseNew_none hh hE
theorem RaiseOwn {x : Str} {np cpos pos : Pos} {arg : Expr} {Q : Flow → Shared → Prop} (Y : ExcK K C)
    (hh : A.handled = none) (hst : starEach [arg] env = [(false, eval arg env)])
    (h : wpAny M A (eval (.Name x np) env) (fun f s₁ => f = .ref C ∧ wpAny M A (eval arg env) (fun a s₂ => K.In s₂.heap ∧
        wpAny M A (call (.ref C) [a]) (fun v s₃ => ∃ e t d, v = .ref e ∧ K.In s₃.heap ∧ s₃.heap.get? e = some (excD C t d) ∧ E (.ref e) s₃) E s₂) E s₁) E s) :
    wpAny M A (exec (.Raise (some (.Call (.Name x np) [arg] [] cpos)) none pos) env) Q E s := by
  rw [arm_exec_Raise]
  refine wpAny_bind (wpAny_standAt (raise_made Y hh (wpAny_bind (wpAny_mono (wpAny_Call_ofName (wpAny_mono h (fun f s₁ h₁ => ?_) fun _ _ x => x)) (fun v s₂ h₂ => wpAny_bind (wpAny_standAt (wpAny_pure h₂))) fun _ _ x => x))))
  obtain ⟨rfl, h₁⟩ := h₁
  rw [hst]
  show wpAny _ _ (callWith cpos (.ref C) [] [(false, eval arg env)] []) _ _ _
  unfold callWith
  refine wpAny_bind (wpAny_holding (evalArgs_plain (spliced_cons (wpAny_mono h₁ (fun a s₂ h₂ => spliced_nil ?_) fun _ _ x => x))))
  obtain ⟨X, h₂⟩ := h₂
  obtain ⟨nm, q, NN, bs, sn, sub, ab, col, dd, k0, k1, k2, k3, k5, hC⟩ := Y.at X
  obtain ⟨hp, g, d, tk, os⟩ := s₂
  dsimp only at hC
  refine wpAny_bind (wpAny_standAt ?_)
  simp only [List.any_cons, List.any_nil, Bool.or_false, Bool.false_or]
  refine wpAny_bind (wpAny_keeperOf_exc hC ?_)
  exact wpAny_bind (wpAny_mono h₂ (fun r s₃ h₃ => wpAny_bind (wpAny_holding (wpAny_point (wpAny_pure h₃)))) fun _ _ x => x)
end
section
variable {M : Model} {A A₀ : Around} {E : Value → Shared → Prop} {s' : Shared} {base g G : Heap} {outer : List Env} {L e t d C : Addr} {m : Str → Option Value} {env : Env} {Q : Unit → Shared → Prop} {vs : List Value} {news : Led}
theorem mem_frames {env : Env} {L b : Addr} {outer : List Env} (hf : env.frame = some L) (hm : b ∈ (env :: outer).filterMap (·.frame)) : b = L ∨ b ∈ outer.filterMap (·.frame) := by
  obtain ⟨env', he, hf'⟩ := List.mem_filterMap.mp hm
  rcases List.mem_cons.mp he with rfl | he
  · exact .inl (Option.some.inj (hf'.symm.trans hf))
  · exact .inr (List.mem_filterMap.mpr ⟨env', he, hf'⟩)
theorem leave_raise (K : Below A base outer g) (F : Fr g L s'.heap m) (N : News g L s'.heap ((e, excD C t d) :: (t, tupO vs) :: news)) (hne : ∀ q ∈ news, q.1 ≠ e ∧ q.1 ≠ t) (hf : env.frame = some L) (hke : env.scope.kind = .function)
    (hQ : ∀ h', RaisedS base g outer e (.ref C) t vs news h' → g.UpToSlots h' → Q () { s' with heap := h' }) :
    wpAny M (A.deeper env) (leaving env (.ref e)) Q E s' := by
  have K' := pushX K F hf hke
  have hin : ∀ env' ∈ (env :: outer), ∀ b, env'.frame = some b → b ∈ (env :: outer).filterMap (·.frame) ++ [e, t] := fun env' he b hb => List.mem_append_left _ (List.mem_filterMap.mpr ⟨env', he, hb⟩)
  have ne := (N _ (.head _))
  have nt := (N _ (.tail _ (.head _)))
  have notin : ∀ (b : Addr) (o : Obj), g.get? b = some o → b ∉ outer.filterMap (·.frame) → b ∉ (env :: outer).filterMap (·.frame) ++ [e, t] := fun b o q nm hm => by
    rcases List.mem_append.mp hm with z | z
    · rcases mem_frames hf z with rfl | z
      · rw [kts_self F] at q; cases q
      · exact nm z
    · rcases List.mem_cons.mp z with rfl | z
      · have := ne.2.2; rw [q] at this; cases this
      · obtain rfl : b = t := by simpa using z
        have := nt.2.2; rw [q] at this; cases this
  have st : base.StaysIn (hideAll s'.heap ((env :: outer).filterMap (·.frame) ++ [e, t])) := fun b o q => hideAll_get _ (K'.stays b o q) (notin b o (K.stays b o q) fun hm => by
    rw [(K.frames.mem hm).1] at q; cases q)
  have sg : ∀ b o, g.get? b = some o → b ∉ outer.filterMap (·.frame) → (hideAll s'.heap ((env :: outer).filterMap (·.frame) ++ [e, t])).get? b = some o := fun b o q nm => hideAll_get _ (F.keep b o q) (notin b o q nm)
  have hl : ∀ q ∈ news, (hideAll s'.heap ((env :: outer).filterMap (·.frame) ++ [e, t])).get? q.1 = some q.2 ∧ g.get? q.1 = none ∧ base.get? q.1 = none := fun q hq => by
    have nq := N _ (.tail _ (.tail _ hq))
    refine ⟨hideAll_get _ nq.1 fun hm => ?_, nq.2.2, fresh_of_stays K.stays nq.2.2⟩
    rcases List.mem_append.mp hm with z | z
    · rcases mem_frames hf z with z | z
      · exact nq.2.1 z
      · obtain ⟨o, ho, _⟩ := (K.frames.mem z).2
        rw [nq.2.2] at ho; cases ho
    · rcases List.mem_cons.mp z with z | z
      · exact (hne q hq).1 z
      · exact (hne q hq).2 (by simpa using z)
  have hen : (hideAll s'.heap ((env :: outer).filterMap (·.frame) ++ [e, t])).get? e = none := hideAll_none _ (List.mem_append_right _ (.head _))
  have htn : (hideAll s'.heap ((env :: outer).filterMap (·.frame) ++ [e, t])).get? t = none := hideAll_none _ (List.mem_append_right _ (.tail _ (.head _)))
  refine wpAny_leaving_firstW (base := hideAll s'.heap ((env :: outer).filterMap (·.frame) ++ [e, t])) K'.stack (funFrames_hide K'.frames hin) hf ne.1 (fun b o q => of_hideAll _ q) hen rfl (a0 := .ref t) rfl rfl fun h' hL => ?_
  obtain ⟨k1, ⟨_, _, k2⟩, k3, k4⟩ := hL
  have up : s'.heap.UpToSlots h' := k4
  refine hQ h' ⟨⟨_, st, sg, hl, ⟨k1, hen, k2, k3⟩, htn⟩, ?_⟩ ((Heap.UpToSlots.of_keeps F.keep).trans up)
  exact Heap.TupAt.of_slots ⟨_, _, nt.1, rfl, rfl⟩ up
theorem leave_onX {cls : Value} (K : Below A base outer g) (F : Fr g L G m) (R : RaisedS base G (env :: outer) e cls t vs news s'.heap) (hsm : G.UpToSlots s'.heap) (hf : env.frame = some L)
    (hQ : ∀ h', RaisedS base g outer e cls t vs news h' → g.UpToSlots h' → Q () { s' with heap := h' }) :
    wpAny M (A.deeper env) (leaving env (.ref e)) Q E s' := by
  obtain ⟨⟨B, hB, hBG, hl, hfl, hnew⟩, htup⟩ := R
  refine wpAny_leaves_onW (Around.frames_deeper K.stack) hf hfl fun h' x1 x2 => ?_
  refine hQ h' ⟨⟨B, hB, fun b o q nm => hBG b o (F.keep b o q) (fun hm => ?_), fun q hq => ⟨(hl q hq).1, kts_none F.keep (hl q hq).2.1, (hl q hq).2.2⟩, x1, hnew⟩, htup.of_slots x2⟩ ((Heap.UpToSlots.of_keeps F.keep).trans (hsm.trans x2))
  rcases mem_frames hf hm with z | z
  · rw [z, kts_self F] at q; cases q
  · exact nm z
theorem turn_ground {B h₅ : Heap} (K : Below A₀ base outer g) (F : Fr g L G m) (hf : env.frame = some L) (hBG : ∀ b o, G.get? b = some o → b ∉ (env :: outer).filterMap (·.frame) → B.get? b = some o) (hBh : B.StaysIn h₅) (hsm : G.UpToSlots h₅) :
    ∃ g', KtsTurn (outer.filterMap (·.frame)) g g' ∧ Fr g' L h₅ m ∧ Below A₀ base outer g' := by
  obtain ⟨T, S⟩ := kts_turn_at (h := h₅) (fs := outer.filterMap (·.frame)) (g := g)
    (fun b hb => by
      obtain ⟨_, o, ho, _⟩ := K.frames.mem hb
      exact ⟨o, ho⟩)
    (fun b o e nm => hBh b o (hBG b o (F.keep b o e) (fun hm => by
      rcases mem_frames hf hm with z | z
      · rw [z, kts_self F] at e
        cases e
      · exact nm z)))
    (fun b o e hm => by
      obtain ⟨_, o', ho', hd⟩ := K.frames.mem hm
      rw [e] at ho'
      cases ho'
      exact hsm b o (F.keep b o e) hd)
  refine ⟨_, T, ⟨hsm.ns F.ns, S, by rw [T.size]; exact F.above⟩, ⟨K.stack, fun b o e => T.other b o (K.stays b o e) (fun hm => by
    rw [(K.frames.mem hm).1] at e
    cases e), K.frames.of_keeps fun b o e _ => ?_⟩⟩
  obtain ⟨sl, hs⟩ := T.up e
  exact ⟨_, hs, rfl⟩
end
section
variable {prog : Program} {w : World} {A₀ : Around} {E : Value → Shared → Prop} {s' : Shared} {base g G : Heap} {outer : List Env} {L e t C : Addr} {m : Str → Option Value} {env : Env} {vs : List Value} {news : Led} {K : Frag}
  {p : Program} {loose : List Str} {mean : ExcName → Option Value} {mg mb : Str → Option Value}
abbrev Landed (A₀ : Around) (base g : Heap) (outer : List Env) (L : Addr) (m : Str → Option Value) (news : Led) (K : Frag) (p : Program) (loose : List Str) (mean : ExcName → Option Value) (mg mb : Str → Option Value) (g' h' : Heap) : Prop :=
  KtsTurn (outer.filterMap (·.frame)) g g' ∧ Fr g' L h' m ∧ News g' L h' news ∧ Below A₀ base outer g' ∧ K.In g' ∧ Top p loose mean mg mb g'
/-- the exception has come to this frame: it is caught by its own class's name -/
theorem land {x : Str} {np : Pos} {P : Shared → Prop} (Y : ExcK K C) (R : RaisedS base G (env :: outer) e (.ref C) t vs news s'.heap) (F : Fr g L G m) (B₀ : Below A₀ base outer g) (hsm : G.UpToSlots s'.heap) (X : K.In base) (T : Top p loose mean mg mb base) (hf : env.frame = some L)
    (hname : ∀ g' h' (Q : Value → Shared → Prop), Fr g' L h' m → K.In g' → Top p loose mean mg mb g' → Q (.ref C) { s' with heap := h' } →
      wpAny (model prog w) ((A₀.deeper env).mark (some (.ref e))) (eval (.Name x np) env) Q NoE { s' with heap := h' })
    (k : ∀ h' g', Landed A₀ base g outer L m news K p loose mean mg mb g' h' → P { s' with heap := h' }) :
    wpAny (model prog w) (A₀.deeper env) (noteFrame (.ref e) env)
      (fun _ s₂ => wpAny (model prog w) (A₀.deeper env) (setFlight (.ref e) none) (fun _ s₃ =>
        wpAny (model prog w) ((A₀.deeper env).mark (some (.ref e))) (eval (.Name x np) env) (fun c s₁ => wpAny (model prog w) ((A₀.deeper env).mark (some (.ref e))) (excMatches (.ref e) c) (fun b s₂ => b = true ∧
          wpAny (model prog w) ((A₀.deeper env).mark (some (.ref e))) (setFlight (.ref e) none) (fun _ s₄ => P s₄) NoE s₂) NoE s₁) NoE s₃) NoE s₂) NoE s' := by
  obtain ⟨⟨B, hB, hBG, hl, hfl, hnew⟩, htup⟩ := R
  have hL : B.get? L = none := by
    obtain ⟨_, ⟨L', _, hf', hn', _⟩, _⟩ := hfl.2.2.1
    obtain rfl : L = L' := Option.some.inj (hf.symm.trans hf')
    exact hn'
  refine wpAny_looks_onW (Around.frames_deeper B₀.stack) hf hfl fun h₄ hheld₄ hsm₄ => ?_
  refine wpAny_landsW hheld₄ fun h₅ hheld hsm₅' => ?_
  have hsm₅ := hsm₄.trans hsm₅'
  obtain ⟨g₅, T₅, F₅, K₅⟩ := turn_ground B₀ F hf hBG hheld.1 (hsm.trans hsm₅)
  have X₅ : K.In g₅ := X.keeps K₅.stays
  obtain ⟨ob, hob, hobc⟩ := hheld.there
  obtain ⟨nm, q, NN, bs, sn, sub, ab, col, dd, k0, k1, k2, k3, k5, hC⟩ := Y.at X₅
  have hC₅ := F₅.keep _ _ hC
  refine hname g₅ h₅ _ F₅ X₅ (T.keeps K₅.stays) ?_
  refine wpAny_excMatches_sub_self hC₅ hob hobc excBm_base ⟨rfl, ?_⟩
  refine lands_againW hheld fun h₆ hfl₆ hsm₆ => ?_
  obtain ⟨g₆, T₆, F₆, K₆⟩ := turn_ground B₀ F hf hBG hfl₆.1 ((hsm.trans hsm₅).trans hsm₆)
  refine k h₆ g₆ ⟨T₆, F₆, fun q hq => ⟨hfl₆.1 _ _ (hl q hq).1, (fun z => by have := (hl q hq).1; rw [z, hL] at this; cases this), T₆.none_ _ (kts_none F.keep (hl q hq).2.1)⟩, K₆, X.keeps K₆.stays, T.keeps K₆.stays⟩
end
end Mine
end
section
open PySem PySem.W PySem.Calls PyProof.Rows PySem.Spec
set_option maxRecDepth 100000
namespace Mine
section
variable {prog : Program} {w : World} {A : Around} {E : Value → Shared → Prop} {R : Result → Shared → Prop} {s : Shared} {env : Env} {x : Str} {np hpos pos : Pos} {b₀ : Stmt} {body suite : List Stmt} {Q : Flow → Shared → Prop}
/-- what a handler named by x does with the exception a, up to the suite's start -/
abbrev Meets (prog : Program) (w : World) (A : Around) (env : Env) (x : Str) (np : Pos) (a : Addr) (P : Shared → Prop) (s : Shared) : Prop :=
  wpAny (model prog w) A (noteFrame (.ref a) env) (fun _ s₂ => wpAny (model prog w) A (setFlight (.ref a) none) (fun _ s₃ =>
    wpAny (model prog w) (A.mark (some (.ref a))) (eval (.Name x np) env) (fun c s₁ => wpAny (model prog w) (A.mark (some (.ref a))) (excMatches (.ref a) c) (fun b s₂ => b = true ∧
      wpAny (model prog w) (A.mark (some (.ref a))) (setFlight (.ref a) none) (fun _ s₄ => P s₄) NoE s₂) NoE s₁) NoE s₃) NoE s₂) NoE s
theorem noE {α : Type} {M : Model} {t : Sem α} {Q : α → Shared → Prop} (h : wpAny M A t Q NoE s) : wpAny M A t Q E s := wpAny_mono h (fun _ _ x => x) fun _ _ x => x.elim
theorem TryA
    (h : wpAny (model prog w) A (execs body env) (fun f s₁ => Q f s₁) (fun e s₁ => ∃ a, e = .ref a ∧ Meets prog w A env x np a (fun s₄ => wpAny (model prog w) (A.mark (some (.ref a))) (execs (b₀ :: suite) env) Q NoE s₄) s₁) s) :
    wpAny (model prog w) A (exec (.Try body [.ExceptHandler (some (.Name x np)) none (b₀ :: suite) hpos] [] [] pos) env) Q E s := by
  refine wpAny_Try_except (wpAny_mono h (fun f s₁ h₁ => ?_) fun e s₁ h₁ => ?_)
  · cases f <;> first | exact wpAny_execs_nil h₁ | exact h₁
  · obtain ⟨a, rfl, h₁⟩ := h₁
    refine noE (wpAny_mono h₁ (fun _ s₂ h₂ => wpAny_mono h₂ (fun _ s₃ h₃ => ?_) fun _ _ x => x.elim) fun _ _ x => x)
    refine wpAny_handleBy_cons (codeAny_handlers_test (wpAny_mono h₃ (fun c s₄ h₄ => wpAny_mono h₄ (fun b s₅ h₅ => ?_) fun _ _ x => x.elim) fun _ _ x => x.elim)) (by intro q; cases q)
    obtain ⟨rfl, h₅⟩ := h₅
    simp only [if_true]
    exact codeAny_handlers_suite (wpAny_mono h₅ (fun _ s₆ h₆ => wpAny_mono h₆ (fun f s₇ h₇ => h₇) fun _ _ x => x.elim) fun _ _ x => x.elim)
theorem runOwnSm {M : Model} {c : Code} {e : Option Value} {Q : Flow → Shared → Prop} (hnb : e ≠ some byPass) (hc : codeS M (A.mark e) c (fun r s' => match r with | .ok f => Q f s' | .error _ => False) s) : wpS M A (runOwn c env e) Q NoE s := by
  unfold runOwn
  refine wpS_onRaise (wpS_run (codeS_mono hc fun r s' h => ?_) hnb)
  cases r with
  | ok f => exact h
  | error e => exact h.elim
theorem codeS_handlers_suite {a : Addr}
    (h : wpAny (model prog w) A (setFlight (.ref a) none) (fun _ s₁ => wpS (model prog w) A (execs (b₀ :: suite) env) (fun f s₂ => R (.ok f) s₂) NoE s₁) NoE s) :
    codeS (model prog w) A (.handlers (.ref a) [.ExceptHandler none none (b₀ :: suite) hpos] env) R s := by
  refine codeS_of_tree rfl ?_
  show wpS _ A (do return Fin.done (← (handleWith (.ref a) env [.ExceptHandler none none (b₀ :: suite) hpos]).onRaise (fun x => do noteFrame x env; theTreesLotGoes x))) _ _ s
  refine wpS_bind (wpS_onRaise (wpS_mono (Q := fun f s' => R (.ok f) s') (E := NoE) ?_ (fun f s' h' => wpS_pure h') fun _ _ x => x.elim))
  unfold handleWith
  exact wpS_bind (wpS_standAt (wpS_bind (wpS_any (wpAny_mono h (fun _ s₁ h₁ => h₁) fun _ _ x => x))))
theorem TryS
    (h : wpS (model prog w) A (execs body env) (fun f s₁ => Q f s₁) (fun e s₁ => ∃ a, e = .ref a ∧ Meets prog w A env x np a (fun s₄ => wpS (model prog w) (A.mark (some (.ref a))) (execs (b₀ :: suite) env) Q NoE s₄) s₁) s) :
    wpS (model prog w) A (exec (.Try body [.ExceptHandler (some (.Name x np)) none (b₀ :: suite) hpos] [] [] pos) env) Q NoE s := by
  rw [arm_exec_Try]
  refine wpS_bind (wpS_standAt ?_)
  unfold tryStmt
  simp only [List.isEmpty_nil, if_true, List.isEmpty_cons, Bool.false_and, Bool.false_eq_true, if_false]
  refine wpS_bind (wpS_attempt (wpS_mono h (fun f s₁ h₁ => ?_) fun e s₁ h₁ => ?_))
  · cases f <;> first | exact execsS_nil h₁ | exact wpS_pure h₁
  · obtain ⟨a, rfl, h₁⟩ := h₁
    have hnb : (some (Value.ref a) : Option Value) ≠ some byPass := by intro q; cases q
    refine wpS_bind (wpS_any (wpAny_mono h₁ (fun _ s₂ h₂ => wpS_bind (wpS_any (wpAny_mono h₂ (fun _ s₃ h₃ => ?_) fun _ _ x => x))) fun _ _ x => x))
    rw [handleBy]
    refine wpS_bind (wpS_holding (runOwnSm hnb (codeS_any (codeAny_handlers_test (wpAny_mono h₃ (fun c s₄ h₄ => wpAny_mono h₄ (fun b s₅ h₅ => ?_) fun _ _ x => x.elim) fun _ _ x => x.elim)))))
    obtain ⟨rfl, h₅⟩ := h₅
    simp only [if_true]
    refine wpS_bind (wpS_pure ?_)
    simp only [Bool.not_true, Bool.false_eq_true, if_false]
    refine wpS_bind (wpS_holding (runOwnSm hnb (codeS_handlers_suite (wpAny_mono h₅ (fun _ s₆ h₆ => wpS_mono h₆ (fun f s₇ h₇ => ?_) fun _ _ x => x) fun _ _ x => x))))
    exact wpS_pure h₇
end
end Mine
end
section
open PySem PySem.W PySem.Calls PyProof.Rows PySem.Spec
namespace Mine
theorem reset_NT_praise : True := by
  w_top off
  exact True.intro
local macro_rules | `(tactic| k_all) => `(tactic| with_reducible assumption)
local macro_rules | `(tactic| walk_at "exec For Tuple Name cons nil") => `(tactic| (k_here; (rename Fr _ _ _ _ => lF'); (with_unfolding_all refine' For_invTF lF' ?_ ?k2; (case k2 => (intro _; rfl)); k_whole)))
local macro_rules | `(tactic| walk_at "exec For Name Call cons nil") => `(tactic| (k_here; (rename Fr _ _ _ _ => lF'); (with_unfolding_all refine' For_M lF' ?k1 ?k2 ?_; (case k1 => exact rfl); (case k2 => exact rfl); k_whole)))
local macro_rules | `(tactic| walk_at "call type:range") => `(tactic| (k_here; (with_reducible show wpAny _ _ (call _ [_]) _ _ _); k_dflt (refine' range1_rows ?F ?N ?_; (case F => k_asm); (case N => k_asm); k_whole); intro h' tk t₁ u₁ v₁ rgX F' N' st'))
local macro_rules | `(tactic| walk_at "call type:range") => `(tactic| (k_here; (with_reducible show wpAny _ _ (call _ [_, _, _]) _ _ _); k_dflt (refine' range3_rows ?F ?N ?c ?_; (case F => k_asm); (case N => k_asm); (case c => decide); k_whole); intro h' tk t₁ u₁ v₁ rgX F' N' st'))
local macro_rules | `(tactic| k_mem) => `(tactic| assumption)
theorem under_tc (A : Around) (C : Addr) (vals : List Value) : A.under (.builtin "type.__call__" ⟨.ref C :: vals, []⟩) = { A with depth := A.depth + 1, units := A.units + 1 } := by
  have h3 : (Code.builtin "type.__call__" ⟨.ref C :: vals, []⟩).guards = [] := by
    unfold Code.guards
    rw [show (Code.builtin "type.__call__" ⟨.ref C :: vals, []⟩).isGuard = false from by show guardIds.contains "type.__call__" = false; decide +kernel]
    rfl
  unfold Around.under
  rw [h3]
  rfl
section
set_option maxHeartbeats 8000000 in
theorem exc_spec {hn : Option Value} {w : World} {p : Program} {loose : List Str} {mean : ExcName → Option Value} {mg mb : Str → Option Value}
    {C : Addr} {v : Str} {tv : Tok} {news : Led} (hC : C = 56 ∨ C = 44)
    (dp un : Nat) (gd : Option (List Code)) (cn : Str) (cs : Scope) (a : Addr) (ccd : Value) (cl : List (Str × Addr)) (outer : List Env) (A₀ : Around) (base h₀ : Heap) (L : Addr) (m : Str → Option Value) (s : Shared) (Q E : Value → Shared → Prop)
    (B : Below A₀ base outer h₀) (F : Fr h₀ L s.heap m) (X : (Mine.hd.heap_39 w.params).In h₀) (N : News h₀ L s.heap news) (T : Top p loose mean mg mb h₀) (hk : cs.kind = .function)
    (hd : dp + 2 < recursionLimit) (hu : un + 10 < cLine)
    (hret : ∀ (e t d : Addr) (h' : Heap) (tk' : Nat), Fr h₀ L h' m → News h₀ L h' ((e, excD C t d) :: (t, tupO [.str v tv]) :: news) → (∀ q ∈ news, q.1 ≠ e ∧ q.1 ≠ t) → Q (.ref e) { s with heap := h', toks := tk' }) :
    wpAny (model PySem.Challenge.pw_nt0540_01 w) ({ handled := hn, depth := dp, frames := some (envX cn cs L a ccd cl :: outer), guards := gd, units := un } : Around) (call (.ref C) [.str v tv]) Q E s := by
  have Y : ExcK (Mine.hd.heap_39 w.params) C := by rcases hC with rfl | rfl; exact exc56 w; exact exc44 w
  have h1 : findIn (Mine.hd.heap_39 w.params) (.ref C) "message" = some none := by rcases hC with rfl | rfl; exact (msg_none w).1; exact (msg_none w).2
  have h2 : mroIn (Mine.hd.heap_39 w.params) C (.type "object") = some true := by rcases hC with rfl | rfl; exact (mro_obj w).1; exact (mro_obj w).2
  have h3 : mroIn (Mine.hd.heap_39 w.params) C (.type "Exception") = some true := by rcases hC with rfl | rfl; exact (mro_exc w).1; exact (mro_exc w).2
  have hnext := next_is_new F
  have hL := F.ns.lt
  have hN := fun q hq => Heap.lt_size (N q hq).1
  obtain ⟨hp, g, dr, tk, os⟩ := s
  dsimp only at F N hnext hL hN ⊢
  have F1 := (F.push (tupO [.str v tv])).push (excO C hp.objs.size)
  have N1 : News h₀ L ((hp.push (tupO [.str v tv])).push (excO C hp.objs.size)) ((hp.objs.size + 1, excO C hp.objs.size) :: news) := fun q hq => by
    rcases List.mem_cons.mp hq with rfl | hq
    · refine ⟨by heap_get, Nat.ne_of_gt (Nat.lt_succ_of_lt hL), ?_⟩
      have := next_is_new (F.push (tupO [.str v tv])); rw [Heap.size_push] at this; exact this
    · exact ⟨Heap.get?_push_of_some _ (Heap.get?_push_of_some _ (N q hq).1), (N q hq).2⟩
  refine exc_call (X.keeps F.keep) Y (by size_fits) ?_
  rw [under_tc]
  refine codeAny_mono (init28_spec (e := hp.objs.size + 1) (news := news) Y h1 h2 h3 (fun q hq => Nat.ne_of_lt (Nat.lt_succ_of_lt (hN q hq))) (dp + 1) (un + 1) gd cn cs a ccd cl outer A₀ base h₀ L m _ (fun v s' => v = .none ∧ Q (.ref (hp.objs.size + 1)) s') E B F1 X N1 T hk hd (by omega) ?_) fun r s' z => ?_
  · intro t' d h' tk' F' N' hne
    exact ⟨rfl, hret _ t' d h' tk' F' N' fun q hq => ⟨Nat.ne_of_lt (Nat.lt_succ_of_lt (hN q hq)), hne q hq⟩⟩
  · exact z
end
theorem RaiseOwnX {M : Model} {A : Around} {E : Value → Shared → Prop} {env : Env} {s : Shared} {C : Addr} {K : Frag} {h₀ : Heap} {x : Str} {np cpos pos : Pos} {arg : Expr} {Q : Flow → Shared → Prop} (_ : K.In h₀) (Y : ExcK K C)
    (hh : A.handled = none) (hst : starEach [arg] env = [(false, eval arg env)])
    (h : wpAny M A (eval (.Name x np) env) (fun f s₁ => f = .ref C ∧ wpAny M A (eval arg env) (fun a s₂ => K.In s₂.heap ∧
        wpAny M A (call (.ref C) [a]) (fun v s₃ => ∃ e t d, v = .ref e ∧ K.In s₃.heap ∧ s₃.heap.get? e = some (excD C t d) ∧ E (.ref e) s₃) E s₂) E s₁) E s) :
    wpAny M A (exec (.Raise (some (.Call (.Name x np) [arg] [] cpos)) none pos) env) Q E s := RaiseOwn Y hh hst h
local macro_rules | `(tactic| walk_at "binaryOp LShift int int") => `(tactic| (k_here; (with_reducible refine lshift_int_small ?kb1 ?kb2 ?kb3 ?_); (case kb1 => omega); (case kb2 => omega); (case kb3 => omega)))
local macro_rules | `(tactic| walk_at "exec Raise some none") => `(tactic| (k_here; k_dflt (refine' RaiseOwnX ?cX ?cY ?c1 ?c2 ?_; (case cX => k_asm); (case cY => exact exc56 _); (case c1 => exact rfl); (case c2 => exact rfl); k_whole)))
abbrev CalledR (w : World) (p : Program) (loose : List Str) (mean : ExcName → Option Value) (mg mb : Str → Option Value) (C f : Addr) (vs : List Value) (news : Led) (dd uu : Nat) : Prop :=
  ∀ (dp un : Nat) (gd : Option (List Code)) (cn : Str) (cs : Scope) (a : Addr) (ccd : Value) (cl : List (Str × Addr)) (outer : List Env) (A₀ : Around) (base h₀ : Heap) (L : Addr) (m : Str → Option Value) (s : Shared) (Q E : Value → Shared → Prop),
    Below A₀ base outer h₀ → Fr h₀ L s.heap m → (Mine.hd.heap_39 w.params).In h₀ → News h₀ L s.heap news → Top p loose mean mg mb h₀ → cs.kind = .function →
    dp + dd < recursionLimit → un + uu < cLine →
    (∀ (g : Heap) (e t : Addr) (ws : List Value) (h' : Heap) (tk' : Nat), Fr h₀ L g m → RaisedS base g (envX cn cs L a ccd cl :: outer) e (.ref C) t ws news h' → g.UpToSlots h' → E (.ref e) { s with heap := h', toks := tk' }) →
      wpAny (model PySem.Challenge.pw_nt0540_01 w) ({ handled := none, depth := dp, frames := some (envX cn cs L a ccd cl :: outer), guards := gd, units := un } : Around) (call (.ref f) vs) Q E s
set_option maxRecDepth 100000 in
set_option maxHeartbeats 8000000 in
theorem put_raise {w : World} {p : Program} {loose : List Str} {mean : ExcName → Option Value} {mg mb : Str → Option Value}
    {x : Addr} {v sz : Int} {tv ts : Tok} {news : Led} (s1 : sz ≤ 60) (bad : sz < 0 ∨ 0 ≤ sz ∧ v < 0 ∨ 0 ≤ sz ∧ 0 ≤ v ∧ 1 * 2 ^ sz.toNat ≤ v) :
    CalledR w p loose mean mg mb 56 79 [.ref x, .int v tv, .int sz ts] news 4 20 := by
  intro dp un gd cn cs a ccd cl outer A₀ base h₀ L m s Q E B F X N T hk hd hu hE
  refine wpAny_call ?_
  rcases bad with bad | ⟨b1, b2⟩ | ⟨b1, b2, b3⟩
  · k_dflt cell_enter
    w_strict (k_steps)
    rename Below _ _ _ _ => B'
    rename Frag.In _ _ => X'
    rename Top _ _ _ _ _ _ => T'
    rename News _ _ _ _ => N'
    rename Fr _ _ _ _ => F'
    k_dflt (refine exc_spec (.inl rfl) _ _ _ _ _ _ _ _ _ _ _ _ _ _ _ _ _ B' F' X' N' T' rfl ?_ ?_ ?_)
    · show dp + 1 + 2 < recursionLimit; omega
    · show un + 3 + 10 < cLine; omega
    intro e t d h2 tk2 F2 N2 hne
    refine ⟨e, t, d, rfl, X'.keeps F2.keep, (N2 _ (.head _)).1, ?_⟩
    refine leave_raise B' F2 N2 hne rfl rfl fun h3 R up => ?_
    exact hE _ _ _ _ _ _ (by assumption) R up
  · k_dflt cell_enter
    w_strict (k_steps)
    rename Below _ _ _ _ => B'
    rename Frag.In _ _ => X'
    rename Top _ _ _ _ _ _ => T'
    rename News _ _ _ _ => N'
    rename Fr _ _ _ _ => F'
    k_dflt (refine exc_spec (.inl rfl) _ _ _ _ _ _ _ _ _ _ _ _ _ _ _ _ _ B' F' X' N' T' rfl ?_ ?_ ?_)
    · show dp + 1 + 2 < recursionLimit; omega
    · show un + 3 + 10 < cLine; omega
    intro e t d h2 tk2 F2 N2 hne
    refine ⟨e, t, d, rfl, X'.keeps F2.keep, (N2 _ (.head _)).1, ?_⟩
    refine leave_raise B' F2 N2 hne rfl rfl fun h3 R up => ?_
    exact hE _ _ _ _ _ _ (by assumption) R up
  · k_dflt cell_enter
    w_strict (k_steps)
    rename Below _ _ _ _ => B'
    rename Frag.In _ _ => X'
    rename Top _ _ _ _ _ _ => T'
    rename News _ _ _ _ => N'
    rename Fr _ _ _ _ => F'
    k_dflt (refine exc_spec (.inl rfl) _ _ _ _ _ _ _ _ _ _ _ _ _ _ _ _ _ B' F' X' N' T' rfl ?_ ?_ ?_)
    · show dp + 1 + 2 < recursionLimit; omega
    · show un + 3 + 10 < cLine; omega
    intro e t d h2 tk2 F2 N2 hne
    refine ⟨e, t, d, rfl, X'.keeps F2.keep, (N2 _ (.head _)).1, ?_⟩
    refine leave_raise B' F2 N2 hne rfl rfl fun h3 R up => ?_
    exact hE _ _ _ _ _ _ (by assumption) R up
end Mine
end
section
open PySem PySem.W PySem.Calls PyProof.Rows PySem.Spec
set_option maxRecDepth 100000
namespace Mine
section
variable {prog : Program} {w : World} {A : Around} {E : Value → Shared → Prop} {s : Shared}
theorem ba_buffer : typeLookup (.type "bytearray") "__buffer__" = pure (some (.builtin "bytearray.__buffer__")) := by rw [typeLookup_type, builtinLookup_eq_fast]; kernel_rfl
theorem ba_no_bytes : typeLookup (.type "bytearray") "__bytes__" = pure none := by rw [typeLookup_type, builtinLookup_eq_fast]; kernel_rfl
theorem ba_no_index : typeLookup (.type "bytearray") "__index__" = pure none := by rw [typeLookup_type, builtinLookup_eq_fast]; kernel_rfl
theorem own_buf {M : Model} {v : Value} {Q : Bool → Shared → Prop} (hT : s.TypeIs v "bytearray") (h : Q true s) : wpAny M A (Builtin.Bytes.slotIsOwn v "__buffer__") Q E s := by
  unfold Builtin.Bytes.slotIsOwn
  refine wpAny_bind (wpAny_specialOf hT ba_buffer ?_)
  dsimp only
  refine bm_if_false (by decide +kernel) ?_
  have e : ("bytearray.__buffer__".dropRight ("__buffer__".length + 1)) = "bytearray" := by decide +kernel
  rw [e]
  exact wpAny_isInstance hT ba_sub_self h
theorem bytes_new {b : Addr} {bs : Array UInt8} {Q : Value → Shared → Prop} (hb : s.heap.get? b = some (baO bs)) (hz : bs.size ≤ sizeLine)
    (hQ : ∀ t k, Q (.bytes bs t) { s with toks := k }) : codeAny (model prog w) A (.call (.builtin "bytes.__new__") ⟨[.type "bytes", .ref b], []⟩) (wants Q E) s := by
  refine codeAny_of_tree ?_
  show wpAny _ A.in1 (do checkBuiltinCall "bytes.__new__" ⟨[.type "bytes", .ref b], []⟩; again (.builtin "bytes.__new__" ⟨[.type "bytes", .ref b], []⟩)) _ _ s
  refine wpAny_bind (wpAny_of_eq (F.bm_newCall _) (wpAny_pure ⟨plainId_quiet F.bm_plain _, codeAny_builtin F.bm_entry ?_⟩))
  rw [Around.under_plainId F.bm_plain _]
  have hT : s.TypeIs (.ref b) "bytearray" := ⟨_, hb, rfl⟩
  unfold Builtin.«bytes.__new__»
  refine wpAny_bind (wpAny_of_eq (a := true) rfl ?_)
  refine bm_if_false rfl ?_
  refine wpAny_bind (wpAny_of_eq F.bm_sub ?_)
  refine bm_if_false rfl ?_
  refine wpAny_bind (wpAny_of_eq (F.bm_bind _) ?_)
  refine wpAny_bind (wpAny_of_eq (a := ()) rfl ?_)
  refine wpAny_bind (wpAny_of_eq (a := ()) rfl ?_)
  refine bm_if_false rfl ?_
  refine wpAny_bind (wpAny_specialOf hT ba_no_bytes ?_)
  refine wpAny_bind (wpAny_bind ?_)
  show wpAny _ _ (load b >>= _) _ _ _
  refine wpAny_bind (wpAny_load hb ?_)
  refine wpAny_pure (wpAny_pure ?_)
  refine bm_if_false rfl ?_
  refine wpAny_bind (wpAny_specialOf hT ba_no_index ?_)
  refine bm_if_true rfl ?_
  first
    | show wpAny _ _ (Builtin.Bytes.buffer? "bytes.__new__" (.ref b) true >>= _) _ _ _
    | (refine wpAny_bind ?_; show wpAny _ _ (Builtin.Bytes.buffer? "bytes.__new__" (.ref b) true >>= _) _ _ _)
  refine wpAny_bind ?_
  unfold Builtin.Bytes.buffer?
  refine wpAny_bind (wpAny_specialOf hT ba_buffer ?_)
  try dsimp only
  refine wpAny_bind (own_buf hT ?_)
  refine bm_if_false rfl ?_
  refine wpAny_bind (wpAny_specialOf hT ba_buffer ?_)
  try dsimp only
  refine wpAny_bind (ownReleaseF hT ?_)
  refine bm_if_false rfl ?_
  refine wpAny_bind ?_
  unfold Builtin.Bytes.payload Builtin.Bytes.payload?
  refine wpAny_bind (wpAny_bind (wpAny_load hb ?_))
  refine wpAny_pure (wpAny_pure (wpAny_pure ?_))
  refine wpAny_bind (wpAny_rule ?_)
  refine wpAny_bind (wpAny_mkBytes ?_ hz)
  show wpAny _ _ (if (Value.type "bytes" == Value.type "bytes") = true then _ else _) _ _ _
  refine bm_if_true (by decide) ?_
  first
    | exact wpAny_pure (hQ _ _)
    | exact wpAny_pure (wpAny_pure (hQ _ _))
    | exact wpAny_bind (wpAny_pure (wpAny_pure (hQ _ _)))
theorem bytes_ba {b : Addr} {bs : Array UInt8} {Q : Value → Shared → Prop} (hb : s.heap.get? b = some (baO bs)) (hz : bs.size ≤ sizeLine)
    (hQ : ∀ t k, Q (.bytes bs t) { s with toks := k }) : wpAny (model prog w) A (call (.type "bytes") [.ref b]) Q E s := by
  refine callType_codes (Q₁ := fun obj s₁ => s₁.TypeIs obj "bytes" ∧ Q obj s₁) F.bm_called (F.bm_typeCall _) F.entry_object_init
    (bytes_new hb hz fun t k => ⟨PySem.W.typeIs_bytes _ _ _, hQ t k⟩) fun obj s₁ h₁ => ?_
  exact ⟨h₁.1, F.args_object_init_2 obj _, object_init_meets F.bm_called.init.lookup F.bm_called.made (by decide) prog w A.in1 _ s₁ ⟨h₁.1, rfl, h₁.2⟩⟩
end
end Mine
end
section
open PySem PySem.W PySem.Calls PyProof.Rows PySem.Spec
namespace Mine
theorem reset_NT_octets : True := by
  w_top off
  exact True.intro
local macro_rules | `(tactic| k_all) => `(tactic| with_reducible assumption)
local macro_rules | `(tactic| walk_at "exec For Tuple Name cons nil") => `(tactic| (k_here; (rename Fr _ _ _ _ => lF'); (with_unfolding_all refine' For_invTF lF' ?_ ?k2; (case k2 => (intro _; rfl)); k_whole)))
local macro_rules | `(tactic| walk_at "exec For Name Call cons nil") => `(tactic| (k_here; (rename Fr _ _ _ _ => lF'); (with_unfolding_all refine' For_M lF' ?k1 ?k2 ?_; (case k1 => exact rfl); (case k2 => exact rfl); k_whole)))
local macro_rules | `(tactic| walk_at "call type:range") => `(tactic| (k_here; (with_reducible show wpAny _ _ (call _ [_]) _ _ _); k_dflt (refine' range1_rows ?F ?N ?_; (case F => k_asm); (case N => k_asm); k_whole); intro h' tk t₁ u₁ v₁ rgX F' N' st'))
local macro_rules | `(tactic| walk_at "call type:range") => `(tactic| (k_here; (with_reducible show wpAny _ _ (call _ [_, _, _]) _ _ _); k_dflt (refine' range3_rows ?F ?N ?c ?_; (case F => k_asm); (case N => k_asm); (case c => decide); k_whole); intro h' tk t₁ u₁ v₁ rgX F' N' st'))
local macro_rules | `(tactic| k_mem) => `(tactic| assumption)
theorem bytes_baN {prog : Program} {w : World} {A : Around} {E : Value → Shared → Prop} {s : Shared} {h₀ : Heap} {L : Addr} {news : Led} {b : Addr} {bs : Array UInt8} {Q : Value → Shared → Prop} (N : News h₀ L s.heap news) (hm : (b, baO bs) ∈ news) (hz : bs.size ≤ sizeLine)
    (hQ : ∀ t k, Q (.bytes bs t) { s with toks := k }) : wpAny (model prog w) A (call (.type "bytes") [.ref b]) Q E s := bytes_ba (N _ hm).1 hz hQ
local macro_rules | `(tactic| walk_at "call type:bytes") => `(tactic| (k_here; k_dflt (refine' bytes_baN ?N ?m ?z ?_; (case N => k_asm); (case m => k_mem); (case z => assumption); k_whole); intro t₁ u₁))
set_option maxRecDepth 100000 in
set_option maxHeartbeats 8000000 in
theorem octets_spec {hn : Option Value} {w : World} {p : Program} {loose : List Str} {mean : ExcName → Option Value} {mg mb : Str → Option Value}
    {b x dx : Addr} {M : WM} {bs : Array UInt8} {r z : Int} {tr tz : Tok} {rest : Led} (hz : bs.size ≤ sizeLine) :
    Called hn w p loose mean mg mb 93 [.ref x] (wrL b x dx M bs r z tr tz rest) 1 16 (fun _ => True)
      (fun P => ∀ (t : Tok), P (.bytes bs t) (wrL b x dx M bs r z tr tz rest)) := by
  intro dp un gd cn cs a ccd cl outer A₀ base h₀ L m s Q E B F X N T hk hd hu _ hret
  refine wpAny_call ?_
  k_dflt cell_enter
  dsimp only [wrL, wrD] at *
  w_strict (k_steps)
  exact hret _ _ _ (by assumption) (by assumption)
end Mine
end
section
open PySem PySem.W PySem.Calls PyProof.Rows PySem.Spec
namespace Mine
theorem reset_NT_pad : True := by
  w_top off
  exact True.intro
local macro_rules | `(tactic| k_all) => `(tactic| with_reducible assumption)
local macro_rules | `(tactic| walk_at "exec For Tuple Name cons nil") => `(tactic| (k_here; (rename Fr _ _ _ _ => lF'); (with_unfolding_all refine' For_invTF lF' ?_ ?k2; (case k2 => (intro _; rfl)); k_whole)))
local macro_rules | `(tactic| walk_at "exec For Name Call cons nil") => `(tactic| (k_here; (rename Fr _ _ _ _ => lF'); (with_unfolding_all refine' For_M lF' ?k1 ?k2 ?_; (case k1 => exact rfl); (case k2 => exact rfl); k_whole)))
local macro_rules | `(tactic| walk_at "call type:range") => `(tactic| (k_here; (with_reducible show wpAny _ _ (call _ [_]) _ _ _); k_dflt (refine' range1_rows ?F ?N ?_; (case F => k_asm); (case N => k_asm); k_whole); intro h' tk t₁ u₁ v₁ rgX F' N' st'))
local macro_rules | `(tactic| walk_at "call type:range") => `(tactic| (k_here; (with_reducible show wpAny _ _ (call _ [_, _, _]) _ _ _); k_dflt (refine' range3_rows ?F ?N ?c ?_; (case F => k_asm); (case N => k_asm); (case c => decide); k_whole); intro h' tk t₁ u₁ v₁ rgX F' N' st'))
local macro_rules | `(tactic| k_mem) => `(tactic| assumption)
local macro_rules | `(tactic| walk_at "binaryOp LShift int int") => `(tactic| (k_here; (with_reducible refine lshift_int_small ?kb1 ?kb2 ?kb3 ?_); (case kb1 => omega); (case kb2 => omega); (case kb3 => omega)))
theorem bitsZ_ones {k : Nat} : ∀ z : Nat, z ≤ k → bitsZ (2 ^ k - 1) z = List.replicate z true
  | 0, _ => rfl
  | z + 1, h => by
    rw [bitsZ, bitsZ_ones z (by omega), List.replicate_succ]
    congr 1
    rw [decide_eq_true_iff]
    have e : (2 : Int) ^ k = 2 ^ z * (2 * 2 ^ (k - z - 1)) := by
      rw [← Int.pow_succ', ← Int.pow_add]; congr 1; omega
    have p : (0 : Int) < 2 ^ z := Int.pow_pos (by decide)
    have q : ((2 : Int) ^ k - 1) / 2 ^ z = 2 * 2 ^ (k - z - 1) - 1 := by
      rw [e]
      have : (2 : Int) ^ z * (2 * 2 ^ (k - z - 1)) - 1 = (2 ^ z - 1) + 2 ^ z * (2 * 2 ^ (k - z - 1) - 1) := by
        rw [Int.mul_sub, Int.mul_one]; omega
      rw [this, Int.add_mul_ediv_left _ _ (by omega), Int.ediv_eq_zero_of_lt (by omega) (by omega)]; omega
    rw [q]; omega
theorem ones_lt (n : Nat) : (1 * 2 ^ n - 1 : Int) < 1 * 2 ^ n := by omega
theorem ones_nn (n : Nat) : (0 : Int) ≤ 1 * 2 ^ n - 1 := by
  have : (0 : Int) < 2 ^ n := Int.pow_pos (by decide)
  omega
set_option maxRecDepth 100000 in
set_option maxHeartbeats 8000000 in
theorem pad_spec {hn : Option Value} {w : World} {p : Program} {loose : List Str} {mean : ExcName → Option Value} {mg mb : Str → Option Value}
    {b x dx : Addr} {M : WM} {bs : Array UInt8} {r z : Int} {tr tz : Tok} {rest : Led} {bits : List Bool} (W : WrF b x dx rest) (hw : WrI bits bs r z) (hz8 : z < 8) (hbl : bits.length ≤ 100000) :
    CalledS hn w p loose mean mg mb 86 [.ref x] (wrL b x dx M bs r z tr tz rest) 3 40
      (fun P => ∀ (bs' : Array UInt8) (r' z' : Int) (tr' tz' : Tok), WrI (bits ++ List.replicate (if z = 0 then 0 else (8 - z).toNat) true) bs' r' z' → z' < 8 → P .none (wrL b x dx M bs' r' z' tr' tz' rest)) := by
  obtain ⟨g1, g2, g3, g4, g5, g6⟩ := id W
  replace g1 := ltOr g1
  replace g2 := ltOr g2
  replace g3 := ltOr g3
  obtain ⟨q1, q2, q3⟩ := hw.small hz8
  intro dp un gd cn cs a ccd cl outer A₀ base h₀ L m s Q B F X N T hk hd hu hret
  dsimp only [wrL, wrD] at N
  k_dflt (refine' defS ?k1 ?k2 ?k3 ?k4 ?k5 ?kA ?kF ?kK ?k6 ?k7 ?k8 ?k9 ?kB ?_ ?c2 ?c3 ?c4 ?c5; (case kA => exact rfl); (case kF => exact rfl); (case kK => assumption); (case k1 => k_asm); (case k2 => k_asm); (case k3 => k_asm); (case k4 => k_asm); (case k5 => k_asm); (case k6 => k_is); (case k7 => k_is); (case k8 => ktr_room); (case k9 => exact BindsTo.of_eq rfl); (case c5 => decide); (case kB => exact locs rfl); (case c2 => exact rfl); (case c3 => exact rfl); (case c4 => exact rfl); k_whole)
  intro g' L' h' FG' F' N' B' X' T'
  (try dsimp only)
  refine execsS_cons (IfS (wpS_any ?_))
  w_strict (k_steps)
  · have hz0 : z ≠ 0 := by omega
    dsimp only
    refine execsS_cons (ExprS (MethodS ?_))
    w_strict (k_steps)
    dsimp only
    refine callWithS_K (K := Mine.hd.heap_39 w.params) (by k_is) ?_
    w_strict (k_steps)
    refine wpS_call ?_
    rename Fr _ _ _ _ => F2
    rename News _ _ _ _ => N2
    have e1 : (1 * 2 ^ (8 - z).toNat - 1 : Int) < 1 * 2 ^ (8 - z).toNat := ones_lt _
    k_dflt (refine put_spec (M := M) (rest := rest) W hw hz8 hbl (by omega) (by omega) (ones_nn _) e1 _ _ _ _ _ _ _ _ _ _ _ _ _ _ _ _ B' F2 X' N2 T' rfl ?_ ?_ ?_)
    · show dp + 1 + 1 < recursionLimit; omega
    · show un + 3 + 16 < cLine; omega
    intro bs' r' z' tr' tz' hW' hz' h3 tk3 F3 N3
    refine execsS_nil ?_
    dsimp only
    refine execsS_nil ?_
    w_strict (k_steps)
    rw [show (1 * 2 ^ (8 - z).toNat - 1 : Int) = 2 ^ (8 - z).toNat - 1 by omega, bitsZ_ones _ (Nat.le_refl _)] at hW'
    refine hret bs' r' z' tr' tz' ?_ hz' _ _ (by k_asm) (by k_asm)
    rw [if_neg hz0]; exact hW'
  · have hz0 : z = 0 := by omega
    refine execsS_nil ?_
    dsimp only
    refine execsS_nil ?_
    w_strict (k_steps)
    refine hret bs r z tr tz ?_ hz8 _ _ (by k_asm) (by k_asm)
    rw [if_pos hz0, List.replicate_zero, List.append_nil]; exact hw
end Mine
end
section
open PySem PySem.W PySem.Calls PyProof.Rows PySem.Spec
namespace Mine
theorem reset_NT_written : True := by
  w_top off
  exact True.intro
local macro_rules | `(tactic| k_all) => `(tactic| with_reducible assumption)
local macro_rules | `(tactic| walk_at "exec For Tuple Name cons nil") => `(tactic| (k_here; (rename Fr _ _ _ _ => lF'); (with_unfolding_all refine' For_invTF lF' ?_ ?k2; (case k2 => (intro _; rfl)); k_whole)))
local macro_rules | `(tactic| walk_at "exec For Name Call cons nil") => `(tactic| (k_here; (rename Fr _ _ _ _ => lF'); (with_unfolding_all refine' For_M lF' ?k1 ?k2 ?_; (case k1 => exact rfl); (case k2 => exact rfl); k_whole)))
local macro_rules | `(tactic| walk_at "call type:range") => `(tactic| (k_here; (with_reducible show wpAny _ _ (call _ [_]) _ _ _); k_dflt (refine' range1_rows ?F ?N ?_; (case F => k_asm); (case N => k_asm); k_whole); intro h' tk t₁ u₁ v₁ rgX F' N' st'))
local macro_rules | `(tactic| walk_at "call type:range") => `(tactic| (k_here; (with_reducible show wpAny _ _ (call _ [_, _, _]) _ _ _); k_dflt (refine' range3_rows ?F ?N ?c ?_; (case F => k_asm); (case N => k_asm); (case c => decide); k_whole); intro h' tk t₁ u₁ v₁ rgX F' N' st'))
local macro_rules | `(tactic| k_mem) => `(tactic| assumption)
set_option maxHeartbeats 8000000 in
theorem make_writer {hn : Option Value} {w : World} {p : Program} {loose : List Str} {mean : ExcName → Option Value} {mg mb : Str → Option Value} {news : Led}
    (dp un : Nat) (gd : Option (List Code)) (cn : Str) (cs : Scope) (a : Addr) (ccd : Value) (cl : List (Str × Addr)) (outer : List Env) (A₀ : Around) (base h₀ : Heap) (L : Addr) (m : Str → Option Value) (s : Shared) (Q : Value → Shared → Prop)
    (hh : hn = none) (B : Below A₀ base outer h₀) (F : Fr h₀ L s.heap m) (X : (Mine.hd.heap_39 w.params).In h₀) (N : News h₀ L s.heap news) (T : Top p loose mean mg mb h₀) (hk : cs.kind = .function)
    (hd : dp + 2 < recursionLimit) (hu : un + 20 < cLine)
    (hret : ∀ (b x dx : Addr) (M : WM) (tr tz : Tok) (h' : Heap) (tk' : Nat), Fr h₀ L h' m → News h₀ L h' (wrL b x dx M #[] 0 0 tr tz news) → WrF b x dx news → Q (.ref x) { s with heap := h', toks := tk' }) :
    wpS (model PySem.Challenge.pw_nt0540_01 w) ({ handled := hn, depth := dp, frames := some (envX cn cs L a ccd cl :: outer), guards := gd, units := un } : Around) (call (.ref 96) []) Q NoE s := by
  subst hh
  refine makeS (K := Mine.hd.heap_39 w.params) (fI := 72) F N (X.keeps F.keep) (by k_is) (by k_is) (by k_is) ?_
  intro x dx h1 F1 N1 l1 l2
  rw [under_tc]
  refine codeS_mono (init_spec (rest := news) l2 l1 (dp + 1) (un + 1) gd cn cs a ccd cl outer A₀ base h₀ L m _ (fun v s' => v = .none ∧ Q (.ref x) s') B F1 X N1 T hk (by omega) (by omega) ?_) fun r s' z => ?_
  · intro b M tr tz l3 l4 h2 tk2 F2 N2
    refine ⟨rfl, hret b x dx M tr tz h2 tk2 F2 N2 ⟨.inl l2, .inr l3, .inr (Nat.lt_trans l2 l3), fun q hq => Nat.ne_of_lt (l1 q hq), fun q hq => Nat.ne_of_lt (Nat.lt_trans (l1 q hq) l2), fun q hq => Nat.ne_of_lt (l4 q hq)⟩⟩
  · cases r with
    | ok f =>
      cases f with
      | ret v => exact z
      | _ => exact z.elim
    | error e => exact z.elim
theorem WrF.cons {b x dx I : Addr} {oI : Obj} {rest : Led} (W : WrF b x dx rest) (h1 : dx ≠ I) (h2 : x ≠ I) (h3 : b ≠ I) : WrF b x dx ((I, oI) :: rest) :=
  ⟨W.h1, W.h2, W.h3, fun q hq => by rcases List.mem_cons.mp hq with rfl | hq; exact h1.symm; exact W.r1 q hq, fun q hq => by rcases List.mem_cons.mp hq with rfl | hq; exact h2.symm; exact W.r2 q hq,
    fun q hq => by rcases List.mem_cons.mp hq with rfl | hq; exact h3.symm; exact W.r3 q hq⟩
theorem wr_in {h₀ h : Heap} {L b x dx I : Addr} {oI : Obj} {M : WM} {bs : Array UInt8} {r z : Int} {tr tz : Tok} {rest : Led} (N : News h₀ L h ((I, oI) :: wrL b x dx M bs r z tr tz rest)) : News h₀ L h (wrL b x dx M bs r z tr tz ((I, oI) :: rest)) :=
  news_sub N (by intro p hp; simp only [List.mem_cons] at hp ⊢; rcases hp with h | h | h | h | h <;> simp [h])
theorem wr_out {h₀ h : Heap} {L b x dx I : Addr} {oI : Obj} {M : WM} {bs : Array UInt8} {r z : Int} {tr tz : Tok} {rest : Led} (N : News h₀ L h (wrL b x dx M bs r z tr tz ((I, oI) :: rest))) : News h₀ L h ((I, oI) :: wrL b x dx M bs r z tr tz rest) :=
  news_sub N (by intro p hp; simp only [List.mem_cons] at hp ⊢; rcases hp with h | h | h | h | h <;> simp [h])
theorem rowBits_append (a b : List (Int × Int)) : rowBits (a ++ b) = rowBits a ++ rowBits b := by simp [rowBits]
theorem rowBits_take_le (nums : List (Int × Int)) (i : Nat) : (rowBits (nums.take i)).length ≤ (rowBits nums).length := by
  have := congrArg List.length (rowBits_append (nums.take i) (nums.drop i))
  rw [List.take_append_drop, List.length_append] at this
  omega
def WtJ (x b dx : Addr) (M : WM) (pd : Bool) (nums : List (Int × Int)) (news : Led) (i : Nat) (m : Str → Option Value) (news₁ : Led) : Prop :=
  ∃ (u : Str → Option Value) (bs : Array UInt8) (r z : Int) (tr tz : Tok), m = on "writer" (.ref x) (on "is_padded" (.bool pd) u) ∧ news₁ = wrL b x dx M bs r z tr tz news ∧ WrI (rowBits (nums.take i)) bs r z ∧ z < 8
def padBits (pd : Bool) (bits : List Bool) : List Bool := if pd then bits ++ List.replicate ((8 - bits.length % 8) % 8) true else bits
set_option maxRecDepth 100000 in
set_option maxHeartbeats 8000000 in
theorem written_spec {w : World} {p : Program} {loose : List Str} {mean : ExcName → Option Value} {mg mb : Str → Option Value}
    {q : Addr} {k : Nat} {vs : List Value} {nums : List (Int × Int)} {tup news : Led} {pd : Bool} (hN : Nums tup vs nums) (hT : ∀ e ∈ tup, e ∈ news) (hq : (q, listOf vs.toArray k) ∈ news) (hz : GoodNums nums) (hlen : (rowBits nums).length ≤ 90000) :
    CalledS none w p loose mean mg mb 189 [.ref q, .bool pd] news 6 80
      (fun P => ∀ (t : Tok) (new : Led), P (.bytes (packB (padBits pd (rowBits nums))) t) (new ++ news)) := by
  intro dp un gd cn cs a ccd cl outer A₀ base h₀ L m s Q B F X N T hk hd hu hret
  k_dflt (refine' defS ?k1 ?k2 ?k3 ?k4 ?k5 ?kA ?kF ?kK ?k6 ?k7 ?k8 ?k9 ?kB ?_ ?c2 ?c3 ?c4 ?c5; (case kA => exact rfl); (case kF => exact rfl); (case kK => assumption); (case k1 => k_asm); (case k2 => k_asm); (case k3 => k_asm); (case k4 => k_asm); (case k5 => k_asm); (case k6 => k_is); (case k7 => k_is); (case k8 => ktr_room); (case k9 => exact BindsTo.of_eq rfl); (case c5 => decide); (case kB => exact locs rfl); (case c2 => exact rfl); (case c3 => exact rfl); (case c4 => exact rfl); k_whole)
  intro g' L' h' FG' F' N' B' X' T'
  (try dsimp only)
  refine execsS_cons (AssignS (CallNameS ?_))
  w_strict (k_steps)
  refine callWithS_K0 (K := Mine.hd.heap_39 w.params) (X'.keeps F'.keep) (by k_is) ?_
  k_dflt (refine make_writer _ _ _ _ _ _ _ _ _ _ _ _ _ _ _ _ rfl B' F' X' N' T' rfl ?_ ?_ ?_)
  · show dp + 1 + 2 < recursionLimit; omega
  · show un + 3 + 20 < cLine; omega
  intro b x dx M tr tz h1 tk1 F1 N1 W
  dsimp only
  w_strict (k_steps)
  refine execsS_cons (ForS ?_)
  w_strict (k_steps)
  have hq1 : (q, listOf vs.toArray k) ∈ wrL b x dx M #[] 0 0 tr tz news := .tail _ (.tail _ (.tail _ hq))
  refine' list_loopS (WtJ x b dx M pd nums news) rfl hq1 (fun h e => PySem.IsL.isList (n := k) e) ?_ (by k_asm) (by k_asm) ?_ ?_ ?_
  · rintro i m₁ news₁ ⟨u, bs, r, z, tr, tz, rfl, rfl, _⟩; exact .tail _ (.tail _ (.tail _ hq))
  · exact ⟨_, #[], 0, 0, tr, tz, on2 (by exact rfl) (by exact rfl), rfl, WrI.zero, by decide⟩
  · rintro i v m₁ news₁ I oI s₁ hv ⟨u, bs, r, z, tr, tz, rfl, rfl, hW, hz8⟩ hI F2 N2
    have hi : i < nums.length := by
      rcases Nat.lt_or_ge i vs.length with h | h
      · rw [← hN.1]; exact h
      · rw [List.getElem?_eq_none h] at hv; cases hv
    obtain ⟨v0, z0, hz0⟩ : ∃ v0 z0, nums[i]? = some (v0, z0) := ⟨nums[i].1, nums[i].2, by simp [hi]⟩
    obtain ⟨a', tv, tz', e1, hmem⟩ := hN.2 i v0 z0 hz0
    rw [e1] at hv
    cases hv
    have hm := hT _ hmem
    obtain ⟨z0a, z0b, z0c, z0d⟩ := hz _ (List.mem_of_getElem? hz0)
    dsimp only at z0a z0b z0c z0d
    have hbl : (rowBits (nums.take i)).length ≤ 100000 := Nat.le_trans (rowBits_take_le _ _) (by omega)
    have W2 : WrF b x dx ((I, oI) :: news) := W.cons (hI _ (.tail _ (.tail _ (.head _)))) (hI _ (.tail _ (.head _))) (hI _ (.head _))
    have hm2 : (a', tupO [.int v0 tv, .int z0 tz']) ∈ (I, oI) :: wrL b x dx M bs r z tr tz news := .tail _ (.tail _ (.tail _ (.tail _ hm)))
    dsimp only [wrL, wrD] at N2 hm2
    w_strict (k_steps)
    refine execsS_cons (ExprS (MethodS ?_))
    w_strict (k_steps)
    dsimp only
    refine callWithS_K (K := Mine.hd.heap_39 w.params) (by k_is) ?_
    w_strict (k_steps)
    refine wpS_call ?_
    rename Fr _ _ _ _ => F3
    rename News _ _ _ _ => N3
    k_dflt (refine put_spec (M := M) (bs := bs) (r := r) (z := z) (tr := tr) (tz := tz) (rest := (I, oI) :: news) W2 hW hz8 hbl z0a (by omega) z0c z0d _ _ _ _ _ _ _ _ _ _ _ _ _ _ _ _ B' F3 X' (wr_in N3) T' rfl ?_ ?_ ?_)
    · show dp + 1 + 1 < recursionLimit; omega
    · show un + 3 + 16 < cLine; omega
    intro bs' r' z' tr' tz' hW' hz' h3 tk3 F4 N4
    refine execsS_nil ?_
    refine TurnT.next F4 (wr_out N4) ?_ ?_
    · intro p hp
      rcases List.mem_cons.mp hp with rfl | hp
      · exact hI (b, baO bs) (.head _)
      rcases List.mem_cons.mp hp with rfl | hp
      · exact hI _ (.tail _ (.head _))
      rcases List.mem_cons.mp hp with rfl | hp
      · exact hI (dx, wrD M b r z tr tz) (.tail _ (.tail _ (.head _)))
      exact hI p (.tail _ (.tail _ (.tail _ hp)))
    · exact ⟨_, bs', r', z', tr', tz', on2 (by exact rfl) (by exact rfl), rfl, by rw [rowBits_take hz0]; exact hW', hz'⟩
  · rintro m₁ news₁ h2 tk2 ⟨u, bs, r, z, tr, tz, rfl, rfl, hW, hz8⟩ F2 N2
    have e : nums.take vs.length = nums := List.take_of_length_le (Nat.le_of_eq hN.1.symm)
    rw [e] at hW
    dsimp only
    dsimp only [wrL, wrD] at N2
    have hln : (rowBits nums).length = bs.size * 8 + z := by have := hW.range; omega
    cases pd
    · refine execsS_cons (IfS (wpS_any ?_))
      w_strict (k_steps)
      refine execsS_nil ?_
      dsimp only
      refine execsS_cons (ReturnS (MethodS ?_))
      w_strict (k_steps)
      dsimp only
      refine callWithS_K0 (K := Mine.hd.heap_39 w.params) (X'.keeps F2.keep) (by k_is) (wpS_any ?_)
      have hsz : bs.size ≤ sizeLine := by have := hW.range; rw [sizeLine_eq]; omega
      k_dflt (refine octets_spec (M := M) (bs := bs) (r := r) (z := z) (tr := tr) (tz := tz) (rest := news) hsz _ _ _ _ _ _ _ _ _ _ _ _ _ _ _ _ _ B' F2 X' N2 T' rfl ?_ ?_ trivial ?_)
      · show dp + 1 + 1 < recursionLimit; omega
      · show un + 3 + 16 < cLine; omega
      intro t h6 tk6 F6 N6
      w_strict (k_steps)
      rw [hW.octets hz8]
      exact hret t [(b, baO bs), (x, instObj 96 dx), (dx, wrD M b r z tr tz)] _ _ (by k_asm) (by k_asm)
    · refine execsS_cons (IfS (wpS_any ?_))
      w_strict (k_steps)
      refine execsS_cons (ExprS (MethodS ?_))
      w_strict (k_steps)
      dsimp only
      refine callWithS_K0 (K := Mine.hd.heap_39 w.params) (X'.keeps F2.keep) (by k_is) (wpS_call ?_)
      k_dflt (refine pad_spec (M := M) (bs := bs) (r := r) (z := z) (tr := tr) (tz := tz) (rest := news) W hW hz8 (by omega) _ _ _ _ _ _ _ _ _ _ _ _ _ _ _ _ B' F2 X' N2 T' rfl ?_ ?_ ?_)
      · show dp + 1 + 3 < recursionLimit; omega
      · show un + 3 + 40 < cLine; omega
      intro bs' r' z' tr' tz' hW' hz' h3 tk3 F4 N4
      refine execsS_nil ?_
      dsimp only
      dsimp only [wrL, wrD] at N4
      have hcnt : (if z = 0 then 0 else (8 - z).toNat) = (8 - (rowBits nums).length % 8) % 8 := by
        have := hW.range
        split <;> omega
      rw [hcnt] at hW'
      have hl' : (rowBits nums ++ List.replicate ((8 - (rowBits nums).length % 8) % 8) true).length ≤ 90008 := by rw [List.length_append, List.length_replicate]; omega
      refine execsS_cons (ReturnS (MethodS ?_))
      w_strict (k_steps)
      dsimp only
      refine callWithS_K0 (K := Mine.hd.heap_39 w.params) (X'.keeps F4.keep) (by k_is) (wpS_any ?_)
      have hsz : bs'.size ≤ sizeLine := by have := hW'.range; rw [sizeLine_eq]; omega
      k_dflt (refine octets_spec (M := M) (bs := bs') (r := r') (z := z') (tr := tr') (tz := tz') (rest := news) hsz _ _ _ _ _ _ _ _ _ _ _ _ _ _ _ _ _ B' F4 X' N4 T' rfl ?_ ?_ trivial ?_)
      · show dp + 1 + 1 < recursionLimit; omega
      · show un + 3 + 16 < cLine; omega
      intro t h6 tk6 F6 N6
      w_strict (k_steps)
      rw [hW'.octets hz']
      exact hret t [(b, baO bs'), (x, instObj 96 dx), (dx, wrD M b r' z' tr' tz')] _ _ (by k_asm) (by k_asm)
end Mine
end
section
open PySem PySem.W PySem.Calls PyProof.Rows PySem.Spec
set_option maxRecDepth 100000
namespace Mine
section
variable {prog : Program} {w : World} {A : Around} {s : Shared} {env : Env} {g₀ : Heap} {target : Expr} {body : List Stmt} {Q : Flow → Shared → Prop}
def TurnGr (G : Heap → Prop) (L I : Addr) (oI : Obj) (Jn : (Str → Option Value) → Led → Prop) (s₁ : Shared) (Q : Flow → Shared → Prop) (f : Flow) (s₂ : Shared) : Prop :=
  match f with
  | .next => ∃ g' h' tk m' news', s₂ = { s₁ with heap := h', toks := tk } ∧ G g' ∧ Fr g' L h' m' ∧ News g' L h' ((I, oI) :: news') ∧ (∀ p ∈ news', p.1 ≠ I) ∧ Jn m' news'
  | .ret v => Q (.ret v) s₂
  | _ => False
theorem TurnGr.next {G : Heap → Prop} {g' : Heap} {L I : Addr} {oI : Obj} {Jn : (Str → Option Value) → Led → Prop} {s₁ : Shared} {h' : Heap} {tk : Nat} {m' : Str → Option Value} {news' : Led} {Q : Flow → Shared → Prop}
    (hG : G g') (F : Fr g' L h' m') (N : News g' L h' ((I, oI) :: news')) (hne : ∀ p ∈ news', p.1 ≠ I) (hJ : Jn m' news') : TurnGr G L I oI Jn s₁ Q .next { s₁ with heap := h', toks := tk } :=
  ⟨g', h', tk, m', news', rfl, hG, F, N, hne, hJ⟩
theorem tuple_loopG {l : Addr} {vs : List Value} {m₀ : Str → Option Value} {news : Led} (G : Heap → Prop) (J : Nat → (Str → Option Value) → Led → Prop)
    (hh : A.handled = none) (hm : (l, tupO vs) ∈ news) (hkeep : ∀ i m₁ news₁, J i m₁ news₁ → (l, tupO vs) ∈ news₁) (F : Fr g₀ env.locals s.heap m₀) (N : News g₀ env.locals s.heap news) (hG : G g₀) (hj : J 0 m₀ news)
    (turn : ∀ i v g m₁ news₁ I oI (s₁ : Shared), vs[i]? = some v → G g → J i m₁ news₁ → (∀ p ∈ news₁, p.1 ≠ I) → (∃ h tk, s₁ = { s with heap := h, toks := tk }) → Fr g env.locals s₁.heap m₁ → News g env.locals s₁.heap ((I, oI) :: news₁) →
      wpAny (model prog w) A (assign target env v) (fun _ s₃ => wpS (model prog w) A (execs body env) (TurnGr G env.locals I oI (J (i + 1)) s₁ Q) NoE s₃) NoE s₁)
    (done : ∀ g m₁ news₁ h tk, G g → J vs.length m₁ news₁ → Fr g env.locals h m₁ → News g env.locals h news₁ → Q .next { s with heap := h, toks := tk }) :
    wpAny (model prog w) A (pyIter (.ref l)) (fun it s₂ => codeS (model prog w) A (.forLoop target it body [] env) (fun r s' => match r with | .ok f => Q f s' | .error _ => False) s₂) NoE s := by
  have tup : ∀ {h : Heap}, h.get? l = some (tupO vs) → h.IsTuple l vs.toArray := fun e => ⟨_, e, rfl, _, rfl⟩
  have hls : s.heap.IsTuple l vs.toArray := tup (N _ hm).1
  have hne : l ≠ s.heap.objs.size := Nat.ne_of_lt (Heap.lt_size (N _ hm).1)
  refine wpAny_pyIter_tuple hls ?_
  have W := Walks.tuple (prog := prog) (w := w) hh s.heap.objs.size l hne vs.toArray
  have hlen : vs.toArray.size = vs.length := by simp
  rw [hlen] at W
  have hLI : env.locals ≠ s.heap.objs.size := Nat.ne_of_lt F.ns.lt
  refine codeS_forLoop (fun k s' => ∃ g h' tk m' news' i oI, s' = { s with heap := h', toks := tk } ∧ h'.IsTupleIter s.heap.objs.size l i ∧ G g ∧ Fr g env.locals h' m' ∧ News g env.locals h' ((s.heap.objs.size, oI) :: news') ∧ (∀ p ∈ news', p.1 ≠ s.heap.objs.size) ∧ J i m' news' ∧ i ≤ vs.length ∧ k = vs.length + 1 - i) ?_ (vs.length + 1)
    ⟨g₀, _, _, m₀, news, 0, _, rfl, ⟨_, Heap.get?_push_size _ rfl, rfl, rfl⟩, hG, F.push _, (fun p hp => by
      rcases List.mem_cons.mp hp with rfl | hp
      · exact ⟨Heap.get?_push_size _ rfl, hLI.symm, next_is_new F⟩
      · exact ⟨Heap.get?_push_of_some _ (N p hp).1, (N p hp).2⟩), (fun p hp => Nat.ne_of_lt (Heap.lt_size (N p hp).1)), hj, Nat.zero_le _, rfl⟩
  rintro k s' ⟨g, h', tk, m', news', i, oI, rfl, hit, hg, F', N', hn', hJ, hi, rfl⟩
  have hl' : h'.IsTuple l vs.toArray := tup (N' _ (.tail _ (hkeep _ _ _ hJ))).1
  have hnew := (N' _ (.head _)).2.2
  have next : ∀ h₁ : Heap, (∀ b o, b ∉ [s.heap.objs.size] → h'.get? b = some o → h₁.get? b = some o) → Fr g env.locals h₁ m' ∧ News g env.locals h₁ news' := fun h₁ hk₁ =>
    ⟨⟨F'.ns.at' fun o e => hk₁ _ o (by simpa using hLI) e, fun b o e => hk₁ b o (by
      intro q
      have q : b = s.heap.objs.size := by simpa using q
      rw [← q, e] at hnew; cases hnew) (F'.keep b o e), F'.above⟩, fun p hp => ⟨hk₁ _ _ (by simpa using hn' p hp) (N' p (.tail _ hp)).1, (N' p (.tail _ hp)).2⟩⟩
  by_cases hlt : i < vs.length
  · refine W.item i _ _ _ hlt ⟨hit, hl'⟩ fun v h₁ tk₁ hP hst₁ hk₁ => ?_
    obtain ⟨F₁, N₁⟩ := next h₁ hk₁
    have hP' : vs[i]? = some v := by simpa using hP
    obtain ⟨hit₁, _⟩ := hst₁
    obtain ⟨oI₁, hI, hIc, hId⟩ := id hit₁
    have NI : News g env.locals h₁ ((s.heap.objs.size, oI₁) :: news') := by
      intro p hp
      rcases List.mem_cons.mp hp with rfl | hp
      · exact ⟨hI, hLI.symm, hnew⟩
      · exact N₁ p hp
    refine letGo_tupleiter (s' := { s with heap := h₁, toks := tk₁ }) hit₁ ?_
    refine wpAny_mono (turn i v g m' news' s.heap.objs.size oI₁ { s with heap := h₁, toks := tk₁ } hP' hg hJ hn' ⟨_, _, rfl⟩ F₁ NI) (fun _ s₂ h₂ => wpS_mono h₂ (fun f s₃ h₃ => ?_) fun _ _ e => e) fun _ _ e => e
    cases f with
    | next =>
      obtain ⟨g₃, h₃', tk₃, m₂, news₂, rfl, hg₃, F₃, N₃, ha₃, hJ₃⟩ := h₃
      exact ⟨vs.length + 1 - (i + 1), by omega, g₃, h₃', tk₃, m₂, news₂, i + 1, oI₁, rfl, ⟨oI₁, (N₃ _ (.head _)).1, hIc, hId⟩, hg₃, F₃, N₃, ha₃, hJ₃, hlt, rfl⟩
    | ret v => exact h₃
    | brk => exact h₃.elim
    | cont => exact h₃.elim
  · have hin : i = vs.length := by omega
    subst hin
    refine W.done _ _ _ ⟨hit, hl'⟩ fun h₁ tk₁ hk₁ => ?_
    obtain ⟨F₁, N₁⟩ := next h₁ hk₁
    exact done g m' news' h₁ tk₁ hg hJ F₁ N₁
end
end Mine
end
section
open PySem PySem.W PySem.Calls PyProof.Rows PySem.Spec
set_option maxRecDepth 100000
namespace Mine
def LeaveT (h₀ : Heap) (L : Addr) (m : Str → Option Value) (g : Heap) (R : Result → Shared → Prop) (v : Value) (s' : Shared) : Prop :=
  ∃ g' L' m' news', KtsTurn [L] g g' ∧ Fr g' L' s'.heap m' ∧ News g' L' s'.heap news' ∧ (Fr h₀ L s'.heap m → News h₀ L s'.heap news' → R (.ok (.ret v)) s')
theorem leaveT {h₀ g g' : Heap} {L L' : Addr} {m m' : Str → Option Value} {news' : Led} {R : Result → Shared → Prop} {v : Value} {s' : Shared} (F' : Fr g' L' s'.heap m') (N' : News g' L' s'.heap news') (T : KtsTurn [L] g g')
    (k : Fr h₀ L s'.heap m → News h₀ L s'.heap news' → R (.ok (.ret v)) s') : LeaveT h₀ L m g R v s' := ⟨g', L', m', news', T, F', N', k⟩
section
variable {prog : Program} {w : World} {A₀ A : Around} {s : Shared} {base h₀ : Heap} {outer : List Env} {L : Addr} {m : Str → Option Value} {env : Env} {news : Led} {K : Frag} {p : Program} {loose : List Str} {mean : ExcName → Option Value} {mg mb : Str → Option Value}
  {R : Result → Shared → Prop} {name qual : Str} {params : Arguments} {body : List Stmt} {scope : Scope} {dV kV doc pm cdv ct oc : Value} {an od : Option Addr} {osl : Array (Option Value)} {f : Addr} {args : Args} {binds : List (Str × Value)}
theorem groundT (F : Fr h₀ L s.heap m) (N : News h₀ L s.heap news) :
    ∀ v s', LeaveT h₀ L m (hideAll s.heap (news.map (·.1))) R v s' → R (.ok (.ret v)) s' := by
  intro v s' hl
  have nm : ∀ b o, h₀.get? b = some o → b ∉ news.map (·.1) := fun b o e q => by
    obtain ⟨p, hp, rfl⟩ := List.mem_map.mp q
    rw [(N p hp).2.2] at e; cases e
  have st : h₀.StaysIn (hideAll s.heap (news.map (·.1))) := fun b o e => hideAll_get _ (F.keep b o e) (nm b o e)
  obtain ⟨oL, es, ep, hL, hLd, hLk, hLf⟩ := F.ns
  have nL : L ∉ news.map (·.1) := fun q => by
    obtain ⟨p, hp, e⟩ := List.mem_map.mp q
    exact (N p hp).2.1 e
  have hLg := hideAll_get (news.map (·.1)) hL nL
  obtain ⟨g', L', m', news', T', F', N', k⟩ := hl
  have nL₀ : h₀.get? L = none := kts_self F
  obtain ⟨sl, hs⟩ := T'.up hLg
  refine k ⟨⟨_, es, ep, F'.keep _ _ hs, hLd, hLk, hLf⟩, fun b o e => F'.keep b o (T'.other b o (st b o e) (fun q => by
    obtain rfl : b = L := by simpa using q
    rw [nL₀] at e; cases e)), F.above⟩ fun p hp => ⟨(N' p hp).1, fun q => ?_, ?_⟩
  · have := (N' p hp).2.2; rw [q, hs] at this; cases this
  · cases q : h₀.get? p.1 with
    | none => rfl
    | some o =>
      obtain ⟨sl', hs'⟩ := T'.up (st _ _ q)
      have := (N' p hp).2.2
      rw [hs'] at this
      cases this
theorem defS0 (B : Below A₀ base outer h₀) (F : Fr h₀ L s.heap m) (X₀ : K.In h₀) (N : News h₀ L s.heap news) (T : Top p loose mean mg mb h₀) (hA : A.frames = some (env :: outer)) (hf : env.frame = some L) (hke : env.scope.kind = .function)
    (ho : K.lookup f = some ⟨oc, od, .func (fnX name qual params body scope [] dV kV doc pm an cdv ct), osl⟩) (hcd : codeIn K cdv qual = true) (hroom : A.depth < recursionLimit)
    (hbind : BindsTo s (fnX name qual params body scope [] dV kV doc pm an cdv ct) args binds) (hloc : ∀ y ∈ binds, scope.names.lookup y.1 = some .local)
    (h : ∀ g L' h₁, Fr h₀ L g m → Fr g L' h₁ (fun y => binds.reverse.lookup y) → News g L' h₁ news → Below A base (env :: outer) g → K.In g → Top p loose mean mg mb g →
      wpS (model prog w) (A.deeper (envOf qual scope L' f cdv)) (execs body (envOf qual scope L' f cdv))
        (fun fl s' => LeaveT h₀ L m g R (match fl with | .ret v => v | _ => .none) s') NoE
        { s with heap := h₁, toks := s.toks + binds.length })
    (hco : scope.isCoroutine = false) (hgen : scope.isGenerator = false) (hk : scope.kind = .function) (hcell : ∀ x ∈ scope.names, x.2 ≠ .cell) : codeS (model prog w) A (.call (.ref f) args) R s := by
  have X := X₀.keeps F.keep
  obtain ⟨FG, BG, st, _⟩ := groundX (R := R) B F N hA hf hke
  have lv := groundT (R := R) F N
  have hlim := T.nolimit
  refine codeS_call_function (fd := fnX name qual params body scope [] dV kV doc pm an cdv ct) (body := body) hroom (X _ _ ho) rfl hco hgen rfl (codeRec_of X hcd) (hbind _ _ _ _ ?_)
  refine wpAny_newFunctionEnv hcell hloc (fun h₁ hns hsb => ⟨(hlim.keeps F.keep).fresh _ hsb, codeS_func ?_⟩) hk
  have hk₁ : ∀ b o, s.heap.get? b = some o → h₁.get? b = some o := fun b o e => hsb.extBut b o (Nat.ne_of_lt (Heap.lt_size e)) (Heap.get?_push_of_some _ e)
  exact wpS_mono (h _ s.heap.objs.size h₁ FG ⟨hns, fun b o e => hk₁ b o (of_hideAll _ e), Nat.le_of_eq (hideAll_size _ _)⟩
    (fun p hp => ⟨hk₁ _ _ (N p hp).1, Nat.ne_of_lt (Heap.lt_size (N p hp).1), hideAll_none _ (List.mem_map_of_mem hp)⟩) BG (X₀.keeps st) (T.keeps st)) (fun fl s' hl => lv _ _ hl) fun _ _ y => y
end
end Mine
end
section
open PySem PySem.W PySem.Calls PyProof.Rows PySem.Spec
namespace Mine
theorem reset_NT_refused : True := by
  w_top off
  exact True.intro
local macro_rules | `(tactic| k_all) => `(tactic| with_reducible assumption)
local macro_rules | `(tactic| walk_at "exec For Tuple Name cons nil") => `(tactic| (k_here; (rename Fr _ _ _ _ => lF'); (with_unfolding_all refine' For_invTF lF' ?_ ?k2; (case k2 => (intro _; rfl)); k_whole)))
local macro_rules | `(tactic| walk_at "exec For Name Call cons nil") => `(tactic| (k_here; (rename Fr _ _ _ _ => lF'); (with_unfolding_all refine' For_M lF' ?k1 ?k2 ?_; (case k1 => exact rfl); (case k2 => exact rfl); k_whole)))
local macro_rules | `(tactic| walk_at "call type:range") => `(tactic| (k_here; (with_reducible show wpAny _ _ (call _ [_]) _ _ _); k_dflt (refine' range1_rows ?F ?N ?_; (case F => k_asm); (case N => k_asm); k_whole); intro h' tk t₁ u₁ v₁ rgX F' N' st'))
local macro_rules | `(tactic| walk_at "call type:range") => `(tactic| (k_here; (with_reducible show wpAny _ _ (call _ [_, _, _]) _ _ _); k_dflt (refine' range3_rows ?F ?N ?c ?_; (case F => k_asm); (case N => k_asm); (case c => decide); k_whole); intro h' tk t₁ u₁ v₁ rgX F' N' st'))
local macro_rules | `(tactic| k_mem) => `(tactic| assumption)
local macro_rules | `(tactic| size_fits) => `(tactic| (simp only [List.size_toArray]; rw [sizeLine_eq]; omega))
local macro_rules | `(tactic| walk_at "binaryOp LShift int int") => `(tactic| (k_here; (with_reducible refine lshift_int_small ?kb1 ?kb2 ?kb3 ?_); (case kb1 => omega); (case kb2 => omega); (case kb3 => omega)))
local macro_rules | `(tactic| walk_at "call ref") => `(tactic| (k_here; (with_reducible show wpAny _ _ (call (Value.ref 156) _) _ _ _); k_dflt (refine' take_use ?U ?h0 ?h1 ?h1' ?ht ?ht2 _ _ _ _ _ _ _ _ _ _ _ _ _ _ _ _ _ ?B ?F ?X ?N ?T ?K ?d ?u True.intro ?_; (case B => k_asm); (case F => k_asm); (case X => k_asm); (case N => k_asm); (case T => k_asm); (case K => exact rfl); (case U => k_updF); (case h0 => assumption); (case h1 => assumption); (case h1' => assumption); (case ht => omega); (case ht2 => omega); (case d => ktr_room); (case u => ktr_units); k_whole); intro y0 y1 r u0 u1 ur hy0 hy1 hy1' hr0 hr1 h' tk' F' N'; (try dsimp only at N')))
local macro_rules | `(tactic| walk_at "call ref") => `(tactic| (k_here; (with_reducible show wpAny _ _ (call (Value.ref 93) _) _ _ _); k_dflt (refine' octets_spec ?z _ _ _ _ _ _ _ _ _ _ _ _ _ _ _ _ _ ?B ?F ?X ?N ?T ?K ?d ?u True.intro ?_; (case N => k_asm); (case B => k_asm); (case F => k_asm); (case X => k_asm); (case T => k_asm); (case K => exact rfl); (case z => assumption); (case d => ktr_room); (case u => ktr_units); k_whole); intro tB h' tk' F' N'; (try dsimp only [wrL, wrD] at N')))
abbrev CalledT (w : World) (p : Program) (loose : List Str) (mean : ExcName → Option Value) (mg mb : Str → Option Value) (f : Addr) (vs : List Value) (news : Led) (dd uu : Nat)
    (Ret : (Value → Led → Prop) → Prop) : Prop :=
  ∀ (dp un : Nat) (gd : Option (List Code)) (cn : Str) (cs : Scope) (a : Addr) (ccd : Value) (cl : List (Str × Addr)) (A₀ : Around) (base h₀ : Heap) (L : Addr) (m : Str → Option Value) (s : Shared) (Q : Value → Shared → Prop),
    Below A₀ base [] h₀ → Fr h₀ L s.heap m → (Mine.hd.heap_39 w.params).In h₀ → News h₀ L s.heap news → Top p loose mean mg mb h₀ → cs.kind = .function →
    (Mine.hd.heap_39 w.params).In base → Top p loose mean mg mb base →
    dp + dd < recursionLimit → un + uu < cLine →
    Ret (fun v news' => ∀ (h' : Heap) (tk' : Nat), Fr h₀ L h' m → News h₀ L h' news' → Q v { s with heap := h', toks := tk' }) →
      codeS (model PySem.Challenge.pw_nt0540_01 w) ({ handled := none, depth := dp, frames := some [envX cn cs L a ccd cl], guards := gd, units := un } : Around) (.call (.ref f) ⟨vs, []⟩)
        (fun r s' => match r with | .ok (.ret v) => Q v s' | .ok _ => False | .error e => NoE e s') s
def RfJ (b x dx src : Addr) (M : WM) (ah : Int) (ta : Tok) (rest : Led) (i : Nat) (m : Str → Option Value) (news₁ : Led) : Prop :=
  ∃ (u : Str → Option Value) (bs : Array UInt8) (r z : Int) (tr tz : Tok), m = on "writer" (.ref x) (on "ahead" (.int ah ta) u) ∧ news₁ = wrL b x dx M bs r z tr tz rest ∧ WrI (List.replicate (ah.toNat + i) true) bs r z ∧ z < 8
theorem ltOfNe {a b : Addr} (h : a ≠ b) : LT.lt (α := Nat) a b ∨ LT.lt (α := Nat) b a := Nat.lt_or_gt_of_ne h
theorem packB_ones (n : Nat) : packB (List.replicate n true) = (List.replicate (n / 8) (255 : UInt8)).toArray := by
  unfold packB
  congr 1
  rw [List.length_replicate, List.eq_replicate_iff]
  refine ⟨by simp, fun b hb => ?_⟩
  obtain ⟨k, hk, rfl⟩ := List.mem_map.mp hb
  rw [List.mem_range] at hk
  rw [List.drop_replicate, List.take_replicate, Nat.min_eq_left (by omega)]
  decide
theorem WrF.swap {b x dx a : Addr} {o o' : Obj} {rest : Led} (W : WrF b x dx ((a, o) :: rest)) : WrF b x dx ((a, o') :: rest) :=
  ⟨W.h1, W.h2, W.h3, fun q hq => by rcases List.mem_cons.mp hq with rfl | hq; exact W.r1 (a, o) (.head _); exact W.r1 _ (.tail _ hq),
    fun q hq => by rcases List.mem_cons.mp hq with rfl | hq; exact W.r2 (a, o) (.head _); exact W.r2 _ (.tail _ hq), fun q hq => by rcases List.mem_cons.mp hq with rfl | hq; exact W.r3 (a, o) (.head _); exact W.r3 _ (.tail _ hq)⟩
theorem rf_ledger {g h : Heap} {L D1 D2 D3 D4 b x dx src : Addr} {o1 o2 o3 o4 os os' : Obj} {M : WM} {bs : Array UInt8} {r z : Int} {tr tz : Tok} {rest : Led}
    (N : News g L h ((D4, o4) :: (D3, o3) :: (D2, o2) :: (D1, o1) :: (b, baO bs) :: (x, instObj 96 dx) :: (dx, wrD M b r z tr tz) :: (src, os) :: rest)) (W : WrF b x dx ((src, os') :: rest))
    (a1 : b < D1) (a2 : x < D1) (a3 : dx < D1) (b1 : b < D2) (b2 : x < D2) (b3 : dx < D2) (c1 : b < D3) (c2 : x < D3) (c3 : dx < D3) (d1 : b < D4) (d2 : x < D4) (d3 : dx < D4) :
    ∃ R7 : Led, (D4, o4) ∈ R7 ∧ (D3, o3) ∈ R7 ∧ (D2, o2) ∈ R7 ∧ (D1, o1) ∈ R7 ∧ (∀ e ∈ rest, e ∈ R7) ∧ WrF b x dx R7 ∧ News g L h (wrL b x dx M bs r z tr tz R7) := by
  refine ⟨(D4, o4) :: (D3, o3) :: (D2, o2) :: (D1, o1) :: (src, os) :: rest, .head _, .tail _ (.head _), .tail _ (.tail _ (.head _)), .tail _ (.tail _ (.tail _ (.head _))), fun e he => .tail _ (.tail _ (.tail _ (.tail _ (.tail _ he)))), ?_, news_sub N ?_⟩
  · exact WrF.cons (WrF.cons (WrF.cons (WrF.cons W.swap (Nat.ne_of_lt a3) (Nat.ne_of_lt a2) (Nat.ne_of_lt a1)) (Nat.ne_of_lt b3) (Nat.ne_of_lt b2) (Nat.ne_of_lt b1)) (Nat.ne_of_lt c3) (Nat.ne_of_lt c2) (Nat.ne_of_lt c1)) (Nat.ne_of_lt d3) (Nat.ne_of_lt d2) (Nat.ne_of_lt d1)
  · intro p hp
    simp only [List.mem_cons] at hp ⊢
    rcases hp with h | h | h | h | h | h | h | h | h <;> simp [h]
set_option maxRecDepth 100000 in
set_option maxHeartbeats 8000000 in
theorem refused_spec {w : World} {p : Program} {loose : List Str} {mean : ExcName → Option Value} {mg mb : Str → Option Value}
    {src : Addr} {rest : Led} {x0 x1 : Int} {t0 t1 : Tok} {n : Nat}
    (h0 : 0 ≤ x0) (h1 : 0 ≤ x1) (h1' : x1 < 2147483647) (hne : ∀ q ∈ rest, q.1 ≠ src) :
    CalledT w p loose mean mg mb 196 [.ref src] ((src, listOf #[.int x0 t0, .int x1 t1] n) :: rest) 8 100
      (fun P => P (.bool true) rest) := by
  intro dp un gd cn cs a ccd cl A₀ base h₀ L m s Q B F X N T hk XB TB hd hu hret
  k_dflt (refine' defS0 ?k1 ?k2 ?k3 ?k4 ?k5 ?kA ?kF ?kK ?k6 ?k7 ?k8 ?k9 ?kB ?_ ?c2 ?c3 ?c4 ?c5; (case kA => exact rfl); (case kF => exact rfl); (case kK => assumption); (case k1 => k_asm); (case k2 => k_asm); (case k3 => k_asm); (case k4 => k_asm); (case k5 => k_asm); (case k6 => k_is); (case k7 => k_is); (case k8 => ktr_room); (case k9 => exact BindsTo.of_eq rfl); (case c5 => decide); (case kB => exact locs rfl); (case c2 => exact rfl); (case c3 => exact rfl); (case c4 => exact rfl); k_whole)
  intro g' L' h' FG' F' N' B' X' T'
  (try dsimp only)
  refine execsS_cons (AssignS (CallNameS ?_))
  w_strict (k_steps)
  refine callWithS_K0 (K := Mine.hd.heap_39 w.params) (X'.keeps F'.keep) (by k_is) ?_
  k_dflt (refine make_writer _ _ _ _ _ _ _ _ _ _ _ _ _ _ _ _ rfl B' F' X' N' T' rfl ?_ ?_ ?_)
  · show dp + 1 + 2 < recursionLimit; omega
  · show un + 3 + 20 < cLine; omega
  intro b x dx M tr tz h2 tk1 F1 N1 W
  dsimp only
  have d1 := ltOfNe (W.r1 _ (.head _))
  have d2 := ltOfNe (W.r2 _ (.head _))
  have d3 := ltOfNe (W.r3 _ (.head _))
  have d4 := W.h1
  have d5 := W.h2
  have d6 := W.h3
  dsimp only at d1 d2 d3
  dsimp only [wrL, wrD] at N1
  w_strict (k_steps)
  refine execsS_leaf ?_
  w_strict (k_steps)
  rename_i y0 y1 ah u0 u1 ta hy0 hy1 hy1' ha0 ha1 h3a tk3 h3 F3 N3
  refine execsS_cons (ExprS (MethodS ?_))
  w_strict (k_steps)
  dsimp only
  refine callWithS_K (K := Mine.hd.heap_39 w.params) (by k_is) ?_
  w_strict (k_steps)
  refine wpS_call ?_
  have W3 : WrF b x dx ((src, listOf #[.int y0 u0, .int y1 u1] n) :: rest) := W.swap
  k_dflt (refine put_spec (M := M) (bs := #[]) (r := 0) (z := 0) (tr := tr) (tz := tz) (rest := (src, listOf #[.int y0 u0, .int y1 u1] n) :: rest) (bits := []) W3 WrI.zero (by decide) (by decide) ha0 (by omega) (ones_nn _) (ones_lt _) _ _ _ _ _ _ _ _ _ _ _ _ _ _ _ _ B' F3 X' N3 T' rfl ?_ ?_ ?_)
  · show dp + 1 + 1 < recursionLimit; omega
  · show un + 3 + 16 < cLine; omega
  intro bs4 r4 z4 tr4 tz4 hW4 hz4 h4 tk4 F4 N4
  dsimp only
  rw [show (1 * 2 ^ ah.toNat - 1 : Int) = 2 ^ ah.toNat - 1 by omega, bitsZ_ones _ (Nat.le_refl _), List.nil_append] at hW4
  dsimp only [wrL, wrD] at N4
  refine execsS_leaf ?_
  w_strict (k_steps)
  rename_i y2 y3 sz u2 u3 ts hy2 hy3 hy3' hs0 hs1 h5a tk5 h5 F5 N5
  refine execsS_cons (ForS ?_)
  w_strict (k_steps)
  rename_i D1 h7 l1 D2 h8 l2 D3 h9 l3 D4 h6 F6 N6 l4
  obtain ⟨R7, m4, m3, m2, m1, mR, W7, N7⟩ := rf_ledger (M := M) (bs := bs4) (r := r4) (z := z4) (tr := tr4) (tz := tz4) N6 W3 l1.1 l1.2.1 l1.2.2.1 l2.2.1 l2.2.2.1 l2.2.2.2.1 l3.2.2.1 l3.2.2.2.1 l3.2.2.2.2.1 l4.2.2.2.1 l4.2.2.2.2.1 l4.2.2.2.2.2.1
  clear l1 l2 l3 l4 N6
  refine' tuple_loopG (vs := [.ref D1, .ref D2, .ref D3]) (fun g => KtsTurn [L] g' g ∧ Below { handled := none, depth := dp, frames := some [envX cn cs L a ccd cl], guards := gd, units := un } base [envX cn cs L a ccd cl] g ∧ (Mine.hd.heap_39 w.params).In g ∧ Top p loose mean mg mb g)
    (RfJ b x dx src M ah ta R7) rfl (.tail _ (.tail _ (.tail _ m4))) ?_ (by k_asm) N7 ⟨KtsTurn.refl, B', X', T'⟩ ?_ ?_ ?_
  · rintro i m₁ news₁ ⟨u, bs, r, z, tr, tz, rfl, rfl, _⟩; exact .tail _ (.tail _ (.tail _ m4))
  · exact ⟨_, bs4, r4, z4, tr4, tz4, on2 (by exact rfl) (by exact rfl), rfl, hW4, hz4⟩
  · rintro i v g m₁ news₁ I oI s₁ hv ⟨GT, GB, GX, GTop⟩ ⟨u, bs, r, z, tr, tz, rfl, rfl, hW, hz8⟩ hI ⟨h7, tk7, rfl⟩ F7 N8
    have hi : i ≤ 2 := by
      rcases Nat.lt_or_ge i 3 with h | h
      · omega
      · rw [List.getElem?_eq_none (by simpa using h)] at hv; cases hv
    obtain ⟨D, val, many, tv, tm, rfl, hmem, hmany, hbad⟩ : ∃ (D : Addr) (val many : Int) (tv tm : Tok), v = .ref D ∧ (D, tupO [.int val tv, .int many tm]) ∈ R7 ∧ many ≤ 60 ∧ (many < 0 ∨ 0 ≤ many ∧ val < 0 ∨ 0 ≤ many ∧ 0 ≤ val ∧ 1 * 2 ^ many.toNat ≤ val) := by
      rcases i with _ | _ | _ | i
      · cases hv
        exact ⟨D1, _, _, _, _, rfl, m1, by omega, .inr (.inr ⟨hs0, by have : (0 : Int) < 2 ^ sz.toNat := Int.pow_pos (by decide); omega, Int.le_refl _⟩)⟩
      · cases hv
        exact ⟨D2, _, _, _, _, rfl, m2, by omega, .inr (.inl ⟨hs0, by decide⟩)⟩
      · cases hv
        exact ⟨D3, _, _, _, _, rfl, m3, by decide, .inl (by decide)⟩
      · omega
    have hm2 : (D, tupO [.int val tv, .int many tm]) ∈ (I, oI) :: wrL b x dx M bs r z tr tz R7 := .tail _ (.tail _ (.tail _ (.tail _ hmem)))
    dsimp only [wrL, wrD] at N8 hm2
    w_strict (k_steps)
    refine execsS_cons (TryS ?_)
    refine execsS_cons (ExprS (MethodS ?_))
    w_strict (k_steps)
    dsimp only
    refine callWithS_K (K := Mine.hd.heap_39 w.params) (by k_is) ?_
    w_strict (k_steps)
    refine wpS_any ?_
    rename Fr _ _ _ _ => F9
    rename News _ _ _ _ => N9
    k_dflt (refine put_raise hmany hbad _ _ _ _ _ _ _ _ _ _ _ _ _ _ _ _ _ GB F9 GX N9 GTop rfl ?_ ?_ ?_)
    · show dp + 1 + 4 < recursionLimit; omega
    · show un + 3 + 20 < cLine; omega
    intro g9 e t ws h9 tk9 FG9 RS up
    refine ⟨e, rfl, ?_⟩
    refine land (exc56 w) RS FG9 GB up XB TB rfl ?_ ?_
    · intro g1 h1 Q F X T hQ
      w_strict (k_steps)
      exact hQ
    · rintro h10 g10 ⟨T10, F10, N10, B10, X10, P10⟩
      dsimp only
      refine execsS_cons (ExprS (MethodS ?_))
      w_strict (k_steps)
      dsimp only
      refine callWithS_K (K := Mine.hd.heap_39 w.params) (by k_is) ?_
      w_strict (k_steps)
      refine wpS_call ?_
      have W10 : WrF b x dx ((I, oI) :: R7) := W7.cons (hI (dx, wrD M b r z tr tz) (.tail _ (.tail _ (.head _)))) (hI (x, instObj 96 dx) (.tail _ (.head _))) (hI (b, baO bs) (.head _))
      have hlen : (List.replicate (ah.toNat + i) true).length ≤ 100000 := by rw [List.length_replicate]; omega
      k_dflt (refine put_spec (M := M) (bs := bs) (r := r) (z := z) (tr := tr) (tz := tz) (rest := (I, oI) :: R7) W10 hW hz8 hlen (by decide) (by decide) (by decide) (by decide) _ _ _ _ _ _ _ _ _ _ _ _ _ _ _ _ B10 F10 X10 (wr_in N10) P10 rfl ?_ ?_ ?_)
      · show dp + 1 + 1 < recursionLimit; omega
      · show un + 3 + 16 < cLine; omega
      intro bs' r' z' tr' tz' hW' hz' h11 tk11 F11 N11
      refine execsS_nil ?_
      dsimp only
      refine execsS_nil ?_
      refine TurnGr.next (news' := wrL b x dx M bs' r' z' tr' tz' R7) ⟨GT.trans T10, B10, X10, P10⟩ F11 (wr_out N11) ?_ ?_
      · intro p hp
        rcases List.mem_cons.mp hp with rfl | hp
        · exact hI (b, baO bs) (.head _)
        rcases List.mem_cons.mp hp with rfl | hp
        · exact hI _ (.tail _ (.head _))
        rcases List.mem_cons.mp hp with rfl | hp
        · exact hI (dx, wrD M b r z tr tz) (.tail _ (.tail _ (.head _)))
        exact hI p (.tail _ (.tail _ (.tail _ hp)))
      · refine ⟨_, bs', r', z', tr', tz', on2 (by exact rfl) (by exact rfl), rfl, ?_, hz'⟩
        have e1 : bitsZ 1 (1 : Int).toNat = [true] := by decide
        rw [e1, ← List.replicate_succ'] at hW'
        exact hW'
  · rintro g m₁ news₁ h12 tk12 ⟨GT, GB, GX, GTop⟩ ⟨u, bs, r, z, tr, tz, rfl, rfl, hW, hz8⟩ F12 N12
    dsimp only
    dsimp only [wrL, wrD] at N12
    have hln : bs.size * 8 + z = ah.toNat + 3 := by have := hW.range; rw [List.length_replicate] at this; exact this.2.2.2
    refine execsS_cons (ExprS (MethodS ?_))
    w_strict (k_steps)
    dsimp only
    refine callWithS_K0 (K := Mine.hd.heap_39 w.params) (GX.keeps F12.keep) (by k_is) (wpS_call ?_)
    have hlen : (List.replicate (ah.toNat + 3) true).length ≤ 100000 := by rw [List.length_replicate]; omega
    k_dflt (refine pad_spec (M := M) (bs := bs) (r := r) (z := z) (tr := tr) (tz := tz) (rest := R7) W7 hW hz8 hlen _ _ _ _ _ _ _ _ _ _ _ _ _ _ _ _ GB F12 GX N12 GTop rfl ?_ ?_ ?_)
    · show dp + 1 + 3 < recursionLimit; omega
    · show un + 3 + 40 < cLine; omega
    intro bs' r' z' tr' tz' hW' hz' h13 tk13 F13 N13
    dsimp only
    dsimp only [wrL, wrD] at N13
    have hz0 := hW.range.1
    obtain ⟨pc, hpc, hW''⟩ : ∃ pc : Nat, (z = 0 ∧ pc = 0 ∨ 0 < z ∧ pc = (8 - z).toNat) ∧ WrI (List.replicate (ah.toNat + 3) true ++ List.replicate pc true) bs' r' z' := by
      refine ⟨_, ?_, hW'⟩
      split
      · exact .inl ⟨by assumption, rfl⟩
      · exact .inr ⟨by omega, rfl⟩
    have hb := hW''.octets hz'
    have hsz : bs'.size ≤ sizeLine := by
      obtain ⟨hz1, -, -, hL⟩ := hW''.range
      simp only [List.length_append, List.length_replicate] at hL
      rw [sizeLine_eq]; omega
    clear N12 F12 B' X' T' FG' 
    refine execsS_leaf ?_
    w_strict (k_steps)
    have e8 : (ah + 10).fdiv 8 = (ah + 10) / 8 := Int.fdiv_eq_ediv_of_nonneg _ (by decide)
    rw [e8]
    k_dflt (refine' bytes_mul_any (b := [255]) ?_ ?_ ?_ ?_ ?_)
    · exact List.cons_ne_nil _ _
    · omega
    · omega
    · decide
    intro t9 k9
    w_strict (k_steps)
    dsimp only
    have hv : (bs'.toList == (List.replicate ((ah + 10) / 8).toNat [(255 : UInt8)]).flatten.toArray.toList) = true := by
      rw [hb, ← List.replicate_append_replicate.symm, packB_ones]
      have e : (ah.toNat + 3 + pc) / 8 = ((ah + 10) / 8).toNat := by omega
      rw [e]
      simp
    rw [hv]
    refine' leaveT (news' := (b, baO bs') :: (x, instObj 96 dx) :: (dx, wrD M b r' z' tr' tz') :: R7) ?cF ?cN GT (fun F14 N14 => hret _ _ F14 (news_sub N14 fun p hp => .tail _ (.tail _ (.tail _ (mR p hp)))))
    case cF => k_asm
    case cN => k_asm
end Mine
end
section
open PySem PySem.W PySem.Calls PyProof.Rows PySem.Spec PySem.NumText
set_option maxRecDepth 100000
namespace Mine
def codesB (bits : List Bool) : List Nat := bits.map fun b => if b then 49 else 48
theorem codesB_mem {bits : List Bool} {c : Nat} (h : c ∈ codesB bits) : c = 48 ∨ c = 49 := by
  obtain ⟨b, _, rfl⟩ := List.mem_map.mp h
  cases b <;> simp
theorem strB_codes (bits : List Bool) : (strB bits).cps.toList = codesB bits := rfl
theorem drop_codes {l : List Nat} (h : ∀ c ∈ l, c = 48 ∨ c = 49) : l.dropWhile blank = l := by
  cases l with
  | nil => rfl
  | cons c r =>
    have : blank c = false := by rcases h c (.head _) with rfl | rfl <;> rfl
    rw [List.dropWhile_cons, this]; rfl
theorem sign_codes {l : List Nat} (h : ∀ c ∈ l, c = 48 ∨ c = 49) : sign l = (false, l) := by
  cases l with
  | nil => rfl
  | cons c r => rcases h c (.head _) with rfl | rfl <;> rfl
theorem prefix_codes {l : List Nat} (h : ∀ c ∈ l, c = 48 ∨ c = 49) : prefix? l = none := by
  match l, h with
  | [], _ => rfl
  | [c], h => rcases h c (.head _) with rfl | rfl <;> rfl
  | c :: d :: r, h => rcases h c (.head _) with rfl | rfl <;> rcases h d (.tail _ (.head _)) with rfl | rfl <;> rfl
theorem based_codes {l : List Nat} (h : ∀ c ∈ l, c = 48 ∨ c = 49) : based 2 l = (2, false, l) := by
  unfold based; rw [prefix_codes h]; rfl
theorem fold_codes : ∀ (bits : List Bool) (ds : Array Nat) (f : Bool), (codesB bits).foldlM (step 2) (ds, f) = some (bits.foldl (fun a b => a.push (if b then 1 else 0)) ds, if bits.isEmpty then f else true)
  | [], _, _ => rfl
  | b :: r, ds, f => by
    have e : step 2 (ds, f) (if b then 49 else 48) = some (ds.push (if b then 1 else 0), true) := by cases b <;> rfl
    show (codesB (b :: r)).foldlM (step 2) (ds, f) = _
    simp only [codesB, List.map_cons, List.foldlM_cons]
    rw [e]
    show (codesB r).foldlM (step 2) (ds.push (if b then 1 else 0), true) = _
    rw [fold_codes r]
    cases r <;> rfl
theorem fold_push : ∀ (bits : List Bool) (ds : Array Nat) , (bits.foldl (fun a b => a.push (if b then 1 else 0)) ds).foldl (fun acc d => acc * 2 + d) 0 = bits.foldl (fun a b => 2 * a + (if b then 1 else 0)) (ds.foldl (fun acc d => acc * 2 + d) 0)
  | [], _ => rfl
  | b :: r, ds => by
    simp only [List.foldl_cons]
    rw [fold_push r, Array.foldl_push, Nat.mul_comm]
theorem readB {bits : List Bool} (hne : bits ≠ []) : (int_private% "readNumeral") 0 2 (codesB bits) = (int_private% "Numeral.value") ((natB bits : Nat) : Int) := by
  have hm : ∀ c ∈ codesB bits, c = 48 ∨ c = 49 := fun c => codesB_mem
  have hr : ∀ c ∈ (codesB bits).reverse, c = 48 ∨ c = 49 := fun c h => codesB_mem (List.mem_reverse.mp h)
  rw [readNumeral_eq, drop_codes hm, sign_codes hm, based_codes hm]
  dsimp only
  rw [drop_codes hr, List.reverse_reverse]
  have this : bits.isEmpty = false := by cases bits; exact absurd rfl hne; rfl
  have hd : digits? 2 (codesB bits) = some (bits.foldl (fun a b => a.push (if b then 1 else 0)) #[]) := by
    unfold digits?
    rw [fold_codes, this]
    rfl
  rw [hd]
  unfold judge
  dsimp only
  rw [if_neg (by simp), if_neg (by simp), if_neg (by simp), fold_push]
  rfl
theorem take_codes {bits : List Bool} : (codesB bits).takeWhile (· != 0) = codesB bits := by
  refine takeWhile_all fun c hc => ?_
  rcases codesB_mem hc with rfl | rfl <;> rfl
theorem all_codes {bits : List Bool} : (strB bits).cps.all (· < 128) = true := by
  rw [← Array.all_toList, strB_codes, List.all_eq_true]
  intro c hc
  rcases codesB_mem hc with rfl | rfl <;> rfl
theorem wp_text2 {M : Model} {A : Around} {E : Value → Shared → Prop} {s : Shared} {Q : Value → Shared → Prop} {v : Value} {bits : List Bool} (hne : bits ≠ []) (hl : bits.length ≤ 640) (h : Q (.int (natB bits : Nat) s.toks) { s with toks := s.toks + 1 }) :
    wpAny M A ((int_private% "intFromText") v (codesB bits) 2) Q E s := by
  obtain ⟨hp, g, d, tk, os⟩ := s
  have hs : ((codesB bits).takeWhile (· != 0)).length ≤ 640 := by rw [take_codes]; simpa [codesB] using hl
  have hr : (int_private% "readNumeral") 0 2 ((codesB bits).takeWhile (· != 0)) = (int_private% "Numeral.value") ((natB bits : Nat) : Int) := by rw [take_codes]; exact readB hne
  have ha : (((codesB bits).takeWhile (· != 0)).length == (codesB bits).length) = true := by rw [take_codes]; exact beq_self_eq_true _
  repeat (any_goals (first
    | assumption
    | (with_reducible refine wpAny_ite_true (decide_eq_true hs) ?_)
    | (with_reducible refine wpAny_ite_true (decide_eq_true ha) ?_)
    | wp_step))
  all_goals (try rw [hr])
  all_goals (try dsimp only)
  repeat (any_goals (first
    | assumption
    | (with_reducible refine wpAny_ite_true (decide_eq_true hs) ?_)
    | (with_reducible refine wpAny_ite_true (decide_eq_true ha) ?_)
    | wp_step))
theorem typeCall_int_2 (a b : Value) : checkTypeCall "int" ⟨[a, b], []⟩ = pure () := by kernel_rfl
theorem newCall_int_2 (a b : Value) : checkBuiltinCall "int.__new__" ⟨[.type "int", a, b], []⟩ = pure () := by kernel_rfl
set_option maxHeartbeats 4000000 in
theorem gives_text2 {bits : List Bool} {u v : Tok} (hne : bits ≠ []) (hl : bits.length ≤ 640) : Gives (Builtin.«int.__new__» ⟨[.type "int", .str (strB bits) u, .int 2 v], []⟩) (.int (natB bits : Nat)) :=
  .of_wp fun M A E s Q h => by
    obtain ⟨hp, g, d, tk, os⟩ := s
    have f1 := F.conv_sub_int
    have f2 := F.madeHere_int
    have f6 : typeOf (.str (strB bits) u) = pure (.type "str") := rfl
    have hk := KIN.Hid.mk (And.intro hne hl)
    clear hne hl
    repeat (any_goals (first
      | assumption
      | ((with_reducible show wpAny _ _ ((int_private% "intFromText") _ _ _) _ _ _); (first | rw [if_pos all_codes] | skip); refine wp_text2 hk.out.1 hk.out.2 ?_)
      | wp_step))
    all_goals first | exact ⟨_, rfl, h⟩ | skip
section
variable {prog : Program} {w : World} {A : Around} {E : Value → Shared → Prop} {s : Shared} {Q : Value → Shared → Prop} {bits : List Bool} {t u : Tok}
theorem int_bits (hne : bits ≠ []) (hl : bits.length ≤ 640) (h : Q (.int (natB bits : Nat) s.toks) { s with toks := s.toks + 1 }) : wpAny (model prog w) A (call (.type "int") [.str (strB bits) t, .int 2 u]) Q E s :=
  callType_new F.called_int F.newNe_int (typeCall_int_2 _ _) (newCall_int_2 _ _) (fun obj => F.args_object_init_3 obj _ _) F.entry_int_new (gives_text2 hne hl).meets (show (Made.int (natB bits : Nat)).post _ s from ⟨rfl, h⟩)
end
end Mine
end
section
open PySem PySem.W PySem.Calls PyProof.Rows PySem.Spec
set_option maxRecDepth 100000
namespace Mine
section
variable {prog : Program} {w : World} {A : Around} {E : Value → Shared → Prop} {s : Shared} {h₀ : Heap} {L : Addr} {m : Str → Option Value} {news : Led} {bits : List Bool} {t : Tok} {Q : Value → Shared → Prop} {value slice : Expr}
theorem slice_eq {i j : Int} (hi : 0 ≤ i) (hij : i ≤ j) (hj : j ≤ bits.length) : Txt.slice (strB bits) (some i) (some j) = strB ((bits.drop i.toNat).take (j - i).toNat) := by
  have e : (strB bits).cps.toList.length = bits.length := by rw [strB_codes]; simp [codesB]
  refine (PySem.StrLaws.sliceText_plain (x := strB bits) ⟨hi, hij, by rw [e]; exact hj⟩).trans ?_
  rw [strB_codes]
  show (⟨_⟩ : Str) = ⟨_⟩
  congr 2
  unfold codesB
  rw [List.map_take, List.map_drop]
theorem slice_bits {i j : Int} {ui uj : Tok} (F : Fr h₀ L s.heap m) (N : News h₀ L s.heap news) (hi : 0 ≤ i) (hij : i ≤ j) (hj : j ≤ bits.length) (hl : bits.length ≤ 100000)
    (h : ∀ h' t' k, Fr h₀ L h' m → News h₀ L h' news → Q (.str (strB ((bits.drop i.toNat).take (j - i).toNat)) t') { s with heap := h', toks := k })
    (hs : subscripted slice false (.str (strB bits) t) (.ref s.heap.objs.size) = operate [.ref s.heap.objs.size, .str (strB bits) t] (getItem (.str (strB bits) t) (.ref s.heap.objs.size)) := by with_unfolding_all rfl)
    (ht : ∀ r, letTemporaryGo value (.str (strB bits) t) r = pure () := by intro _; with_unfolding_all rfl) :
    wpAny (model prog w) A (subscriptTail value slice (.str (strB bits) t) (.ref s.heap.objs.size)) Q E { s with heap := s.heap.push { cls := .type "slice", data := .fields #[.int i ui, .int j uj, .none] } } :=
  slice_strN_ss F N (fun h' t' k a b => by rw [slice_eq hi hij hj]; exact h h' t' k a b) hs ht (by rw [strB_length, sizeLine_eq]; omega)
end
end Mine
end
section
open PySem PySem.W PySem.Calls PyProof.Rows PySem.Spec
set_option maxRecDepth 100000
namespace Mine
section
variable {prog : Program} {w : World} {A : Around} {E : Value → Shared → Prop} {s : Shared} {h₀ : Heap} {L : Addr} {m : Str → Option Value} {env : Env}
/-- a list comprehension over a range: what it asks of its element -/
def CompR (prog : Program) (w : World) (A : Around) (h₀ : Heap) (L : Addr) (m : Str → Option Value) (env : Env) (elt : Expr) (x : Str) (scope : Scope) (cl : List (Str × Addr)) (Q : Value → Shared → Prop) (xv : Value) (s₁ : Shared) : Prop :=
  ∃ (r : Addr) (a b c : Int) (t u v : Tok) (n : Nat) (news : Led) (J : Nat → List Value → Prop), xv = .ref r ∧ A.handled = none ∧ Fr h₀ L s₁.heap m ∧ News h₀ L s₁.heap news ∧ IsRange s₁.heap r a b c t u v ∧ Builtin.Range.small a b c = true ∧ Builtin.Range.rangeSize a b c = ((n : Nat) : Int) ∧ n ≤ sizeLine ∧ J 0 [] ∧
    (∀ i ys I oI C oC D m₂ h tk tt, i < n → J i ys → LCg.NsObj oC m₂ → m₂ x = some (.int (a + (i : Int) * c) tt) → Fr h₀ L h m → News h₀ L h ((I, oI) :: (C, oC) :: (D, LCg.lst ys) :: news) →
      wpAny (model prog w) A (eval elt (compEnvC scope cl C env)) (fun y s₂ => J (i + 1) (ys ++ [y]) ∧ ∃ h' tk', s₂ = { s₁ with heap := h', toks := tk' } ∧ Fr h₀ L h' m ∧ News h₀ L h' ((I, oI) :: (C, oC) :: (D, LCg.lst ys) :: news)) NoE { s₁ with heap := h, toks := tk }) ∧
    (∀ D ys h tk, J n ys → Fr h₀ L h m → News h₀ L h ((D, LCg.lst ys) :: news) → Q (.ref D) { s₁ with heap := h, toks := tk })
theorem ListCompR {elt iter : Expr} {x : Str} {px : Pos} {scope : Scope} {cl : List (Str × Addr)} {pos : Pos} {Q : Value → Shared → Prop} (_F₀ : Fr h₀ L s.heap m)
    (hclos : closureFor scope env = pure cl) (hcell : ∀ y ∈ scope.names, y.2 ≠ .cell) (hkind : scope.kind = .function)
    (hnames : ∀ y ∈ scope.names, y.2 = .local → scope.names.lookup y.1 = some .local) (hx : scope.names.lookup x = some .local)
    (h : wpAny (model prog w) A (eval iter env) (CompR prog w A h₀ L m env elt x scope cl Q) E s)
    (hs : ∀ x, foldedSetIterable iter env x = pure x := by intro _; rfl) :
    wpAny (model prog w) A (eval (.ListComp elt [⟨.Name x px, iter, [], 0⟩] scope pos) env) Q E s := by
  rw [eval_ListComp]
  refine wpAny_comprehension_free (use := none) rfl hs hclos hkind hnames (wpAny_mono h (fun xv s₁ h₁ => ?_) fun _ _ e => e)
  obtain ⟨r, a, b, c, t, u, v, n, news, J, rfl, hh, F, N, hr, hsm, hn, hsz, j0, turn, done⟩ := h₁
  refine wpAny_pyIter_range hr hsm ?_
  have W : Walks prog w A s₁.heap.objs.size [s₁.heap.objs.size] [s₁.heap.objs.size] n (fun i v => i < n ∧ ∃ t, v = .int (a + i * c) t)
      (fun i h => IsRangeIter h s₁.heap.objs.size (a + (i : Nat) * c) ((n : Int) - (i : Nat)) c) := (Walks.range hh _ a c n).bound
  have st : ∀ i (h h' : Heap) (o : Obj) (nw : List (Addr × Obj)), IsRangeIter h s₁.heap.objs.size (a + (i : Nat) * c) ((n : Int) - (i : Nat)) c → h.get? s₁.heap.objs.size = some o → h'.get? s₁.heap.objs.size = some o → (∀ b o, h₀.get? b = some o → h'.get? b = some o) → News h₀ L h' nw → True → IsRangeIter h' s₁.heap.objs.size (a + (i : Nat) * c) ((n : Int) - (i : Nat)) c :=
    fun i h h' o nw st e e' _ _ _ => by
      have st' : h.get? s₁.heap.objs.size = some _ := st
      show h'.get? s₁.heap.objs.size = some _
      rw [e', ← e]; exact st'
  have R : ∀ (s₂ : Shared), (∃ h, s₂ = { s₁ with heap := h }) → ∀ k i ys, i + k = n → J i ys → LCg.CompRest prog w A h₀ L m env elt x scope cl s₂ (fun _ => True) (fun i v => i < n ∧ ∃ t, v = .int (a + i * c) t) (fun ys news' => LCg.FinE h₀ L m s₂ Q ys news') k i ys news := by
    rintro s₂ ⟨h₂, rfl⟩ k
    induction k with
    | zero =>
      intro i ys hi hJ
      obtain rfl : i = n := by omega
      refine LCg.CompRest.zero ?_
      intro D h tk F' N' _
      exact done D ys h tk hJ F' N'
    | succ k ih =>
      intro i ys hi hJ
      refine LCg.CompRest.succ fun vv I oI C oC D m₂ h tk E' hP hoC hx' F' N' off hne => ?_
      obtain ⟨hlt, tt, rfl⟩ := hP
      refine wpAny_mono (turn i ys I oI C oC D m₂ h tk tt hlt hJ hoC hx' F' N') (fun y s₃ h₃ => ?_) fun _ _ e => e.elim
      obtain ⟨hJ', h', tk', rfl, F₃, N₃⟩ := h₃
      exact LCg.CompEnd.intro F₃ N₃ news (fun p hp => hp) off trivial (ih (i + 1) (ys ++ [y]) (by omega) hJ')
  refine LCg.block_U W hsz (fun i h st => ⟨_, st⟩) st hcell hkind hx (by show IsRangeIter _ _ _ _ _; rw [hn]; simpa using Heap.get?_push_size _ rfl) (fun b hb => ?_)
    (F.keeps fun _ _ e => Heap.get?_push_of_some _ e) (N.grown fun _ _ e => Heap.get?_push_of_some _ e) (Nat.ne_of_lt F.ns.lt) (next_is_new F) (fun p hp => Nat.ne_of_lt (Heap.lt_size (N p hp).1)) trivial (R _ ⟨_, rfl⟩ n 0 [] (Nat.zero_add _) j0) ?_
  · rw [List.mem_singleton.mp hb]
    show s₁.heap.objs.size < (s₁.heap.push _).objs.size
    rw [Heap.size_push]; exact Nat.lt_succ_self _
  · intro D C h tk m' ys news' F' N' o1 hn' hC₀ hD₀ hCL hDL hCD offC fin
    refine ⟨m', hn', fun h'' hs'' => fin D h'' tk (F'.change hs'' hCL hC₀) (fun p hp => ?_) o1⟩
    refine ⟨hs''.extBut _ _ ?_ (N' p hp).1, (N' p hp).2⟩
    rcases List.mem_cons.mp hp with rfl | hp
    · exact Ne.symm hCD
    · exact offC p hp
end
end Mine
end
section
open PySem PySem.W PySem.Calls PyProof.Rows PySem.Spec
namespace Mine
theorem reset_NT_locts : True := by
  w_top off
  exact True.intro
local macro_rules | `(tactic| k_all) => `(tactic| with_reducible assumption)
local macro_rules | `(tactic| walk_at "exec For Tuple Name cons nil") => `(tactic| (k_here; (rename Fr _ _ _ _ => lF'); (with_unfolding_all refine' For_invTF lF' ?_ ?k2; (case k2 => (intro _; rfl)); k_whole)))
local macro_rules | `(tactic| walk_at "exec For Name Call cons nil") => `(tactic| (k_here; (rename Fr _ _ _ _ => lF'); (with_unfolding_all refine' For_M lF' ?k1 ?k2 ?_; (case k1 => exact rfl); (case k2 => exact rfl); k_whole)))
local macro_rules | `(tactic| walk_at "call type:range") => `(tactic| (k_here; (with_reducible show wpAny _ _ (call _ [_]) _ _ _); k_dflt (refine' range1_rows ?F ?N ?_; (case F => k_asm); (case N => k_asm); k_whole); intro h' tk t₁ u₁ v₁ rgX F' N' st'))
local macro_rules | `(tactic| walk_at "call type:range") => `(tactic| (k_here; (with_reducible show wpAny _ _ (call _ [_, _, _]) _ _ _); k_dflt (refine' range3_rows ?F ?N ?c ?_; (case F => k_asm); (case N => k_asm); (case c => decide); k_whole); intro h' tk t₁ u₁ v₁ rgX F' N' st'))
local macro_rules | `(tactic| k_mem) => `(tactic| assumption)
theorem rangeSize8 (l : Nat) : Builtin.Range.rangeSize 0 ((l : Int) - 7) 8 = ((l / 8 : Nat) : Int) := by
  unfold Builtin.Range.rangeSize
  rw [if_pos (by decide)]
  split <;> omega
theorem small8 {l : Nat} (hl : l ≤ 100000) : Builtin.Range.small 0 ((l : Int) - 7) 8 = true := by
  unfold Builtin.Range.small
  rw [rangeSize8]
  simp only [Builtin.Range.rangeFitsLong, Bool.and_eq_true, Bool.or_eq_true, decide_eq_true_eq, beq_iff_eq, show (8 : Int) > 0 by decide, if_true]
  omega
theorem len_strB {prog : Program} {w : World} {A : Around} {E : Value → Shared → Prop} {s : Shared} {Q : Value → Shared → Prop} {bits : List Bool} {t : Tok} (hl : bits.length ≤ 100000) (h : Q (.int (bits.length : Nat) (s.toks + 1)) { s with toks := s.toks + 1 + 1 }) :
    wpAny (model prog w) A (call (.builtin "len") [.str (strB bits) t]) Q E s :=
  PySem.P.len_str (by rw [strB_length]; omega) (by rw [strB_length]; exact h)
local macro_rules | `(tactic| walk_at "call builtin:len") => `(tactic| (k_here; (with_reducible show wpAny _ _ (call _ [Value.str (strB _) _]) _ _ _); k_dflt (refine' len_strB ?cl ?_; (case cl => omega); k_whole)))
local macro_rules | `(tactic| walk_at "subscriptTail") => `(tactic| (k_here; (with_reducible show wpAny _ _ (subscriptTail _ (Expr.Slice (some _) (some _) none _) (Value.str (strB _) _) (Value.ref _)) _ _ _); (with_reducible rename Fr _ _ _ _ => F'); (with_reducible rename News _ _ _ _ => N'); (refine slice_bits (s := ⟨_, _, _, _, _⟩) F' N' ?c1 ?c2 ?c3 ?c4 ?_); (case c1 => omega); (case c2 => omega); (case c3 => omega); (case c4 => omega); intro _ _ _ _ _))
local macro_rules | `(tactic| walk_at "call type:int") => `(tactic| (k_here; (with_reducible show wpAny _ _ (call _ [Value.str (strB _) _, Value.int 2 _]) _ _ _); k_dflt (refine' int_bits ?c1 ?c2 ?_; k_whole)))
local macro_rules | `(tactic| walk_at "eval ListComp") => `(tactic| (k_here; k_dflt (refine' ListCompR ?cF ?c1 ?c2 ?c3 ?c4 ?c5 ?_; (case cF => k_asm); (case c1 => with_unfolding_all rfl); (case c2 => decide); (case c3 => exact rfl); (case c4 => decide); (case c5 => exact rfl); k_whole)))
set_option maxRecDepth 100000 in
set_option maxHeartbeats 8000000 in
theorem locts_spec {w : World} {p : Program} {loose : List Str} {mean : ExcName → Option Value} {mg mb : Str → Option Value}
    {bits : List Bool} {tb : Tok} {news : Led} (hl : bits.length ≤ 91000) :
    Called none w p loose mean mg mb 175 [.str (strB bits) tb] news 4 40 (fun _ => True)
      (fun P => ∀ (t : Tok) (new : Led), P (.bytes (packB bits) t) (new ++ news)) := by
  intro dp un gd cn cs a ccd cl outer A₀ base h₀ L m s Q E B F X N T hk hd hu _ hret
  refine wpAny_call ?_
  k_dflt (refine' code_defC ?k1 ?k2 ?k3 ?k4 ?k5 ?kA ?kF ?kK ?k6 ?k7 ?k8 ?k9 ?kB ?kD ?_ ?c2 ?c3 ?c4; (case kA => exact rfl); (case kF => exact rfl); (case kK => assumption); (case k1 => k_asm); (case k2 => k_asm); (case k3 => k_asm); (case k4 => k_asm); (case k5 => k_asm); (case k6 => k_is); (case k7 => k_is); (case k8 => ktr_room); (case k9 => exact BindsTo.of_eq rfl); (case kB => exact rfl); (case kD => decide +kernel); (case c2 => exact rfl); (case c3 => exact rfl); (case c4 => exact rfl); k_whole)
  intro g' L' h' tk' cells' FG' F' N' Y' B' X' T' l1
  (try k_lt l1)
  k_cells Y'
  (try simp only [List.cons_append, List.nil_append] at N')
  (try dsimp only)
  w_strict (k_steps)
  rename IsRange _ _ _ _ _ _ _ _ => rg
  rename Fr _ _ _ _ => F1
  rename News _ _ _ _ => N1
  refine ⟨_, _, _, _, _, _, _, bits.length / 8, _, fun i ys => IntsAre ys ((List.range i).map fun k => ((natB ((bits.drop (8 * k)).take 8) : Nat) : Int)), rfl, rfl, F1, N1, rg, small8 (by omega), rangeSize8 _, by rw [sizeLine_eq]; omega, IntsAre.nil, ?_, ?_⟩
  · intro i ys I oI C oC D m₂ h tk tt hi hJ hoC hx F2 N2
    have e1 : (0 + (i : Int) * 8 + 8 - (0 + (i : Int) * 8)).toNat = 8 := by omega
    have e2 : (0 + (i : Int) * 8).toNat = 8 * i := by omega
    w_strict (k_steps)
    all_goals (try rw [e1, e2])
    case c1 =>
      intro z
      have := congrArg List.length z
      rw [List.length_take, List.length_drop] at this
      simp only [List.length_nil] at this
      omega
    case c2 => rw [List.length_take]; omega
    · rw [List.range_succ, List.map_append]
      refine IntsAre.append hJ ?_
      simp only [e1, e2]
      repeat constructor
    · k_asm
    · k_asm
  · intro D ys h2 tk2 hJ F2 N2
    w_strict (k_steps)
    have hlen := hJ.length
    rw [List.length_map, List.length_range] at hlen
    have hlst : h2.IsList D ys.toArray := ⟨_, (N2 _ (.head _)).1, rfl, _, rfl⟩
    refine call_bytes_ints hlst hJ ?_ ?_ rfl ?_
    · intro z hz
      obtain ⟨k, _, rfl⟩ := List.mem_map.mp hz
      have h1 := natB_lt ((bits.drop (8 * k)).take 8)
      have h2 : 2 ^ ((bits.drop (8 * k)).take 8).length ≤ 2 ^ 8 := Nat.pow_le_pow_right (by decide) (by rw [List.length_take]; omega)
      omega
    · rw [hlen, sizeLine_eq]; omega
    · intro h3 t3 k3 keep
      have hb : byteArr ((List.range (bits.length / 8)).map fun k => ((natB ((bits.drop (8 * k)).take 8) : Nat) : Int)) = packB bits := by
        unfold byteArr packB; rw [List.map_map]; rfl
      rw [hb]
      have F3 := F2.keeps keep
      have N3 := N2.grown keep
      clear F2 N2
      w_strict (k_steps)
      refine' hret t3 [_, _] _ _ ?cF ?cN
      case cF => k_asm
      case cN => k_asm
end Mine
end
section
open PySem PySem.W PySem.Calls PyProof.Rows PySem.Spec
set_option maxRecDepth 100000
namespace Mine
section
variable {prog : Program} {w : World} {A : Around} {E : Value → Shared → Prop} {s : Shared} {env : Env} {h₀ : Heap} {L : Addr} {m : Str → Option Value}
def Less (I : Nat → Shared → Prop) (n : Nat) (s : Shared) : Prop := ∃ m, m < n ∧ I m s
def WhileAt (prog : Program) (w : World) (A : Around) (env : Env) (test : Expr) (body : List Stmt) (Q : Flow → Shared → Prop) (s : Shared) : Prop :=
  ∃ (I : Nat → Shared → Prop) (n : Nat), I n s ∧ ∀ n s, I n s → wpAny (model prog w) A (isTrue test env (eval test env)) (fun b s₂ =>
    if b then wpAny (model prog w) A (execs body env) (fun f s₃ => match f with
      | .next | .cont => Less I n s₃
      | .brk => Q .next s₃
      | .ret v => Q (.ret v) s₃) NoE s₂
    else Q .next s₂) NoE s
theorem WhileP {test : Expr} {body : List Stmt} {pos : Pos} {Q : Flow → Shared → Prop} (_F : Fr h₀ L s.heap m) (h : WhileAt prog w A env test body Q s) : wpAny (model prog w) A (exec (.While test body [] pos) env) Q E s := by
  obtain ⟨I, n, hI, turn⟩ := h
  refine wpAny_While (codeAny_whileLoop I (fun n s hI => ?_) n hI)
  refine wpAny_mono (turn n s hI) (fun b s₂ h₂ => ?_) fun _ _ x => x.elim
  cases b with
  | true =>
    simp only [if_true] at h₂ ⊢
    refine wpAny_mono h₂ (fun f s₃ h₃ => ?_) fun _ _ x => x.elim
    cases f <;> exact h₃
  | false =>
    simp only [Bool.false_eq_true, if_false] at h₂ ⊢
    exact wpAny_execs_nil h₂
end
end Mine
end
section
open PySem PySem.W PySem.Calls PyProof.Rows PySem.Spec
namespace Mine
theorem reset_NT_cuts : True := by
  w_top off
  exact True.intro
local macro_rules | `(tactic| k_all) => `(tactic| with_reducible assumption)
local macro_rules | `(tactic| walk_at "exec For Tuple Name cons nil") => `(tactic| (k_here; (rename Fr _ _ _ _ => lF'); (with_unfolding_all refine' For_invTF lF' ?_ ?k2; (case k2 => (intro _; rfl)); k_whole)))
local macro_rules | `(tactic| walk_at "exec For Name Call cons nil") => `(tactic| (k_here; (rename Fr _ _ _ _ => lF'); (with_unfolding_all refine' For_M lF' ?k1 ?k2 ?_; (case k1 => exact rfl); (case k2 => exact rfl); k_whole)))
local macro_rules | `(tactic| walk_at "call type:range") => `(tactic| (k_here; (with_reducible show wpAny _ _ (call _ [_]) _ _ _); k_dflt (refine' range1_rows ?F ?N ?_; (case F => k_asm); (case N => k_asm); k_whole); intro h' tk t₁ u₁ v₁ rgX F' N' st'))
local macro_rules | `(tactic| walk_at "call type:range") => `(tactic| (k_here; (with_reducible show wpAny _ _ (call _ [_, _, _]) _ _ _); k_dflt (refine' range3_rows ?F ?N ?c ?_; (case F => k_asm); (case N => k_asm); (case c => decide); k_whole); intro h' tk t₁ u₁ v₁ rgX F' N' st'))
local macro_rules | `(tactic| k_mem) => `(tactic| assumption)
local macro_rules | `(tactic| size_fits) => `(tactic| (simp only [List.size_toArray]; rw [sizeLine_eq]; omega))
local macro_rules | `(tactic| walk_at "call ref") => `(tactic| (k_here; (with_reducible show wpAny _ _ (call (Value.ref 156) _) _ _ _); k_dflt (refine' take_use ?U ?h0 ?h1 ?h1' ?ht ?ht2 _ _ _ _ _ _ _ _ _ _ _ _ _ _ _ _ _ ?B ?F ?X ?N ?T ?K ?d ?u True.intro ?_; (case B => k_asm); (case F => k_asm); (case X => k_asm); (case N => k_asm); (case T => k_asm); (case K => exact rfl); (case U => k_updF); (case h0 => assumption); (case h1 => assumption); (case h1' => assumption); (case ht => omega); (case ht2 => omega); (case d => ktr_room); (case u => ktr_units); k_whole); intro y0 y1 r u0 u1 ur hy0 hy1 hy1' hr0 hr1 h' tk' F' N'; (try dsimp only at N')))
local macro_rules | `(tactic| walk_at "call builtin:len") => `(tactic| (k_here; (with_reducible show wpAny _ _ (call _ [Value.str (strB _) _]) _ _ _); k_dflt (refine' len_strB ?cl ?_; (case cl => omega); k_whole)))
local macro_rules | `(tactic| walk_at "subscriptTail") => `(tactic| (k_here; (with_reducible show wpAny _ _ (subscriptTail _ (Expr.Slice (some _) (some _) none _) (Value.str (strB _) _) (Value.ref _)) _ _ _); (with_reducible rename Fr _ _ _ _ => F'); (with_reducible rename News _ _ _ _ => N'); (refine slice_bits (s := ⟨_, _, _, _, _⟩) F' N' ?c1 ?c2 ?c3 ?c4 ?_); (case c1 => omega); (case c2 => omega); (case c3 => omega); (case c4 => omega); intro _ _ _ _ _))
local macro_rules | `(tactic| walk_at "call type:int") => `(tactic| (k_here; (with_reducible show wpAny _ _ (call _ [Value.str (strB _) _, Value.int 2 _]) _ _ _); k_dflt (refine' int_bits ?c1 ?c2 ?_; k_whole)))
local macro_rules | `(tactic| walk_at "exec While") => `(tactic| (k_here; (rename Fr _ _ _ _ => lF'); k_dflt (refine' WhileP lF' ?_)))
local macro_rules | `(tactic| walk_at "exec While Compare") => `(tactic| (k_here; (rename Fr _ _ _ _ => lF'); k_dflt (refine' WhileP lF' ?_)))
theorem fr4 {h₀ h : Heap} {L : Addr} {m : Str → Option Value} {x1 x2 x3 x4 : Str} {v1 v2 v3 v4 : Value} (F : Fr h₀ L h m) (h1 : m x1 = some v1) (h2 : m x2 = some v2) (h3 : m x3 = some v3) (h4 : m x4 = some v4) : Fr h₀ L h (on x1 v1 (on x2 v2 (on x3 v3 (on x4 v4 m)))) := by rw [← on4 h1 h2 h3 h4]; exact F
def CutI (s : Shared) (g' : Heap) (L' src q : Addr) (n : Nat) (bits : List Bool) (tb : Tok) (rest : Led) (k : Nat) (s' : Shared) : Prop :=
  ∃ (h' : Heap) (tk : Nat) (at_ : Int) (tat : Tok) (vs : List Value) (nums : List (Int × Int)) (tup : Led) (kq : Nat) (y0 y1 : Int) (u0 u1 : Tok) (u : Str → Option Value), s' = { s with heap := h', toks := tk } ∧
    Fr g' L' h' (on "source" (.ref src) (on "row" (.str (strB bits) tb) (on "found" (.ref q) (on "at" (.int at_ tat) u)))) ∧ News g' L' h' ((q, listOf vs.toArray kq) :: (src, listOf #[.int y0 u0, .int y1 u1] n) :: (tup ++ rest)) ∧
    Nums tup vs nums ∧ GoodNums nums ∧ rowBits nums = bits.take at_.toNat ∧ vs.length ≤ at_ ∧ 0 ≤ at_ ∧ at_ ≤ bits.length ∧ k = bits.length - at_.toNat ∧ 0 ≤ y0 ∧ 0 ≤ y1 ∧ y1 < 2147483647 ∧ (∀ z ∈ tup, q < z.1)
theorem bitsZ_add (c v : Int) {z' : Nat} : ∀ z : Nat, z ≤ z' → bitsZ (c * 2 ^ z' + v) z = bitsZ v z
  | 0, _ => rfl
  | z + 1, h => by
    rw [bitsZ, bitsZ, bitsZ_add c v z (by omega)]
    have e : (2 : Int) ^ z' = 2 ^ z * (2 * 2 ^ (z' - z - 1)) := by rw [← Int.pow_succ', ← Int.pow_add]; congr 1; omega
    have p : (2 : Int) ^ z ≠ 0 := Int.ne_of_gt (Int.pow_pos (by decide))
    have q : (c * 2 ^ z' + v) / 2 ^ z = c * (2 * 2 ^ (z' - z - 1)) + v / 2 ^ z := by
      rw [e, show c * (2 ^ z * (2 * 2 ^ (z' - z - 1))) = (c * (2 * 2 ^ (z' - z - 1))) * 2 ^ z by rw [Int.mul_comm (2 ^ z) (2 * _), Int.mul_assoc c], Int.add_comm, Int.add_mul_ediv_right _ _ p, Int.add_comm]
    rw [q, show c * (2 * 2 ^ (z' - z - 1)) + v / 2 ^ z = v / 2 ^ z + 2 * (c * 2 ^ (z' - z - 1)) by rw [Int.mul_left_comm, Int.add_comm], Int.add_mul_emod_self_left]
theorem bitsZ_natB : ∀ l : List Bool, bitsZ ((natB l : Nat) : Int) l.length = l
  | [] => rfl
  | b :: r => by
    have hr := natB_lt r
    have e : ((natB (b :: r) : Nat) : Int) = (if b then 1 else 0) * 2 ^ r.length + ((natB r : Nat) : Int) := by rw [natB_cons]; push_cast; cases b <;> simp
    rw [List.length_cons, bitsZ, e, bitsZ_add _ _ _ (Nat.le_refl _), bitsZ_natB r]
    congr 1
    have p : (0 : Int) < 2 ^ r.length := Int.pow_pos (by decide)
    have hr' : ((natB r : Nat) : Int) < 2 ^ r.length := by exact_mod_cast hr
    rw [Int.add_comm, Int.add_mul_ediv_right _ _ (Int.ne_of_gt p), Int.ediv_eq_zero_of_lt (by omega) hr']
    cases b <;> simp
theorem rowBits_append' (a b : List (Int × Int)) : rowBits (a ++ b) = rowBits a ++ rowBits b := by simp [rowBits]
theorem CutI.next {s : Shared} {g' h' : Heap} {L' src q D : Addr} {n kq tk : Nat} {bits : List Bool} {tb tat tv tz u0 u1 : Tok} {rest tup : Led} {at_ sz v y0 y1 : Int} {m : Str → Option Value} {vs : List Value} {nums : List (Int × Int)}
    (F : Fr g' L' h' m) (N : News g' L' h' ((D, tupO [.int v tv, .int sz tz]) :: (q, listOf (vs.toArray.push (.ref D)) (kq + 1)) :: (src, listOf #[.int y0 u0, .int y1 u1] n) :: (tup ++ rest)))
    (m1 : m "source" = some (.ref src)) (m2 : m "row" = some (.str (strB bits) tb)) (m3 : m "found" = some (.ref q)) (m4 : m "at" = some (.int (at_ + sz) tat))
    (hNums : Nums tup vs nums) (hgood : GoodNums nums) (hrow : rowBits nums = bits.take at_.toNat) (hvl : vs.length ≤ at_) (ha0 : 0 ≤ at_) (hsz : 1 ≤ sz) (hs17 : sz < 18) (ha1 : at_ + sz ≤ bits.length)
    (hv : v = ((natB ((bits.drop at_.toNat).take sz.toNat) : Nat) : Int)) (hy0 : 0 ≤ y0) (hy1 : 0 ≤ y1) (hy1' : y1 < 2147483647) (htup : ∀ z ∈ tup, q < z.1) (hqD : q < D) : Less (CutI s g' L' src q n bits tb rest) (bits.length - at_.toNat) { s with heap := h', toks := tk } := by
  have hlen : ((bits.drop at_.toNat).take sz.toNat).length = sz.toNat := by rw [List.length_take, List.length_drop]; omega
  have hb := bitsZ_natB ((bits.drop at_.toNat).take sz.toNat)
  rw [hlen, ← hv] at hb
  have hlt := natB_lt ((bits.drop at_.toNat).take sz.toNat)
  rw [hlen] at hlt
  refine ⟨bits.length - (at_ + sz).toNat, by omega, h', tk, at_ + sz, tat, vs ++ [.ref D], nums ++ [(v, sz)], (D, tupO [.int v tv, .int sz tz]) :: tup, kq + 1, y0, y1, u0, u1, m, rfl, fr4 F m1 m2 m3 m4, news_sub N ?_, hNums.snoc, ?_, ?_, ?_, by omega, ha1, rfl, hy0, hy1, hy1', ?_⟩
  · intro p hp
    have e : (vs ++ [Value.ref D]).toArray = vs.toArray.push (.ref D) := by simp
    rw [e] at hp
    simp only [List.mem_cons, List.cons_append] at hp ⊢
    rcases hp with h | h | h | h <;> simp [h]
  · intro z hz
    rcases List.mem_append.mp hz with h | h
    · exact hgood z h
    · rw [List.mem_singleton.mp h]
      refine ⟨by show 0 ≤ sz; omega, hs17, by show 0 ≤ v; omega, ?_⟩
      show v < 1 * 2 ^ sz.toNat
      rw [hv, Int.one_mul]; exact_mod_cast hlt
  · rw [rowBits_append', hrow]
    show _ ++ (bitsZ v sz.toNat ++ []) = _
    rw [hb, List.append_nil, show (at_ + sz).toNat = at_.toNat + sz.toNat by omega, List.take_add]
  · rw [List.length_append, List.length_singleton]; push_cast; omega
  · intro a ha
    rcases List.mem_cons.mp ha with rfl | h
    · exact hqD
    · exact htup a h
set_option maxRecDepth 100000 in
set_option maxHeartbeats 8000000 in
theorem cuts_spec {w : World} {p : Program} {loose : List Str} {mean : ExcName → Option Value} {mg mb : Str → Option Value}
    {src : Addr} {rest : Led} {x0 x1 : Int} {t0 t1 : Tok} {n : Nat} {bits : List Bool} {tb : Tok}
    (h0 : 0 ≤ x0) (h1 : 0 ≤ x1) (h1' : x1 < 2147483647) (hne : ∀ q ∈ rest, q.1 ≠ src) (hl : bits.length ≤ 91000) :
    Called none w p loose mean mg mb 182 [.ref src, .str (strB bits) tb] ((src, listOf #[.int x0 t0, .int x1 t1] n) :: rest) 3 30 (fun _ => True)
      (fun P => ∀ (q : Addr) (k : Nat) (vs : List Value) (nums : List (Int × Int)) (tup : Led) (y0 y1 : Int) (u0 u1 : Tok), 0 ≤ y0 → 0 ≤ y1 → y1 < 2147483647 →
        Nums tup vs nums → GoodNums nums → rowBits nums = bits → (∀ z ∈ rest, z.1 < q) → src < q → (∀ z ∈ tup, q < z.1) →
        P (.ref q) ((q, listOf vs.toArray k) :: (src, listOf #[.int y0 u0, .int y1 u1] n) :: (tup ++ rest))) := by
  intro dp un gd cn cs a ccd cl outer A₀ base h₀ L m s Q E B F X N T hk hd hu hS hret
  refine wpAny_call ?_
  k_dflt cell_enter
  w_strict (k_steps)
  rename_i g' L' ha FG' B' X' T' tk1 q hb l1 hc hd' F1 N1
  refine ⟨CutI s g' L' src q n bits tb rest, _, ⟨_, _, 0, _, [], [], [], 0, x0, x1, t0, t1, _, rfl, fr4 F1 (by exact rfl) (by exact rfl) (by exact rfl) (by exact rfl), N1, Nums.nil, (by intro z hz; cases hz), (by simp [rowBits]), (by simp), Int.le_refl _, (by omega), rfl, h0, h1, h1', (by intro z hz; cases hz)⟩, ?_⟩
  clear F1 N1
  rintro k s' ⟨h3, tk3, at_, tat, vs, nums, tup, kq, y0, y1, u0, u1, u, rfl, F2, N2, hNums, hgood, hrow, hvl, ha0, ha1, rfl, hy0, hy1, hy1', htup⟩
  have hA1 := num_f1 htup l1.1 hne
  have hA2 := num_f2 htup (ktn_ltOf l1.2)
  have hA3 := ltN l1.1
  have hvl2 : vs.length ≤ 91000 := by omega
  w_strict (k_steps)
  case c1 =>
    intro z
    have := congrArg List.length z
    rw [List.length_take, List.length_drop, List.length_nil] at this
    omega
  case c2 =>
    rw [List.length_take]
    omega
  · dsimp only
    refine' CutI.next ?cF ?cN ?m1 ?m2 ?m3 ?m4 hNums hgood hrow hvl ha0 ?z1 ?z2 ?z3 ?cv ?y1 ?y2 ?y3 htup ?lt
    case cF => k_asm
    case cN => k_asm
    case m1 => exact rfl
    case m2 => exact rfl
    case m3 => exact rfl
    case m4 => exact rfl
    case z1 => omega
    case z2 => omega
    case z3 => omega
    case cv => rw [show ∀ z : Int, (at_ + z - at_) = z from fun z => by omega]
    case y1 => assumption
    case y2 => assumption
    case y3 => assumption
    case lt => rename_i l2 _ _ _ _; exact l2.1
  · have hat : at_ = bits.length := by omega
    refine hret q kq vs nums tup y0 y1 u0 u1 hy0 hy1 hy1' hNums hgood ?_ (ktn_ltOf l1.2) l1.1 htup _ _ (by k_asm) (by k_asm)
    rw [hrow]; exact List.take_of_length_le (by omega)
end Mine
end
section
open PySem PySem.W PySem.Calls PyProof.Rows PySem.Spec
namespace Mine
theorem reset_NT_rd1 : True := by
  w_top off
  exact True.intro
local macro_rules | `(tactic| k_all) => `(tactic| with_reducible assumption)
local macro_rules | `(tactic| walk_at "exec For Tuple Name cons nil") => `(tactic| (k_here; (rename Fr _ _ _ _ => lF'); (with_unfolding_all refine' For_invTF lF' ?_ ?k2; (case k2 => (intro _; rfl)); k_whole)))
local macro_rules | `(tactic| walk_at "exec For Name Call cons nil") => `(tactic| (k_here; (rename Fr _ _ _ _ => lF'); (with_unfolding_all refine' For_M lF' ?k1 ?k2 ?_; (case k1 => exact rfl); (case k2 => exact rfl); k_whole)))
local macro_rules | `(tactic| walk_at "call type:range") => `(tactic| (k_here; (with_reducible show wpAny _ _ (call _ [_]) _ _ _); k_dflt (refine' range1_rows ?F ?N ?_; (case F => k_asm); (case N => k_asm); k_whole); intro h' tk t₁ u₁ v₁ rgX F' N' st'))
local macro_rules | `(tactic| walk_at "call type:range") => `(tactic| (k_here; (with_reducible show wpAny _ _ (call _ [_, _, _]) _ _ _); k_dflt (refine' range3_rows ?F ?N ?c ?_; (case F => k_asm); (case N => k_asm); (case c => decide); k_whole); intro h' tk t₁ u₁ v₁ rgX F' N' st'))
local macro_rules | `(tactic| k_mem) => `(tactic| assumption)
structure RM where
  h1 : Int
  h2 : Int
  k1 : Tok
  k2 : Tok
abbrev rdD (M : RM) (oc : Array UInt8) (t : Tok) (at_ : Int) (ta : Tok) : Obj := dictOf [⟨M.h1, .str (Str.ofString "source") M.k1, .bytes oc t⟩, ⟨M.h2, .str (Str.ofString "at") M.k2, .int at_ ta⟩] 2
/-- the reader's two objects -/
abbrev rdL (x dx : Addr) (M : RM) (oc : Array UInt8) (t : Tok) (at_ : Int) (ta : Tok) (rest : Led) : Led := (x, instObj 138 dx) :: (dx, rdD M oc t at_ ta) :: rest
structure RdF (x dx : Addr) (rest : Led) : Prop where
  h1 : dx < x ∨ x < dx
  r1 : ∀ q ∈ rest, q.1 ≠ dx
  r2 : ∀ q ∈ rest, q.1 ≠ x
section
variable {prog : Program} {w : World} {A : Around} {E : Value → Shared → Prop} {s : Shared} {Q : Value → Shared → Prop} {b : Array UInt8} {t u : Tok} {value slice : Expr} {i a : Int}
theorem len_by (hz : b.size ≤ 1000000) (h : Q (.int (b.size : Nat) (s.toks + 1)) { s with toks := s.toks + 1 + 1 }) : wpAny (model prog w) A (call (.builtin "len") [.bytes b t]) Q E s :=
  KBw.len_K rfl (by rw [KBw.ints_length]; omega) (by rw [KBw.ints_length]; exact h)
theorem item_by {ui : Tok} (hz : b.size ≤ 1000000) (h0 : 0 ≤ i) (h1 : i < b.size) (h : ∀ t' k, Q (.int ((KBw.bInts b).getD i.toNat 0) t') { s with toks := k })
    (hs : subscripted slice false (.bytes b t) (.int i ui) = operate [.bytes b t, .int i ui] (getItem (.bytes b t) (.int i ui)) := by with_unfolding_all rfl)
    (ht : ∀ r, letTemporaryGo value (.bytes b t) r = pure () := by intro _; with_unfolding_all rfl) : wpAny (model prog w) A (subscriptTail value slice (.bytes b t) (.int i ui)) Q E s :=
  KBw.item_K rfl (by rw [KBw.ints_length]; omega) h0 (by rw [KBw.ints_length]; exact h1) (fun t' k _ _ => h t' k) hs ht
theorem shr3 (h : Q (.int (a / 8) s.toks) { s with toks := s.toks + 1 }) : wpAny (model prog w) A (binaryOp .RShift (.int a t) (.int 3 u)) Q E s :=
  rshift_int (by decide) (by
    rw [show a.fdiv (2 ^ (3 : Int).toNat) = a / 8 from Int.fdiv_eq_ediv_of_nonneg _ (by decide)]; exact h)
theorem and7 (h0 : 0 ≤ a) (h : Q (.int (a % 8) s.toks) { s with toks := s.toks + 1 }) : wpAny (model prog w) A (binaryOp .BitAnd (.int a t) (.int 7 u)) Q E s :=
  and_int (by
    rw [show Builtin.bitAnd a 7 = a % 8 from andMask (n := 3) h0]; exact h)
end
theorem natB_snoc (l : List Bool) (c : Bool) : natB (l ++ [c]) = natB l * 2 + (if c then 1 else 0) := by
  rw [natB_append]; cases c <;> simp [natB]
theorem natB_bit {c : List Bool} {j : Nat} {x : Bool} (h : c[j]? = some x) : natB c / 2 ^ (c.length - 1 - j) % 2 = if x then 1 else 0 := by
  have hj : j < c.length := by
    rcases Nat.lt_or_ge j c.length with h1 | h1
    · exact h1
    · rw [List.getElem?_eq_none h1] at h; cases h
  have e : natB c = natB (c.take (j + 1)) * 2 ^ (c.length - 1 - j) + natB (c.drop (j + 1)) := by
    conv => lhs; rw [← List.take_append_drop (j + 1) c, natB_append]
    rw [List.length_drop]; congr 3; omega
  have hlt : natB (c.drop (j + 1)) < 2 ^ (c.length - 1 - j) := by
    have := natB_lt (c.drop (j + 1)); rw [List.length_drop] at this
    rw [show c.length - 1 - j = c.length - (j + 1) by omega]; exact this
  have p : 0 < 2 ^ (c.length - 1 - j) := Nat.pow_pos (by decide)
  rw [e, Nat.mul_comm, Nat.mul_add_div p, Nat.div_eq_of_lt hlt, Nat.add_zero, List.take_add_one, h]
  show natB (c.take j ++ [x]) % 2 = _
  rw [natB_snoc]
  cases x <;> simp <;> omega
theorem pack_bit {bits : List Bool} {at_ : Int} {x : Bool} (h0 : 0 ≤ at_) (h1 : at_ < 8 * (packB bits).size) (hx : bits[at_.toNat]? = some x) :
    Builtin.bitAnd (((KBw.bInts (packB bits)).getD (at_ / 8).toNat 0).fdiv (2 ^ (7 - at_ % 8).toNat)) 1 = if x then 1 else 0 := by
  rw [bit_val]
  rw [packB_size] at h1
  have hk : (at_ / 8).toNat < bits.length / 8 := by omega
  have hc : ((bits.drop (8 * (at_ / 8).toNat)).take 8).length = 8 := by rw [List.length_take, List.length_drop]; omega
  have e1 : (KBw.bInts (packB bits)).getD (at_ / 8).toNat 0 = ((natB ((bits.drop (8 * (at_ / 8).toNat)).take 8) : Nat) : Int) := by
    have hn := natB_lt ((bits.drop (8 * (at_ / 8).toNat)).take 8)
    rw [hc] at hn
    unfold KBw.bInts packB
    rw [List.getD_eq_getElem?_getD, List.getElem?_map, List.getElem?_map, List.getElem?_range hk]
    show (((natB ((bits.drop (8 * (at_ / 8).toNat)).take 8)).toUInt8.toNat : Nat) : Int) = _
    rw [Nat.toUInt8_eq, UInt8.toNat_ofNat_of_lt' (by omega)]
  have e2 : ((bits.drop (8 * (at_ / 8).toNat)).take 8)[(at_ % 8).toNat]? = some x := by
    rw [List.getElem?_take_of_lt (by omega), List.getElem?_drop, show 8 * (at_ / 8).toNat + (at_ % 8).toNat = at_.toNat by omega]; exact hx
  have b := natB_bit e2
  rw [hc, show 8 - 1 - (at_ % 8).toNat = (7 - at_ % 8).toNat by omega] at b
  have b2 : ((natB ((bits.drop (8 * (at_ / 8).toNat)).take 8) : Nat) : Int) / 2 ^ (7 - at_ % 8).toNat % 2 = if x then 1 else 0 := by
    have := congrArg (fun n : Nat => (n : Int)) b
    push_cast at this
    rw [this]
    cases x <;> rfl
  rw [e1, b2]
  cases x <;> rfl
local macro_rules | `(tactic| walk_at "call builtin:len") => `(tactic| (k_here; (with_reducible show wpAny _ _ (call _ [Value.bytes _ _]) _ _ _); k_dflt (refine' len_by ?cl ?_; (case cl => omega); k_whole)))
local macro_rules | `(tactic| walk_at "subscriptTail") => `(tactic| (k_here; (with_reducible show wpAny _ _ (subscriptTail _ _ (Value.bytes _ _) (Value.int _ _)) _ _ _); (refine' item_by ?c1 ?c2 ?c3 ?_; (case c1 => omega); (case c2 => omega); (case c3 => omega)); intro _ _))
local macro_rules | `(tactic| walk_at "binaryOp RShift int int") => `(tactic| (k_here; (with_reducible show wpAny _ _ (binaryOp _ _ (Value.int 3 _)) _ _ _); refine shr3 ?_))
local macro_rules | `(tactic| walk_at "binaryOp RShift int int") => `(tactic| (k_here; (with_reducible show wpAny _ _ (binaryOp _ _ (Value.int (7 - _) _)) _ _ _); refine' rshift_int ?c1 ?_; (case c1 => omega)))
local macro_rules | `(tactic| walk_at "binaryOp BitAnd int int") => `(tactic| (k_here; (with_reducible show wpAny _ _ (binaryOp _ _ (Value.int 7 _)) _ _ _); refine' and7 ?c1 ?_; (case c1 => omega)))
set_option maxRecDepth 100000 in
set_option maxHeartbeats 8000000 in
theorem left_spec {hn : Option Value} {w : World} {p : Program} {loose : List Str} {mean : ExcName → Option Value} {mg mb : Str → Option Value}
    {x dx : Addr} {M : RM} {oc : Array UInt8} {t ta : Tok} {at_ : Int} {rest : Led} (hz : oc.size ≤ 100000) :
    Called hn w p loose mean mg mb 121 [.ref x] (rdL x dx M oc t at_ ta rest) 1 16 (fun _ => True)
      (fun P => ∀ (t' : Tok), P (.int (8 * (oc.size : Nat) - at_) t') (rdL x dx M oc t at_ ta rest)) := by
  intro dp un gd cn cs a ccd cl outer A₀ base h₀ L m s Q E B F X N T hk hd hu _ hret
  refine wpAny_call ?_
  k_dflt cell_enter
  dsimp only [rdL, rdD] at *
  w_strict (k_steps)
  refine' hret _ _ _ ?cF ?cN
  case cF => k_asm
  case cN => k_asm
set_option maxRecDepth 100000 in
set_option maxHeartbeats 8000000 in
theorem bit_spec {hn : Option Value} {w : World} {p : Program} {loose : List Str} {mean : ExcName → Option Value} {mg mb : Str → Option Value}
    {x dx : Addr} {M : RM} {bits : List Bool} {t ta : Tok} {at_ : Int} {rest : Led} {c : Bool} (R : RdF x dx rest) (hz : (packB bits).size ≤ 100000) (h0 : 0 ≤ at_) (h1 : at_ < 8 * ((packB bits).size : Nat)) (hc : bits[at_.toNat]? = some c) :
    Called hn w p loose mean mg mb 128 [.ref x] (rdL x dx M (packB bits) t at_ ta rest) 1 16 (fun _ => True)
      (fun P => ∀ (t' ta' : Tok), P (.int (if c then 1 else 0) t') (rdL x dx M (packB bits) t (at_ + 1) ta' rest)) := by
  obtain ⟨g1, g2, g3⟩ := R
  replace g1 := ltOr g1
  intro dp un gd cn cs a ccd cl outer A₀ base h₀ L m s Q E B F X N T hk hd hu _ hret
  refine wpAny_call ?_
  k_dflt cell_enter
  have hv := pack_bit h0 h1 hc
  generalize packB bits = oc at *
  dsimp only [rdL, rdD] at *
  w_strict (k_steps)
  rw [hv]
  refine' hret _ _ _ _ ?cF ?cN
  case cF => k_asm
  case cN => k_asm
end Mine
end
section
open PySem PySem.W PySem.Calls PyProof.Rows PySem.Spec
namespace Mine
theorem reset_NT_rd2 : True := by
  w_top off
  exact True.intro
local macro_rules | `(tactic| k_all) => `(tactic| with_reducible assumption)
local macro_rules | `(tactic| walk_at "exec For Tuple Name cons nil") => `(tactic| (k_here; (rename Fr _ _ _ _ => lF'); (with_unfolding_all refine' For_invTF lF' ?_ ?k2; (case k2 => (intro _; rfl)); k_whole)))
local macro_rules | `(tactic| walk_at "exec For Name Call cons nil") => `(tactic| (k_here; (rename Fr _ _ _ _ => lF'); (with_unfolding_all refine' For_M lF' ?k1 ?k2 ?_; (case k1 => exact rfl); (case k2 => exact rfl); k_whole)))
local macro_rules | `(tactic| walk_at "call type:range") => `(tactic| (k_here; (with_reducible show wpAny _ _ (call _ [_]) _ _ _); k_dflt (refine' range1_rows ?F ?N ?_; (case F => k_asm); (case N => k_asm); k_whole); intro h' tk t₁ u₁ v₁ rgX F' N' st'))
local macro_rules | `(tactic| walk_at "call type:range") => `(tactic| (k_here; (with_reducible show wpAny _ _ (call _ [_, _, _]) _ _ _); k_dflt (refine' range3_rows ?F ?N ?c ?_; (case F => k_asm); (case N => k_asm); (case c => decide); k_whole); intro h' tk t₁ u₁ v₁ rgX F' N' st'))
local macro_rules | `(tactic| k_mem) => `(tactic| assumption)
theorem RdF.cons {x dx I : Addr} {oI : Obj} {rest : Led} (W : RdF x dx rest) (h1 : dx ≠ I) (h2 : x ≠ I) : RdF x dx ((I, oI) :: rest) :=
  ⟨W.h1, fun q hq => by rcases List.mem_cons.mp hq with rfl | hq; exact h1.symm; exact W.r1 q hq, fun q hq => by rcases List.mem_cons.mp hq with rfl | hq; exact h2.symm; exact W.r2 q hq⟩
theorem rd_in {h₀ h : Heap} {L x dx I : Addr} {oI o1 o2 : Obj} {rest : Led} (N : News h₀ L h ((I, oI) :: (x, o1) :: (dx, o2) :: rest)) : News h₀ L h ((x, o1) :: (dx, o2) :: (I, oI) :: rest) :=
  news_sub N (by intro p hp; simp only [List.mem_cons] at hp ⊢; rcases hp with h | h | h | h <;> simp [h])
theorem rd_out {h₀ h : Heap} {L x dx I : Addr} {oI o1 o2 : Obj} {rest : Led} (N : News h₀ L h ((x, o1) :: (dx, o2) :: (I, oI) :: rest)) : News h₀ L h ((I, oI) :: (x, o1) :: (dx, o2) :: rest) :=
  news_sub N (by intro p hp; simp only [List.mem_cons] at hp ⊢; rcases hp with h | h | h | h <;> simp [h])
local macro_rules | `(tactic| walk_at "call ref") => `(tactic| (k_here; (with_reducible show wpAny _ _ (call (Value.ref 121) _) _ _ _); k_dflt (refine' left_spec ?z _ _ _ _ _ _ _ _ _ _ _ _ _ _ _ _ _ ?B ?F ?X ?N ?T ?K ?d ?u True.intro ?_; (case N => k_asm); (case B => k_asm); (case F => k_asm); (case X => k_asm); (case T => k_asm); (case K => exact rfl); (case z => assumption); (case d => ktr_room); (case u => ktr_units); k_whole); intro tB h' tk' F' N'; (try dsimp only [rdL] at N')))
local macro_rules | `(tactic| walk_at "call ref") => `(tactic| (k_here; (with_reducible show wpAny _ _ (call (Value.ref 128) _) _ _ _); k_dflt (refine' bit_spec ?R ?z ?h0 ?h1 ?hc _ _ _ _ _ _ _ _ _ _ _ _ _ _ _ _ _ ?B ?F ?X ?N ?T ?K ?d ?u True.intro ?_; (case N => exact rd_in (by k_asm)); (case B => k_asm); (case F => k_asm); (case X => k_asm); (case T => k_asm); (case K => exact rfl); (case R => assumption); (case z => assumption); (case h0 => omega); (case h1 => omega); (case hc => assumption); (case d => ktr_room); (case u => ktr_units); k_whole); intro tB taB h' tk' F' N'; (have N' := rd_out N')))
def BsJ (x dx : Addr) (M : RM) (bits : List Bool) (t : Tok) (at_ : Int) (rest : Led) (i : Nat) (m : Str → Option Value) (news₁ : Led) : Prop :=
  ∃ (u : Str → Option Value) (ta tf : Tok), m = on "self" (.ref x) (on "found" (.int ((natB ((bits.drop at_.toNat).take i) : Nat) : Int) tf) u) ∧ news₁ = (x, instObj 138 dx) :: (dx, rdD M (packB bits) t (at_ + (i : Int)) ta) :: rest
theorem BsJ.start {x dx : Addr} {M : RM} {bits : List Bool} {t ta tf : Tok} {at_ : Int} {rest : Led} {m : Str → Option Value} (h1 : m "self" = some (.ref x)) (h2 : m "found" = some (.int 0 tf)) :
    BsJ x dx M bits t at_ rest 0 m ((x, instObj 138 dx) :: (dx, rdD M (packB bits) t at_ ta) :: rest) :=
  ⟨m, ta, tf, on2 h1 h2, by rw [show at_ + ((0 : Nat) : Int) = at_ by omega]⟩
theorem BsJ.next {x dx : Addr} {M : RM} {bits : List Bool} {t ta tf : Tok} {at_ : Int} {rest : Led} {m : Str → Option Value} {i : Nat} {c : Bool} (h0 : 0 ≤ at_) (h1 : m "self" = some (.ref x))
    (h2 : m "found" = some (.int (((natB ((bits.drop at_.toNat).take i) : Nat) : Int) * 2 + (if c = true then 1 else 0)) tf)) (hc : bits[(at_ + (i : Int)).toNat]? = some c) :
    BsJ x dx M bits t at_ rest (i + 1) m ((x, instObj 138 dx) :: (dx, rdD M (packB bits) t (at_ + (i : Int) + 1) ta) :: rest) := by
  refine ⟨m, ta, tf, on2 h1 ?_, by rw [show at_ + ((i + 1 : Nat) : Int) = at_ + (i : Int) + 1 by push_cast; omega]⟩
  rw [h2, List.take_add_one, List.getElem?_drop, show at_.toNat + i = (at_ + (i : Int)).toNat by omega, hc]
  show _ = some (Value.int ((natB ((bits.drop at_.toNat).take i ++ [c]) : Nat) : Int) tf)
  rw [natB_snoc]
  congr 2
  push_cast
  cases c <;> simp
set_option maxRecDepth 100000 in
set_option maxHeartbeats 8000000 in
theorem bits_spec {w : World} {p : Program} {loose : List Str} {mean : ExcName → Option Value} {mg mb : Str → Option Value}
    {x dx : Addr} {M : RM} {bits : List Bool} {t ta ts : Tok} {at_ sz : Int} {rest : Led} (R : RdF x dx rest) (hz : (packB bits).size ≤ 100000) (hb : 8 * (packB bits).size ≤ bits.length) (h0 : 0 ≤ at_) (s0 : 0 ≤ sz) (s1 : sz ≤ 60) (h1 : at_ + sz ≤ 8 * ((packB bits).size : Nat)) :
    Called none w p loose mean mg mb 135 [.ref x, .int sz ts] (rdL x dx M (packB bits) t at_ ta rest) 3 32 (fun _ => True)
      (fun P => ∀ (t' ta' : Tok), P (.int ((natB ((bits.drop at_.toNat).take sz.toNat) : Nat) : Int) t') (rdL x dx M (packB bits) t (at_ + sz) ta' rest)) := by
  intro dp un gd cn cs a ccd cl outer A₀ base h₀ L m s Q E B F X N T hk hd hu _ hret
  refine wpAny_call ?_
  k_dflt cell_enter
  dsimp only [rdL] at *
  w_strict (k_steps)
  rename_i g' L' _ FG' B' X' T' _ _ _ _ F1 N1 _ _ _ _ _ rg F2 N2 _
  clear F1 N1
  refine' range_loop (BsJ x dx M bits t at_ rest) rfl rg (small_one (by omega) (by omega) (by omega) (by omega)) (rangeSize_nat _ _) F2 N2 (BsJ.start (by exact rfl) (by exact rfl)) ?turn ?done
  case turn =>
    rintro i m₁ news₂ I oI h tk tt hi ⟨u, ta', tf, rfl, rfl⟩ hI F3 N3
    have R3 : RdF x dx ((I, oI) :: rest) := R.cons (hI _ (.tail _ (.head _))) (hI _ (.head _))
    obtain ⟨c, hc⟩ : ∃ c, bits[(at_ + (i : Int)).toNat]? = some c := ⟨bits[(at_ + (i : Int)).toNat]'(by omega), List.getElem?_eq_getElem (by omega)⟩
    have hnb := natB_lt ((bits.drop at_.toNat).take i)
    have hnb2 : 2 ^ ((bits.drop at_.toNat).take i).length ≤ 2 ^ 60 := Nat.pow_le_pow_right (by decide) (by rw [List.length_take]; omega)
    have hnb3 : natB ((bits.drop at_.toNat).take i) < 2 ^ 60 := Nat.lt_of_lt_of_le hnb hnb2
    clear hnb hnb2
    (try dsimp only)
    w_strict (k_steps)
    refine' TurnG.next (news' := (x, instObj 138 dx) :: (dx, rdD M (packB bits) t (at_ + (i : Int) + 1) _) :: rest) ?cF ?cN ?cH ?cJ
    case cF => k_asm
    case cN => k_asm
    case cH =>
      intro p hp
      rcases List.mem_cons.mp hp with rfl | hp
      · exact hI _ (.head _)
      rcases List.mem_cons.mp hp with rfl | hp
      · exact hI (dx, rdD M (packB bits) t (at_ + (i : Int)) ta') (.tail _ (.head _))
      exact hI p (.tail _ (.tail _ hp))
    case cJ => exact BsJ.next h0 (by exact rfl) (by exact rfl) hc
  case done =>
    rintro m₁ news₂ h tk ⟨u, ta', tf, rfl, rfl⟩ F3 N3
    w_strict (k_steps)
    rw [Int.sub_zero] at *
    refine' hret _ _ _ _ ?cF ?cN
    case cF => k_asm
    case cN => rw [show sz = ((sz.toNat : Nat) : Int) by omega]; k_asm
end Mine
end
section
open PySem PySem.W PySem.Calls PyProof.Rows PySem.Spec
namespace Mine
theorem reset_NT_rd3 : True := by
  w_top off
  exact True.intro
local macro_rules | `(tactic| k_all) => `(tactic| with_reducible assumption)
local macro_rules | `(tactic| walk_at "exec For Tuple Name cons nil") => `(tactic| (k_here; (rename Fr _ _ _ _ => lF'); (with_unfolding_all refine' For_invTF lF' ?_ ?k2; (case k2 => (intro _; rfl)); k_whole)))
local macro_rules | `(tactic| walk_at "exec For Name Call cons nil") => `(tactic| (k_here; (rename Fr _ _ _ _ => lF'); (with_unfolding_all refine' For_M lF' ?k1 ?k2 ?_; (case k1 => exact rfl); (case k2 => exact rfl); k_whole)))
local macro_rules | `(tactic| walk_at "call type:range") => `(tactic| (k_here; (with_reducible show wpAny _ _ (call _ [_]) _ _ _); k_dflt (refine' range1_rows ?F ?N ?_; (case F => k_asm); (case N => k_asm); k_whole); intro h' tk t₁ u₁ v₁ rgX F' N' st'))
local macro_rules | `(tactic| walk_at "call type:range") => `(tactic| (k_here; (with_reducible show wpAny _ _ (call _ [_, _, _]) _ _ _); k_dflt (refine' range3_rows ?F ?N ?c ?_; (case F => k_asm); (case N => k_asm); (case c => decide); k_whole); intro h' tk t₁ u₁ v₁ rgX F' N' st'))
local macro_rules | `(tactic| k_mem) => `(tactic| assumption)
local macro_rules | `(tactic| walk_at "call builtin:len") => `(tactic| (k_here; (with_reducible show wpAny _ _ (call _ [Value.bytes _ _]) _ _ _); k_dflt (refine' len_by ?cl ?_; (case cl => omega); k_whole)))
local macro_rules | `(tactic| walk_at "call ref") => `(tactic| (k_here; (with_reducible show wpAny _ _ (call (Value.ref 121) _) _ _ _); k_dflt (refine' left_spec ?z _ _ _ _ _ _ _ _ _ _ _ _ _ _ _ _ _ ?B ?F ?X ?N ?T ?K ?d ?u True.intro ?_; (case N => k_asm); (case B => k_asm); (case F => k_asm); (case X => k_asm); (case T => k_asm); (case K => exact rfl); (case z => assumption); (case d => ktr_room); (case u => ktr_units); k_whole); intro tB h' tk' F' N'; (try dsimp only [rdL] at N')))
local macro_rules | `(tactic| walk_at "exec Raise some none") => `(tactic| (k_here; k_dflt (refine' RaiseOwnX ?cX ?cY ?c1 ?c2 ?_; (case cX => k_asm); (case cY => exact exc44 _); (case c1 => exact rfl); (case c2 => exact rfl); k_whole)))
set_option maxRecDepth 100000 in
set_option maxHeartbeats 8000000 in
theorem bits_raise {w : World} {p : Program} {loose : List Str} {mean : ExcName → Option Value} {mg mb : Str → Option Value}
    {x dx : Addr} {M : RM} {oc : Array UInt8} {t ta ts : Tok} {at_ sz : Int} {rest : Led} (hz : oc.size ≤ 100000) (h1 : sz > 8 * (oc.size : Nat) - at_) :
    CalledR w p loose mean mg mb 44 135 [.ref x, .int sz ts] (rdL x dx M oc t at_ ta rest) 4 32 := by
  intro dp un gd cn cs a ccd cl outer A₀ base h₀ L m s Q E B F X N T hk hd hu hE
  refine wpAny_call ?_
  k_dflt cell_enter
  dsimp only [rdL] at *
  w_strict (k_steps)
  rename Below _ _ _ _ => B'
  rename Frag.In _ _ => X'
  rename Top _ _ _ _ _ _ => T'
  rename News _ _ _ _ => N'
  rename Fr _ _ _ _ => F'
  k_dflt (refine exc_spec (.inr rfl) _ _ _ _ _ _ _ _ _ _ _ _ _ _ _ _ _ B' F' X' N' T' rfl ?_ ?_ ?_)
  · show dp + 1 + 2 < recursionLimit; omega
  · show un + 3 + 10 < cLine; omega
  intro e t d h2 tk2 F2 N2 hne
  refine ⟨e, t, d, rfl, X'.keeps F2.keep, (N2 _ (.head _)).1, ?_⟩
  refine leave_raise B' F2 N2 hne rfl rfl fun h3 R up => ?_
  exact hE _ _ _ _ _ _ (by assumption) R up
set_option maxRecDepth 100000 in
set_option maxHeartbeats 8000000 in
theorem bit_raise {w : World} {p : Program} {loose : List Str} {mean : ExcName → Option Value} {mg mb : Str → Option Value}
    {x dx : Addr} {M : RM} {oc : Array UInt8} {t ta : Tok} {at_ : Int} {rest : Led} (hz : oc.size ≤ 100000) (h1 : at_ ≥ 8 * (oc.size : Nat)) :
    CalledR w p loose mean mg mb 44 128 [.ref x] (rdL x dx M oc t at_ ta rest) 4 32 := by
  intro dp un gd cn cs a ccd cl outer A₀ base h₀ L m s Q E B F X N T hk hd hu hE
  refine wpAny_call ?_
  k_dflt cell_enter
  dsimp only [rdL, rdD] at *
  w_strict (k_steps)
  rename Below _ _ _ _ => B'
  rename Frag.In _ _ => X'
  rename Top _ _ _ _ _ _ => T'
  rename News _ _ _ _ => N'
  rename Fr _ _ _ _ => F'
  k_dflt (refine exc_spec (.inr rfl) _ _ _ _ _ _ _ _ _ _ _ _ _ _ _ _ _ B' F' X' N' T' rfl ?_ ?_ ?_)
  · show dp + 1 + 2 < recursionLimit; omega
  · show un + 3 + 10 < cLine; omega
  intro e t d h2 tk2 F2 N2 hne
  refine ⟨e, t, d, rfl, X'.keeps F2.keep, (N2 _ (.head _)).1, ?_⟩
  refine leave_raise B' F2 N2 hne rfl rfl fun h3 R up => ?_
  exact hE _ _ _ _ _ _ (by assumption) R up
end Mine
end
section
open PySem PySem.W PySem.Calls PyProof.Rows PySem.Spec
set_option maxRecDepth 100000
namespace Mine
section
variable {prog : Program} {w : World} {A₀ A : Around} {s : Shared} {base h₀ : Heap} {outer : List Env} {L : Addr} {m : Str → Option Value} {env : Env} {news : Led} {K : Frag} {p : Program} {loose : List Str} {mean : ExcName → Option Value} {mg mb : Str → Option Value}
  {R : Result → Shared → Prop} {name qual : Str} {params : Arguments} {body : List Stmt} {scope : Scope} {dV kV doc pm cdv ct oc : Value} {an od : Option Addr} {osl : Array (Option Value)} {f : Addr} {args : Args} {binds : List (Str × Value)}
theorem defC0S (B : Below A₀ base outer h₀) (F : Fr h₀ L s.heap m) (X₀ : K.In h₀) (N : News h₀ L s.heap news) (T : Top p loose mean mg mb h₀) (hA : A.frames = some (env :: outer)) (hf : env.frame = some L) (hke : env.scope.kind = .function)
    (ho : K.lookup f = some ⟨oc, od, .func (fnOf name qual params body scope dV kV doc pm an cdv ct), osl⟩) (hcd : codeIn K cdv qual = true) (hroom : A.depth < recursionLimit)
    (hbind : BindsTo s (fnOf name qual params body scope dV kV doc pm an cdv ct) args binds) (hkind : (binds.all fun y => scope.names.lookup y.1 == some .local || scope.names.lookup y.1 == some .cell) = true)
    (hnd : ((cellsFrom 0 scope.names []).map (·.1)).Nodup)
    (h : ∀ g L' h₁ tk cells, Fr h₀ L g m → Fr g L' h₁ (bindL (envOfC qual scope L' f cdv).kindOf binds fun _ => none) → News g L' h₁ (cells ++ news) →
      CellsAre (bindC (envOfC qual scope L' f cdv).kindOf binds fun _ => none) (cellsFrom (L' + 1) scope.names []) cells → Below A base (env :: outer) g → K.In g → Top p loose mean mg mb g → h₀.StaysIn g → (∀ p ∈ news, p.1 < L') →
      wpS (model prog w) (A.deeper (envOfC qual scope L' f cdv)) (execs body (envOfC qual scope L' f cdv))
        (fun fl s' => LeaveT h₀ L m g R (match fl with | .ret v => v | _ => .none) s') NoE
        { s with heap := h₁, toks := tk })
    (hco : scope.isCoroutine = false) (hgen : scope.isGenerator = false) (hk : scope.kind = .function) : codeS (model prog w) A (.call (.ref f) args) R s := by
  have X := X₀.keeps F.keep
  have hlim := T.nolimit
  have hkd := fun n => kindsX (n := n) hkind
  obtain ⟨FG, BG, st, _⟩ := groundX (R := R) B F N hA hf hke
  have lv := groundT (R := R) F N
  refine codeS_call_function (fd := fnOf name qual params body scope dV kV doc pm an cdv ct) (body := body) hroom (X _ _ ho) rfl hco hgen rfl (codeRec_of X hcd) (hbind _ _ _ _ ?_)
  refine wpAny_newFunctionEnv_cells hk (hkd _) fun env' he s' x => ?_
  subst he
  refine ⟨(hlim.keeps F.keep).keeps x.toInCall.keep, codeS_func ?_⟩
  obtain ⟨h₁, tk, rfl, _⟩ := x.done
  have hk₁ := x.toInCall.keep
  obtain ⟨cells, NC, Y⟩ := Cl.news (h₀ := s.heap) (Nat.le_refl _) fun n c hm => ⟨x.cell n c (lookup_of_mem_nodup (cellsFrom_names scope.names 0 (s.heap.objs.size + 1) [] [] rfl ▸ hnd) hm), x.above n c hm⟩
  refine wpS_mono (h _ s.heap.objs.size h₁ tk cells FG ⟨x.toInCall.ns, fun b o e => hk₁ b o (of_hideAll _ e), Nat.le_of_eq (hideAll_size _ _)⟩ (fun p hp => ?_) Y BG (X₀.keeps st) (T.keeps st) st (fun p hp => Heap.lt_size (N p hp).1)) (fun fl s' hl => lv _ _ hl) fun _ _ y => y
  rcases List.mem_append.mp hp with hp | hp
  · refine ⟨(NC p hp).1, (NC p hp).2.1, ?_⟩
    cases q : (hideAll s.heap (news.map (·.1))).get? p.1 with
    | none => rfl
    | some o => have := of_hideAll _ q; rw [(NC p hp).2.2] at this; cases this
  · exact ⟨hk₁ _ _ (N p hp).1, Nat.ne_of_lt (Heap.lt_size (N p hp).1), hideAll_none _ (List.mem_map_of_mem hp)⟩
end
end Mine
end
section
open PySem PySem.W PySem.Calls PyProof.Rows PySem.Spec
namespace Mine
theorem reset_NT_mkrd : True := by
  w_top off
  exact True.intro
local macro_rules | `(tactic| k_all) => `(tactic| with_reducible assumption)
local macro_rules | `(tactic| walk_at "exec For Tuple Name cons nil") => `(tactic| (k_here; (rename Fr _ _ _ _ => lF'); (with_unfolding_all refine' For_invTF lF' ?_ ?k2; (case k2 => (intro _; rfl)); k_whole)))
local macro_rules | `(tactic| walk_at "exec For Name Call cons nil") => `(tactic| (k_here; (rename Fr _ _ _ _ => lF'); (with_unfolding_all refine' For_M lF' ?k1 ?k2 ?_; (case k1 => exact rfl); (case k2 => exact rfl); k_whole)))
local macro_rules | `(tactic| walk_at "call type:range") => `(tactic| (k_here; (with_reducible show wpAny _ _ (call _ [_]) _ _ _); k_dflt (refine' range1_rows ?F ?N ?_; (case F => k_asm); (case N => k_asm); k_whole); intro h' tk t₁ u₁ v₁ rgX F' N' st'))
local macro_rules | `(tactic| walk_at "call type:range") => `(tactic| (k_here; (with_reducible show wpAny _ _ (call _ [_, _, _]) _ _ _); k_dflt (refine' range3_rows ?F ?N ?c ?_; (case F => k_asm); (case N => k_asm); (case c => decide); k_whole); intro h' tk t₁ u₁ v₁ rgX F' N' st'))
local macro_rules | `(tactic| k_mem) => `(tactic| assumption)
set_option maxHeartbeats 8000000 in
set_option maxRecDepth 100000 in
theorem make_reader {hn : Option Value} {w : World} {p : Program} {loose : List Str} {mean : ExcName → Option Value} {mg mb : Str → Option Value} {news : Led} {oc : Array UInt8} {t : Tok}
    (dp un : Nat) (gd : Option (List Code)) (cn : Str) (cs : Scope) (a : Addr) (ccd : Value) (cl : List (Str × Addr)) (outer : List Env) (A₀ : Around) (base h₀ : Heap) (L : Addr) (m : Str → Option Value) (s : Shared) (Q E : Value → Shared → Prop)
    (B : Below A₀ base outer h₀) (F : Fr h₀ L s.heap m) (X : (Mine.hd.heap_39 w.params).In h₀) (N : News h₀ L s.heap news) (T : Top p loose mean mg mb h₀) (hk : cs.kind = .function)
    (hd : dp + 2 < recursionLimit) (hu : un + 20 < cLine)
    (hret : ∀ (x dx : Addr) (M : RM) (ta : Tok) (h' : Heap) (tk' : Nat), Fr h₀ L h' m → News h₀ L h' (rdL x dx M oc t 0 ta news) → RdF x dx news → AllLt dx news → AllLt x news → Q (.ref x) { s with heap := h', toks := tk' }) :
    wpAny (model PySem.Challenge.pw_nt0540_01 w) ({ handled := hn, depth := dp, frames := some (envX cn cs L a ccd cl :: outer), guards := gd, units := un } : Around) (call (.ref 138) [.bytes oc t]) Q E s := by
  refine call_cls (K := Mine.hd.heap_39 w.params) (fI := 114) F X N (by k_is) (by k_is) (by k_is) ?_
  intro x dx h1 F1 N1 l1 l2
  rw [under_tc]
  have l2' := ltN l2
  have e1 : ∀ q ∈ news, q.1 ≠ dx := fun q hq => Nat.ne_of_lt (l1 q hq)
  have e2 : ∀ q ∈ news, q.1 ≠ x := fun q hq => Nat.ne_of_lt (Nat.lt_trans (l1 q hq) l2)
  k_dflt cell_enter
  w_strict (k_steps)
  refine' hret x dx ⟨_, _, _, _⟩ _ _ _ ?cF ?cN ⟨.inl l2, e1, e2⟩ (allLt_of l1) (allLt_of fun q hq => Nat.lt_trans (l1 q hq) l2)
  case cF => k_asm
  case cN => k_asm
end Mine
end
section
open PySem PySem.W PySem.Calls PyProof.Rows PySem.Spec
namespace Mine
theorem reset_NT_right : True := by
  w_top off
  exact True.intro
local macro_rules | `(tactic| k_all) => `(tactic| with_reducible assumption)
local macro_rules | `(tactic| walk_at "exec For Tuple Name cons nil") => `(tactic| (k_here; (rename Fr _ _ _ _ => lF'); (with_unfolding_all refine' For_invTF lF' ?_ ?k2; (case k2 => (intro _; rfl)); k_whole)))
local macro_rules | `(tactic| walk_at "exec For Name Call cons nil") => `(tactic| (k_here; (rename Fr _ _ _ _ => lF'); (with_unfolding_all refine' For_M lF' ?k1 ?k2 ?_; (case k1 => exact rfl); (case k2 => exact rfl); k_whole)))
local macro_rules | `(tactic| walk_at "call type:range") => `(tactic| (k_here; (with_reducible show wpAny _ _ (call _ [_]) _ _ _); k_dflt (refine' range1_rows ?F ?N ?_; (case F => k_asm); (case N => k_asm); k_whole); intro h' tk t₁ u₁ v₁ rgX F' N' st'))
local macro_rules | `(tactic| walk_at "call type:range") => `(tactic| (k_here; (with_reducible show wpAny _ _ (call _ [_, _, _]) _ _ _); k_dflt (refine' range3_rows ?F ?N ?c ?_; (case F => k_asm); (case N => k_asm); (case c => decide); k_whole); intro h' tk t₁ u₁ v₁ rgX F' N' st'))
local macro_rules | `(tactic| k_mem) => `(tactic| assumption)
local macro_rules | `(tactic| size_fits) => `(tactic| (simp only [List.size_toArray]; rw [sizeLine_eq]; omega))
theorem natB_ones : ∀ n : Nat, natB (List.replicate n true) = 2 ^ n - 1
  | 0 => rfl
  | n + 1 => by
    have p : 0 < 2 ^ n := Nat.pow_pos (by decide)
    rw [List.replicate_succ, natB_cons, natB_ones n, List.length_replicate, Nat.pow_succ]
    simp only [if_true]
    omega
local macro_rules | `(tactic| walk_at "binaryOp LShift int int") => `(tactic| (k_here; (with_reducible refine lshift_int_small ?kb1 ?kb2 ?kb3 ?_); (case kb1 => omega); (case kb2 => omega); (case kb3 => omega)))
theorem RdF.addr {x dx : Addr} {l l' : Led} (W : RdF x dx l) (h : ∀ q ∈ l', ∃ o, (q.1, o) ∈ l) : RdF x dx l' :=
  ⟨W.h1, fun q hq => by obtain ⟨o, ho⟩ := h q hq; exact W.r1 (q.1, o) ho, fun q hq => by obtain ⟨o, ho⟩ := h q hq; exact W.r2 (q.1, o) ho⟩
theorem rr_ledger {g h : Heap} {L D f1 f2 c1 c2 q src a1 a2 T x dx : Addr} {oD o1 o2 p1 p2 oq os oa1 oa2 oT ox odx oq' os' oa1' oa2' oT' : Obj} {R9 : Led}
    (N : News g L h ((D, oD) :: (f2, o2) :: (c2, p2) :: (f1, o1) :: (c1, p1) :: (x, ox) :: (dx, odx) :: (q, oq) :: (src, os) :: (a1, oa1) :: (a2, oa2) :: (T, oT) :: R9)) (W : RdF x dx ((q, oq') :: (src, os') :: (a1, oa1') :: (a2, oa2') :: (T, oT') :: R9))
    (h1 : x < c1) (h2 : dx < c1) (h3 : c1 < f1) (h4 : f1 < c2) (h5 : c2 < f2) (h6 : f2 < D) :
    ∃ R : Led, (D, oD) ∈ R ∧ (f2, o2) ∈ R ∧ (c2, p2) ∈ R ∧ (f1, o1) ∈ R ∧ (c1, p1) ∈ R ∧ (src, os) ∈ R ∧ (a1, oa1) ∈ R ∧ (a2, oa2) ∈ R ∧ (T, oT) ∈ R ∧ RdF x dx R ∧ News g L h ((x, ox) :: (dx, odx) :: R) := by
  have k1 : x < f1 := Nat.lt_trans h1 h3
  have k2 : dx < f1 := Nat.lt_trans h2 h3
  have k3 : x < c2 := Nat.lt_trans k1 h4
  have k4 : dx < c2 := Nat.lt_trans k2 h4
  have k5 : x < f2 := Nat.lt_trans k3 h5
  have k6 : dx < f2 := Nat.lt_trans k4 h5
  have k7 : x < D := Nat.lt_trans k5 h6
  have k8 : dx < D := Nat.lt_trans k6 h6
  refine ⟨(D, oD) :: (f2, o2) :: (c2, p2) :: (f1, o1) :: (c1, p1) :: (src, os) :: (a1, oa1) :: (a2, oa2) :: (T, oT) :: (q, oq) :: R9, .head _, .tail _ (.head _), .tail _ (.tail _ (.head _)), .tail _ (.tail _ (.tail _ (.head _))), .tail _ (.tail _ (.tail _ (.tail _ (.head _)))),
    .tail _ (.tail _ (.tail _ (.tail _ (.tail _ (.head _))))), .tail _ (.tail _ (.tail _ (.tail _ (.tail _ (.tail _ (.head _)))))), .tail _ (.tail _ (.tail _ (.tail _ (.tail _ (.tail _ (.tail _ (.head _))))))), .tail _ (.tail _ (.tail _ (.tail _ (.tail _ (.tail _ (.tail _ (.tail _ (.head _)))))))), ?_, news_sub N ?_⟩
  · refine RdF.cons (RdF.cons (RdF.cons (RdF.cons (RdF.cons (W.addr fun e he => ?_) (Nat.ne_of_lt h2) (Nat.ne_of_lt h1)) (Nat.ne_of_lt k2) (Nat.ne_of_lt k1)) (Nat.ne_of_lt k4) (Nat.ne_of_lt k3)) (Nat.ne_of_lt k6) (Nat.ne_of_lt k5)) (Nat.ne_of_lt k8) (Nat.ne_of_lt k7)
    rcases List.mem_cons.mp he with rfl | he
    · exact ⟨_, .tail _ (.head _)⟩
    rcases List.mem_cons.mp he with rfl | he
    · exact ⟨_, .tail _ (.tail _ (.head _))⟩
    rcases List.mem_cons.mp he with rfl | he
    · exact ⟨_, .tail _ (.tail _ (.tail _ (.head _)))⟩
    rcases List.mem_cons.mp he with rfl | he
    · exact ⟨_, .tail _ (.tail _ (.tail _ (.tail _ (.head _))))⟩
    rcases List.mem_cons.mp he with rfl | he
    · exact ⟨_, .head _⟩
    exact ⟨e.2, .tail _ (.tail _ (.tail _ (.tail _ (.tail _ he))))⟩
  · intro p hp
    simp only [List.mem_cons] at hp ⊢
    rcases hp with h | h | h | h | h | h | h | h | h | h | h | h | h <;> simp [h]
theorem bits_use {w : World} {p : Program} {loose : List Str} {mean : ExcName → Option Value} {mg mb : Str → Option Value}
    {x dx : Addr} {M : RM} {bits : List Bool} {t ta ts : Tok} {at_ sz v : Int} {rest : Led} (R : RdF x dx rest) (hz : (packB bits).size ≤ 100000) (hb : 8 * (packB bits).size ≤ bits.length) (h0 : 0 ≤ at_) (s0 : 0 ≤ sz) (s1 : sz ≤ 60) (h1 : at_ + sz ≤ 8 * ((packB bits).size : Nat))
    (hv : v = ((natB ((bits.drop at_.toNat).take sz.toNat) : Nat) : Int)) :
    Called none w p loose mean mg mb 135 [.ref x, .int sz ts] (rdL x dx M (packB bits) t at_ ta rest) 3 32 (fun _ => True)
      (fun P => ∀ (t' ta' : Tok), P (.int v t') (rdL x dx M (packB bits) t (at_ + sz) ta' rest)) := by
  subst hv; exact bits_spec R hz hb h0 s0 s1 h1
theorem drop_row {nums : List (Int × Int)} {i k : Nat} {v z : Int} (hz : nums[i]? = some (v, z)) (v0 : 0 ≤ v) (v1 : v < 1 * 2 ^ z.toNat) :
    v = ((natB (((rowBits nums ++ List.replicate k true).drop (((rowBits (nums.take i)).length : Nat) : Int).toNat).take z.toNat) : Nat) : Int) ∧ (rowBits (nums.take i)).length + z.toNat = (rowBits (nums.take (i + 1))).length ∧ (rowBits (nums.take (i + 1))).length ≤ (rowBits nums).length := by
  have e : rowBits nums = rowBits (nums.take i) ++ (bitsZ v z.toNat ++ rowBits (nums.drop (i + 1))) := by
    rw [← List.append_assoc, ← rowBits_take hz, ← rowBits_append', List.take_append_drop]
  have h2 : (rowBits (nums.take i)).length + z.toNat = (rowBits (nums.take (i + 1))).length := by rw [rowBits_take hz, List.length_append, bitsZ_length]
  refine ⟨?_, h2, ?_⟩
  · rw [Int.toNat_natCast, e, List.append_assoc, List.drop_left, List.append_assoc, List.take_left' (bitsZ_length v z.toNat)]
    exact (natB_of v0 (by omega)).symm
  · rw [e, ← h2]; simp only [List.length_append, bitsZ_length]; omega
local macro_rules | `(tactic| walk_at "call builtin:len") => `(tactic| (k_here; (with_reducible show wpAny _ _ (call _ [Value.str (strB _) _]) _ _ _); k_dflt (refine' len_strB ?cl ?_; (case cl => omega); k_whole)))
local macro_rules | `(tactic| walk_at "call builtin:len") => `(tactic| (k_here; (with_reducible show wpAny _ _ (call _ [Value.bytes _ _]) _ _ _); k_dflt (refine' len_by ?cl ?_; (case cl => omega); k_whole)))
def RrJ (x dx : Addr) (M : RM) (B bits : List Bool) (to tb : Tok) (src : Addr) (nums : List (Int × Int)) (rest : Led) (i : Nat) (m : Str → Option Value) (news₁ : Led) : Prop :=
  ∃ (u : Str → Option Value) (ta : Tok), m = on "octets" (.bytes (packB B) to) (on "row" (.str (strB bits) tb) u) ∧ news₁ = (x, instObj 138 dx) :: (dx, rdD M (packB B) to (((rowBits (nums.take i)).length : Nat) : Int) ta) :: rest
local macro_rules | `(tactic| walk_at "call ref") => `(tactic| (k_here; (with_reducible show wpAny _ _ (call (Value.ref 182) _) _ _ _); k_dflt (refine' cuts_spec ?h0 ?h1 ?h1' ?hne ?hl _ _ _ _ _ _ _ _ _ _ _ _ _ _ _ _ _ ?B ?F ?X ?N ?T ?K ?d ?u True.intro ?_; (case N => k_asm); (case B => k_asm); (case F => k_asm); (case X => k_asm); (case T => k_asm); (case K => exact rfl); (case h0 => assumption); (case h1 => assumption); (case h1' => assumption); (case hne => assumption); (case hl => omega); (case d => ktr_room); (case u => ktr_units); k_whole)))
local macro_rules | `(tactic| walk_at "call ref") => `(tactic| (k_here; (with_reducible show wpAny _ _ (call (Value.ref 135) _) _ _ _); k_dflt (refine' bits_use ?R ?z ?hb ?h0 ?s0 ?s1 ?h1 ?hv _ _ _ _ _ _ _ _ _ _ _ _ _ _ _ _ _ ?B ?F ?X ?N ?T ?K ?d ?u True.intro ?_; (case N => (first | exact rd_in (by k_asm) | k_asm)); (case B => k_asm); (case F => k_asm); (case X => k_asm); (case T => k_asm); (case K => exact rfl); (case hv => assumption); (case R => assumption); (case z => assumption); (case hb => assumption); (case h0 => omega); (case s0 => omega); (case s1 => omega); (case h1 => omega); (case d => ktr_room); (case u => ktr_units); k_whole); intro tB taB h' tk' F' N'; (try dsimp only [rdL] at N')))
local macro_rules | `(tactic| walk_at "call ref") => `(tactic| (k_here; (with_reducible show wpAny _ _ (call (Value.ref 121) _) _ _ _); k_dflt (refine' left_spec ?z _ _ _ _ _ _ _ _ _ _ _ _ _ _ _ _ _ ?B ?F ?X ?N ?T ?K ?d ?u True.intro ?_; (case N => k_asm); (case B => k_asm); (case F => k_asm); (case X => k_asm); (case T => k_asm); (case K => exact rfl); (case z => assumption); (case d => ktr_room); (case u => ktr_units); k_whole); intro tB h' tk' F' N'; (try dsimp only [rdL] at N')))
set_option maxRecDepth 100000 in
set_option maxHeartbeats 8000000 in
theorem right_spec {w : World} {p : Program} {loose : List Str} {mean : ExcName → Option Value} {mg mb : Str → Option Value}
    {src : Addr} {rest : Led} {x0 x1 : Int} {t0 t1 to tb : Tok} {n k : Nat} {bits : List Bool}
    (h0 : 0 ≤ x0) (h1 : 0 ≤ x1) (h1' : x1 < 2147483647) (hne : ∀ q ∈ rest, q.1 ≠ src) (hne2 : ∀ q ∈ rest, q.1 ≠ 198) (hsn : src < 198 ∨ 198 < src) (hl : bits.length ≤ 90000) (hk8 : (bits.length + k) % 8 = 0) (hk : k < 8) :
    ∀ (dp un : Nat) (gd : Option (List Code)) (cn : Str) (cs : Scope) (a : Addr) (ccd : Value) (cl : List (Str × Addr)) (A₀ : Around) (base h₀ : Heap) (L : Addr) (m : Str → Option Value) (s : Shared) (Q : Value → Shared → Prop),
      Below A₀ base [] h₀ → Fr h₀ L s.heap m → (Mine.hd.heap_39 w.params).In h₀ → News h₀ L s.heap ((src, listOf #[.int x0 t0, .int x1 t1] n) :: (198, tabObj #[]) :: rest) → Top p loose mean mg mb h₀ → cs.kind = .function →
      (Mine.hd.heap_39 w.params).In base → Top p loose mean mg mb base → CodeHd h₀ 202 198 →
      dp + 10 < recursionLimit → un + 100 < cLine →
      (∀ (ps : Array Value) (y0 y1 : Int) (u0 u1 : Tok) (h' : Heap) (tk' : Nat), 0 ≤ y0 → 0 ≤ y1 → y1 < 2147483647 → Fr h₀ L h' m → News h₀ L h' [(src, listOf #[.int y0 u0, .int y1 u1] n), (198, tabObj ps)] → Q (.bool true) { s with heap := h', toks := tk' }) →
      codeS (model PySem.Challenge.pw_nt0540_01 w) ({ handled := none, depth := dp, frames := some [envX cn cs L a ccd cl], guards := gd, units := un } : Around) (.call (.ref 203) ⟨[.ref src, .bytes (packB (bits ++ List.replicate k true)) to, .str (strB bits) tb], []⟩)
        (fun r s' => match r with | .ok (.ret v) => Q v s' | .ok _ => False | .error e => NoE e s') s := by
  intro dp un gd cn cs a ccd cl A₀ base h₀ L m s Q B F X N T hkf XB TB CH hd hu hret
  k_dflt (refine' defC0S ?k1 ?k2 ?k3 ?k4 ?k5 ?kA ?kF ?kK ?k6 ?k7 ?k8 ?k9 ?kB ?kD ?_ ?c2 ?c3 ?c4; (case kA => exact rfl); (case kF => exact rfl); (case kK => assumption); (case k1 => k_asm); (case k2 => k_asm); (case k3 => exact X); (case k4 => k_asm); (case k5 => exact T); (case k6 => k_is); (case k7 => k_is); (case k8 => ktr_room); (case k9 => exact BindsTo.of_eq rfl); (case kB => exact rfl); (case kD => decide +kernel); (case c2 => exact rfl); (case c3 => exact rfl); (case c4 => exact rfl); k_whole)
  intro g' L' h' tk' cells' FG' F' N' Y' B' X' T' st l1
  (try k_lt l1)
  k_cells Y'
  (try simp only [List.cons_append, List.nil_append] at N')
  (try dsimp only)
  have CG : CodeHd g' 202 198 := CH.keeps st
  replace hsn := ltOr hsn
  have hr0 := ktn_ltOf l1.2.2
  have hr1 : ∀ q ∈ rest, q.1 ≠ L' + 1 := fun q hq => Nat.ne_of_lt (Nat.lt_succ_of_lt (hr0 q hq))
  have hr2 : ∀ q ∈ rest, q.1 ≠ L' + 1 + 1 := fun q hq => Nat.ne_of_lt (Nat.lt_succ_of_lt (Nat.lt_succ_of_lt (hr0 q hq)))
  refine execsS_leaf ?_
  w_strict (k_steps)
  k_dflt (refine make_reader _ _ _ _ _ _ _ _ _ _ _ _ _ _ _ _ _ B' F' X' N' T' rfl ?_ ?_ ?_)
  · show dp + 1 + 2 < recursionLimit; omega
  · show un + 3 + 20 < cLine; omega
  intro x dx M ta h2 tk2 F2 N2 R2 l2 l3
  have d1 := R2.h1
  dsimp only [AllLt] at l2 l3
  dsimp only [rdL] at N2
  w_strict (k_steps)
  rename_i o1 o2 d1' d2' h3 o1' F3 N3 d3'
  have N4 : News g' L' h3 ((src, listOf #[.int x0 t0, .int x1 t1] n) :: (x, instObj 138 dx) :: (dx, rdD M (packB (bits ++ List.replicate k true)) to 0 ta) :: (L' + 1 + 1, o1') :: (L' + 1, o2) :: (198, tabObj #[]) :: rest) :=
    news_sub N3 (by intro p hp; simp only [List.mem_cons] at hp ⊢; rcases hp with h | h | h | h | h | h | h <;> simp [h])
  have hne4 : ∀ q ∈ (x, instObj 138 dx) :: (dx, rdD M (packB (bits ++ List.replicate k true)) to 0 ta) :: (L' + 1 + 1, o1') :: (L' + 1, o2) :: (198, tabObj #[]) :: rest, q.1 ≠ src := by k_all
  clear N3
  refine execsS_cons (ForS ?_)
  w_strict (k_steps)
  rename_i q kq vs nums tup y0 y1 u0 u1 hy0 hy1 hy1' hNums hgood hrow hrq hsq htq h4 tk4 F5 N5
  subst hrow
  have xq : x < q := hrq (x, instObj 138 dx) (.head _)
  have dq : dx < q := hrq (dx, rdD M (packB (rowBits nums ++ List.replicate k true)) to 0 ta) (.tail _ (.head _))
  have q1 : ∀ e ∈ tup ++ rest, q ≤ e.1 ∨ e ∈ rest := fun e he => (List.mem_append.mp he).elim (fun z => .inl (Nat.le_of_lt (htq e z))) .inr
  have ns : ∀ {b : Addr}, b < q → (∀ e ∈ rest, e.1 ≠ b) → ∀ e ∈ tup ++ rest, e.1 ≠ b := fun hb hr e he => (q1 e he).elim (fun z => Nat.ne_of_gt (Nat.lt_of_lt_of_le hb z)) (hr e)
  have c1q : L' + 1 + 1 < q := hrq (L' + 1 + 1, o1') (.tail _ (.tail _ (.head _)))
  have c2q : L' + 1 < q := hrq (L' + 1, o2) (.tail _ (.tail _ (.tail _ (.head _))))
  have tq : 198 < q := hrq (198, tabObj #[]) (.tail _ (.tail _ (.tail _ (.tail _ (.head _)))))
  obtain ⟨R9, hR9⟩ : ∃ R9 : Led, R9 = tup ++ rest := ⟨_, rfl⟩
  have n1 : ∀ e ∈ R9, e.1 ≠ L' + 1 := by rw [hR9]; exact ns c2q hr1
  have n2 : ∀ e ∈ R9, e.1 ≠ L' + 1 + 1 := by rw [hR9]; exact ns c1q hr2
  have n3 : ∀ e ∈ R9, e.1 ≠ 198 := by rw [hR9]; exact ns tq hne2
  have n4 : ∀ e ∈ R9, e.1 ≠ src := by rw [hR9]; exact ns hsq hne
  have n5 : ∀ e ∈ R9, e.1 ≠ x := by rw [hR9]; exact ns xq fun e he => R2.r2 e (.tail _ (.tail _ (.tail _ (.tail _ he))))
  have n6 : ∀ e ∈ R9, e.1 ≠ dx := by rw [hR9]; exact ns dq fun e he => R2.r1 e (.tail _ (.tail _ (.tail _ (.tail _ he))))
  have mt9 : ∀ e ∈ tup, e ∈ R9 := fun e he => by rw [hR9]; exact List.mem_append_left _ he
  obtain ⟨R8, hR8⟩ : ∃ R8 : Led, R8 = (q, listOf vs.toArray kq) :: (src, listOf #[.int y0 u0, .int y1 u1] n) :: (L' + 1 + 1, o1') :: (L' + 1, o2) :: (198, tabObj #[]) :: R9 := ⟨_, rfl⟩
  have mq : (q, listOf vs.toArray kq) ∈ R8 := by rw [hR8]; exact .head _
  have mt : ∀ e ∈ tup, e ∈ R8 := fun e he => by rw [hR8]; exact .tail _ (.tail _ (.tail _ (.tail _ (.tail _ (mt9 e he)))))
  have mc1 : (L' + 1 + 1, o1') ∈ R8 := by rw [hR8]; exact .tail _ (.tail _ (.head _))
  have W8 : RdF x dx R8 := by
    refine ⟨R2.h1, ?_, ?_⟩ <;> rw [hR8]
    · exact List.forall_mem_cons.mpr ⟨Nat.ne_of_gt dq, List.forall_mem_cons.mpr ⟨R2.r1 (src, listOf #[.int x0 t0, .int x1 t1] n) (.tail _ (.tail _ (.head _))), List.forall_mem_cons.mpr ⟨R2.r1 (L' + 1 + 1, o1) (.head _),
        List.forall_mem_cons.mpr ⟨R2.r1 _ (.tail _ (.head _)), List.forall_mem_cons.mpr ⟨R2.r1 (198, tabObj #[]) (.tail _ (.tail _ (.tail _ (.head _)))), n6⟩⟩⟩⟩⟩
    · exact List.forall_mem_cons.mpr ⟨Nat.ne_of_gt xq, List.forall_mem_cons.mpr ⟨R2.r2 (src, listOf #[.int x0 t0, .int x1 t1] n) (.tail _ (.tail _ (.head _))), List.forall_mem_cons.mpr ⟨R2.r2 (L' + 1 + 1, o1) (.head _),
        List.forall_mem_cons.mpr ⟨R2.r2 _ (.tail _ (.head _)), List.forall_mem_cons.mpr ⟨R2.r2 (198, tabObj #[]) (.tail _ (.tail _ (.tail _ (.head _)))), n5⟩⟩⟩⟩⟩
  have N8 : News g' L' h4 ((x, instObj 138 dx) :: (dx, rdD M (packB (rowBits nums ++ List.replicate k true)) to 0 ta) :: R8) := news_sub N5 (by
    intro p hp
    rw [hR8, hR9] at hp
    simp only [List.mem_cons, List.mem_append] at hp ⊢
    rcases hp with h | h | h | h | h | h | h | h | h <;> simp [h])
  clear N5 N4
  generalize hB : rowBits nums ++ List.replicate k true = BB at *
  have hBl : BB.length = (rowBits nums).length + k := by rw [← hB, List.length_append, List.length_replicate]
  have hz8 : (packB BB).size ≤ 100000 := by rw [packB_size]; omega
  have hb8 : 8 * (packB BB).size ≤ BB.length := by rw [packB_size]; omega
  have hb9 : 8 * (packB BB).size = BB.length := by rw [packB_size]; omega
  refine' list_loopS (RrJ x dx M BB (rowBits nums) to tb src nums R8) rfl (.tail _ (.tail _ mq)) (fun h e => PySem.IsL.isList (n := kq) e) ?_ (by k_asm) (by k_asm) ?_ ?_ ?_
  · rintro i m₁ news₁ ⟨u, ta', rfl, rfl⟩; exact .tail _ (.tail _ mq)
  · exact ⟨_, ta, on2 (by exact rfl) (by exact rfl), rfl⟩
  · rintro i v m₁ news₁ I oI s₁ hv ⟨u, ta', rfl, rfl⟩ hI F6 N6
    have hi : i < nums.length := by
      rcases Nat.lt_or_ge i vs.length with h | h
      · rw [← hNums.1]; exact h
      · rw [List.getElem?_eq_none h] at hv; cases hv
    obtain ⟨v0, z0, hz0⟩ : ∃ v0 z0, nums[i]? = some (v0, z0) := ⟨nums[i].1, nums[i].2, by simp [hi]⟩
    obtain ⟨a', tv, tz, e1, hmem⟩ := hNums.2 i v0 z0 hz0
    rw [e1] at hv
    cases hv
    have hm := mt _ hmem
    obtain ⟨z0a, z0b, z0c, z0d⟩ := hgood _ (List.mem_of_getElem? hz0)
    dsimp only at z0a z0b z0c z0d
    obtain ⟨hd1, hd2, hd3⟩ := drop_row (k := k) hz0 z0c z0d
    rw [hB] at hd1
    have R6 : RdF x dx ((I, oI) :: R8) := W8.cons (hI _ (.tail _ (.head _))) (hI _ (.head _))
    w_strict (k_steps)
    refine execsS_leaf ?_
    w_strict (k_steps)
    · rename_i hbad
      exact absurd rfl hbad
    · dsimp only
      refine execsS_nil ?_
      have e9 : (((rowBits (nums.take i)).length : Nat) : Int) + z0 = (((rowBits (nums.take (i + 1))).length : Nat) : Int) := by omega
      rename News _ _ _ _ => N9
      rename Fr _ _ _ _ => F9
      refine TurnT.next F9 (rd_out N9) ?_ ⟨_, _, on2 (by exact rfl) (by exact rfl), by rw [e9]⟩
      intro p hp
      rcases List.mem_cons.mp hp with rfl | hp
      · exact hI _ (.head _)
      rcases List.mem_cons.mp hp with rfl | hp
      · exact hI (dx, rdD M (packB BB) to (((rowBits (nums.take i)).length : Nat) : Int) ta') (.tail _ (.head _))
      exact hI p (.tail _ (.tail _ hp))
  · rintro m₁ news₁ h5 tk5 ⟨u, ta', rfl, rfl⟩ F6 N6
    have e : nums.take vs.length = nums := List.take_of_length_le (Nat.le_of_eq hNums.1.symm)
    rw [e] at N6
    dsimp only
    refine execsS_leaf ?_
    w_strict (k_steps)
    · rename_i hbad
      exact absurd rfl hbad
    dsimp only
    have kf1 := ltN c1q
    have kf2 := ltN c2q
    subst hR8
    refine execsS_leaf ?_
    w_strict (k_steps)
    rename_i tB _ tk6 h6 o2' F7 N7 d4'
    have hkk : (8 * ((packB BB).size : Nat) - ((rowBits nums).length : Nat) : Int) = ((k : Nat) : Int) := by omega
    rw [hkk] at d4'
    clear F6 N6 d2'
    dsimp only
    refine execsS_cons (ForS ?_)
    w_strict (k_steps)
    rename_i f1 c1 oc1 vs1 tx1 ct1 h7 tk7 e11 e12 m1 m2 f2 c2 oc2 vs2 tx2 ct2 h8 tk8 e21 e22 m3 m4 D h9 F9 N9 m5
    obtain ⟨R10, mD, mf2, mc2, mf1, mc1', msrc, mrd, mlf, mtab, W10, N10⟩ := rr_ledger N9 W8 m1.1 m1.2.1 m2 m3.1 m4 m5.1
    obtain ⟨ps, mtab⟩ : ∃ ps, (198, tabObj ps) ∈ R10 := ⟨_, mtab⟩
    clear m1 m2 m3 m4 m5 N9 mt mc1
    refine' tuple_loopG (vs := [.ref f1, .ref f2]) (fun g => KtsTurn [L] g' g ∧ Below { handled := none, depth := dp, frames := some [envX cn cs L a ccd cl], guards := gd, units := un } base [envX cn cs L a ccd cl] g ∧ (Mine.hd.heap_39 w.params).In g ∧ Top p loose mean mg mb g)
      (fun _ m₁ news₁ => ∃ ta, news₁ = (x, instObj 138 dx) :: (dx, rdD M (packB BB) to (((rowBits nums).length : Nat) : Int) ta) :: R10) rfl (.tail _ (.tail _ mD)) ?_ F9 N10 ⟨KtsTurn.refl, B', X', T'⟩ ⟨_, rfl⟩ ?_ ?_
    · rintro i m₁ news₁ ⟨ta', rfl⟩; exact .tail _ (.tail _ mD)
    · rintro i v g m₁ news₁ I oI s₁ hv ⟨GT, GB, GX, GTop⟩ ⟨ta9, rfl⟩ hI ⟨h10, tk10, rfl⟩ F11 N11
      have hi : i ≤ 1 := by
        rcases Nat.lt_or_ge i 2 with h | h
        · omega
        · rw [List.getElem?_eq_none (by simpa using h)] at hv; cases hv
      rcases i with _ | _ | i
      · cases hv
        w_strict (k_steps)
        refine execsS_cons (TryS ?_)
        refine execsS_leaf ?_
        w_strict (k_steps)
        rename Fr _ _ _ _ => F12
        rename News _ _ _ _ => N12
        refine wpAny_call ?_
        k_dflt (refine' kla_code ?k1 ?k2 ?k3 ?k4 ?k5 ?kA ?kF ?kK ?k6 ?k7 ?k8 ?k9 ?kB ?_ ?c2 ?c3 ?c4 ?c5; (case kA => exact rfl); (case kF => exact rfl); (case kK => exact rfl); (case k1 => exact GB); (case k2 => exact F12); (case k3 => exact GX); (case k4 => exact N12); (case k5 => exact GTop); (case k6 => k_mem); (case k7 => exact codeRec_news N12 (by k_mem) (by assumption) (by assumption)); (case k8 => ktr_room); (case k9 => exact rfl); (case c5 => decide); (case kB => exact locs rfl); (case c2 => exact rfl); (case c3 => exact rfl); (case c4 => exact rfl); k_whole)
        intro gl Ll hl FGl Fl Nl Bl Xl Tl
        (try dsimp only)
        w_strict (k_steps)
        have hbig : (k : Int) + 1 > 8 * ((packB BB).size : Nat) - (((rowBits nums).length : Nat) : Int) := by omega
        k_dflt (refine bits_raise (M := M) (rest := (I, oI) :: R10) hz8 hbig _ _ _ _ _ _ _ _ _ _ _ _ _ _ _ _ _ Bl Fl Xl (rd_in Nl) Tl rfl ?_ ?_ ?_)
        · show dp + 1 + 1 + 4 < recursionLimit; omega
        · show un + 3 + 3 + 32 < cLine; omega
        intro gq e t ws hq tkq FGq RS up
        refine leave_onX Bl FGq RS up rfl fun hr RS2 up2 => ?_
        refine ⟨e, rfl, ?_⟩
        refine land (exc44 w) RS2 FGl GB up2 XB TB rfl ?_ ?_
        · intro gz hz Q F X T hQ
          w_strict (k_steps)
          exact hQ
        · rintro hz gz ⟨Tz, Fz, Nz, Bz, Xz, Pz⟩
          refine execsS_leaf ?_
          w_strict (k_steps)
          · exact absurd hkk (by assumption)
          dsimp only
          refine execsS_nil ?_
          dsimp only
          refine execsS_nil ?_
          rename Fr _ _ _ _ => Fw
          rename News _ _ _ _ => Nw
          refine TurnGr.next (news' := (x, instObj 138 dx) :: (dx, rdD M (packB BB) to (((rowBits nums).length : Nat) : Int) ta9) :: R10) ⟨GT.trans Tz, Bz, Xz, Pz⟩ Fw (rd_out Nw) ?_ ⟨_, rfl⟩
          exact hI
      · cases hv
        w_strict (k_steps)
        refine execsS_cons (TryS ?_)
        refine execsS_leaf ?_
        w_strict (k_steps)
        rename Fr _ _ _ _ => F12
        rename News _ _ _ _ => N12
        refine wpAny_call ?_
        k_dflt (refine' kla_code ?k1 ?k2 ?k3 ?k4 ?k5 ?kA ?kF ?kK ?k6 ?k7 ?k8 ?k9 ?kB ?_ ?c2 ?c3 ?c4 ?c5; (case kA => exact rfl); (case kF => exact rfl); (case kK => exact rfl); (case k1 => exact GB); (case k2 => exact F12); (case k3 => exact GX); (case k4 => exact N12); (case k5 => exact GTop); (case k6 => k_mem); (case k7 => exact codeRec_news N12 (by k_mem) (by assumption) (by assumption)); (case k8 => ktr_room); (case k9 => exact rfl); (case c5 => decide); (case kB => exact locs rfl); (case c2 => exact rfl); (case c3 => exact rfl); (case c4 => exact rfl); k_whole)
        intro gl Ll hl FGl Fl Nl Bl Xl Tl
        (try dsimp only)
        w_strict (k_steps)
        have hbig : (k : Int) + 9 > 8 * ((packB BB).size : Nat) - (((rowBits nums).length : Nat) : Int) := by omega
        k_dflt (refine bits_raise (M := M) (rest := (I, oI) :: R10) hz8 hbig _ _ _ _ _ _ _ _ _ _ _ _ _ _ _ _ _ Bl Fl Xl (rd_in Nl) Tl rfl ?_ ?_ ?_)
        · show dp + 1 + 1 + 4 < recursionLimit; omega
        · show un + 3 + 3 + 32 < cLine; omega
        intro gq e t ws hq tkq FGq RS up
        refine leave_onX Bl FGq RS up rfl fun hr RS2 up2 => ?_
        refine ⟨e, rfl, ?_⟩
        refine land (exc44 w) RS2 FGl GB up2 XB TB rfl ?_ ?_
        · intro gz hz Q F X T hQ
          w_strict (k_steps)
          exact hQ
        · rintro hz gz ⟨Tz, Fz, Nz, Bz, Xz, Pz⟩
          refine execsS_leaf ?_
          w_strict (k_steps)
          · exact absurd hkk (by assumption)
          dsimp only
          refine execsS_nil ?_
          dsimp only
          refine execsS_nil ?_
          rename Fr _ _ _ _ => Fw
          rename News _ _ _ _ => Nw
          refine TurnGr.next (news' := (x, instObj 138 dx) :: (dx, rdD M (packB BB) to (((rowBits nums).length : Nat) : Int) ta9) :: R10) ⟨GT.trans Tz, Bz, Xz, Pz⟩ Fw (rd_out Nw) ?_ ⟨_, rfl⟩
          exact hI
      · omega
    · rintro g m₁ news₁ h12 tk12 ⟨GT, GB, GX, GTop⟩ ⟨ta9, rfl⟩ F11 N11
      have hv2 : (1 * 2 ^ ((k : Nat) : Int).toNat - 1 : Int) = ((natB ((BB.drop (((rowBits nums).length : Nat) : Int).toNat).take ((k : Nat) : Int).toNat) : Nat) : Int) := by
        rw [Int.toNat_natCast, Int.toNat_natCast, ← hB, List.drop_left, List.take_of_length_le (by rw [List.length_replicate]; exact Nat.le_refl _), natB_ones]
        have : 1 ≤ 2 ^ k := Nat.pow_pos (by decide)
        push_cast [this]
        omega
      clear B' X' T' FG' F9 N10
      dsimp only
      refine execsS_leaf ?_
      w_strict (k_steps)
      · rename_i hbad
        exact absurd rfl hbad
      · rename_i hbad
        exact absurd (show (8 * ((packB BB).size : Nat) - ((((rowBits nums).length : Nat) : Int) + ((k : Nat) : Int)) : Int) = 0 by omega) hbad
      dsimp only
      refine execsS_cons (TryS ?_)
      refine execsS_leaf ?_
      w_strict (k_steps)
      rename Fr _ _ _ _ => F13
      rename News _ _ _ _ => N13
      have hend : (((rowBits nums).length : Nat) : Int) + ((k : Nat) : Int) ≥ 8 * ((packB BB).size : Nat) := by omega
      k_dflt (refine bit_raise (M := M) (rest := R10) hz8 hend _ _ _ _ _ _ _ _ _ _ _ _ _ _ _ _ _ GB F13 GX N13 GTop rfl ?_ ?_ ?_)
      · show dp + 1 + 4 < recursionLimit; omega
      · show un + 3 + 32 < cLine; omega
      intro gq e t ws hq tkq FGq RS up
      refine ⟨e, rfl, ?_⟩
      refine land (exc44 w) RS FGq GB up XB TB rfl ?_ ?_
      · intro gz hz Q F X T hQ
        w_strict (k_steps)
        exact hQ
      · rintro hz gz ⟨Tz, Fz, Nz, Bz, Xz, Pz⟩
        refine execsS_leaf ?_
        w_strict (k_steps)
        have hv : (8 * ((packB BB).size : Nat) - ((((rowBits nums).length : Nat) : Int) + ((k : Nat) : Int)) == (0 : Int)) = true := by rw [beq_iff_eq]; omega
        rw [hv]
        dsimp only
        refine' leaveT ?cF ?cN (GT.trans Tz) (fun F14 N14 => hret ps y0 y1 u0 u1 _ _ hy0 hy1 hy1' F14 (news_sub N14 ?cS))
        case cF => k_asm
        case cN => k_asm
        case cS =>
          intro p hp
          rcases List.mem_cons.mp hp with rfl | hp
          · exact .tail _ (.tail _ msrc)
          rcases List.mem_cons.mp hp with rfl | hp
          · exact .tail _ (.tail _ mtab)
          · cases hp
end Mine
end
section
open PySem PySem.W PySem.Calls PyProof.Rows PySem.Spec
set_option maxRecDepth 100000
namespace Mine
abbrev lawC : ClaimW := PySem.Challenge.rw_nt0540_01.row.claim
theorem law_raises (a : List WData) (x : ExcName) : lawC.raises a x = false := rfl
theorem law_post (a : List WData) : lawC.post a (.bool true) a = true := by
  exact postW_of (r := PySem.Challenge.rw_nt0540_01.row.toRowW) (by wrow_shape) (by wtm_val) (by w_fin)
/-- True, the old heap kept and one table grown: the law's end -/
theorem good_true {cl : Str → Option Addr} {mean : ExcName → Option Value} {args : List WData} {s₁ s' : Shared} {L : Addr} {m : Str → Option Value} {ps : Array Value} (hT : TabsAt [(202, 198)] s₁.heap) (F : Fr (ghostOf s₁.heap [(202, 198)]) L s'.heap m)
    (hP : s'.heap.get? 198 = some (tabObj ps)) (hos : s'.os = s₁.os) (hg : s'.gens = #[]) : GoodWG lawC cl mean args s₁ (.ok (.ret (.bool true))) s' := by
  have keep : ∀ b o, b ≠ 198 → s₁.heap.get? b = some o → s'.heap.get? b = some o := fun b o hb e => F.keep b o (ghost_ne e (by simpa using hb))
  have tab := hT (202, 198) (.head _)
  refine ⟨.inl ⟨.bool true, .bool true, [], rfl, law_raises _, .bool true, law_post _, fun _ => ⟨List.nodup_nil, fun a ha => nomatch ha⟩⟩, ⟨fun b o e => ?_, fun b o e => ?_⟩, hos, .of_eq hg⟩
  · by_cases hb : b = 198
    · subst hb
      have e2 : o = tabObj #[] := Option.some.inj (e.symm.trans tab.2)
      subst e2
      exact .inr (.inl ⟨(tab.1.tab tab.2).isCodeTable, rfl, #[], ps, rfl, by rw [Array.empty_append]; exact hP⟩)
    · exact .inl (keep b o hb e)
  · by_cases hb : b = 198
    · subst hb; exact ⟨_, hP⟩
    · exact ⟨o, keep b o hb e⟩
section
variable {prog : Program} {w : World} {A : Around} {s : Shared} {R : Result → Shared → Prop} {name : Str} {params : Arguments} {body : List Stmt} {scope : Scope} {dV kV pm cd doc : Value} {a : Addr} {o : Obj} {args : Args} {binds : List (Str × Value)}
theorem call_topS (hroom : A.depth < recursionLimit) (ho : s.heap.get? a = some o) (hdata : o.data = .func { docDef name params body scope pm cd doc with defaults := dV, kwdefaults := kV }) (hlim : s.heap.NoLimit) (hcd : s.heap.CodeRec cd name)
    (hbind : BindsTo s { docDef name params body scope pm cd doc with defaults := dV, kwdefaults := kV } args binds) (hloc : ∀ x ∈ binds, scope.names.lookup x.1 = some .local)
    (h : ∀ h₁, Fr s.heap s.heap.objs.size h₁ (fun x => binds.reverse.lookup x) →
      wpS (model prog w) (A.deeper (envOf name scope s.heap.objs.size a cd)) (execs body (envOf name scope s.heap.objs.size a cd))
        (fun f s' => R (.ok (.ret (match f with | .ret v => v | _ => .none))) s') NoE { s with heap := h₁, toks := s.toks + binds.length })
    (hco : scope.isCoroutine = false) (hgen : scope.isGenerator = false) (hk : scope.kind = .function) (hcell : ∀ x ∈ scope.names, x.2 ≠ .cell) :
    codeS (model prog w) A (.call (.ref a) args) R s := by
  refine codeS_call_function (fd := { docDef name params body scope pm cd doc with defaults := dV, kwdefaults := kV }) (body := body) hroom ho hdata hco hgen rfl hcd (hbind _ _ _ _ ?_)
  refine wpAny_newFunctionEnv hcell hloc (fun h₁ hns hsb => ⟨hlim.fresh _ hsb, codeS_func (h h₁ ⟨hns, fun b o e => ?_, Nat.le_refl _⟩)⟩) hk
  exact hsb.extBut b o (Nat.ne_of_lt (Heap.lt_size e)) (Heap.get?_push_of_some _ e)
end
end Mine
end
section
open PySem PySem.W PySem.Calls PyProof.Rows PySem.Spec
namespace Mine
theorem reset_NT_law : True := by
  w_top off
  exact True.intro
local macro_rules | `(tactic| k_all) => `(tactic| with_reducible assumption)
local macro_rules | `(tactic| walk_at "exec For Tuple Name cons nil") => `(tactic| (k_here; (rename Fr _ _ _ _ => lF'); (with_unfolding_all refine' For_invTF lF' ?_ ?k2; (case k2 => (intro _; rfl)); k_whole)))
local macro_rules | `(tactic| walk_at "exec For Name Call cons nil") => `(tactic| (k_here; (rename Fr _ _ _ _ => lF'); (with_unfolding_all refine' For_M lF' ?k1 ?k2 ?_; (case k1 => exact rfl); (case k2 => exact rfl); k_whole)))
local macro_rules | `(tactic| walk_at "call type:range") => `(tactic| (k_here; (with_reducible show wpAny _ _ (call _ [_]) _ _ _); k_dflt (refine' range1_rows ?F ?N ?_; (case F => k_asm); (case N => k_asm); k_whole); intro h' tk t₁ u₁ v₁ rgX F' N' st'))
local macro_rules | `(tactic| walk_at "call type:range") => `(tactic| (k_here; (with_reducible show wpAny _ _ (call _ [_, _, _]) _ _ _); k_dflt (refine' range3_rows ?F ?N ?c ?_; (case F => k_asm); (case N => k_asm); (case c => decide); k_whole); intro h' tk t₁ u₁ v₁ rgX F' N' st'))
local macro_rules | `(tactic| k_mem) => `(tactic| assumption)
section
variable {prog : Program} {w : World} {A : Around} {E : Value → Shared → Prop} {s : Shared} {Q : Value → Shared → Prop} {t u : Tok}
theorem AndS {M : Model} {env : Env} {e₁ e₂ : Expr} {pos : Pos}
    (h : wpS M A (eval e₁ env) (fun v s₁ => wpAny M A (truthy v) (fun c s₂ => if c then wpS M A (eval e₂ env) Q E s₂ else Q v s₂) E s₁) E s) : wpS M A (eval (.BoolOp .And [e₁, e₂] pos) env) Q E s := by
  show wpS M A (do
    let v ← eval e₁ env
    standAt pos
    let c ← holding [v] (truthy v)
    match BoolOp.And, c with
    | .And, false | .Or, true => pure v
    | _, _ => boolOp pos .And (evalEach [e₂] env)) Q E s
  refine wpS_bind (wpS_mono h (fun v s₁ h₁ => wpS_bind (wpS_standAt (wpS_bind (wpS_holding (wpS_any (wpAny_mono h₁ (fun c s₂ h₂ => ?_) fun _ _ x => x)))))) fun _ _ x => x)
  cases c
  · exact wpS_pure h₂
  · exact h₂
theorem mod8 {a : Int} (h : Q (.int (a % 8) s.toks) { s with toks := s.toks + 1 }) : wpAny (model prog w) A (binaryOp .Mod (.int a t) (.int 8 u)) Q E s :=
  mod_int' (by decide) (by rw [show a.fmod 8 = a % 8 from Int.fmod_eq_emod_of_nonneg _ (by decide)]; exact h)
theorem ones_eq : ∀ k : Nat, k < 8 → Txt.mul (Str.ofString "1") (k : Int) = strB (List.replicate k true) := by decide +kernel
theorem ones_mul {k : Int} (h0 : 0 ≤ k) (h8 : k < 8) (h : ∀ t' tk, Q (.str (strB (List.replicate k.toNat true)) t') { s with toks := tk }) : wpAny (model prog w) A (binaryOp .Mult (.str (Str.ofString "1") t) (.int k u)) Q E s := by
  obtain ⟨n, rfl⟩ := Int.eq_ofNat_of_zero_le h0
  refine SB.mul (mulOk_of 16 1048576 (by decide) (by omega) (by omega) (by decide) (by decide)) fun t' tk => ?_
  rw [ones_eq n (by omega)]
  exact h t' tk
end
local macro_rules | `(tactic| walk_at "call builtin:len") => `(tactic| (k_here; (with_reducible show wpAny _ _ (call _ [Value.str (strB _) _]) _ _ _); k_dflt (refine' len_strB ?cl ?_; (case cl => omega); k_whole)))
local macro_rules | `(tactic| walk_at "binaryOp Mod int int") => `(tactic| (k_here; (with_reducible show wpAny _ _ (binaryOp _ _ (Value.int 8 _)) _ _ _); refine mod8 ?_))
local macro_rules | `(tactic| walk_at "binaryOp Mult str int") => `(tactic| (k_here; (refine' ones_mul ?c1 ?c2 ?_; (case c1 => omega); (case c2 => omega)); intro _ _))
local macro_rules | `(tactic| walk_at "binaryOp Add str str") => `(tactic| (k_here; (with_reducible show wpAny _ _ (binaryOp Operator.Add (Value.str (strB _) _) (Value.str (strB _) _)) _ _ _); k_dflt (refine' add_bits ?z ?_; (case z => (rw [List.length_replicate]; omega))); intro t' tk'))
local macro_rules | `(tactic| walk_at "call ref") => `(tactic| (k_here; (with_reducible show wpAny _ _ (call (Value.ref 149) _) _ _ _); k_dflt (refine' pool_spec ?hi ?hl _ _ _ _ _ _ _ _ _ _ _ _ _ _ _ _ _ ?B ?F ?X ?N ?T ?K ?d ?u ?S ?_; (case N => k_asm); (case B => k_asm); (case F => k_asm); (case X => k_asm); (case T => k_asm); (case K => exact rfl); (case hi => assumption); (case hl => assumption); (case S => assumption); (case d => (first | ktr_room | decide)); (case u => (first | ktr_units | decide)); k_whole); intro q y0 y1 u0 u1 hy0 hy1 hy1' l1 h' tk' F' N'; k_lt l1))
local macro_rules | `(tactic| walk_at "call ref") => `(tactic| (k_here; (with_reducible show wpAny _ _ (call (Value.ref 163) _) _ _ _); k_dflt (refine' numbers_spec ?h0 ?h1 ?h1' ?hne _ _ _ _ _ _ _ _ _ _ _ _ _ _ _ _ _ ?B ?F ?X ?N ?T ?K ?d ?u True.intro ?_; (case N => k_asm); (case B => k_asm); (case F => k_asm); (case X => k_asm); (case T => k_asm); (case K => exact rfl); (case h0 => assumption); (case h1 => assumption); (case h1' => assumption); (case hne => k_all); (case d => (first | ktr_room | decide)); (case u => (first | ktr_units | decide)); k_whole); intro q kq vs nums tup y0 y1 u0 u1 hy0 hy1 hy1' hN hG hl l1 l2 l3 h' tk' F' N'))
local macro_rules | `(tactic| walk_at "call ref") => `(tactic| (k_here; (with_reducible show wpAny _ _ (call (Value.ref 170) _) _ _ _); k_dflt (refine' row_spec ?hN ?hT ?hq ?hz ?hl _ _ _ _ _ _ _ _ _ _ _ _ _ _ _ _ _ ?B ?F ?X ?N ?T ?K ?d ?u True.intro ?_; (case N => k_asm); (case B => k_asm); (case F => k_asm); (case X => k_asm); (case T => k_asm); (case K => exact rfl); (case hN => assumption); (case hT => assumption); (case hq => assumption); (case hz => assumption); (case hl => omega); (case d => (first | ktr_room | decide)); (case u => (first | ktr_units | decide)); k_whole); intro tb h' tk' F' N'))
local macro_rules | `(tactic| walk_at "call ref") => `(tactic| (k_here; (with_reducible show wpAny _ _ (call (Value.ref 175) _) _ _ _); k_dflt (refine' locts_spec ?hl _ _ _ _ _ _ _ _ _ _ _ _ _ _ _ _ _ ?B ?F ?X ?N ?T ?K ?d ?u True.intro ?_; (case N => k_asm); (case B => k_asm); (case F => k_asm); (case X => k_asm); (case T => k_asm); (case K => exact rfl); (case hl => assumption); (case d => (first | ktr_room | decide)); (case u => (first | ktr_units | decide)); k_whole); intro tb new h' tk' F' N'; (replace N' := news_sub N' (fun p hp => List.mem_append_right _ hp))))
local macro_rules | `(tactic| walk_at "call ref") => `(tactic| (k_here; (with_reducible show wpAny _ _ (call (Value.ref 182) _) _ _ _); k_dflt (refine' cuts_spec ?h0 ?h1 ?h1' ?hne ?hl _ _ _ _ _ _ _ _ _ _ _ _ _ _ _ _ _ ?B ?F ?X ?N ?T ?K ?d ?u True.intro ?_; (case N => k_asm); (case B => k_asm); (case F => k_asm); (case X => k_asm); (case T => k_asm); (case K => exact rfl); (case h0 => assumption); (case h1 => assumption); (case h1' => assumption); (case hne => assumption); (case hl => omega); (case d => (first | ktr_room | decide)); (case u => (first | ktr_units | decide)); k_whole); intro q kq vs nums tup y0 y1 u0 u1 hy0 hy1 hy1' hN hG hrow l1 l2 l3 h' tk' F' N'))
set_option maxRecDepth 100000 in
set_option maxHeartbeats 8000000 in
theorem law_holds : PySem.Challenge.rw_nt0540_01.Holds := Mine.hd (by
  intro w s₀ s₁ mg mb G Y fa o pm cd doc dV kV ho hd hcd hD hmg hg args vals as hpre hlay hrd hwl hlo
  have KX := km_in_of Y
  km_tabs Y
  have X := (Ground.X G).1
  have V := (Ground.X G).2
  refine Ground.open G ?_
  intro T B D TE TW
  try (refine guard_noD D (by decide +kernel) ?_; clear D)
  km_lay T hmg ho hd cd
  clear hmg
  wrow_args hpre hlay hrd hwl hlo
  rename IntsAre _ _ => hI
  rename Heap.IsList _ _ _ => hL
  rename ¬ _ => h63
  refine wpS_call ?_
  refine codeS_mono (R := fun r s' => r = .ok (.ret (.bool true)) ∧ GoodWG lawC (classAt s₀.heap) (ExcName.means s₀.heap) _ s₁ (.ok (.ret (.bool true))) s') ?_ (fun r s' z => by obtain ⟨rfl, z⟩ := z; exact z)
  have he := Dflts.none hD rfl
  subst he
  refine call_topS (by decide) ho hd (Top.nolimit T) hcd (BindsTo.of_eq rfl) (locs rfl) (fun h₁ F => ?_) rfl rfl rfl (by decide)
  w_binds F
  have N0 := (News.nil : News _ _ _ []).at F
  clear hd
  kn_ghosts F T
  k_drop
  dsimp only
  replace h63 := show _ ≤ 63 from Nat.le_of_not_lt (fun z => h63 (by exact_mod_cast z))
  refine execsS_leaf ?_
  w_strict (k_steps)
  dsimp only
  refine execsS_leaf ?_
  w_strict (k_steps)
  dsimp only
  rename Below _ _ _ _ => B'
  rename Frag.In (hd.heap_39 w.params) (ghostOf s₁.heap [(202, 198)]) => X'
  rename Top _ _ _ _ _ (ghostOf s₁.heap [(202, 198)]) => T'
  rename News _ _ _ _ => N1
  rename_i q1 z0 z1 v0 v1 hz0 hz1 hz1' _ _ la _ q kq vs nums tup y0 y1 u0 u1 hy0 hy1 hy1' hN hG hl7 l1 l2 l3 _ _ h2 F1
  have hz : ∀ z ∈ nums, 0 ≤ z.2 ∧ z.2 < 18 ∧ 0 ≤ z.1 := fun z hz => ⟨(hG z hz).1, (hG z hz).2.1, (hG z hz).2.2.1⟩
  have hbl : (rowBits nums).length ≤ 126 := by have := rowBits_length_le hz; omega
  obtain ⟨R3, hR3⟩ : ∃ R3 : Led, R3 = (q, listOf vs.toArray kq) :: tup := ⟨_, rfl⟩
  have q198 : 198 < q := l1 (198, tabObj #[]) (.head _)
  have n3 : ∀ e ∈ R3, e.1 ≠ q1 := by
    rw [hR3]; exact List.forall_mem_cons.mpr ⟨Nat.ne_of_gt l2, fun e he => Nat.ne_of_gt (Nat.lt_trans l2 (l3 e he))⟩
  have n4 : ∀ e ∈ R3, e.1 ≠ 198 := by
    rw [hR3]; exact List.forall_mem_cons.mpr ⟨Nat.ne_of_gt q198, fun e he => Nat.ne_of_gt (Nat.lt_trans q198 (l3 e he))⟩
  have mT : ∀ e ∈ tup, e ∈ (q1, listOf #[.int y0 u0, .int y1 u1] 0) :: (198, tabObj #[]) :: R3 := fun e he => by rw [hR3]; exact .tail _ (.tail _ (.tail _ he))
  have mq : (q, listOf vs.toArray kq) ∈ (q1, listOf #[.int y0 u0, .int y1 u1] 0) :: (198, tabObj #[]) :: R3 := by rw [hR3]; exact .tail _ (.tail _ (.head _))
  have hne : ∀ e ∈ (198, tabObj #[]) :: R3, e.1 ≠ q1 := List.forall_mem_cons.mpr ⟨Nat.ne_of_lt la, n3⟩
  have NR : News (ghostOf s₁.heap [(202, 198)]) s₁.heap.objs.size h2 ((q1, listOf #[.int y0 u0, .int y1 u1] 0) :: (198, tabObj #[]) :: R3) := news_sub N1 (by
    intro p hp
    rw [hR3] at hp
    simp only [List.mem_cons, List.mem_append] at hp ⊢
    rcases hp with h | h | h | h <;> simp [h])
  clear N1
  refine execsS_leaf ?_
  w_strict (k_steps)
  dsimp only
  rename Fr _ _ _ _ => F2
  rename News _ _ _ _ => N2
  rename_i tb _ _ h3
  have hbl2 : (rowBits nums).length ≤ 91000 := by omega
  refine execsS_cons (IfS (isTrueCompareS (CallNameS ?_)))
  w_strict (k_steps)
  refine callWithS_K (K := Mine.hd.heap_39 w.params) (by k_is) ?_
  w_strict (k_steps)
  refine wpS_call ?_
  k_dflt (refine written_spec hN mT mq hG (by omega) _ _ _ _ _ _ _ _ _ _ _ _ _ _ _ _ B' F2 X' N2 T' rfl ?_ ?_ ?_)
  · decide
  · decide
  intro t1 new1 h4 tk4 F4 N4
  replace N4 := news_sub N4 (fun p hp => List.mem_append_right _ hp)
  rw [show padBits false (rowBits nums) = rowBits nums from rfl]
  w_strict (k_steps)
  · rename_i hbad
    simp at hbad
  refine execsS_nil ?_
  dsimp only
  have hpl : (rowBits nums ++ List.replicate ((0 - ((rowBits nums).length : Int)) % 8).toNat true).length ≤ 91000 := by rw [List.length_append, List.length_replicate]; omega
  refine execsS_leaf ?_
  w_strict (k_steps)
  dsimp only
  rename Fr _ _ _ _ => F5
  rename News _ _ _ _ => N5
  have hkk : ((0 - ((rowBits nums).length : Int)) % 8).toNat = (8 - (rowBits nums).length % 8) % 8 := by omega
  rw [hkk] at F5 hpl
  have hpad : padBits true (rowBits nums) = rowBits nums ++ List.replicate ((8 - (rowBits nums).length % 8) % 8) true := rfl
  refine execsS_cons (IfS (isTrueOrS (isTrueCompareS (CallNameS ?_))))
  w_strict (k_steps)
  refine callWithS_K (K := Mine.hd.heap_39 w.params) (by k_is) ?_
  w_strict (k_steps)
  refine wpS_call ?_
  k_dflt (refine written_spec hN mT mq hG (by omega) _ _ _ _ _ _ _ _ _ _ _ _ _ _ _ _ B' F5 X' N5 T' rfl ?_ ?_ ?_)
  · decide
  · decide
  intro t2 new2 h6 tk6 F6 N6
  replace N6 := news_sub N6 (fun p hp => List.mem_append_right _ hp)
  rw [hpad]
  w_strict (k_steps)
  · rename_i hbad
    simp at hbad
  refine isTrueOrS (isTrueCompareS (CallNameS ?_))
  w_strict (k_steps)
  refine callWithS_K (K := Mine.hd.heap_39 w.params) (by k_is) ?_
  w_strict (k_steps)
  rename_i q7 kq7 vs7 nums7 tup7 y4 y5 u4 u5 hy4 hy5 hy5' hN7 hG7 hrow7 k1 k2 k3 h7 tk7 F7 N7
  have mT7 : ∀ e ∈ tup7, e ∈ (q7, listOf vs7.toArray kq7) :: (q1, listOf #[.int y4 u4, .int y5 u5] 0) :: (tup7 ++ (198, tabObj #[]) :: R3) := fun e he => .tail _ (.tail _ (List.mem_append_left _ he))
  refine wpS_call ?_
  k_dflt (refine written_spec hN7 mT7 (.head _) hG7 (by rw [hrow7]; omega) _ _ _ _ _ _ _ _ _ _ _ _ _ _ _ _ B' F7 X' N7 T' rfl ?_ ?_ ?_)
  · decide
  · decide
  intro t3 new3 h8 tk8 F8 N8
  have N9 : News (ghostOf s₁.heap [(202, 198)]) s₁.heap.objs.size h8 ((q1, listOf #[.int y4 u4, .int y5 u5] 0) :: (198, tabObj #[]) :: R3) := news_sub N8 (by
    intro p hp
    simp only [List.mem_cons, List.mem_append] at hp ⊢
    rcases hp with h | h | h <;> simp [h])
  clear N8
  rw [hrow7, hpad]
  w_strict (k_steps)
  refine isTrueOrS_nil ?_
  simp only [Bool.false_eq_true, if_false]
  refine execsS_nil ?_
  dsimp only
  refine execsS_cons (ReturnS (AndS (CallNameS ?_)))
  w_strict (k_steps)
  refine callWithS_K (K := Mine.hd.heap_39 w.params) (by k_is) ?_
  w_strict (k_steps)
  refine wpS_call ?_
  k_dflt (refine right_spec (src := q1) (rest := R3) (bits := rowBits nums) (k := (8 - (rowBits nums).length % 8) % 8) hy4 hy5 hy5' n3 n4 (.inr la) (by omega) (by omega) (by omega) _ _ _ _ _ _ _ _ _ _ _ _ _ _ _ B' F8 X' N9 T' rfl X' T' codeHd ?_ ?_ ?_)
  · decide
  · decide
  intro ps y6 y7 u6 u7 h9 tk9 hy6 hy7 hy7' F9 N10
  w_strict (k_steps)
  refine CallNameS ?_
  w_strict (k_steps)
  refine callWithS_K (K := Mine.hd.heap_39 w.params) (by k_is) ?_
  w_strict (k_steps)
  refine wpS_call ?_
  have hne9 : ∀ e ∈ [((198 : Addr), tabObj ps)], e.1 ≠ q1 := List.forall_mem_cons.mpr ⟨Nat.ne_of_lt la, fun e he => nomatch he⟩
  k_dflt (refine refused_spec (src := q1) (rest := [(198, tabObj ps)]) hy6 hy7 hy7' hne9 _ _ _ _ _ _ _ _ _ _ _ _ _ _ _ B' F9 X' N10 T' rfl X' T' ?_ ?_ ?_)
  · decide
  · decide
  intro h10 tk10 F10 N11
  exact ⟨rfl, good_true hT9 F10 (N11 _ (.head _)).1 rfl hg⟩)
end Mine
end
theorem PySem.Challenge.cw_nt0540_01_holds : PySem.Challenge.rw_nt0540_01.Holds :=
  Mine.law_holds
