import PyProof.Rows.All
import Wide.All
import OpenK.AllK
import Wide.FinOn
import Lean
import PySem.Challenge.RW_pb0549_01
set_option Elab.async false
section
open PySem PySem.W PyProof.Rows
namespace Mine
set_option maxRecDepth 100000 in
set_option maxHeartbeats 8000000 in
theorem said_ok : PySem.Challenge.rw_pb0549_01.wellSaid = true := by decide +kernel
noncomputable def vq : Program := view PySem.Challenge.pw_pb0549_01 [0, 2, 3, 4, 6, 7, 8, 9, 10, 11, 12, 13, 14, 15, 16, 17, 18, 19, 20, 21, 22, 23, 24, 25, 26, 27, 28, 30, 31, 32, 33, 34, 35, 36, 37, 38, 39, 40, 41]
theorem left_of {p q : Program} {loose : List Str} {Xt : Shared → Bool} {α : Type} {Yf : Shared → α} {Ya : World → α} {N : Nat} (row : String) (e : opening p = plainProg p.main.scope.names) (hN : Nat.ble 600 N = true) (f : ∀ s, fenceModules? p s = some s)
    (h0 : ∀ (w : World) (os : OsState), (topFrom treeTable p (w.withFollow row false) N ⟨boot_heap (w.withFollow row false).params, #[], boot_drawn, boot_toks, os⟩).map (fun s => (openSeen q loose (importedModules p.main.body) Xt true s, Yf s)) = some (openGood q loose, Ya (w.withFollow row false)))
    (h1 : ∀ (w : World) (os : OsState), (topFrom treeTable p (w.withFollow row true) N ⟨boot_heap (w.withFollow row true).params, #[], boot_drawn, boot_toks, os⟩).map (fun s => (openSeen q loose (importedModules p.main.body) Xt true s, Yf s)) = some (openGood q loose, Ya (w.withFollow row true))) :
    LeftO p q loose Xt Yf Ya N := by
  intro w
  have key : ∀ w' : World, (∀ os, (topFrom treeTable p w' N ⟨boot_heap w'.params, #[], boot_drawn, boot_toks, os⟩).map (fun s => (openSeen q loose (importedModules p.main.body) Xt true s, Yf s)) = some (openGood q loose, Ya w')) →
      (openEnds treeTable p w' N).map (fun s => (openSeen q loose (importedModules p.main.body) Xt true s, Yf s)) = some (openGood q loose, Ya w') := fun w' h => by
    obtain ⟨s₀, hs, hv⟩ := Option.map_eq_some_iff.mp (boot_open e hN f w')
    obtain ⟨heap, gens, drawn, toks, os⟩ := s₀
    obtain ⟨rfl, rfl, rfl, rfl⟩ : heap = boot_heap w'.params ∧ gens = #[] ∧ drawn = boot_drawn ∧ toks = boot_toks := by simpa using hv
    unfold openEnds
    rw [hs]
    exact h os
  have e := World.withFollow_self w row
  cases hb : w.params.followText row with
  | false => rw [hb] at e; rw [← e]; exact key _ (h0 w)
  | true => rw [hb] at e; rw [← e]; exact key _ (h1 w)
set_option maxRecDepth 100000
local macro_rules | `(tactic| o_head $_) => `(tactic| assumption)
theorem wr (_h : PySem.Challenge.rw_pb0549_01.row.Holds) : PySem.Challenge.rw_pb0549_01.row.Holds := by
  k_head
noncomputable abbrev asK : List Addr := [2, 3, 15, 17, 18, 20, 21, 22, 29, 31, 32, 34, 35, 36, 37, 38, 39, 42, 49, 50, 51, 54, 61, 62, 63, 66, 67, 75, 77, 78, 80, 81, 82, 84, 85, 87, 88, 89, 91, 92, 94, 95, 96, 97, 98, 99, 100, 110, 111, 113, 114, 116, 117, 118, 120, 121, 123, 124, 125, 127, 128, 130, 131, 132, 133, 134, 135, 136, 139, 141, 142, 144, 145, 146, 149, 150, 151, 153, 154, 156, 157, 158, 160, 161, 163, 164, 165, 167, 168, 170, 171, 172, 174, 175, 177, 178, 179, 181, 182, 184, 185, 186, 188, 189, 191, 192, 193, 195, 196, 198, 199, 200, 202, 203, 205, 206, 207, 209, 210, 212, 213, 214, 217, 218, 219, 221, 222, 224, 225, 226, 228, 229, 231, 232, 233, 235, 236, 238, 239, 240, 242, 243, 245, 246, 247, 249, 250, 252, 253, 254, 256, 257, 259, 260, 261, 264, 265, 266, 268, 269, 271, 272, 273, 275, 276, 278, 279, 280, 283, 284, 285, 288, 289, 290, 292, 293, 295, 296, 297, 300, 301, 302, 304, 305, 307, 308, 309, 311, 312, 314, 315]
theorem asK_eq : ∀ P, asK = (wr.heap_1 P).map (·.1) := fun _ => by kernel_rfl!
noncomputable abbrev hK : Hook := kHook wr.heap_1 asK asK_eq
set_option maxHeartbeats 0 in
theorem run0 (w : World) (os : OsState) : (topFrom treeTable PySem.Challenge.pw_pb0549_01 (w.withFollow "special-get-raises" false) 2240 ⟨boot_heap (w.withFollow "special-get-raises" false).params, #[], boot_drawn, boot_toks, os⟩).map (fun s => (openSeen vq [Str.ofString "KINDS", Str.ofString "Bpdu"] (importedModules PySem.Challenge.pw_pb0549_01.main.body) (fun s => xlAt vq [] s && recOk [] s) true s, hK.obs s)) = some (openGood vq [Str.ofString "KINDS", Str.ofString "Bpdu"], hK.val (w.withFollow "special-get-raises" false)) := by
  unfold topFrom
  rw [PySem.W.Fast.te14082659384304107361, PySem.W.Fast.te14364793385576792824, PySem.W.Fast.te4187177175401517315, PySem.W.Fast.te5923862056798008813]
  kernel_rfl!
set_option maxHeartbeats 0 in
theorem run1 (w : World) (os : OsState) : (topFrom treeTable PySem.Challenge.pw_pb0549_01 (w.withFollow "special-get-raises" true) 2240 ⟨boot_heap (w.withFollow "special-get-raises" true).params, #[], boot_drawn, boot_toks, os⟩).map (fun s => (openSeen vq [Str.ofString "KINDS", Str.ofString "Bpdu"] (importedModules PySem.Challenge.pw_pb0549_01.main.body) (fun s => xlAt vq [] s && recOk [] s) true s, hK.obs s)) = some (openGood vq [Str.ofString "KINDS", Str.ofString "Bpdu"], hK.val (w.withFollow "special-get-raises" true)) := by
  unfold topFrom
  rw [PySem.W.Fast.te14082659384304107361, PySem.W.Fast.te14364793385576792824, PySem.W.Fast.te4187177175401517315, PySem.W.Fast.te5923862056798008813]
  kernel_rfl!
theorem leftK : LeftO PySem.Challenge.pw_pb0549_01 vq [Str.ofString "KINDS", Str.ofString "Bpdu"] (fun s => xlAt vq [] s && recOk [] s) hK.obs hK.val 2240 :=
  left_of "special-get-raises" (by kernel_rfl!) (by decide) (fun s => by kernel_rfl!) run0 run1
end Mine
end
section
open PySem PySem.W PyProof.Rows PySem.Calls PySem.Spec
namespace Mine

noncomputable abbrev Vw : Program := Mine.vq
noncomputable abbrev Lo : List Str := looseW Mine.vq [Str.ofString "KINDS", Str.ofString "Bpdu"]
abbrev Led := List (Addr × Obj)
abbrev fscope (snm : List (Str × NameKind)) (sig sic : Bool) (smo : List (Str × Const)) : Scope := { kind := .function, names := snm, isGenerator := sig, isCoroutine := sic, more := smo }

noncomputable def Sep : Led → Led → Prop
  | [], _ => True
  | p :: r, l => (∀ q ∈ l, @Ne Nat p.1 q.1) ∧ Sep r l
theorem Sep.mem {a b : Led} (h : Sep a b) : ∀ p ∈ a, ∀ q ∈ b, p.1 ≠ q.1 := by
  induction a with
  | nil => intro p hp; cases hp
  | cons x r ih =>
    intro p hp q hq
    rcases List.mem_cons.mp hp with rfl | hp
    · exact h.1 q hq
    · exact ih h.2 p hp q hq
theorem Sep.of {a b : Led} (h : ∀ p ∈ a, ∀ q ∈ b, p.1 ≠ q.1) : Sep a b := by
  induction a with
  | nil => trivial
  | cons x r ih => exact ⟨fun q hq => h x (.head _) q hq, ih fun p hp => h p (.tail _ hp)⟩

noncomputable def Apart : List Addr → Prop
  | [] => True
  | a :: r => (∀ b ∈ r, @Ne Nat a b) ∧ Apart r

def Ctr (kd : Nat) (w : World) (mean : ExcName → Option Value) (mg mb : Str → Option Value) (f : Addr) (vs : List Value) (front : Led) (Post : Value → Led → Prop) : Prop :=
  ∀ (dp un : Nat) (gd : Option (List Code)) (cn : Str) (snm : List (Str × NameKind)) (sig sic : Bool) (smo : List (Str × Const)) (a : Addr) (ccd : Value) (cl : List (Str × Addr)) (outer : List Env) (A₀ : Around) (base h₀ : Heap) (L : Addr) (m : Str → Option Value) (s : Shared) (Q E : Value → Shared → Prop) (rest : Led),
    Below A₀ base outer h₀ → Fr h₀ L s.heap m → (Mine.wr.heap_1 w.params).In h₀ → News h₀ L s.heap front → News h₀ L s.heap rest → Sep front rest → Top Mine.vq (looseW Mine.vq [Str.ofString "KINDS", Str.ofString "Bpdu"]) mean mg mb h₀ →
      dp + kd < recursionLimit → un + 10 * kd + 100 < cLine →
      (∀ v news' h' tk', Fr h₀ L h' m → News h₀ L h' (news' ++ rest) → Sep news' rest → Post v news' → Q v { s with heap := h', toks := tk' }) →
      wpAny (model PySem.Challenge.rw_pb0549_01.row.prog w) (ktrTop dp un gd cn (fscope snm sig sic smo) L a ccd cl outer) (call (.ref f) vs) Q E s

inductive Del (p : Addr × Obj) : Led → Led → Prop
  | head {r} : Del p (p :: r) r
  | tail {q r r'} : Del p r r' → Del p (q :: r) (q :: r')
inductive Pick : Led → Led → Led → Prop
  | nil {l} : Pick [] l l
  | cons {p f l l' r} : Del p l l' → Pick f l' r → Pick (p :: f) l r
theorem Del.mem {p : Addr × Obj} {l l' : Led} (h : Del p l l') : p ∈ l ∧ ∀ q ∈ l', q ∈ l := by
  induction h with
  | head => exact ⟨.head _, fun q hq => .tail _ hq⟩
  | tail _ ih => exact ⟨.tail _ ih.1, fun q hq => by
      rcases List.mem_cons.mp hq with rfl | hq
      · exact .head _
      · exact .tail _ (ih.2 q hq)⟩
theorem Pick.mem {f l r : Led} (h : Pick f l r) : (∀ p ∈ f, p ∈ l) ∧ ∀ q ∈ r, q ∈ l := by
  induction h with
  | nil => exact ⟨fun p hp => (nomatch hp), fun q hq => hq⟩
  | cons d _ ih =>
    have dm := d.mem
    exact ⟨fun p hp => by
      rcases List.mem_cons.mp hp with rfl | hp
      · exact dm.1
      · exact dm.2 _ (ih.1 p hp), fun q hq => dm.2 _ (ih.2 q hq)⟩

def End (g : Heap) (s : Shared) (Post : Value → Led → Prop) (v : Value) (s' : Shared) : Prop :=
  ∃ L' m' news' h' tk', s' = { s with heap := h', toks := tk' } ∧ Fr g L' h' m' ∧ News g L' h' news' ∧ Post v news'
theorem End.sub {g : Heap} {s : Shared} {Post : Value → Led → Prop} {v : Value} {L' : Addr} {m' : Str → Option Value} {news' all rest : Led} {h' : Heap} {tk' : Nat} (F : Fr g L' h' m') (N : News g L' h' all) (P : Post v news') (S : Pick news' all rest) :
    End g s Post v { s with heap := h', toks := tk' } := ⟨L', m', news', h', tk', rfl, F, fun p hp => N p (S.mem.1 p hp), P⟩
theorem End.intro {g : Heap} {s : Shared} {Post : Value → Led → Prop} {v : Value} {L' : Addr} {m' : Str → Option Value} {news' : Led} {h' : Heap} {tk' : Nat} (F : Fr g L' h' m') (N : News g L' h' news') (P : Post v news') :
    End g s Post v { s with heap := h', toks := tk' } := ⟨L', m', news', h', tk', rfl, F, N, P⟩

section
variable {kd : Nat} {w : World} {mean : ExcName → Option Value} {mg mb : Str → Option Value} {f : Addr} {vs : List Value} {front : Led} {Post : Value → Led → Prop}
  {name qual : Str} {params : Arguments} {body : List Stmt} {scope : Scope} {dV kV doc pm cdv ct oc : Value} {an od : Option Addr} {osl : Array (Option Value)} {binds : List (Str × Value)}

theorem ctr_back {dp un : Nat} {cn : Str} {cs : Scope} {a : Addr} {ccd : Value} {cl : List (Str × Addr)} {outer : List Env} {A₀ : Around} {base h₀ : Heap} {L : Addr} {m : Str → Option Value} {s : Shared} {Q : Value → Shared → Prop} {rest : Led}
    (B : Below A₀ base outer h₀) (F : Fr h₀ L s.heap m) (N : News h₀ L s.heap front) (NR : News h₀ L s.heap rest) (S : Sep front rest) (hck : cs.kind = .function)
    (hret : ∀ v news' h' tk', Fr h₀ L h' m → News h₀ L h' (news' ++ rest) → Sep news' rest → Post v news' → Q v { s with heap := h', toks := tk' })
    {v : Value} {s' : Shared} (hl : End (hideAll s.heap (front.map (·.1))) s Post v s') : Q v s' := by
  obtain ⟨L', m', news', h', tk', rfl, F', N', P⟩ := hl
  obtain ⟨_, _, st, lv⟩ := groundX (A := ktrTop dp un none cn cs L a ccd cl outer) (env := envX cn cs L a ccd cl) (R := fun _ s'' => Fr h₀ L s''.heap m ∧ News h₀ L s''.heap news') B F N rfl rfl hck
  obtain ⟨F₂, N₂⟩ := lv v { s with heap := h', toks := tk' } ⟨L', m', news', F', N', fun x y => ⟨x, y⟩⟩
  have hr : ∀ q ∈ rest, (hideAll s.heap (front.map (·.1))).get? q.1 = some q.2 := fun q hq => hideAll_get _ (NR q hq).1 fun hm => by
    obtain ⟨p, hp, e⟩ := List.mem_map.mp hm
    exact S.mem p hp q hq e
  refine hret v news' h' tk' F₂ (fun p hp => ?_) (Sep.of fun p hp q hq e => ?_) P
  · rcases List.mem_append.mp hp with hp | hp
    · exact N₂ p hp
    · exact ⟨F'.keep _ _ (hr p hp), (NR p hp).2⟩
  · have := (N' p hp).2.2
    rw [e, hr q hq] at this
    cases this

theorem ctr_mk
    (ho : (Mine.wr.heap_1 w.params).lookup f = some ⟨oc, od, .func (fnOf name qual params body scope dV kV doc pm an cdv ct), osl⟩) (hcd : codeIn (Mine.wr.heap_1 w.params) cdv qual = true)
    (hbind : ∀ s, BindsTo s (fnOf name qual params body scope dV kV doc pm an cdv ct) ⟨vs, []⟩ binds) (hloc : ∀ y ∈ binds, scope.names.lookup y.1 = some .local)
    (hco : scope.isCoroutine = false) (hgen : scope.isGenerator = false) (hk : scope.kind = .function) (hcell : ∀ x ∈ scope.names, x.2 ≠ .cell)
    (h : ∀ (dp un : Nat) (gd : Option (List Code)) (cn : Str) (snm : List (Str × NameKind)) (sig sic : Bool) (smo : List (Str × Const)) (a : Addr) (ccd : Value) (cl : List (Str × Addr)) (outer : List Env) (base : Heap) (L : Addr) (s : Shared) (g : Heap) (L' : Addr) (h₁ : Heap) (tk : Nat),
      Fr g L' h₁ (fun y => binds.reverse.lookup y) → News g L' h₁ front → Below (ktrTop dp un gd cn (fscope snm sig sic smo) L a ccd cl outer) base (envX cn (fscope snm sig sic smo) L a ccd cl :: outer) g → (Mine.wr.heap_1 w.params).In g →
      Top Mine.vq (looseW Mine.vq [Str.ofString "KINDS", Str.ofString "Bpdu"]) mean mg mb g → (∀ p ∈ front, p.1 < L') → dp + kd < recursionLimit → un + 10 * kd + 100 < cLine →
      wpAny (model PySem.Challenge.rw_pb0549_01.row.prog w) ((ktrTop dp un gd cn (fscope snm sig sic smo) L a ccd cl outer).deeper (envOf qual scope L' f cdv)) (execs body (envOf qual scope L' f cdv))
        (fun fl s' => End g s Post (match fl with | .ret v => v | _ => .none) s') (fun _ _ => False) { s with heap := h₁, toks := tk }) :
    Ctr kd w mean mg mb f vs front Post := by
  intro dp un gd cn snm sig sic smo a ccd cl outer A₀ base h₀ L m s Q E rest B F X N NR S T hdp hun hret
  refine wpAny_call ?_
  obtain ⟨FG, BG, st, lv⟩ := groundX (A := ktrTop dp un gd cn (fscope snm sig sic smo) L a ccd cl outer) (env := envX cn (fscope snm sig sic smo) L a ccd cl) (R := fun _ _ => True) B F N rfl rfl rfl
  refine codeAny_call_def (fd := fnOf name qual params body scope dV kV doc pm an cdv ct) (body := body) (binds := binds) (by show dp < recursionLimit; omega) (X.keeps F.keep _ _ ho) rfl (T.nolimit.keeps F.keep) (codeRec_of (X.keeps F.keep) hcd) rfl (hbind _) hcell hloc (fun h₁ hns hk₁ => ?_) hco hgen hk
  refine wpAny_mono (h dp un gd cn snm sig sic smo a ccd cl outer base L s _ s.heap.objs.size h₁ _ ⟨hns, fun b o e => hk₁ b o (of_hideAll _ e), Nat.le_of_eq (hideAll_size _ _)⟩
    (fun p hp => ⟨hk₁ _ _ (N p hp).1, Nat.ne_of_lt (Heap.lt_size (N p hp).1), hideAll_none _ (List.mem_map_of_mem hp)⟩) BG (X.keeps st) (T.keeps st) (fun p hp => Heap.lt_size (N p hp).1) hdp hun) (fun fl s' hl => ?_) fun _ _ y => y.elim
  exact ctr_back (dp := dp) (un := un) (cn := cn) (cs := fscope snm sig sic smo) (a := a) (ccd := ccd) (cl := cl) B F N NR S rfl hret hl

theorem ctr_mkC
    (ho : (Mine.wr.heap_1 w.params).lookup f = some ⟨oc, od, .func (fnOf name qual params body scope dV kV doc pm an cdv ct), osl⟩) (hcd : codeIn (Mine.wr.heap_1 w.params) cdv qual = true)
    (hbind : ∀ s, BindsTo s (fnOf name qual params body scope dV kV doc pm an cdv ct) ⟨vs, []⟩ binds) (hkind : (binds.all fun y => scope.names.lookup y.1 == some .local || scope.names.lookup y.1 == some .cell) = true)
    (hnd : ((cellsFrom 0 scope.names []).map (·.1)).Nodup)
    (hco : scope.isCoroutine = false) (hgen : scope.isGenerator = false) (hk : scope.kind = .function)
    (h : ∀ (dp un : Nat) (gd : Option (List Code)) (cn : Str) (snm : List (Str × NameKind)) (sig sic : Bool) (smo : List (Str × Const)) (a : Addr) (ccd : Value) (cl : List (Str × Addr)) (outer : List Env) (base : Heap) (L : Addr) (s : Shared) (g : Heap) (L' : Addr) (h₁ : Heap) (tk : Nat) (cells : Led),
      Fr g L' h₁ (bindL (envOfC qual scope L' f cdv).kindOf binds fun _ => none) → News g L' h₁ (cells ++ front) → CellsAre (bindC (envOfC qual scope L' f cdv).kindOf binds fun _ => none) (cellsFrom (L' + 1) scope.names []) cells → Below (ktrTop dp un gd cn (fscope snm sig sic smo) L a ccd cl outer) base (envX cn (fscope snm sig sic smo) L a ccd cl :: outer) g → (Mine.wr.heap_1 w.params).In g →
      Top Mine.vq (looseW Mine.vq [Str.ofString "KINDS", Str.ofString "Bpdu"]) mean mg mb g → (∀ p ∈ front, p.1 < L') → dp + kd < recursionLimit → un + 10 * kd + 100 < cLine →
      wpAny (model PySem.Challenge.rw_pb0549_01.row.prog w) ((ktrTop dp un gd cn (fscope snm sig sic smo) L a ccd cl outer).deeper (envOfC qual scope L' f cdv)) (execs body (envOfC qual scope L' f cdv))
        (fun fl s' => End g s Post (match fl with | .ret v => v | _ => .none) s') (fun _ _ => False) { s with heap := h₁, toks := tk }) :
    Ctr kd w mean mg mb f vs front Post := by
  intro dp un gd cn snm sig sic smo a ccd cl outer A₀ base h₀ L m s Q E rest B F X N NR S T hdp hun hret
  refine wpAny_call ?_
  obtain ⟨FG, BG, st, lv⟩ := groundX (A := ktrTop dp un gd cn (fscope snm sig sic smo) L a ccd cl outer) (env := envX cn (fscope snm sig sic smo) L a ccd cl) (R := fun _ _ => True) B F N rfl rfl rfl
  refine codeAny_call_function (by show dp < recursionLimit; omega) (X.keeps F.keep _ _ ho) rfl hco hgen rfl (codeRec_of (X.keeps F.keep) hcd) ((hbind _) _ _ _ _ ?_)
  refine wpAny_newFunctionEnv_cells hk (kindsX hkind _) fun env' he s' x => ?_
  subst he
  refine ⟨(T.nolimit.keeps F.keep).keeps x.toInCall.keep, codeAny_func ?_⟩
  obtain ⟨h₁, tk, rfl, _⟩ := x.done
  have hk₁ := x.toInCall.keep
  obtain ⟨cells, NC, Y⟩ := Cl.news (h₀ := s.heap) (Nat.le_refl _) fun n c hm => ⟨x.cell n c (lookup_of_mem_nodup (cellsFrom_names scope.names 0 (s.heap.objs.size + 1) [] [] rfl ▸ hnd) hm), x.above n c hm⟩
  refine wpAny_mono (h dp un gd cn snm sig sic smo a ccd cl outer base L s _ s.heap.objs.size h₁ tk cells ⟨x.toInCall.ns, fun b o e => hk₁ b o (of_hideAll _ e), Nat.le_of_eq (hideAll_size _ _)⟩
    (fun p hp => ?_) Y BG (X.keeps st) (T.keeps st) (fun p hp => Heap.lt_size (N p hp).1) hdp hun) (fun fl s' hl => ?_) fun _ _ y => y.elim
  · rcases List.mem_append.mp hp with hp | hp
    · refine ⟨(NC p hp).1, (NC p hp).2.1, ?_⟩
      cases q : (hideAll s.heap (front.map (·.1))).get? p.1 with
      | none => rfl
      | some o => have := of_hideAll _ q; rw [(NC p hp).2.2] at this; cases this
    · exact ⟨hk₁ _ _ (N p hp).1, Nat.ne_of_lt (Heap.lt_size (N p hp).1), hideAll_none _ (List.mem_map_of_mem hp)⟩
  · exact ctr_back (dp := dp) (un := un) (cn := cn) (cs := fscope snm sig sic smo) (a := a) (ccd := ccd) (cl := cl) B F N NR S rfl hret hl
end

theorem Ctr.use {kd : Nat} {w : World} {mean : ExcName → Option Value} {mg mb : Str → Option Value} {f : Addr} {vs : List Value} {front all rest : Led} {Post : Value → Led → Prop} (C : Ctr kd w mean mg mb f vs front Post)
    {dp un : Nat} {gd : Option (List Code)} {cn : Str} {snm : List (Str × NameKind)} {sig sic : Bool} {smo : List (Str × Const)} {a : Addr} {ccd : Value} {cl : List (Str × Addr)} {outer : List Env} {A₀ : Around} {base h₀ : Heap} {L : Addr} {m : Str → Option Value} {s : Shared} {Q E : Value → Shared → Prop}
    (B : Below A₀ base outer h₀) (F : Fr h₀ L s.heap m) (X : (Mine.wr.heap_1 w.params).In h₀) (N : News h₀ L s.heap all) (P : Pick front all rest) (S : Sep front rest) (T : Top Mine.vq (looseW Mine.vq [Str.ofString "KINDS", Str.ofString "Bpdu"]) mean mg mb h₀)
    (hdp : dp + kd < recursionLimit) (hun : un + 10 * kd + 100 < cLine)
    (hret : ∀ v news' h' tk', Fr h₀ L h' m → News h₀ L h' (news' ++ rest) → Sep news' rest → Post v news' → Q v { s with heap := h', toks := tk' }) :
    wpAny (model PySem.Challenge.rw_pb0549_01.row.prog w) (ktrTop dp un gd cn (fscope snm sig sic smo) L a ccd cl outer) (call (.ref f) vs) Q E s :=
  C _ _ _ _ _ _ _ _ _ _ _ _ _ _ _ _ _ _ _ _ _ B F X (fun p hp => N p (P.mem.1 p hp)) (fun p hp => N p (P.mem.2 p hp)) S T hdp hun hret

def Bk (P G : Prop) : Prop := P → G
theorem Bk.ex {α : Sort _} {p : α → Prop} {G : Prop} (h : ∀ x, Bk (p x) G) : Bk (∃ x, p x) G := fun ⟨x, hx⟩ => h x hx
theorem Bk.and {a b G : Prop} (h : Bk a (Bk b G)) : Bk (a ∧ b) G := fun x => h x.1 x.2
theorem Bk.fact {a G : Prop} (h : a → G) : Bk a G := h
theorem Bk.rfl {α : Sort _} {x : α} {p : α → Prop} (h : p x) : ∀ y, Bk (y = x) (p y) := fun _ e => e ▸ h

theorem Bk.sep_nil {l : Led} {G : Prop} (h : G) : Bk (Sep [] l) G := fun _ => h
theorem Bk.sep_cons {a : Addr} {o : Obj} {r l : Led} {G : Prop} (h : Bk (∀ q ∈ l, @Ne Nat a q.1) (Bk (Sep r l) G)) : Bk (Sep ((a, o) :: r) l) G := fun x => h x.1 x.2
theorem Bk.ne_nil {a : Nat} {G : Prop} (h : G) : Bk (∀ q ∈ ([] : Led), @Ne Nat a q.1) G := fun _ => h
theorem Bk.ne_cons {a : Nat} {b : Addr} {o : Obj} {r : Led} {G : Prop} (h : @Ne Nat a b → Bk (∀ q ∈ r, @Ne Nat a q.1) G) : Bk (∀ q ∈ ((b, o) :: r : Led), @Ne Nat a q.1) G := fun x => h (x _ (.head _)) fun q hq => x q (.tail _ hq)
theorem Bk.ap_nil {G : Prop} (h : G) : Bk (Apart []) G := fun _ => h
theorem Bk.ap_cons {a : Addr} {r : List Addr} {G : Prop} (h : Bk (∀ b ∈ r, @Ne Nat a b) (Bk (Apart r) G)) : Bk (Apart (a :: r)) G := fun x => h x.1 x.2
theorem Bk.na_nil {a : Nat} {G : Prop} (h : G) : Bk (∀ b ∈ ([] : List Addr), @Ne Nat a b) G := fun _ => h
theorem Bk.na_cons {a : Nat} {b : Addr} {r : List Addr} {G : Prop} (h : @Ne Nat a b → Bk (∀ q ∈ r, @Ne Nat a q) G) : Bk (∀ q ∈ (b :: r : List Addr), @Ne Nat a q) G := fun x => h (x _ (.head _)) fun q hq => x q (.tail _ hq)
theorem rm1 {d k j R : Nat} (h : d + k < R) (e : 1 + j ≤ k) : d + 1 + j < R := by omega
theorem rm3 {d k j R : Nat} (h : d + 10 * k + 100 < R) (e : 3 + 10 * j ≤ 10 * k) : d + 3 + 10 * j + 100 < R := by omega

theorem Ctr.use0 {kd : Nat} {w : World} {mean : ExcName → Option Value} {mg mb : Str → Option Value} {f : Addr} {vs : List Value} {front all rest : Led} {Post : Value → Led → Prop} (C : Ctr kd w mean mg mb f vs front Post)
    {dp un : Nat} {gd : Option (List Code)} {cn : Str} {snm : List (Str × NameKind)} {sig sic : Bool} {smo : List (Str × Const)} {a : Addr} {ccd : Value} {cl : List (Str × Addr)} {outer : List Env} {A₀ : Around} {base h₀ : Heap} {L : Addr} {m : Str → Option Value} {s : Shared} {Q E : Value → Shared → Prop}
    (B : Below A₀ base outer h₀) (F : Fr h₀ L s.heap m) (X : (Mine.wr.heap_1 w.params).In h₀) (N : News h₀ L s.heap all) (P : Pick front all rest) (S : Sep front rest) (T : Top Mine.vq (looseW Mine.vq [Str.ofString "KINDS", Str.ofString "Bpdu"]) mean mg mb h₀)
    (hdp : dp + kd < recursionLimit) (hun : un + 10 * kd + 100 < cLine)
    (hret : ∀ h' tk', Fr h₀ L h' m → ∀ v news', Bk (Post v news') (News h₀ L h' (news' ++ rest) → Q v { s with heap := h', toks := tk' })) :
    wpAny (model PySem.Challenge.rw_pb0549_01.row.prog w) (ktrTop dp un gd cn (fscope snm sig sic smo) L a ccd cl outer) (call (.ref f) vs) Q E s :=
  C.use B F X N P S T hdp hun fun v n h t F N _ P => hret h t F v n P N
theorem Ctr.use1 {kd : Nat} {w : World} {mean : ExcName → Option Value} {mg mb : Str → Option Value} {f : Addr} {vs : List Value} {front all rest : Led} {Post : Value → Led → Prop} (C : Ctr kd w mean mg mb f vs front Post)
    {dp un : Nat} {gd : Option (List Code)} {cn : Str} {snm : List (Str × NameKind)} {sig sic : Bool} {smo : List (Str × Const)} {a : Addr} {ccd : Value} {cl : List (Str × Addr)} {outer : List Env} {A₀ : Around} {base h₀ : Heap} {L : Addr} {m : Str → Option Value} {s : Shared} {Q E : Value → Shared → Prop}
    (B : Below A₀ base outer h₀) (F : Fr h₀ L s.heap m) (X : (Mine.wr.heap_1 w.params).In h₀) (N : News h₀ L s.heap all) (P : Pick front all rest) (S : Sep front rest) (T : Top Mine.vq (looseW Mine.vq [Str.ofString "KINDS", Str.ofString "Bpdu"]) mean mg mb h₀)
    (hdp : dp + kd < recursionLimit) (hun : un + 10 * kd + 100 < cLine)
    (hret : ∀ h' tk', Fr h₀ L h' m → ∀ v news', Bk (Post v news') (News h₀ L h' (news' ++ rest) → Bk (Sep news' rest) (Q v { s with heap := h', toks := tk' }))) :
    wpAny (model PySem.Challenge.rw_pb0549_01.row.prog w) (ktrTop dp un gd cn (fscope snm sig sic smo) L a ccd cl outer) (call (.ref f) vs) Q E s :=
  C.use B F X N P S T hdp hun fun v n h t F N S P => hret h t F v n P N S
end Mine
end
section
open PySem PySem.W PyProof.Rows PySem.Calls PySem.Spec
namespace Mine
section
variable {prog : Program} {w : World} {A : Around} {E : Value → Shared → Prop} {s : Shared} {h₀ : Heap} {L D : Addr} {m : Str → Option Value} {news news' : List (Addr × Obj)} {n : Nat} {t : Tok} {x y v : Value} {newsF : Int → List (Addr × Obj)}
theorem set2_0 {Q : Unit → Shared → Prop} (F : Fr h₀ L s.heap m) (N : News h₀ L s.heap news) (U : Upd D (listOf [x, y].toArray n) (listOf [v, y].toArray n) news news')
    (h : ∀ h', Fr h₀ L h' m → News h₀ L h' news' → Q () { s with heap := h' }) :
    wpAny (model prog w) A (setItem (.ref D) (.int 0 t) v) Q E s := by
  obtain ⟨pre, post, rfl, rfl, a, b⟩ := U.split
  have z := N (D, listOf [x, y].toArray n) (List.mem_append.mpr (.inr (.head _)))
  exact ki_setAt z.1 (by decide) (by decide) (by simp) (h _ (F.change (Heap.SameBut.update ..) z.2.1 z.2.2) (ki_turn _ N a b (by rfl) (by rfl)))
theorem set2_1 {Q : Unit → Shared → Prop} (F : Fr h₀ L s.heap m) (N : News h₀ L s.heap news) (U : Upd D (listOf [x, y].toArray n) (listOf [x, v].toArray n) news news')
    (h : ∀ h', Fr h₀ L h' m → News h₀ L h' news' → Q () { s with heap := h' }) :
    wpAny (model prog w) A (setItem (.ref D) (.int 1 t) v) Q E s := by
  obtain ⟨pre, post, rfl, rfl, a, b⟩ := U.split
  have z := N (D, listOf [x, y].toArray n) (List.mem_append.mpr (.inr (.head _)))
  exact ki_setAt z.1 (by decide) (by decide) (by simp) (h _ (F.change (Heap.SameBut.update ..) z.2.1 z.2.2) (ki_turn _ N a b (by rfl) (by rfl)))
theorem set2_1g {x' : Int} {u : Tok} {Q : Unit → Shared → Prop} (hlo : 0 ≤ x') (hhi : x' < 2147483647) (F : Fr h₀ L s.heap m) (N : News h₀ L s.heap news) (U : ∀ c : Int, Upd D (listOf [x, y].toArray n) (listOf [x, Value.int c u].toArray n) news (newsF c))
    (h : ∀ (c : Int) h', 0 ≤ c → c < 2147483647 → Fr h₀ L h' m → News h₀ L h' (newsF c) → Q () { s with heap := h' }) :
    wpAny (model prog w) A (setItem (.ref D) (.int 1 t) (.int x' u)) Q E s := set2_1 F N (U x') fun h' F' N' => h x' h' hlo hhi F' N'
theorem fm_lo {a b : Int} (h : 1 ≤ b) : 0 ≤ a.fmod b := by rw [Int.fmod_eq_emod_of_nonneg _ (by omega)]; exact Int.emod_nonneg _ (by omega)
theorem fm_hi {a b : Int} (h : 1 ≤ b) : a.fmod b < b := by rw [Int.fmod_eq_emod_of_nonneg _ (by omega)]; exact Int.emod_lt_of_pos _ (by omega)
theorem fd_lo {a b : Int} (ha : 0 ≤ a) (h : 1 ≤ b) : 0 ≤ a.fdiv b := by rw [Int.fdiv_eq_ediv_of_nonneg _ (by omega)]; exact Int.ediv_nonneg ha (by omega)
end

section
variable {prog : Program} {w : World} {A : Around} {E : Value → Shared → Prop} {s : Shared} {h₀ : Heap} {L l : Addr} {news : List (Addr × Obj)} {n : Nat} {vs : List Value}
theorem len_any {Q : Value → Shared → Prop} (N : News h₀ L s.heap news) (hm : (l, listOf vs.toArray n) ∈ news) (hz : vs.length ≤ 16384) (h : Q (.int (vs.length : Nat) (s.toks + 1)) { s with toks := s.toks + 1 + 1 }) :
    wpAny (model prog w) A (call (.builtin "len") [.ref l]) Q E s :=
  len_list (items := vs.toArray) (News.isList N hm) (by rw [List.size_toArray]; omega) (by rw [List.size_toArray]; exact h)
theorem item_any {value slice : PySem.Expr} {k : Int} {u : Tok} {Q : Value → Shared → Prop} (N : News h₀ L s.heap news) (hm : (l, listOf vs.toArray n) ∈ news) (h0 : 0 ≤ k) (h1 : k < (vs.length : Nat)) (hz : vs.length ≤ 16384) (h : ∀ x, x ∈ vs → Q x s)
    (hs : subscripted slice false (.ref l) (.int k u) = operate [.ref l, .int k u] (getItem (.ref l) (.int k u)) := by with_unfolding_all rfl) (hg : ∀ r, letTemporaryGo value (.ref l) r = pure () := by intro _; with_unfolding_all rfl) :
    wpAny (model prog w) A (subscriptTail value slice (.ref l) (.int k u)) Q E s := by
  have hk : k.toNat < vs.length := by omega
  exact item_listL (News.isList N hm) h0 (by omega) (List.getElem?_eq_getElem hk) (h _ (List.getElem_mem hk)) hs hg
end
abbrev tupO (vs : List Value) : Obj := { cls := .type "tuple", data := .seq vs.toArray }
theorem mem3 {v : Value} {a b c : Int} {ta tb tc : Tok} (h : v ∈ [Value.int a ta, Value.int b tb, Value.int c tc]) : ∃ x t, v = .int x t ∧ (x = a ∨ x = b ∨ x = c) := by
  simp only [List.mem_cons, List.not_mem_nil, or_false] at h
  rcases h with h | h | h <;> exact ⟨_, _, h, by simp⟩
theorem mem4 {v : Value} {a b c d : Int} {ta tb tc td : Tok} (h : v ∈ [Value.int a ta, Value.int b tb, Value.int c tc, Value.int d td]) : ∃ x t, v = .int x t ∧ (x = a ∨ x = b ∨ x = c ∨ x = d) := by
  simp only [List.mem_cons, List.not_mem_nil, or_false] at h
  rcases h with h | h | h | h <;> exact ⟨_, _, h, by simp⟩
theorem Bk.or {a b G : Prop} (h : Bk a G) (k : Bk b G) : Bk (a ∨ b) G := fun x => x.elim h k
def SrcO (o : Obj) : Prop := ∃ a b ta tb n, o = listOf [Value.int a ta, Value.int b tb].toArray n ∧ 0 ≤ a ∧ 0 ≤ b ∧ b < 2147483647
def TurnEnd (h₀ : Heap) (L : Addr) (m : Str → Option Value) (s : Shared) (pre : Led) (src : Addr) (R : Led) (Y : Value → Prop) (y : Value) (s₂ : Shared) : Prop :=
  ∃ h' tk' o', s₂ = { s with heap := h', toks := tk' } ∧ Fr h₀ L h' m ∧ News h₀ L h' (pre ++ (src, o') :: R) ∧ SrcO o' ∧ Y y
theorem TurnEnd.intro {h₀ : Heap} {L : Addr} {m : Str → Option Value} {s : Shared} {pre : Led} {src : Addr} {R : Led} {Y : Value → Prop} {y : Value} {h' : Heap} {tk' : Nat} {o' : Obj} {all rest : Led}
    (F : Fr h₀ L h' m) (N : News h₀ L h' all) (S : Pick (pre ++ (src, o') :: R) all rest) (h1 : SrcO o') (hY : Y y) :
    TurnEnd h₀ L m s pre src R Y y { s with heap := h', toks := tk' } := ⟨h', tk', o', rfl, F, fun p hp => N p (S.mem.1 p hp), h1, hY⟩
section
variable {prog : Program} {w : World} {A : Around} {s : Shared} {h₀ : Heap} {L : Addr} {m : Str → Option Value} {env : Env} {elt : PySem.Expr} {x : Str} {scope : Scope} {cl : List (Str × Addr)} {P : Nat → Value → Prop} {Fin : List Value → Led → Prop}
theorem cr_src (R : Led) (src : Addr) (Y : Nat → List Value → Prop) (n : Nat)
    (turn : ∀ (i : Nat) (ys : List Value) (o : Obj) (v : Value) (I : Addr) (oI : Obj) (C : Addr) (oC : Obj) (D : Addr) (m₂ : Str → Option Value) (h : Heap) (tk : Nat) (E' : Value → Shared → Prop), i < n → Y i ys → SrcO o → P i v → LCg.NsObj oC m₂ → m₂ x = some v → Fr h₀ L h m →
      News h₀ L h ((I, oI) :: (C, oC) :: (D, LCg.lst ys) :: (src, o) :: R) → LCg.Off3 I C D ((src, o) :: R) → ((@Ne Nat I C) ∧ (@Ne Nat I D) ∧ (@Ne Nat C D)) →
      wpAny (model prog w) A (eval elt (compEnvC scope cl C env)) (TurnEnd h₀ L m { s with heap := h, toks := tk } [(I, oI), (C, oC), (D, LCg.lst ys)] src R (fun y => Y (i + 1) (ys ++ [y]))) E' { s with heap := h, toks := tk })
    (fin : ∀ ys o, Y n ys → SrcO o → Fin ys ((src, o) :: R)) :
    ∀ k i ys o, i + k = n → Y i ys → SrcO o → LCg.CompRest prog w A h₀ L m env elt x scope cl s (fun _ => True) P Fin k i ys ((src, o) :: R) := by
  intro k
  induction k with
  | zero =>
    intro i ys o hi hY h1
    obtain rfl : i = n := by omega
    exact LCg.CompRest.zero (fin ys o hY h1)
  | succ k ih =>
    intro i ys o hi hY h1
    refine LCg.CompRest.succ fun v I oI C oC D m₂ h tk E' hP hC hx F N off ne => ?_
    refine wpAny_mono (turn i ys o v I oI C oC D m₂ h tk E' (by omega) hY h1 hP hC hx F N off ne) (fun y s₂ hy => ?_) fun _ _ e => e
    obtain ⟨h', tk', o', rfl, F', N', g1, hY'⟩ := hy
    exact ⟨h', tk', _, rfl, F', N', off, trivial, ih (i + 1) _ o' (by omega) hY' g1⟩
theorem cs_src {Fin' : Shared → List Value → Led → Prop} {s₁ : Shared} {r src : Addr} {e : Int} {t u v : Tok} {o : Obj} {all R : Led} (Y : Nat → List Value → Prop)
    (hh : A.handled = none) (F : Fr h₀ L s₁.heap m) (N : News h₀ L s₁.heap all) (S : Pick [(src, o)] all R) (hr : IsRange s₁.heap r 0 e 1 t u v) (he : 0 ≤ e) (he' : e < 1000) (h1 : SrcO o) (hY : Y 0 [])
    (turn : ∀ (i : Nat) (ys : List Value) (o : Obj) (v : Value) (I : Addr) (oI : Obj) (C : Addr) (oC : Obj) (D : Addr) (m₂ : Str → Option Value) (h : Heap) (tk : Nat) (E' : Value → Shared → Prop), i < e.toNat → Y i ys → SrcO o → (∃ t, v = .int ((0 : Int) + (i : Int)) t) → LCg.NsObj oC m₂ → m₂ x = some v → Fr h₀ L h m →
      News h₀ L h ((I, oI) :: (C, oC) :: (D, LCg.lst ys) :: (src, o) :: R) → LCg.Off3 I C D ((src, o) :: R) → ((@Ne Nat I C) ∧ (@Ne Nat I D) ∧ (@Ne Nat C D)) →
      wpAny (model prog w) A (eval elt (compEnvC scope cl C env)) (TurnEnd h₀ L m { s₁ with heap := h, toks := tk } [(I, oI), (C, oC), (D, LCg.lst ys)] src R (fun y => Y (i + 1) (ys ++ [y]))) E' { s₁ with heap := h, toks := tk })
    (fin : ∀ g ys o, Y e.toNat ys → SrcO o → Fin' { s₁ with heap := g } ys ((src, o) :: R)) :
    LCg.CompSrc prog w A h₀ L m env elt x scope cl Fin' (.ref r) s₁ := by
  refine LCg.CompSrc.range (n := e.toNat) (news := (src, o) :: R) hh F (fun p hp => N p ?_) hr (small_one (by decide) (by decide) (by omega) (by omega)) ?_ (by rw [PySem.sizeLine_eq]; omega) fun g => ?_
  · rcases List.mem_cons.mp hp with rfl | hp
    · exact S.mem.1 _ (.head _)
    · exact S.mem.2 _ hp
  · have := rangeSize_nat 0 e
    simpa using this
  · exact cr_src (s := { s₁ with heap := g }) R src Y e.toNat (fun i ys o v I oI C oC D m₂ h tk E' => turn i ys o v I oI C oC D m₂ h tk E') (fun ys o => fin g ys o) e.toNat 0 [] o (by omega) hY h1
end
def BoolsAre (vs : List Value) (bs : List Bool) : Prop := vs = bs.map Value.bool
def OctsAre (vs : List Value) (ks : List Int) : Prop := IntsAre vs ks ∧ ∀ k ∈ ks, 0 ≤ k ∧ k < 256
theorem bools_snoc {vs : List Value} {bs : List Bool} {b : Bool} (h : BoolsAre vs bs) : BoolsAre (vs ++ [.bool b]) (bs ++ [b]) := by unfold BoolsAre at *; simp [h]
theorem octs_snoc {vs : List Value} {ks : List Int} {k : Int} {t : Tok} (h : OctsAre vs ks) (h0 : 0 ≤ k) (h1 : k < 256) : OctsAre (vs ++ [.int k t]) (ks ++ [k]) := by
  refine ⟨IntsAre.append h.1 ?_, ?_⟩
  · exact .cons _ _ .nil
  · intro x hx
    rcases List.mem_append.mp hx with hx | hx
    · exact h.2 x hx
    · simp at hx; subst hx; exact ⟨h0, h1⟩
theorem bools6 {vs : List Value} (h : ∃ bs : List Bool, BoolsAre vs bs ∧ bs.length = Int.toNat 6) : ∃ b0 b1 b2 b3 b4 b5 : Bool, vs = [.bool b0, .bool b1, .bool b2, .bool b3, .bool b4, .bool b5] := by
  obtain ⟨bs, h1, h2⟩ := h
  have h2' : bs.length = 6 := h2
  match bs, h2' with
  | [b0, b1, b2, b3, b4, b5], _ => exact ⟨b0, b1, b2, b3, b4, b5, h1⟩
theorem OctsAre.ints {vs : List Value} {ks : List Int} (h : OctsAre vs ks) : IntsAre vs ks := h.1
theorem OctsAre.inB {vs : List Value} {ks : List Int} (h : OctsAre vs ks) : KBa.In ks := h.2
theorem OctsAre.short {vs : List Value} {ks : List Int} {n : Nat} (_h : OctsAre vs ks) (e : ks.length = n) (hn : n ≤ 16777216) : ks.length ≤ 16777216 := e ▸ hn

def roleN : Nat → Str
  | 0 => "none"
  | 1 => "alternate"
  | 2 => "root"
  | _ => "designated"
def okV (rp rm co np nm pp pn ag mx he de : Int) : Prop :=
  (0 ≤ rp ∧ rp < 65536) ∧ (0 ≤ rm ∧ rm < 281474976710656) ∧ (0 ≤ co ∧ co < 4294967296) ∧ (0 ≤ np ∧ np < 65536) ∧ (0 ≤ nm ∧ nm < 281474976710656) ∧ (0 ≤ pp ∧ pp < 16) ∧ (0 ≤ pn ∧ pn < 4096) ∧
  (0 ≤ ag ∧ ag < 256) ∧ (0 ≤ mx ∧ mx < 256) ∧ (0 ≤ he ∧ he < 256) ∧ (0 ≤ de ∧ de < 256)
theorem memRole {v : Value} {ta tb tc td : Tok} (h : v ∈ [Value.str "designated" ta, Value.str "root" tb, Value.str "alternate" tc, Value.str "none" td]) : ∃ r t, v = .str (roleN r) t ∧ r < 4 := by
  simp only [List.mem_cons, List.not_mem_nil, or_false] at h
  rcases h with h | h | h | h
  · exact ⟨3, ta, h, by decide⟩
  · exact ⟨2, tb, h, by decide⟩
  · exact ⟨1, tc, h, by decide⟩
  · exact ⟨0, td, h, by decide⟩
end Mine
end
section
open PySem PySem.W PyProof.Rows PySem.Calls PySem.Spec
namespace Mine

abbrev excO (C : Addr) (tp : Value) (dd : Option Addr) : Obj := { cls := .ref C, dict := dd, data := .fields #[tp, .none, .none, .none, .bool false, .none] }

theorem memX {env : Env} {outer : List Env} {L b : Addr} (hf : env.frame = some L) (hm : b ∈ (env :: outer).filterMap (·.frame)) : b = L ∨ b ∈ outer.filterMap (·.frame) := by
  obtain ⟨e, he, hb⟩ := List.mem_filterMap.mp hm
  rcases List.mem_cons.mp he with rfl | he
  · exact .inl (Option.some.inj (hb.symm.trans hf))
  · exact .inr (List.mem_filterMap.mpr ⟨e, he, hb⟩)

section
variable {M : Model} {A : Around} {E : Value → Shared → Prop} {s' : Shared} {base g g₂ : Heap} {outer : List Env} {env : Env} {L e : Addr} {m : Str → Option Value} {cls : Value} {Q : Unit → Shared → Prop} {news : Led}
theorem leave_first {oe : Obj} {tp : Value} (K : Below A base outer g) (F : Fr g L s'.heap m) (N : News g L s'.heap news) (hm : (e, oe) ∈ news) (hc : oe.cls = cls) (hd : oe.data = .fields #[tp, .none, .none, .none, .bool false, .none])
    (hf : env.frame = some L) (hk : env.scope.kind = .function)
    (hQ : ∀ h', RaisedSN base g outer e cls [] h' → g.UpToSlots h' → Q () { s' with heap := h' }) : wpAny M (A.deeper env) (leaving env (.ref e)) Q E s' := by
  have he := N _ hm
  have sub : ∀ b o, (hideAll s'.heap [e]).get? b = some o → s'.heap.get? b = some o := fun b o => of_hideAll _
  have up : ∀ b o, b ≠ e → s'.heap.get? b = some o → (hideAll s'.heap [e]).get? b = some o := fun b o n q => hideAll_get _ q (by simpa using n)
  have gn : ∀ b o, g.get? b = some o → b ≠ e := fun b o q z => by rw [z, he.2.2] at q; cases q
  have F' : Fr g L (hideAll s'.heap [e]) m := by
    obtain ⟨oL, es, ep, hL, hLd, hLk, hLf⟩ := F.ns
    exact ⟨⟨oL, es, ep, up L oL (Ne.symm he.2.1) hL, hLd, hLk, hLf⟩, fun b o q => up b o (gn b o q) (F.keep b o q), F.above⟩
  have K' := pushX K F' hf hk
  have hin : ∀ env' ∈ (env :: outer), ∀ b, env'.frame = some b → b ∈ (env :: outer).filterMap (·.frame) := fun env' he b hb => List.mem_filterMap.mpr ⟨env', he, hb⟩
  have st : base.StaysIn (hideAll (hideAll s'.heap [e]) ((env :: outer).filterMap (·.frame))) := fun b o q => hideAll_get _ (K'.stays b o q) fun hm => by
    rw [(K'.frames.mem hm).1] at q; cases q
  have sg : ∀ b o, g.get? b = some o → b ∉ outer.filterMap (·.frame) → (hideAll (hideAll s'.heap [e]) ((env :: outer).filterMap (·.frame))).get? b = some o := fun b o q nm => hideAll_get _ (F'.keep b o q) fun hm => by
    rcases memX hf hm with z | z
    · rw [z, kts_self F'] at q
      cases q
    · exact nm z
  have hen : (hideAll (hideAll s'.heap [e]) ((env :: outer).filterMap (·.frame))).get? e = none := by
    cases q : (hideAll (hideAll s'.heap [e]) ((env :: outer).filterMap (·.frame))).get? e with
    | none => rfl
    | some o =>
      have := of_hideAll _ q
      rw [hideAll_none _ (List.mem_singleton.mpr rfl)] at this
      cases this
  refine wpAny_leaving_firstW (a0 := tp) K'.stack ((funFrames_hide K'.frames hin).of_keeps fun b o hb _ => ⟨o, sub b o hb, rfl⟩) hf he.1 (fun b o hb => sub b o (of_hideAll _ hb)) hen hd rfl rfl fun h' hL => ?_
  obtain ⟨k1, ⟨_, _, k2⟩, k3, k4⟩ := hL
  exact hQ h' ⟨_, tp, st, sg, (fun q hq => nomatch hq), k1, hen, k2, by rw [← hc]; exact k3⟩ ((Heap.UpToSlots.of_keeps F.keep).trans k4)

theorem leave_next (K : Below A base outer g) (F : Fr g L g₂ m) (R : RaisedSN base g₂ (env :: outer) e cls news s'.heap) (hsm : g₂.UpToSlots s'.heap) (hf : env.frame = some L)
    (hQ : ∀ h', RaisedSN base g outer e cls [] h' → g.UpToSlots h' → Q () { s' with heap := h' }) : wpAny M (A.deeper env) (leaving env (.ref e)) Q E s' := by
  obtain ⟨B, a0, hB, hBG, hl, hfl⟩ := R
  exact wpAny_leaves_onW (Around.frames_deeper K.stack) hf hfl fun h' x1 x2 =>
    hQ h' ⟨B, a0, hB, fun b o q nm => hBG b o (F.keep b o q) (fun hm => by
      rcases memX hf hm with z | z
      · rw [z, kts_self F] at q
        cases q
      · exact nm z), (fun q hq => nomatch hq), x1⟩ ((Heap.UpToSlots.of_keeps F.keep).trans (hsm.trans x2))
end

def CtrE (kd : Nat) (w : World) (mean : ExcName → Option Value) (mg mb : Str → Option Value) (f : Addr) (vs : List Value) (front : Led) (C : Addr) : Prop :=
  ∀ (dp un : Nat) (gd : Option (List Code)) (cn : Str) (snm : List (Str × NameKind)) (sig sic : Bool) (smo : List (Str × Const)) (a : Addr) (ccd : Value) (cl : List (Str × Addr)) (outer : List Env) (A₀ : Around) (base h₀ : Heap) (L : Addr) (m : Str → Option Value) (s : Shared) (Q E : Value → Shared → Prop) (rest : Led),
    Below A₀ base outer h₀ → Fr h₀ L s.heap m → (Mine.wr.heap_1 w.params).In h₀ → News h₀ L s.heap front → News h₀ L s.heap rest → Sep front rest → Top Mine.vq (looseW Mine.vq [Str.ofString "KINDS", Str.ofString "Bpdu"]) mean mg mb h₀ →
      dp + kd < recursionLimit → un + 10 * kd + 100 < cLine →
      (∀ e G h' tk', Fr h₀ L G m → RaisedSN base G (envX cn (fscope snm sig sic smo) L a ccd cl :: outer) e (.ref C) rest h' → G.UpToSlots h' → E (.ref e) { s with heap := h', toks := tk' }) →
      wpAny (model PySem.Challenge.rw_pb0549_01.row.prog w) (ktrTop dp un gd cn (fscope snm sig sic smo) L a ccd cl outer) (call (.ref f) vs) Q E s

def EndE (base g : Heap) (l : List Env) (C : Addr) (s : Shared) (e : Value) (s' : Shared) : Prop :=
  ∃ x h' tk', e = .ref x ∧ s' = { s with heap := h', toks := tk' } ∧ RaisedSN base g l x (.ref C) [] h' ∧ g.UpToSlots h'
theorem EndE.intro {base g : Heap} {l : List Env} {C : Addr} {s : Shared} {x : Addr} {h' : Heap} {tk' : Nat} (R : RaisedSN base g l x (.ref C) [] h') (U : g.UpToSlots h') : EndE base g l C s (.ref x) { s with heap := h', toks := tk' } := ⟨x, h', tk', rfl, rfl, R, U⟩

section
variable {kd : Nat} {w : World} {mean : ExcName → Option Value} {mg mb : Str → Option Value} {f C : Addr} {vs : List Value} {front : Led}
  {name qual : Str} {params : Arguments} {body : List Stmt} {scope : Scope} {dV kV doc pm cdv ct oc : Value} {an od : Option Addr} {osl : Array (Option Value)} {binds : List (Str × Value)}

theorem ctrE_back {A : Around} {env : Env} {outer : List Env} {A₀ : Around} {base h₀ : Heap} {L : Addr} {m : Str → Option Value} {s : Shared} {E : Value → Shared → Prop} {rest : Led}
    (B : Below A₀ base outer h₀) (F : Fr h₀ L s.heap m) (N : News h₀ L s.heap front) (NR : News h₀ L s.heap rest) (S : Sep front rest) (hA : A.frames = some (env :: outer)) (hf : env.frame = some L) (hke : env.scope.kind = .function)
    (hret : ∀ e G h' tk', Fr h₀ L G m → RaisedSN base G (env :: outer) e (.ref C) rest h' → G.UpToSlots h' → E (.ref e) { s with heap := h', toks := tk' })
    {v : Value} {s' : Shared} (hl : EndE base (hideAll s.heap (front.map (·.1))) (env :: outer) C s v s') : E v s' := by
  obtain ⟨x, h', tk', rfl, rfl, ⟨B', a0, hB, hBG, _, hfl⟩, U⟩ := hl
  have NA : News h₀ L s.heap (front ++ rest) := fun p hp => (List.mem_append.mp hp).elim (N p) (NR p)
  obtain ⟨FG, _, _, _⟩ := groundX (A := A) (env := env) (R := fun _ _ => True) B F NA hA hf hke
  have sub : ∀ b o, (hideAll s.heap ((front ++ rest).map (·.1))).get? b = some o → (hideAll s.heap (front.map (·.1))).get? b = some o := fun b o q => by
    refine hideAll_get _ (of_hideAll _ q) fun hm => ?_
    rw [hideAll_none _ (show b ∈ (front ++ rest).map (·.1) by rw [List.map_append]; exact List.mem_append_left _ hm)] at q
    cases q
  refine hret x _ h' tk' FG ⟨B', a0, hB, fun b o q nm => hBG b o (sub b o q) nm, fun q hq => ⟨hBG _ _ (hideAll_get _ (NR q hq).1 fun hm => ?_) fun hm => ?_, hideAll_none _ (by rw [List.map_append]; exact List.mem_append_right _ (List.mem_map_of_mem hq)), fresh_of_stays B.stays (NR q hq).2.2⟩, hfl⟩
    ((Heap.UpToSlots.of_keeps sub).trans U)
  · obtain ⟨p, hp, e⟩ := List.mem_map.mp hm
    exact S.mem p hp q hq e
  · rcases memX hf hm with z | z
    · exact (NR q hq).2.1 z
    · obtain ⟨_, o, ho, _⟩ := B.frames.mem z
      rw [(NR q hq).2.2] at ho
      cases ho

theorem ctrE_mk
    (ho : (Mine.wr.heap_1 w.params).lookup f = some ⟨oc, od, .func (fnOf name qual params body scope dV kV doc pm an cdv ct), osl⟩) (hcd : codeIn (Mine.wr.heap_1 w.params) cdv qual = true)
    (hbind : ∀ s, BindsTo s (fnOf name qual params body scope dV kV doc pm an cdv ct) ⟨vs, []⟩ binds) (hloc : ∀ y ∈ binds, scope.names.lookup y.1 = some .local)
    (hco : scope.isCoroutine = false) (hgen : scope.isGenerator = false) (hk : scope.kind = .function) (hcell : ∀ x ∈ scope.names, x.2 ≠ .cell)
    (h : ∀ (dp un : Nat) (gd : Option (List Code)) (cn : Str) (snm : List (Str × NameKind)) (sig sic : Bool) (smo : List (Str × Const)) (a : Addr) (ccd : Value) (cl : List (Str × Addr)) (outer : List Env) (base : Heap) (L : Addr) (s : Shared) (g : Heap) (L' : Addr) (h₁ : Heap) (tk : Nat),
      Fr g L' h₁ (fun y => binds.reverse.lookup y) → News g L' h₁ front → Below (ktrTop dp un gd cn (fscope snm sig sic smo) L a ccd cl outer) base (envX cn (fscope snm sig sic smo) L a ccd cl :: outer) g → (Mine.wr.heap_1 w.params).In g →
      Top Mine.vq (looseW Mine.vq [Str.ofString "KINDS", Str.ofString "Bpdu"]) mean mg mb g → (∀ p ∈ front, p.1 < L') → dp + kd < recursionLimit → un + 10 * kd + 100 < cLine →
      wpAny (model PySem.Challenge.rw_pb0549_01.row.prog w) ((ktrTop dp un gd cn (fscope snm sig sic smo) L a ccd cl outer).deeper (envOf qual scope L' f cdv)) (execs body (envOf qual scope L' f cdv))
        (fun _ _ => False) (fun e s' => wpAny (model PySem.Challenge.rw_pb0549_01.row.prog w) ((ktrTop dp un gd cn (fscope snm sig sic smo) L a ccd cl outer).deeper (envOf qual scope L' f cdv)) (leaving (envOf qual scope L' f cdv) e)
          (fun _ s'' => EndE base g (envX cn (fscope snm sig sic smo) L a ccd cl :: outer) C s e s'') (fun _ _ => False) s') { s with heap := h₁, toks := tk }) :
    CtrE kd w mean mg mb f vs front C := by
  intro dp un gd cn snm sig sic smo a ccd cl outer A₀ base h₀ L m s Q E rest B F X N NR S T hdp hun hret
  refine wpAny_call ?_
  obtain ⟨FG, BG, st, lv⟩ := groundX (A := ktrTop dp un gd cn (fscope snm sig sic smo) L a ccd cl outer) (env := envX cn (fscope snm sig sic smo) L a ccd cl) (R := fun _ _ => True) B F N rfl rfl rfl
  refine codeAny_call_def (fd := fnOf name qual params body scope dV kV doc pm an cdv ct) (body := body) (binds := binds) (by show dp < recursionLimit; omega) (X.keeps F.keep _ _ ho) rfl (T.nolimit.keeps F.keep) (codeRec_of (X.keeps F.keep) hcd) rfl (hbind _) hcell hloc (fun h₁ hns hk₁ => ?_) hco hgen hk
  refine wpAny_mono (h dp un gd cn snm sig sic smo a ccd cl outer base L s _ s.heap.objs.size h₁ _ ⟨hns, fun b o e => hk₁ b o (of_hideAll _ e), Nat.le_of_eq (hideAll_size _ _)⟩
    (fun p hp => ⟨hk₁ _ _ (N p hp).1, Nat.ne_of_lt (Heap.lt_size (N p hp).1), hideAll_none _ (List.mem_map_of_mem hp)⟩) BG (X.keeps st) (T.keeps st) (fun p hp => Heap.lt_size (N p hp).1) hdp hun) (fun fl s' hl => hl.elim) fun e s' y => ?_
  exact wpAny_mono y (fun _ s'' hl => ctrE_back (A := ktrTop dp un gd cn (fscope snm sig sic smo) L a ccd cl outer) B F N NR S rfl rfl rfl hret hl) fun _ _ z => z.elim

theorem ctrE_mkC
    (ho : (Mine.wr.heap_1 w.params).lookup f = some ⟨oc, od, .func (fnOf name qual params body scope dV kV doc pm an cdv ct), osl⟩) (hcd : codeIn (Mine.wr.heap_1 w.params) cdv qual = true)
    (hbind : ∀ s, BindsTo s (fnOf name qual params body scope dV kV doc pm an cdv ct) ⟨vs, []⟩ binds) (hkind : (binds.all fun y => scope.names.lookup y.1 == some .local || scope.names.lookup y.1 == some .cell) = true)
    (hnd : ((cellsFrom 0 scope.names []).map (·.1)).Nodup)
    (hco : scope.isCoroutine = false) (hgen : scope.isGenerator = false) (hk : scope.kind = .function)
    (h : ∀ (dp un : Nat) (gd : Option (List Code)) (cn : Str) (snm : List (Str × NameKind)) (sig sic : Bool) (smo : List (Str × Const)) (a : Addr) (ccd : Value) (cl : List (Str × Addr)) (outer : List Env) (base : Heap) (L : Addr) (s : Shared) (g : Heap) (L' : Addr) (h₁ : Heap) (tk : Nat) (cells : Led),
      Fr g L' h₁ (bindL (envOfC qual scope L' f cdv).kindOf binds fun _ => none) → News g L' h₁ (cells ++ front) → CellsAre (bindC (envOfC qual scope L' f cdv).kindOf binds fun _ => none) (cellsFrom (L' + 1) scope.names []) cells → Below (ktrTop dp un gd cn (fscope snm sig sic smo) L a ccd cl outer) base (envX cn (fscope snm sig sic smo) L a ccd cl :: outer) g → (Mine.wr.heap_1 w.params).In g →
      Top Mine.vq (looseW Mine.vq [Str.ofString "KINDS", Str.ofString "Bpdu"]) mean mg mb g → (∀ p ∈ front, p.1 < L') → dp + kd < recursionLimit → un + 10 * kd + 100 < cLine →
      wpAny (model PySem.Challenge.rw_pb0549_01.row.prog w) ((ktrTop dp un gd cn (fscope snm sig sic smo) L a ccd cl outer).deeper (envOfC qual scope L' f cdv)) (execs body (envOfC qual scope L' f cdv))
        (fun _ _ => False) (fun e s' => wpAny (model PySem.Challenge.rw_pb0549_01.row.prog w) ((ktrTop dp un gd cn (fscope snm sig sic smo) L a ccd cl outer).deeper (envOfC qual scope L' f cdv)) (leaving (envOfC qual scope L' f cdv) e)
          (fun _ s'' => EndE base g (envX cn (fscope snm sig sic smo) L a ccd cl :: outer) C s e s'') (fun _ _ => False) s') { s with heap := h₁, toks := tk }) :
    CtrE kd w mean mg mb f vs front C := by
  intro dp un gd cn snm sig sic smo a ccd cl outer A₀ base h₀ L m s Q E rest B F X N NR S T hdp hun hret
  refine wpAny_call ?_
  obtain ⟨FG, BG, st, lv⟩ := groundX (A := ktrTop dp un gd cn (fscope snm sig sic smo) L a ccd cl outer) (env := envX cn (fscope snm sig sic smo) L a ccd cl) (R := fun _ _ => True) B F N rfl rfl rfl
  refine codeAny_call_function (by show dp < recursionLimit; omega) (X.keeps F.keep _ _ ho) rfl hco hgen rfl (codeRec_of (X.keeps F.keep) hcd) ((hbind _) _ _ _ _ ?_)
  refine wpAny_newFunctionEnv_cells hk (kindsX hkind _) fun env' he s' x => ?_
  subst he
  refine ⟨(T.nolimit.keeps F.keep).keeps x.toInCall.keep, codeAny_func ?_⟩
  obtain ⟨h₁, tk, rfl, _⟩ := x.done
  have hk₁ := x.toInCall.keep
  obtain ⟨cells, NC, Y⟩ := Cl.news (h₀ := s.heap) (Nat.le_refl _) fun n c hm => ⟨x.cell n c (lookup_of_mem_nodup (cellsFrom_names scope.names 0 (s.heap.objs.size + 1) [] [] rfl ▸ hnd) hm), x.above n c hm⟩
  refine wpAny_mono (h dp un gd cn snm sig sic smo a ccd cl outer base L s _ s.heap.objs.size h₁ tk cells ⟨x.toInCall.ns, fun b o e => hk₁ b o (of_hideAll _ e), Nat.le_of_eq (hideAll_size _ _)⟩
    (fun p hp => ?_) Y BG (X.keeps st) (T.keeps st) (fun p hp => Heap.lt_size (N p hp).1) hdp hun) (fun fl s' hl => hl.elim) fun e s' y => ?_
  · rcases List.mem_append.mp hp with hp | hp
    · refine ⟨(NC p hp).1, (NC p hp).2.1, ?_⟩
      cases q : (hideAll s.heap (front.map (·.1))).get? p.1 with
      | none => rfl
      | some o => have := of_hideAll _ q; rw [(NC p hp).2.2] at this; cases this
    · exact ⟨hk₁ _ _ (N p hp).1, Nat.ne_of_lt (Heap.lt_size (N p hp).1), hideAll_none _ (List.mem_map_of_mem hp)⟩
  · exact wpAny_mono y (fun _ s'' hl => ctrE_back (A := ktrTop dp un gd cn (fscope snm sig sic smo) L a ccd cl outer) B F N NR S rfl rfl rfl hret hl) fun _ _ z => z.elim
end

theorem CtrE.use {kd : Nat} {w : World} {mean : ExcName → Option Value} {mg mb : Str → Option Value} {f c : Addr} {vs : List Value} {front all rest : Led} (C : CtrE kd w mean mg mb f vs front c)
    {dp un : Nat} {gd : Option (List Code)} {cn : Str} {snm : List (Str × NameKind)} {sig sic : Bool} {smo : List (Str × Const)} {a : Addr} {ccd : Value} {cl : List (Str × Addr)} {outer : List Env} {A₀ : Around} {base h₀ : Heap} {L : Addr} {m : Str → Option Value} {s : Shared} {Q E : Value → Shared → Prop}
    (B : Below A₀ base outer h₀) (F : Fr h₀ L s.heap m) (X : (Mine.wr.heap_1 w.params).In h₀) (N : News h₀ L s.heap all) (P : Pick front all rest) (S : Sep front rest) (T : Top Mine.vq (looseW Mine.vq [Str.ofString "KINDS", Str.ofString "Bpdu"]) mean mg mb h₀)
    (hdp : dp + kd < recursionLimit) (hun : un + 10 * kd + 100 < cLine)
    (hret : ∀ e G h' tk', Fr h₀ L G m → RaisedSN base G (envX cn (fscope snm sig sic smo) L a ccd cl :: outer) e (.ref c) rest h' → G.UpToSlots h' → E (.ref e) { s with heap := h', toks := tk' }) :
    wpAny (model PySem.Challenge.rw_pb0549_01.row.prog w) (ktrTop dp un gd cn (fscope snm sig sic smo) L a ccd cl outer) (call (.ref f) vs) Q E s :=
  C _ _ _ _ _ _ _ _ _ _ _ _ _ _ _ _ _ _ _ _ _ B F X (fun p hp => N p (P.mem.1 p hp)) (fun p hp => N p (P.mem.2 p hp)) S T hdp hun hret
section
open Builtin Builtin.ObjectAttr
section
variable {prog : Program} {w : World} {A : Around} {E : Value → Shared → Prop} {R : Result → Shared → Prop} {s : Shared} {K : Frag} {x C P : Addr} {cd : ClassData} {tp v : Value} {name : Str} {tk : Tok}

theorem exc_inst (hx : s.heap.get? x = some (excO C tp none)) : InstAt s.heap x (excO C tp none) C none := ⟨hx, rfl, rfl, trivial⟩

theorem osa_new (X : K.In s.heap) (hx : s.heap.get? x = some (excO C tp none)) (hc : clsIn K C = some cd) (hd : cd.hasDict = true) (hm : cd.mro = [.ref C, .ref P, .type "Exception", .type "BaseException", .type "object"])
    (hn : findIn K (.ref C) name = some none)
    (h : ∀ d h' tk', h'.get? x = some (excO C tp (some d)) → (∀ b o, b ≠ x → s.heap.get? b = some o → h'.get? b = some o) → R (.ok (.ret .none)) { s with heap := h', toks := tk' }) :
    codeAny (model prog w) A (.call (.builtin "object.__setattr__") ⟨[.ref x, .str name tk, v], []⟩) R s := by
  have SF := PySem.F.store_object
  have I := exc_inst hx
  have ne : cd.mro.isEmpty = false := by rw [hm]; rfl
  have sub : Looks (model prog w) s.heap (isInstance (.ref x) (.type "object")) true := I.type.andThen (looks_mroIn X (by unfold mroIn; rw [hc, Option.bind_some, if_neg (by rw [ne]; decide), hm]; simp))
  refine codeAny_call_builtin SF.slot.plain SF.entry (@check_slot (model prog w) _ _ s "object.__setattr__" "object" "__setattr__" (.ref x) [.str name tk, v] [] _ SF.kind SF.split sub (SF.args (.ref x) (.str name tk) v) ?_)
  have hM : Looks (model prog w) s.heap (mroOf (.ref C)) cd.mro := (looks_clsIn X hc).andThen .now
  rw [osa_eq, refuse_eq]
  refine wpAny_bind (wpAny_bind (I.type.here (wpAny_bind (hM.here ?_))))
  rw [hm, refuseLoop_ref, refuseLoop_ref, PySem.F.store_Exception.passes]
  refine wpAny_pure (wpAny_bind (I.type.here (wpAny_bind ((looks_findIn X hn).here (wpAny_bind (wpAny_pure ?_))))))
  show wpAny _ _ (storeInOwnDict (.ref x) (.ref C) (.str name tk) name v _) _ _ _
  refine wpAny_bind (wpAny_pure (wpAny_bind (wpAny_bind (wpAny_loadPart hx (wpAny_bind ((looks_clsIn X hc).here ?_))))))
  rw [hd]
  have hx₁ : (s.heap.push { cls := .type "dict", data := .dict #[] }).get? x = some (excO C tp none) := Heap.get?_push_of_some _ hx
  have hxs : x ≠ s.heap.objs.size := Nat.ne_of_lt (Heap.lt_size hx)
  refine wpAny_bind (wpAny_alloc' ?_)
  refine wpAny_bind (wpAny_update' hx₁ ?_)
  refine wpAny_pure ?_
  have hgd : ((s.heap.push { cls := .type "dict", data := .dict #[] }).update x fun o => { cls := o.cls, dict := some s.heap.objs.size, data := o.data, slots := o.slots }).get? s.heap.objs.size
      = some { cls := .type "dict", data := .dict #[] } :=
    (Heap.get?_update_ne _ _ _ _ hxs.symm).trans (Heap.get?_push_at rfl rfl)
  have hnd : ((s.heap.push { cls := .type "dict", data := .dict #[] }).update x fun o => { cls := o.cls, dict := some s.heap.objs.size, data := o.data, slots := o.slots }).Ns s.heap.objs.size (fun _ => none) :=
    ⟨_, #[], _, hgd, rfl, fun e he => absurd he (by simp), fun _ => rfl⟩
  show wpAny _ _ (storeInDict s.heap.objs.size (.str name tk) name v) _ _ _
  unfold storeInDict newKeyGuard
  refine wpAny_bind (wpAny_pure (wpAny_bind (wpAny_nsSet1 (Heap.Ns1.of_empty hnd) fun h' hn' hs => ?_)))
  obtain ⟨oD, esD, epD, hoD, hdD, hcD⟩ := hn'.count (Within.cons name v Within.nil)
  refine wpAny_bind (wpAny_lookBehind hoD (by rw [hdD]; exact pastItsLine_dict (Nat.le_trans hcD (by rw [List.length_cons, List.length_nil, sizeLine_eq]; omega))) ?_)
  wp_walk
  refine h s.heap.objs.size h' _ ((hs.2 x hxs).trans (Heap.get?_update_self _ hx₁ rfl)) fun b ob hbx hb => ?_
  exact (hs.2 b (Nat.ne_of_lt (Heap.lt_size hb))).trans ((Heap.get?_update_ne _ _ _ _ hbx).trans (Heap.get?_push_of_some _ hb))
end
section
variable {prog : Program} {w : World} {A : Around} {E : Value → Shared → Prop} {R : Result → Shared → Prop} {h : Heap} {g : Array GenState} {d : Drawn} {t : Nat} {os : OsState} {K : Frag}
variable {nm q : Str} {C N : Addr} {bs bm : List Value} {hdct : Bool} {sn : List Str} {sub : List Value} {ab : Bool} {col : Option Bool} {dd : Option Addr} {k0 k1 k2 k3 k5 : Option Value}

theorem exc_new_check {M : Model} {rest : List Value} {Q : Unit → Shared → Prop} (hC : h.get? C = some (excClassObj nm q C N bs bm hdct sn sub ab col dd k0 k1 k2 k3 k5 "Exception.__new__")) (hB : bm.contains (.type "Exception") = true)
    (hq : Q () ⟨h, g, d, t, os⟩) : wpAny M A (checkBuiltinCall "Exception.__new__" ⟨.ref C :: rest, []⟩) Q E ⟨h, g, d, t, os⟩ := by
  have F := PySem.F.excBase_Exception
  have hcont : (Value.ref C :: bm).contains (.type "Exception") = true := by rw [List.contains_cons, hB, Bool.or_true]
  have hstar := F.noStar
  simp only [checkBuiltinCall, F.newKind, F.newSplit, F.newRow]
  repeat (first | with_reducible refine wpAny_loadPart_at hC ?_ | (with_reducible refine wpAny_isSubtype_exc hC ?_; rw [hcont]) | with_reducible refine wpAny_staticBase_exc hC ?_ | with_reducible refine wpAny_madeBy_exc hC ?_ | simp only [bne_self_eq_false, Bool.false_eq_true, if_false] | wp_step)
  exact hq

theorem exc_new_code {rest : List Value} (hC : h.get? C = some (excClassObj nm q C N bs bm hdct sn sub ab col dd k0 k1 k2 k3 k5 "Exception.__new__")) (hB : bm.contains (.type "Exception") = true) (h2 : bm.contains (.type "AttributeError") = false) (h3 : bm.contains (.type "NameError") = false)
    (hq : R (.ok (.ret (.ref (h.objs.size + 1)))) ⟨(h.push { cls := .type "tuple", data := .seq rest.toArray }).push { cls := .ref C, data := .fields #[.ref h.objs.size, .none, .none, .none, .bool false, .none] }, g, d, t, os⟩) (hrest : rest.length ≤ sizeLine) :
    codeAny (model prog w) A (.builtin "Exception.__new__" ⟨.ref C :: rest, []⟩) R ⟨h, g, d, t, os⟩ := by
  have F := PySem.F.excBase_Exception
  have hends := F.ends
  have hcB : (Value.ref C :: bm).contains (.type "Exception") = true := by rw [List.contains_cons, hB, Bool.or_true]
  have hcA : (Value.ref C :: bm).contains (.type "AttributeError") = false := by rw [List.contains_cons, h2]; rfl
  have hcN : (Value.ref C :: bm).contains (.type "NameError") = false := by rw [List.contains_cons, h3]; rfl
  refine codeAny_builtinAt F.entry ?_
  unfold Builtin.«BaseException.__new__»
  refine PySem.wpAt_bind ?_
  show PySem.wpAt _ _ _ (stack >>= _) _ _ _
  refine PySem.wpAt_bind (PySem.wpAt_stack fun p below => PySem.wpAt_of_wpAny ?_)
  wp_walk
  refine PySem.wpAt_of_wpAny ?_
  rw [F.owner]
  repeat (first | with_reducible refine wpAny_madeHere_exc F.canon hC ?_ | with_reducible refine wpAny_loadPart_at hC ?_ | (with_reducible refine wpAny_isSubtype_exc hC ?_; first | rw [hcB] | rw [hcA] | rw [hcN]) | wp_step)
  show R _ _
  rw [Heap.size_push]
  exact hq

theorem exc_type_call {rest : List Value} {fI : Addr} {Q : Fin → Shared → Prop} (X : K.In h) (hC : h.get? C = some (excClassObj nm q C N bs bm hdct sn sub ab col dd k0 k1 k2 k3 k5 "Exception.__new__")) (hB : bm.contains (.type "Exception") = true) (h2 : bm.contains (.type "AttributeError") = false) (h3 : bm.contains (.type "NameError") = false)
    (hi : findIn K (.ref C) "__init__" = some (some (.ref fI))) (hf : typeIn K (.ref fI) = some (.type "function"))
    (hq : ∀ h' e, Heap.MadeExcOf h h' e (.ref C) rest → wpAny (model prog w) A (call (.ref fI) (.ref e :: rest)) (fun r s' => r = .none ∧ Q (.done (.ret (.ref e))) s') E ⟨h', g, d, t, os⟩) (hrest : rest.length ≤ sizeLine) :
    wpAny (model prog w) A (Builtin.«type.__call__» ⟨.ref C :: rest, []⟩) Q E ⟨h, g, d, t, os⟩ := by
  have F := PySem.F.excBase_Exception
  repeat (first | with_reducible refine wpAny_loadPart_at hC ?_ | with_reducible refine wpAny_madeBy_exc hC ?_ | wp_step)
  refine codeAny_call_builtin_code (Code.quiet_builtin _ F.quiet) (exc_new_check hC hB ?_)
  refine exc_new_code hC hB h2 h3 ?_ hrest
  show wpAny _ _ _ _ _ _
  have kp : ∀ b o, h.get? b = some o → ((h.push { cls := .type "tuple", data := .seq rest.toArray }).push { cls := .ref C, data := .fields #[.ref h.objs.size, .none, .none, .none, .bool false, .none] }).get? b = some o :=
    fun b o e => Heap.get?_push_of_some _ (Heap.get?_push_of_some _ e)
  have hC₁ := kp _ _ hC
  have X₁ : K.In _ := X.keeps kp
  have hget : ((h.push { cls := .type "tuple", data := .seq rest.toArray }).push
      { cls := .ref C, data := .fields #[.ref h.objs.size, .none, .none, .none, .bool false, .none] }).get? (h.objs.size + 1) = some
      { cls := .ref C, data := .fields #[.ref h.objs.size, .none, .none, .none, .bool false, .none] } := by heap_get
  have hcC : (Value.ref C :: bm).contains (.ref C) = true := by simp
  unfold isInstance
  repeat (first | with_reducible refine wpAny_loadPart_at hget ?_ | (with_reducible refine wpAny_isSubtype_exc hC₁ ?_; rw [hcC]) | wp_step)
  show wpAny _ _ (typeLookup (.ref C) _) _ _ _
  refine (looks_findIn X₁ hi).here ?_
  refine wpAny_holding (wpAny_bind ((bind_fn X₁ _ hf).here ?_))
  refine wpAny_bind (wpAny_mono (hq _ (h.objs.size + 1) ⟨kp, Heap.get?_none_of_le (Nat.le_succ _), h.objs.size, hget, Heap.get?_none_of_le (Nat.le_refl _), ?_⟩) (fun r s' hr => ?_) fun _ _ x => x)
  · exact Heap.get?_push_of_some _ (Heap.get?_push_at rfl rfl)
  · obtain ⟨rfl, hQ⟩ := hr
    wp_walk
    exact hQ

theorem exc_call {rest : List Value} {fI : Addr} {Q : Value → Shared → Prop} (X : K.In h) (hC : h.get? C = some (excClassObj nm q C N bs bm hdct sn sub ab col dd k0 k1 k2 k3 k5 "Exception.__new__")) (hB : bm.contains (.type "Exception") = true) (h2 : bm.contains (.type "AttributeError") = false) (h3 : bm.contains (.type "NameError") = false)
    (hi : findIn K (.ref C) "__init__" = some (some (.ref fI))) (hf : typeIn K (.ref fI) = some (.type "function"))
    (hq : ∀ h' e, Heap.MadeExcOf h h' e (.ref C) rest → wpAny (model prog w) (A.under (.builtin "type.__call__" ⟨.ref C :: rest, []⟩)) (call (.ref fI) (.ref e :: rest)) (fun r s' => r = .none ∧ Q (.ref e) s') E ⟨h', g, d, t, os⟩) (hrest : rest.length ≤ sizeLine) :
    wpAny (model prog w) A (call (.ref C) rest) Q E ⟨h, g, d, t, os⟩ := by
  have f1 := tc_lookup
  have f2 := tc_bind (.ref C)
  have hT : (⟨h, g, d, t, os⟩ : Shared).TypeIs (.ref C) "type" := ⟨_, hC, rfl⟩
  refine wpAny_call (codeAny_of_tree ?_)
  show wpAny _ _ (callAny (.ref C) _) _ _ _
  repeat (any_goals (first | assumption | with_reducible refine wpAny_loadPart_at hC ?_ | wp_step))
  refine ⟨rfl, ?_⟩
  refine codeAny_call_builtin_at (Code.quiet_builtin _ (by decide +kernel)) entry_typeCall (wpAny_check_type_call_sub hC (exc_type_call X hC hB h2 h3 hi hf (fun h' e hm => ?_) hrest))
  exact hq h' e hm

theorem exc_init {x : Addr} {v : Value} {Q : Value → Shared → Prop} (hC : h.get? C = some (excClassObj nm q C N bs bm hdct sn sub ab col dd k0 k1 k2 k3 k5 "Exception.__new__")) (hB : bm.contains (.type "Exception") = true) {t0 : Addr} (hx : h.get? x = some (excO C (.ref t0) none))
    (hq : ∀ t1 h' tk', h'.get? x = some (excO C (.ref t1) none) → (∀ b o, b ≠ x → h.get? b = some o → h'.get? b = some o) → Q .none ⟨h', g, d, tk', os⟩) :
    wpAny (model prog w) A (call (.builtin "Exception.__init__") [.ref x, v]) Q E ⟨h, g, d, t, os⟩ := by
  have F := PySem.F.excBase_Exception
  have hcB : (Value.ref C :: bm).contains (.type "Exception") = true := by rw [List.contains_cons, hB, Bool.or_true]
  have hshort := F.noStar
  refine wpAny_call (codeAny_call_builtin F.init.plain F.initEntry ?_)
  simp only [checkBuiltinCall, F.initKind, F.initSplit, F.initRow]
  repeat (first | with_reducible refine wpAny_loadPart_at hx ?_ | with_reducible refine wpAny_loadPart_at hC ?_ | (with_reducible refine wpAny_isSubtype_exc hC ?_; rw [hcB]) | wp_step)
  dsimp only
  refine hq h.objs.size _ _ ?_ fun b o hb hh => ?_
  · rw [Heap.get?_update_self _ (Heap.get?_push_of_some _ hx) rfl]
    rfl
  · rw [Heap.get?_update_other _ _ (Ne.symm hb)]
    exact Heap.get?_push_of_some _ hh
end
end

section
variable {prog : Program} {w : World} {A : Around} {E : Value → Shared → Prop} {s : Shared} {K : Frag} {h₀ : Heap} {L C P x : Addr} {m : Str → Option Value} {news : Led} {v tp : Value} {name : Str}
  {nm q : Str} {N₁ : Addr} {bs : List Value} {sn : List Str} {sub : List Value} {ab : Bool} {col : Option Bool} {dd : Option Addr} {k0 k1 k2 k3 k5 : Option Value}
theorem fr_but {h h' : Heap} (F : Fr h₀ L h m) (hx : h₀.get? x = none) (hL : x ≠ L) (k : ∀ b o, b ≠ x → h.get? b = some o → h'.get? b = some o) : Fr h₀ L h' m := by
  obtain ⟨oL, es, ep, eL, hLd, hLk, hLf⟩ := F.ns
  exact ⟨⟨oL, es, ep, k L oL (Ne.symm hL) eL, hLd, hLk, hLf⟩, fun b o e => k b o (fun z => by rw [z, hx] at e; cases e) (F.keep b o e), F.above⟩
theorem news_but {h h' : Heap} {o o' : Obj} (N : News h₀ L h ((x, o) :: news)) (hne : ∀ p ∈ news, p.1 ≠ x) (hx : h'.get? x = some o') (k : ∀ b o, b ≠ x → h.get? b = some o → h'.get? b = some o) : News h₀ L h' ((x, o') :: news) := fun p hp => by
  rcases List.mem_cons.mp hp with rfl | hp
  · exact ⟨hx, (N (x, o) (.head _)).2⟩
  · have z := N p (.tail _ hp)
    exact ⟨k _ _ (hne p hp) z.1, z.2⟩
theorem exc_set {Q : Unit → Shared → Prop} (F : Fr h₀ L s.heap m) (X₀ : K.In h₀) (N : News h₀ L s.heap ((x, excO C tp none) :: news)) (hne : ∀ p ∈ news, p.1 ≠ x)
    (hC : K.lookup C = some (excClassObj nm q C N₁ bs [.ref P, .type "Exception", .type "BaseException", .type "object"] true sn sub ab col dd k0 k1 k2 k3 k5 "Exception.__new__"))
    (hs : findIn K (.ref C) "__setattr__" = some (some (.builtin "object.__setattr__"))) (hn : findIn K (.ref C) name = some none)
    (h : ∀ d h' tk', Fr h₀ L h' m → News h₀ L h' ((x, excO C tp (some d)) :: news) → Q () { s with heap := h', toks := tk' }) : wpAny (model prog w) A (setAttr (.ref x) name v) Q E s := by
  have hx := (N _ (.head _)).1
  have X := X₀.keeps F.keep
  refine set_plain X (exc_inst hx) hs (osa_new (s := { s with toks := s.toks + 1 }) (P := P) X hx (cd := { name := nm, bases := bs, mro := [.ref C, .ref P, .type "Exception", .type "BaseException", .type "object"], ns := N₁, qualname := q, hasDict := true, slotNames := sn, subclasses := sub, abstract := ab, collection := col, hasDel := false }) ?_ rfl rfl hn fun d h' tk' e k => ?_)
  · unfold clsIn
    rw [hC]
  · exact h d h' tk' (fr_but F (N _ (.head _)).2.2 (N _ (.head _)).2.1 k) (news_but N hne e k)
theorem exc_initK {t0 : Addr} {Q : Value → Shared → Prop} (F : Fr h₀ L s.heap m) (X₀ : K.In h₀) (N : News h₀ L s.heap ((x, excO C (.ref t0) none) :: news)) (hne : ∀ p ∈ news, p.1 ≠ x)
    (hC : K.lookup C = some (excClassObj nm q C N₁ bs [.ref P, .type "Exception", .type "BaseException", .type "object"] true sn sub ab col dd k0 k1 k2 k3 k5 "Exception.__new__"))
    (h : ∀ t1 h' tk', Fr h₀ L h' m → News h₀ L h' ((x, excO C (.ref t1) none) :: news) → Q .none { s with heap := h', toks := tk' }) : wpAny (model prog w) A (call (.builtin "Exception.__init__") [.ref x, v]) Q E s :=
  exc_init (h := s.heap) (X₀.keeps F.keep _ _ hC) rfl (N _ (.head _)).1 fun t1 h' tk' e k => h t1 h' tk' (fr_but F (N _ (.head _)).2.2 (N _ (.head _)).2.1 k) (news_but N hne e k)
theorem exc_make {fI : Addr} {Q : Value → Shared → Prop} (F : Fr h₀ L s.heap m) (X₀ : K.In h₀) (N : News h₀ L s.heap news)
    (hC : K.lookup C = some (excClassObj nm q C N₁ bs [.ref P, .type "Exception", .type "BaseException", .type "object"] true sn sub ab col dd k0 k1 k2 k3 k5 "Exception.__new__"))
    (hi : findIn K (.ref C) "__init__" = some (some (.ref fI))) (hf : isFn K (.ref fI) = true)
    (h : ∀ x t0 h', Fr h₀ L h' m → News h₀ L h' ((x, excO C (.ref t0) none) :: news) → (∀ p ∈ news, p.1 ≠ x) →
      wpAny (model prog w) (A.under (.builtin "type.__call__" ⟨.ref C :: [v], []⟩)) (call (.ref fI) [.ref x, v]) (fun r s' => r = .none ∧ Q (.ref x) s') E { s with heap := h' }) :
    wpAny (model prog w) A (call (.ref C) [v]) Q E s := by
  refine exc_call (h := s.heap) (X₀.keeps F.keep) (X₀.keeps F.keep _ _ hC) rfl rfl rfl hi (beq_iff_eq.mp hf) (fun h' e hm => ?_) (by rw [sizeLine_eq, List.length_singleton]; omega)
  obtain ⟨t, he, _, _⟩ := hm.there
  have hne : ∀ p ∈ news, p.1 ≠ e := fun p hp z => by have := (N p hp).1; rw [z, hm.new] at this; cases this
  have hL : e ≠ L := fun z => by
    obtain ⟨oL, _, _, eL, _⟩ := F.ns
    rw [← z, hm.new] at eL
    cases eL
  have h0 : h₀.get? e = none := by
    cases q : h₀.get? e with
    | none => rfl
    | some o => have := F.keep _ _ q; rw [hm.new] at this; cases this
  refine h e t h' (fr_but F h0 hL fun b o _ => hm.keeps b o) (fun p hp => ?_) hne
  rcases List.mem_cons.mp hp with rfl | hp
  · exact ⟨he, hL, h0⟩
  · exact ⟨hm.keeps _ _ (N p hp).1, (N p hp).2⟩
end

theorem meta_Exc : typeOf (.type "Exception") = pure (.type "type") := by kernel_rfl
def RaiseEnd (h₀ : Heap) (C : Addr) (E : Value → Shared → Prop) (v : Value) (s : Shared) : Prop :=
  ∃ x tp dd L m, v = .ref x ∧ Fr h₀ L s.heap m ∧ s.heap.get? x = some (excO C tp dd) ∧ E (.ref x) s
theorem RaiseEnd.intro {h₀ : Heap} {C : Addr} {E : Value → Shared → Prop} {s : Shared} {x L : Addr} {tp : Value} {dd : Option Addr} {m : Str → Option Value} {news : Led} (F : Fr h₀ L s.heap m) (N : News h₀ L s.heap news) (hm : (x, excO C tp dd) ∈ news) (h : E (.ref x) s) :
    RaiseEnd h₀ C E (.ref x) s := ⟨x, tp, dd, L, m, rfl, F, (N _ hm).1, h⟩
section
variable {M : Model} {A : Around} {E : Value → Shared → Prop} {s : Shared} {K : Frag} {h₀ : Heap} {C P : Addr} {env : Env} {e₀ : PySem.Expr} {pos : Pos} {Q : Flow → Shared → Prop}
  {nm q : Str} {N₁ : Addr} {bs : List Value} {sn : List Str} {sub : List Value} {ab : Bool} {col : Option Bool} {dd : Option Addr} {k0 k1 k2 k3 k5 : Option Value}
theorem raise_K (X₀ : K.In h₀) (hC : K.lookup C = some (excClassObj nm q C N₁ bs [.ref P, .type "Exception", .type "BaseException", .type "object"] true sn sub ab col dd k0 k1 k2 k3 k5 "Exception.__new__")) (hh : A.handled = none)
    (h : wpAny M A (eval e₀ env) (RaiseEnd h₀ C E) E s) : wpAny M A (exec (.Raise (some e₀) none pos) env) Q E s := by
  rw [arm_exec_Raise]
  refine wpAny_bind (wpAny_standAt ?_)
  unfold raiseStmt
  refine wpAny_bind (wpAny_bind (wpAny_mono h (fun v s₁ h₁ => wpAny_bind (wpAny_standAt (wpAny_pure ?_))) fun _ _ x => x))
  obtain ⟨x, tp, dd', L, m, rfl, F, hx, hE⟩ := h₁
  have hC₁ := X₀.keeps F.keep _ _ hC
  have hcB : (Value.ref C :: [Value.ref P, .type "Exception", .type "BaseException", .type "object"]).contains (.type "BaseException") = true := by rw [List.contains_cons]; rfl
  obtain ⟨hp, g, d, tk, os⟩ := s₁
  repeat (first | with_reducible refine wpAny_loadPart_at hx ?_ | with_reducible refine wpAny_loadPart_at hC₁ ?_ | (with_reducible refine wpAny_isSubtype_exc hC₁ ?_; rw [hcB]) | wp_step)
  exact wpAny_raiseNew_none hh hE
end
end Mine
end
section
open PySem PySem.W PyProof.Rows PySem.Calls PySem.Spec
namespace Mine
theorem bitOr_nn {x y : Int} (hx : 0 ≤ x) (hy : 0 ≤ y) : Builtin.bitOr x y = ((x.toNat ||| y.toNat : Nat) : Int) := by
  have a : ¬ 0 ≤ Builtin.bitNot x := by unfold Builtin.bitNot; omega
  have b : ¬ 0 ≤ Builtin.bitNot y := by unfold Builtin.bitNot; omega
  have c : Builtin.bitNot (Builtin.bitNot x) = x := by unfold Builtin.bitNot; omega
  have d : Builtin.bitNot (Builtin.bitNot y) = y := by unfold Builtin.bitNot; omega
  unfold Builtin.bitOr
  unfold Builtin.bitAnd
  rw [decide_eq_false a, decide_eq_false b]
  dsimp only
  rw [c, d]
  unfold Builtin.bitNot
  omega
theorem bitOr_add {a n : Int} (i : Nat) (ha : 0 ≤ a) (h0 : 0 ≤ n) (h1 : n < 2 ^ i) : Builtin.bitOr (a * 2 ^ i) n = a * 2 ^ i + n := by
  have hp : (0 : Int) ≤ 2 ^ i := Int.pow_nonneg (by decide)
  rw [bitOr_nn (Int.mul_nonneg ha hp) h0]
  obtain ⟨a', rfl⟩ := Int.eq_ofNat_of_zero_le ha
  obtain ⟨n', rfl⟩ := Int.eq_ofNat_of_zero_le h0
  have h1' : n' < 2 ^ i := by
    have e : ((2 ^ i : Nat) : Int) = (2 : Int) ^ i := by simp
    rw [← e] at h1
    exact Int.ofNat_lt.mp h1
  have e : ((a' : Int) * 2 ^ i) = ((a' * 2 ^ i : Nat) : Int) := by simp
  rw [e, Int.toNat_natCast, Int.toNat_natCast, ← Nat.shiftLeft_eq, ← Nat.shiftLeft_add_eq_or_of_lt h1']
  simp
def num (ks : List Int) : Int := ks.foldl (fun a k => 256 * a + k) 0
theorem num_snoc (ks : List Int) (k : Int) : num (ks ++ [k]) = 256 * num ks + k := by unfold num; rw [List.foldl_append]; rfl
theorem In_snoc {ks : List Int} {k : Int} (h : KBa.In ks) (h0 : 0 ≤ k) (h1 : k < 256) : KBa.In (ks ++ [k]) := by
  intro x hx
  rcases List.mem_append.mp hx with hx | hx
  · exact h x hx
  · rw [List.mem_singleton.mp hx]; exact ⟨h0, h1⟩
theorem num_bd (n : Nat) : ∀ ks : List Int, ks.length = n → KBa.In ks → 0 ≤ num ks ∧ num ks < 256 ^ n := by
  induction n with
  | zero => intro ks h _; rw [List.length_eq_zero_iff.mp h]; exact ⟨Int.le_refl _, by decide⟩
  | succ n ih =>
    intro ks h hi
    rcases List.eq_nil_or_concat ks with rfl | ⟨l, k, rfl⟩
    · cases h
    · have hk := hi k (by simp)
      have hl := ih l (by simpa using h) fun x hx => hi x (by simp [hx])
      rw [List.concat_eq_append, num_snoc]
      rw [Int.pow_succ]
      omega
theorem num_lt {ks : List Int} (h : KBa.In ks) {n : Nat} (hn : ks.length ≤ n) : num ks < 256 ^ n := by
  have a := (num_bd _ ks rfl h).2
  have b : (256 : Int) ^ ks.length ≤ 256 ^ n := by
    have := Nat.pow_le_pow_right (n := 256) (by decide) hn
    have e1 : ((256 ^ ks.length : Nat) : Int) = (256 : Int) ^ ks.length := by simp
    have e2 : ((256 ^ n : Nat) : Int) = (256 : Int) ^ n := by simp
    rw [← e1, ← e2]
    exact Int.ofNat_le.mpr this
  omega
theorem num_lo {ks : List Int} (h : KBa.In ks) : 0 ≤ num ks := (num_bd _ ks rfl h).1
theorem onum_turn {pre : List Int} {a n : Int} {len : Nat} (e : a = num pre) (hi : KBa.In pre) (h0 : 0 ≤ n) (h1 : n < 256) (hl : pre.length < len) (hl' : len ≤ 8) :
    Builtin.bitOr (a * 2 ^ Int.toNat 8) n = num (pre ++ [n]) ∧ KBa.In (pre ++ [n]) ∧ 0 ≤ Builtin.bitOr (a * 2 ^ Int.toNat 8) n ∧ Builtin.bitOr (a * 2 ^ Int.toNat 8) n < 18446744073709551616 := by
  have q : Builtin.bitOr (a * 2 ^ Int.toNat 8) n = num (pre ++ [n]) := by
    rw [bitOr_add _ (by rw [e]; exact num_lo hi) h0 (by exact h1), num_snoc, e, Int.mul_comm]
    rfl
  have hI := In_snoc hi h0 h1
  refine ⟨q, hI, ?_, ?_⟩
  · rw [q]; exact num_lo hI
  · rw [q]; exact num_lt hI (n := 8) (by simp; omega)
theorem onum_start : (0 : Int) = num [] ∧ KBa.In [] ∧ (0 : Int) ≤ 0 ∧ (0 : Int) < 18446744073709551616 := ⟨rfl, fun x hx => (by cases hx), by decide, by decide⟩
theorem sl_mid {α : Type} (ks : List α) (a b : Nat) : (ks.drop (min a ks.length)).take (min b ks.length - min a ks.length) = (ks.drop a).take (b - a) := by
  rcases Nat.le_total a ks.length with h | h
  · rw [Nat.min_eq_left h]
    rcases Nat.le_total b ks.length with h2 | h2
    · rw [Nat.min_eq_left h2]
    · rw [Nat.min_eq_right h2, List.take_of_length_le (by rw [List.length_drop]; omega), List.take_of_length_le (by rw [List.length_drop]; omega)]
  · rw [Nat.min_eq_right h, List.drop_of_length_le h, List.drop_of_length_le (Nat.le_refl _)]
    simp
theorem sl_to {α : Type} (ks : List α) (b : Nat) : ks.take (min b ks.length) = ks.take b := by
  rcases Nat.le_total b ks.length with h | h
  · rw [Nat.min_eq_left h]
  · rw [Nat.min_eq_right h, List.take_of_length_le (Nat.le_refl _), List.take_of_length_le h]
theorem sl_from {α : Type} (ks : List α) (a : Nat) : (ks.drop (min a ks.length)).take (ks.length - min a ks.length) = ks.drop a := by
  rcases Nat.le_total a ks.length with h | h
  · rw [Nat.min_eq_left h, List.take_of_length_le (by rw [List.length_drop]; omega)]
  · rw [Nat.min_eq_right h, List.drop_of_length_le h, List.drop_of_length_le (Nat.le_refl _)]
    simp
theorem clip1 (n : Nat) : clipAt n 1 = min 1 n := clipAt_nat n 1
theorem clip2 (n : Nat) : clipAt n 2 = min 2 n := clipAt_nat n 2
theorem clip3 (n : Nat) : clipAt n 3 = min 3 n := clipAt_nat n 3
theorem clip4 (n : Nat) : clipAt n 4 = min 4 n := clipAt_nat n 4
theorem clip5 (n : Nat) : clipAt n 5 = min 5 n := clipAt_nat n 5
theorem clip6 (n : Nat) : clipAt n 6 = min 6 n := clipAt_nat n 6
theorem clip8 (n : Nat) : clipAt n 8 = min 8 n := clipAt_nat n 8
theorem clip12 (n : Nat) : clipAt n 12 = min 12 n := clipAt_nat n 12
theorem clip20 (n : Nat) : clipAt n 20 = min 20 n := clipAt_nat n 20
theorem clip22 (n : Nat) : clipAt n 22 = min 22 n := clipAt_nat n 22
theorem clip25 (n : Nat) : clipAt n 25 = min 25 n := clipAt_nat n 25
theorem clip27 (n : Nat) : clipAt n 27 = min 27 n := clipAt_nat n 27
theorem clip28 (n : Nat) : clipAt n 28 = min 28 n := clipAt_nat n 28
theorem clip29 (n : Nat) : clipAt n 29 = min 29 n := clipAt_nat n 29
theorem clip34 (n : Nat) : clipAt n 34 = min 34 n := clipAt_nat n 34
theorem clip35 (n : Nat) : clipAt n 35 = min 35 n := clipAt_nat n 35
theorem clip36 (n : Nat) : clipAt n 36 = min 36 n := clipAt_nat n 36
theorem clip38 (n : Nat) : clipAt n 38 = min 38 n := clipAt_nat n 38
theorem sh12 (x : Int) : x.fdiv (2 ^ Int.toNat 12) * 2 ^ Int.toNat 4 = 16 * (x / 4096) := by
  rw [show (2 : Int) ^ Int.toNat 12 = 4096 from rfl, show (2 : Int) ^ Int.toNat 4 = 16 from rfl, Int.fdiv_eq_ediv_of_nonneg _ (by decide), Int.mul_comm]
theorem and4095 (x : Int) : Builtin.bitAnd x 4095 = x % 4096 := kbt_mask x 12
theorem sh8 (x : Int) : x.fdiv (2 ^ Int.toNat 8) = x / 256 := by
  rw [show (2 : Int) ^ Int.toNat 8 = 256 from rfl, Int.fdiv_eq_ediv_of_nonneg _ (by decide)]
def octsTo (n : Nat) (x : Int) (i : Nat) : List Int := (List.range i).map fun j => x / 256 ^ (n - 1 - j) % 256
abbrev octs (n : Nat) (x : Int) : List Int := octsTo n x n
theorem octsTo_succ (n : Nat) (x : Int) (i : Nat) : octsTo n x (i + 1) = octsTo n x i ++ [x / 256 ^ (n - 1 - i) % 256] := by unfold octsTo; rw [List.range_succ, List.map_append]; rfl
theorem octsTo_length (n : Nat) (x : Int) (i : Nat) : (octsTo n x i).length = i := by unfold octsTo; simp
theorem octsTo_in (n : Nat) (x : Int) (i : Nat) : KBa.In (octsTo n x i) := by
  intro k hk
  obtain ⟨j, _, rfl⟩ := List.mem_map.mp hk
  exact ⟨Int.emod_nonneg _ (by decide), Int.emod_lt_of_pos _ (by decide)⟩
theorem and255 (x : Int) : Builtin.bitAnd x 255 = x % 256 := kbt_mask x 8
theorem pow256 (k : Nat) : (2 : Int) ^ (8 * k) = 256 ^ k := by rw [Int.pow_mul]; rfl
theorem oct_x {size : Int} {i : Nat} (hi : i < size.toNat) : size - 1 - (i : Int) = ((size.toNat - 1 - i : Nat) : Int) := by
  obtain ⟨k, hk⟩ := Nat.le.dest hi
  have e : size = ((i + 1 + k : Nat) : Int) := by rw [show i + 1 + k = size.toNat from hk]; exact (Int.toNat_of_nonneg (Int.le_trans (Int.natCast_nonneg i) (Int.le_of_lt (Int.lt_toNat.mp hi)))).symm
  subst e
  rw [Int.toNat_natCast, show i + 1 + k - 1 - i = k from by omega]
  omega
theorem oct_elem {x size : Int} {i : Nat} (hi : i < size.toNat) : Builtin.bitAnd (x.fdiv (2 ^ Int.toNat (8 * (size - 1 + (i : Int) * -1)))) 255 = x / 256 ^ (size.toNat - 1 - i) % 256 := by
  have e : Int.toNat (8 * (size - 1 + (i : Int) * -1)) = 8 * (size.toNat - 1 - i) := by rw [Int.mul_neg, Int.mul_one, ← Int.sub_eq_add_neg, oct_x hi]; rfl
  rw [and255, e, pow256, Int.fdiv_eq_ediv_of_nonneg _ (Int.pow_nonneg (by decide))]
theorem noct_turn {x size : Int} {i : Nat} {ys : List Value} {t : Tok} (hi : i < size.toNat) (hY : OctsAre ys (octsTo size.toNat x i)) :
    OctsAre (ys ++ [.int (Builtin.bitAnd (x.fdiv (2 ^ Int.toNat (8 * (size - 1 + (i : Int) * -1)))) 255) t]) (octsTo size.toNat x (i + 1)) := by
  rw [oct_elem hi, octsTo_succ]
  exact octs_snoc hY (Int.emod_nonneg _ (by decide)) (Int.emod_lt_of_pos _ (by decide))
theorem noct_start {x : Int} {n : Nat} : OctsAre [] (octsTo n x 0) := ⟨.nil, fun k hk => by cases hk⟩
theorem down_fin {size : Int} {P : Int → Prop} (hs : 1 ≤ size) (hs' : size ≤ 8) (h : ∀ n : Fin 8, P (n.val + 1 : Nat)) : P size := by
  have h0 : 0 ≤ size - 1 := Int.sub_nonneg_of_le hs
  have := h ⟨(size - 1).toNat, (Int.toNat_lt h0).mpr (Int.sub_one_lt_of_le hs')⟩
  rwa [Int.natCast_add, show (((size - 1).toNat : Nat) : Int) = size - 1 from Int.toNat_of_nonneg h0, show size - 1 + ((1 : Nat) : Int) = size from Int.sub_add_cancel size 1] at this
theorem down_small {size : Int} (hs : 1 ≤ size) (hs' : size ≤ 8) : Builtin.Range.small (size - 1) (-1) (-1) = true :=
  down_fin (P := fun size => Builtin.Range.small (size - 1) (-1) (-1) = true) hs hs' (by decide +kernel)
theorem down_size {size : Int} (hs : 1 ≤ size) (hs' : size ≤ 8) : Builtin.Range.rangeSize (size - 1) (-1) (-1) = ((size.toNat : Nat) : Int) :=
  down_fin (P := fun size => Builtin.Range.rangeSize (size - 1) (-1) (-1) = ((size.toNat : Nat) : Int)) hs hs' (by decide +kernel)
theorem port_or {pp nu : Int} (h0 : 0 ≤ pp) (h1 : 0 ≤ nu) (h2 : nu < 4096) : Builtin.bitOr (16 * pp * 2 ^ Int.toNat 8) nu = 4096 * pp + nu := by
  rw [show 16 * pp * 2 ^ Int.toNat 8 = pp * 2 ^ 12 from by rw [show (2 : Int) ^ Int.toNat 8 = 256 from rfl, show (2 : Int) ^ 12 = 4096 from rfl]; omega, bitOr_add 12 h0 h1 h2]
  show pp * 4096 + nu = 4096 * pp + nu
  omega
theorem bInts_nil : KBw.bInts #[] = [] := rfl
abbrev b2i (b : Bool) : Int := if b then 1 else 0
def vecO (rp rm co np nm pp pn : Int) : List Int := ((((octs 2 rp ++ octs 6 rm) ++ octs 4 co) ++ (octs 2 np ++ octs 6 nm)) ++ octs 2 (4096 * pp + pn))
def timO (ag mx he de : Int) : List Int := (((octs 2 (256 * ag) ++ octs 2 (256 * mx)) ++ octs 2 (256 * he)) ++ octs 2 (256 * de))
theorem vecO_length (rp rm co np nm pp pn : Int) : (vecO rp rm co np nm pp pn).length = 22 := by simp only [vecO, List.length_append, octsTo_length]
theorem timO_length (ag mx he de : Int) : (timO ag mx he de).length = 8 := by simp only [timO, List.length_append, octsTo_length]
def packA : List Int := octs 2 0 ++ [0, 128]
def packC (ver fl : Int) (v t : List Int) : List Int := (((octs 2 0 ++ [ver, 0]) ++ [fl]) ++ v) ++ t
def packR2 (ver fl : Int) (v t : List Int) : List Int := ((((octs 2 0 ++ [ver, 2]) ++ [fl]) ++ v) ++ t) ++ [0]
def packR3 (ver fl : Int) (v t tl : List Int) : List Int := (packR2 ver fl v t ++ octs 2 (tl.length : Nat)) ++ tl
theorem b2i_bd (b : Bool) : 0 ≤ b2i b ∧ b2i b ≤ 1 := by cases b <;> decide
theorem flC_bd (f0 f1 : Bool) : 0 ≤ b2i f0 + 128 * b2i f1 ∧ b2i f0 + 128 * b2i f1 < 256 := by
  obtain ⟨a0, b0⟩ := b2i_bd f0
  obtain ⟨a1, b1⟩ := b2i_bd f1
  generalize b2i f0 = x0 at *
  generalize b2i f1 = x1 at *
  omega
theorem six_bd (a b c d e f : Bool) {r : Nat} (hr : r < 4) : 0 ≤ b2i a + 2 * b2i b + 16 * b2i c + 32 * b2i d + 64 * b2i e + 128 * b2i f + 4 * (r : Int) ∧ b2i a + 2 * b2i b + 16 * b2i c + 32 * b2i d + 64 * b2i e + 128 * b2i f + 4 * (r : Int) < 256 := by
  obtain ⟨a0, b0⟩ := b2i_bd a
  obtain ⟨a1, b1⟩ := b2i_bd b
  obtain ⟨a2, b2⟩ := b2i_bd c
  obtain ⟨a3, b3⟩ := b2i_bd d
  obtain ⟨a4, b4⟩ := b2i_bd e
  obtain ⟨a5, b5⟩ := b2i_bd f
  generalize b2i a = x0 at *
  generalize b2i b = x1 at *
  generalize b2i c = x2 at *
  generalize b2i d = x3 at *
  generalize b2i e = x4 at *
  generalize b2i f = x5 at *
  omega
theorem fl_ac (x0 x1 x2 x3 x4 x5 r : Int) : x0 + 128 * x1 + 2 * x2 + 4 * r + 16 * x4 + 32 * x5 + 64 * x3 = x0 + 2 * x2 + 16 * x4 + 32 * x5 + 64 * x3 + 128 * x1 + 4 * r := by ac_rfl
theorem flR_bd (f0 f1 f2 f3 f4 f5 : Bool) {r : Nat} (hr : r < 4) : 0 ≤ b2i f0 + 128 * b2i f1 + 2 * b2i f2 + 4 * (r : Int) + 16 * b2i f4 + 32 * b2i f5 + 64 * b2i f3 ∧ b2i f0 + 128 * b2i f1 + 2 * b2i f2 + 4 * (r : Int) + 16 * b2i f4 + 32 * b2i f5 + 64 * b2i f3 < 256 := by
  rw [fl_ac]
  exact six_bd _ _ _ _ _ _ hr
section
variable {prog : Program} {w : World} {A : Around} {E : Value → Shared → Prop} {s : Shared} {h₀ : Heap} {L : Addr} {m : Str → Option Value} {news : Led} {D : Addr} {a b : Int} {ta tb : Tok} {n : Nat} {Q : Value → Shared → Prop}
theorem bytes1 (F : Fr h₀ L s.heap m) (N : News h₀ L s.heap news) (hh : A.handled = none) (hm : (D, listOf [Value.int a ta].toArray n) ∈ news) (h0 : 0 ≤ a) (h1 : a < 256)
    (h : ∀ h' t' k, Fr h₀ L h' m → News h₀ L h' news → KBw.bInts (byteArr [a]) = [a] → Q (.bytes (byteArr [a]) t') { s with heap := h', toks := k }) : wpAny (model prog w) A (call (.type "bytes") [.ref D]) Q E s := by
  have hi : KBa.In [a] := fun x hx => by rw [List.mem_singleton.mp hx]; exact ⟨h0, h1⟩
  exact KBa.make_K F N hh (News.isList N hm) (.cons a ta .nil) hi (Nat.le_of_ble_eq_true rfl) fun h' t' k F' N' _ => h h' t' k F' N' (KBa.ints_make hi)
theorem bytes2 (F : Fr h₀ L s.heap m) (N : News h₀ L s.heap news) (hh : A.handled = none) (hm : (D, listOf [Value.int a ta, Value.int b tb].toArray n) ∈ news) (h0 : 0 ≤ a) (h1 : a < 256) (h2 : 0 ≤ b) (h3 : b < 256)
    (h : ∀ h' t' k, Fr h₀ L h' m → News h₀ L h' news → KBw.bInts (byteArr [a, b]) = [a, b] → Q (.bytes (byteArr [a, b]) t') { s with heap := h', toks := k }) : wpAny (model prog w) A (call (.type "bytes") [.ref D]) Q E s := by
  have hi : KBa.In [a, b] := fun x hx => by
    rcases List.mem_cons.mp hx with rfl | hx
    · exact ⟨h0, h1⟩
    · rw [List.mem_singleton.mp hx]; exact ⟨h2, h3⟩
  exact KBa.make_K F N hh (News.isList N hm) (.cons a ta (.cons b tb .nil)) hi (Nat.le_of_ble_eq_true rfl) fun h' t' k F' N' _ => h h' t' k F' N' (KBa.ints_make hi)
end
theorem up_small {size : Int} (hs : 1 ≤ size) (hs' : size ≤ 8) : Builtin.Range.small 0 size 1 = true :=
  down_fin (P := fun size => Builtin.Range.small 0 size 1 = true) hs hs' (by decide +kernel)
theorem up_size {size : Int} (hs : 1 ≤ size) (hs' : size ≤ 8) : Builtin.Range.rangeSize 0 size 1 = ((size.toNat : Nat) : Int) :=
  down_fin (P := fun size => Builtin.Range.rangeSize 0 size 1 = ((size.toNat : Nat) : Int)) hs hs' (by decide +kernel)
theorem loct_elem {x size : Int} {i : Nat} (hi : i < size.toNat) : (x.fdiv (256 ^ Int.toNat (size - 1 - (0 + (i : Int) * 1)))).fmod 256 = x / 256 ^ (size.toNat - 1 - i) % 256 := by
  have e : Int.toNat (size - 1 - (0 + (i : Int) * 1)) = size.toNat - 1 - i := by rw [Int.zero_add, Int.mul_one, oct_x hi]; rfl
  rw [e, Int.fmod_eq_emod_of_nonneg _ (by decide), Int.fdiv_eq_ediv_of_nonneg _ (Int.pow_nonneg (by decide))]
theorem loct_turn {x size : Int} {i : Nat} {ys : List Value} {t : Tok} (hi : i < size.toNat) (hY : OctsAre ys (octsTo size.toNat x i)) :
    OctsAre (ys ++ [.int ((x.fdiv (256 ^ Int.toNat (size - 1 - (0 + (i : Int) * 1)))).fmod 256) t]) (octsTo size.toNat x (i + 1)) := by
  rw [loct_elem hi, octsTo_succ]
  exact octs_snoc hY (Int.emod_nonneg _ (by decide)) (Int.emod_lt_of_pos _ (by decide))
theorem pow256_ne (k : Nat) : (256 : Int) ^ k ≠ 0 := by
  have : (0 : Int) < 256 ^ k := Int.pow_pos (by decide)
  omega
theorem pow256_log {k : Nat} (h : k ≤ 8) : ((256 : Int) ^ k).natAbs.log2 < 9000 := by
  match k, h with
  | 0, _ | 1, _ | 2, _ | 3, _ | 4, _ | 5, _ | 6, _ | 7, _ | 8, _ => decide +kernel
theorem packA_eq : packA = [0, 0, 0, 128] := by decide +kernel
theorem octsA_ok {t1 t2 t3 t4 : Tok} : OctsAre [Value.int 0 t1, Value.int 0 t2, Value.int 0 t3, Value.int 128 t4] packA := by
  rw [packA_eq]
  refine ⟨.cons 0 t1 (.cons 0 t2 (.cons 0 t3 (.cons 128 t4 .nil))), fun k hk => ?_⟩
  simp only [List.mem_cons, List.not_mem_nil, or_false] at hk
  omega
theorem clip0 (n : Nat) : clipAt n 0 = 0 := by rw [show (0 : Int) = ((0 : Nat) : Int) from rfl, clipAt_nat]; exact Nat.zero_min n
theorem clipA0 (n : Nat) : clipAt n (0 + 2) = min 2 n := clip2 n
theorem clipA2 (n : Nat) : clipAt n (2 + 2) = min 4 n := clip4 n
theorem clipA4 (n : Nat) : clipAt n (4 + 2) = min 6 n := clip6 n
theorem clipA6 (n : Nat) : clipAt n (6 + 2) = min 8 n := clip8 n
end Mine
end
section
open PySem PySem.W PyProof.Rows PySem.Calls PySem.Spec
namespace Mine
section
variable {prog : Program} {w : World} {A : Around} {E : Value → Shared → Prop} {s : Shared} {h₀ : Heap} {L : Addr} {m : Str → Option Value} {env : Env}
def WSrc (prog : Program) (w : World) (A : Around) (h₀ : Heap) (L : Addr) (m : Str → Option Value) (env : Env) (elt : PySem.Expr) (x : Str) (scope : Scope) (cl : List (Str × Addr)) (E : Value → Shared → Prop) (Fin : Shared → List Value → Led → Prop) (xv : Value) (s₁ : Shared) : Prop :=
  ∃ (fp : List Addr) (n : Nat) (P : Nat → Value → Prop) (St : Nat → Heap → Prop) (S : Led → Prop) (news : Led) (o : Obj), o.isFreed = false ∧
    (∀ Q : Value → Shared → Prop, Q (.ref s₁.heap.objs.size) { s₁ with heap := s₁.heap.push o } → wpAny (model prog w) A (pyIter xv) Q E s₁) ∧
    Walks prog w A s₁.heap.objs.size fp [s₁.heap.objs.size] n P St ∧ n ≤ sizeLine ∧ (∀ i h, St i h → ∃ o, h.get? s₁.heap.objs.size = some o) ∧
    (∀ i h h' o nw, St i h → h.get? s₁.heap.objs.size = some o → h'.get? s₁.heap.objs.size = some o → (∀ b o, h₀.get? b = some o → h'.get? b = some o) → News h₀ L h' nw → S nw → St i h') ∧
    St 0 (s₁.heap.push o) ∧ (∀ b ∈ fp, b < s₁.heap.objs.size + 1) ∧ Fr h₀ L s₁.heap m ∧ News h₀ L s₁.heap news ∧ S news ∧
    LCg.CompRest prog w A h₀ L m env elt x scope cl { s₁ with heap := s₁.heap.push o } S P (Fin { s₁ with heap := s₁.heap.push o }) n 0 [] news
theorem ListComp_W {elt iter : PySem.Expr} {x : Str} {px : Pos} {scope : Scope} {cl : List (Str × Addr)} {pos : Pos} {Q : Value → Shared → Prop} (F₀ : Fr h₀ L s.heap m)
    (hclos : closureFor scope env = pure cl) (hcell : ∀ y ∈ scope.names, y.2 ≠ .cell) (hkind : scope.kind = .function)
    (hnames : ∀ y ∈ scope.names, y.2 = .local → scope.names.lookup y.1 = some .local) (hx : scope.names.lookup x = some .local)
    (h : wpAny (model prog w) A (eval iter env) (WSrc prog w A h₀ L m env elt x scope cl E (fun s₂ => LCg.FinE h₀ L m s₂ Q)) E s)
    (hs : ∀ x, foldedSetIterable iter env x = pure x := by intro _; rfl) :
    wpAny (model prog w) A (eval (.ListComp elt [⟨.Name x px, iter, [], 0⟩] scope pos) env) Q E s := by
  rw [eval_ListComp]
  refine wpAny_comprehension_free (use := none) rfl hs hclos hkind hnames (wpAny_mono h (fun xv s₁ h₁ => ?_) fun _ _ e => e)
  obtain ⟨fp, n, P, St, S, news, o, hfr, hit, W, hsz, hIo, hSt, hst, hfp, F, N, hS, R⟩ := h₁
  have up : ∀ b o', s₁.heap.get? b = some o' → (s₁.heap.push o).get? b = some o' := fun b o' e => Heap.get?_push_of_some _ e
  refine hit _ ?_
  refine LCg.block_U W hsz hIo hSt hcell hkind hx hst (fun b hb => ?_) (F.keeps up) (N.grown up) (Nat.ne_of_lt F.ns.lt) (next_is_new F) (fun p hp => Nat.ne_of_lt (Heap.lt_size (N p hp).1)) hS R ?_
  · show b < (s₁.heap.push _).objs.size
    rw [Heap.size_push]
    exact hfp b hb
  · intro D C h tk m' ys news' F' N' o1 hn hC₀ hD₀ hCL hDL hCD offC fin
    refine ⟨m', hn, fun h'' hs'' => fin D h'' tk (F'.change hs'' hCL hC₀) (fun p hp => ⟨hs''.extBut _ _ ?_ (N' p hp).1, (N' p hp).2⟩) o1⟩
    rcases List.mem_cons.mp hp with rfl | hp
    · exact Ne.symm hCD
    · exact offC p hp
variable {elt : PySem.Expr} {x : Str} {scope : Scope} {cl : List (Str × Addr)} {Fin : Shared → List Value → Led → Prop} {s₁ : Shared} {news : Led}
theorem WSrc.tuple {ax : Addr} {its : Array Value} {k : Nat} (hh : A.handled = none) (F : Fr h₀ L s₁.heap m) (N : News h₀ L s₁.heap news) (hm : (ax, ({ cls := .type "tuple", data := .seq its k } : Obj)) ∈ news) (hsz : its.size ≤ sizeLine)
    (h : ∀ g, LCg.CompRest prog w A h₀ L m env elt x scope cl { s₁ with heap := g } (fun nw => (ax, ({ cls := .type "tuple", data := .seq its k } : Obj)) ∈ nw) (fun i v => its[i]? = some v) (Fin { s₁ with heap := g }) its.size 0 [] news) :
    WSrc prog w A h₀ L m env elt x scope cl E Fin (.ref ax) s₁ := by
  have hg := (N _ hm).1
  have hlt : ax < s₁.heap.objs.size := Heap.lt_size hg
  refine ⟨[s₁.heap.objs.size, ax], its.size, _, fun i h => h.IsTupleIter s₁.heap.objs.size ax i ∧ h.IsTuple ax its, _, news, { cls := .type "tuple_iterator", data := .fields #[.ref ax, .int 0 0] }, rfl,
    fun Q q => wpAny_pyIter_tuple ⟨_, hg, rfl, _, rfl⟩ q, Walks.tuple hh _ ax (Nat.ne_of_lt hlt) its, hsz, fun i h st => ?_, fun i h h' o nw st e e' k N' S' => ?_, ⟨?_, ?_⟩, fun b hb => ?_, F, N, hm, h _⟩
  · obtain ⟨o, q, _⟩ := st.1
    exact ⟨o, q⟩
  · refine ⟨?_, ⟨_, (N' _ S').1, rfl, _, rfl⟩⟩
    obtain ⟨o', q, r⟩ := st.1
    rw [e] at q
    cases q
    exact ⟨o, e', r⟩
  · exact ⟨_, Heap.get?_push_size _ rfl, rfl, rfl⟩
  · exact ⟨_, Heap.get?_push_of_some _ hg, rfl, _, rfl⟩
  · rcases List.mem_cons.mp hb with rfl | hb
    · exact Nat.lt_succ_self _
    · rw [List.mem_singleton.mp hb]; exact Nat.lt_succ_of_lt hlt
theorem WSrc.range {r : Addr} {a b c : Int} {t u v : Tok} {n : Nat} (hh : A.handled = none) (F : Fr h₀ L s₁.heap m) (N : News h₀ L s₁.heap news) (hr : IsRange s₁.heap r a b c t u v) (hsm : Builtin.Range.small a b c = true) (hn : Builtin.Range.rangeSize a b c = ((n : Nat) : Int)) (hsz : n ≤ sizeLine)
    (h : ∀ g, LCg.CompRest prog w A h₀ L m env elt x scope cl { s₁ with heap := g } (fun _ => True) (fun i v => ∃ t, v = .int (a + (i : Int) * c) t) (Fin { s₁ with heap := g }) n 0 [] news) :
    WSrc prog w A h₀ L m env elt x scope cl E Fin (.ref r) s₁ := by
  refine ⟨[s₁.heap.objs.size], n, _, fun i h => IsRangeIter h s₁.heap.objs.size (a + (i : Nat) * c) ((n : Int) - (i : Nat)) c, _, news, { cls := .type "range_iterator", data := .fields #[rawInt a, rawInt (Builtin.Range.rangeSize a b c), rawInt c] }, rfl,
    fun Q q => wpAny_pyIter_range hr hsm q, Walks.range hh _ a c n, hsz, fun i h st => ⟨_, st⟩, fun i h h' o nw st e e' k N' S' => ?_, ?_, fun b hb => ?_, F, N, trivial, h _⟩
  · have st' : h.get? _ = some _ := st
    show h'.get? _ = some _
    rw [e', ← e]
    exact st'
  · show IsRangeIter _ _ _ _ _
    rw [hn]
    simpa using Heap.get?_push_size _ rfl
  · rw [List.mem_singleton.mp hb]
    exact Nat.lt_succ_self _
def TurnSame (h₀ : Heap) (L : Addr) (m : Str → Option Value) (s : Shared) (pre R : Led) (Y : Value → Prop) (y : Value) (s₂ : Shared) : Prop :=
  ∃ h' tk', s₂ = { s with heap := h', toks := tk' } ∧ Fr h₀ L h' m ∧ News h₀ L h' (pre ++ R) ∧ Y y
theorem TurnSame.intro {pre R all rest : Led} {Y : Value → Prop} {y : Value} {h' : Heap} {tk' : Nat} (F : Fr h₀ L h' m) (N : News h₀ L h' all) (S : Pick (pre ++ R) all rest) (hY : Y y) :
    TurnSame h₀ L m s pre R Y y { s with heap := h', toks := tk' } := ⟨h', tk', rfl, F, fun p hp => N p (S.mem.1 p hp), hY⟩
theorem cr_same {P : Nat → Value → Prop} {S : Led → Prop} {Fin : List Value → Led → Prop} (R : Led) (Y : Nat → List Value → Prop) (n : Nat) (hS : S R)
    (turn : ∀ (i : Nat) (ys : List Value) (v : Value) (I : Addr) (oI : Obj) (C : Addr) (oC : Obj) (D : Addr) (m₂ : Str → Option Value) (h : Heap) (tk : Nat) (E' : Value → Shared → Prop), i < n → Y i ys → P i v → LCg.NsObj oC m₂ → m₂ x = some v → Fr h₀ L h m →
      News h₀ L h ((I, oI) :: (C, oC) :: (D, LCg.lst ys) :: R) → LCg.Off3 I C D R → ((@Ne Nat I C) ∧ (@Ne Nat I D) ∧ (@Ne Nat C D)) →
      wpAny (model prog w) A (eval elt (compEnvC scope cl C env)) (TurnSame h₀ L m { s with heap := h, toks := tk } [(I, oI), (C, oC), (D, LCg.lst ys)] R (fun y => Y (i + 1) (ys ++ [y]))) E' { s with heap := h, toks := tk })
    (fin : ∀ ys, Y n ys → Fin ys R) :
    ∀ k i ys, i + k = n → Y i ys → LCg.CompRest prog w A h₀ L m env elt x scope cl s S P Fin k i ys R := by
  intro k
  induction k with
  | zero =>
    intro i ys hi hY
    obtain rfl : i = n := by omega
    exact LCg.CompRest.zero (fin ys hY)
  | succ k ih =>
    intro i ys hi hY
    refine LCg.CompRest.succ fun v I oI C oC D m₂ h tk E' hP hC hx F N off ne => ?_
    refine wpAny_mono (turn i ys v I oI C oC D m₂ h tk E' (by omega) hY hP hC hx F N off ne) (fun y s₂ hy => ?_) fun _ _ e => e
    obtain ⟨h', tk', rfl, F', N', hY'⟩ := hy
    exact ⟨h', tk', _, rfl, F', N', off, hS, ih (i + 1) _ (by omega) hY'⟩
end
end Mine
end
section
open PySem PySem.W PyProof.Rows PySem.Calls PySem.Spec
set_option maxRecDepth 100000
namespace Mine
section
variable {prog : Program} {w : World} {A : Around} {E : Value → Shared → Prop} {s : Shared}
theorem tuple_index_role {l : Addr} {o : Obj} {t0 t1 t2 t3 u : Tok} {n r : Nat} {Q : Value → Shared → Prop} (ho : s.heap.get? l = some o) (hc : o.cls = .type "tuple") (hd : o.data = .seq #[.str "none" t0, .str "alternate" t1, .str "root" t2, .str "designated" t3] n)
    (hr : r < 4) (h : Q (.int r s.toks) { s with toks := s.toks + 1 }) : wpAny (model prog w) A (call (.builtin "tuple.index") [.ref l, .str (roleN r) u]) Q E s := by
  refine wpAny_call_entry PySem.F.slot_tuple_index ⟨o, ho, hc⟩ PySem.F.entry_tuple_index ?_ (PySem.F.args_tuple_index_2 _ _)
  unfold Builtin.«tuple.index»
  refine wpAny_bind ?_
  refine wpAny_of_eq (a := (Value.ref l, [Value.str (roleN r) u])) (by rfl) ?_
  dsimp only
  unfold Builtin.Tuple.tupleItemsOf
  refine wpAny_bind ?_
  refine wpAny_bind ?_
  refine wpAny_seqItems ho hd ?_
  refine wpAny_pure ?_
  refine wpAny_bind (wpAny_pure ?_)
  refine wpAny_bind (wpAny_pure ?_)
  simp only [Std.Legacy.Range.forIn_eq_forIn_range']
  rw [show List.range' 0 ([:min #[Value.str "none" t0, Value.str "alternate" t1, Value.str "root" t2, Value.str "designated" t3].size #[Value.str "none" t0, Value.str "alternate" t1, Value.str "root" t2, Value.str "designated" t3].size].size) = [0, 1, 2, 3] from by with_unfolding_all rfl]
  simp only [List.forIn_cons]
  refine wpAny_bind ?_
  refine wpAny_bind ?_
  match r, hr with
  | 0, _ =>
    refine wpAny_bind (wpAny_eqBool_str ?_)
    rw [show decide (("none" : Str) = roleN 0) = true from by decide +kernel]
    exact wpAny_bind (wpAny_bind (wpAny_mkInt (wpAny_pure (wpAny_pure (wpAny_pure (wpAny_pure ⟨_, rfl, h⟩))))))
  | 1, _ =>
    refine wpAny_bind (wpAny_eqBool_str ?_)
    rw [show decide (("none" : Str) = roleN 1) = false from by decide +kernel]
    refine wpAny_pure ?_
    refine wpAny_bind (wpAny_bind (wpAny_eqBool_str ?_))
    rw [show decide (("alternate" : Str) = roleN 1) = true from by decide +kernel]
    exact wpAny_bind (wpAny_bind (wpAny_mkInt (wpAny_pure (wpAny_pure (wpAny_pure (wpAny_pure ⟨_, rfl, h⟩))))))
  | 2, _ =>
    refine wpAny_bind (wpAny_eqBool_str ?_)
    rw [show decide (("none" : Str) = roleN 2) = false from by decide +kernel]
    refine wpAny_pure ?_
    refine wpAny_bind (wpAny_bind (wpAny_eqBool_str ?_))
    rw [show decide (("alternate" : Str) = roleN 2) = false from by decide +kernel]
    refine wpAny_pure ?_
    refine wpAny_bind (wpAny_bind (wpAny_eqBool_str ?_))
    rw [show decide (("root" : Str) = roleN 2) = true from by decide +kernel]
    exact wpAny_bind (wpAny_bind (wpAny_mkInt (wpAny_pure (wpAny_pure (wpAny_pure (wpAny_pure ⟨_, rfl, h⟩))))))
  | 3, _ =>
    refine wpAny_bind (wpAny_eqBool_str ?_)
    rw [show decide (("none" : Str) = roleN 3) = false from by decide +kernel]
    refine wpAny_pure ?_
    refine wpAny_bind (wpAny_bind (wpAny_eqBool_str ?_))
    rw [show decide (("alternate" : Str) = roleN 3) = false from by decide +kernel]
    refine wpAny_pure ?_
    refine wpAny_bind (wpAny_bind (wpAny_eqBool_str ?_))
    rw [show decide (("root" : Str) = roleN 3) = false from by decide +kernel]
    refine wpAny_pure ?_
    refine wpAny_bind (wpAny_bind (wpAny_eqBool_str ?_))
    rw [show decide (("designated" : Str) = roleN 3) = true from by decide +kernel]
    exact wpAny_bind (wpAny_bind (wpAny_mkInt (wpAny_pure (wpAny_pure (wpAny_pure (wpAny_pure ⟨_, rfl, h⟩))))))
theorem getMethod_tuple {l : Addr} {o : Obj} {pl : Sem Bool} {Q : Value × List Value → Shared → Prop} (ho : s.heap.get? l = some o) (hc : o.cls = .type "tuple") (hd : o.dict = none) (h : Q (.builtin "tuple.index", [.ref l]) s) :
    wpAny (model prog w) A (getMethod (.ref l) "index" pl) Q E s :=
  getMethod_builtin ⟨o, ho, hc⟩ PySem.F.plainAttrs_tuple PySem.F.slot_tuple_index PySem.F.type_tuple_index (fun a e => by cases e; exact ⟨o, ho, hd⟩) h
theorem list_index_role {h₀ : Heap} {L : Addr} {news : Led} {l : Addr} {t0 t1 t2 t3 u : Tok} {n r : Nat} {Q : Value → Shared → Prop} (N : News h₀ L s.heap news) (hm : (l, listOf [Value.str "none" t0, Value.str "alternate" t1, Value.str "root" t2, Value.str "designated" t3].toArray n) ∈ news)
    (hr : r < 4) (h : Q (.int r s.toks) { s with toks := s.toks + 1 }) : wpAny (model prog w) A (call (.builtin "list.index") [.ref l, .str (roleN r) u]) Q E s := by
  have ho := (N _ hm).1
  refine call_meets PySem.F.slot_list_index ⟨_, ho, rfl⟩ PySem.F.entry_list_index (PySem.F.args_list_index_2 _ _)
    (MeetsSeq.list_index l #[Value.str "none" t0, Value.str "alternate" t1, Value.str "root" t2, Value.str "designated" t3] n (.str (roleN r) u) (isStrOf (roleN r)) (fun y hy => eq_isStrOf (roleN r) u (.cons "none" t0 (.cons "alternate" t1 (.cons "root" t2 (.cons "designated" t3 .nil)))) y (by simpa using hy)) r (by exact hr) (by omega) ?_ ?_) ⟨ho, h⟩
  · match r, hr with
    | 0, _ => exact (by decide +kernel : ("none" == roleN 0) = true)
    | 1, _ => exact (by decide +kernel : ("alternate" == roleN 1) = true)
    | 2, _ => exact (by decide +kernel : ("root" == roleN 2) = true)
    | 3, _ => exact (by decide +kernel : ("designated" == roleN 3) = true)
  · intro m hm hlt
    match r, hr, m, hlt with
    | 1, _, 0, _ => exact (by decide +kernel : ("none" == roleN 1) = false)
    | 2, _, 0, _ => exact (by decide +kernel : ("none" == roleN 2) = false)
    | 2, _, 1, _ => exact (by decide +kernel : ("alternate" == roleN 2) = false)
    | 3, _, 0, _ => exact (by decide +kernel : ("none" == roleN 3) = false)
    | 3, _, 1, _ => exact (by decide +kernel : ("alternate" == roleN 3) = false)
    | 3, _, 2, _ => exact (by decide +kernel : ("root" == roleN 3) = false)
end
theorem int_no_bytes : typeLookup (.type "int") "__bytes__" = pure none := by rw [typeLookup_type, builtinLookup_eq_fast]; kernel_rfl
theorem int_has_index : typeLookup (.type "int") "__index__" = pure (some (.builtin "int.__index__")) := by rw [typeLookup_type, builtinLookup_eq_fast]; kernel_rfl
section
variable {prog : Program} {w : World} {A : Around} {E : Value → Shared → Prop} {s : Shared}
theorem bytes_one_new {t : Tok} {Q : Value → Shared → Prop} (hQ : ∀ t' k, Q (.bytes #[0] t') { s with toks := k }) :
    codeAny (model prog w) A (.call (.builtin "bytes.__new__") ⟨[.type "bytes", .int 1 t], []⟩) (wants Q E) s := by
  refine codeAny_of_tree ?_
  show wpAny _ A.in1 (do checkBuiltinCall "bytes.__new__" ⟨[.type "bytes", .int 1 t], []⟩; again (.builtin "bytes.__new__" ⟨[.type "bytes", .int 1 t], []⟩)) _ _ s
  refine wpAny_bind (wpAny_of_eq (F.bm_newCall _) (wpAny_pure ⟨plainId_quiet F.bm_plain _, codeAny_builtin F.bm_entry ?_⟩))
  rw [Around.under_plainId F.bm_plain _]
  have hT : s.TypeIs (.int 1 t) "int" := typeIs_int s 1 t
  unfold Builtin.«bytes.__new__»
  refine wpAny_bind (wpAny_of_eq (a := true) rfl ?_)
  refine bm_if_false rfl ?_
  refine wpAny_bind (wpAny_of_eq F.bm_sub ?_)
  refine bm_if_false rfl ?_
  refine wpAny_bind (wpAny_of_eq (F.bm_bind _) ?_)
  refine wpAny_bind (wpAny_of_eq (a := ()) rfl ?_)
  refine wpAny_bind (wpAny_of_eq (a := ()) rfl ?_)
  refine bm_if_false rfl ?_
  refine wpAny_bind (wpAny_specialOf hT int_no_bytes ?_)
  dsimp only
  refine wpAny_bind (wpAny_bind (wpAny_of_eq (a := (none : Option Str)) (by rfl) (wpAny_pure ?_)))
  refine bm_if_false rfl ?_
  refine wpAny_bind (wpAny_specialOf hT int_has_index ?_)
  refine bm_if_false rfl ?_
  refine wpAny_bind (wpAny_attempt (wpAny_of_eq (rfl : asIndex (.int 1 t) = pure 1) ?_))
  refine bm_if_false rfl ?_
  rw [if_neg (show ¬ ((1 : Int) < 0) by decide), if_neg (show ¬ ((1 : Int) > 2 ^ 63 - 34) by decide), if_neg (show ¬ (Builtin.Bytes.tooLong (Int.toNat 1) = true) by decide +kernel)]
  refine wpAny_bind (wpAny_rule ?_)
  refine wpAny_bind (wpAny_mkBytes ?_ (by decide))
  show wpAny _ _ (if (Value.type "bytes" == Value.type "bytes") = true then _ else _) _ _ _
  refine bm_if_true (by decide) ?_
  first
    | exact wpAny_pure (hQ _ _)
    | exact wpAny_bind (wpAny_pure (wpAny_pure (hQ _ _)))
theorem bytes_one {t : Tok} {Q : Value → Shared → Prop} (hQ : ∀ t' k, KBw.bInts #[0] = [0] → Q (.bytes #[0] t') { s with toks := k }) : wpAny (model prog w) A (call (.type "bytes") [.int 1 t]) Q E s := by
  refine callType_codes (Q₁ := fun obj s₁ => s₁.TypeIs obj "bytes" ∧ Q obj s₁) F.bm_called (F.bm_typeCall _) F.entry_object_init
    (bytes_one_new fun t' k => ⟨PySem.W.typeIs_bytes _ _ _, hQ t' k rfl⟩) fun obj s₁ h₁ => ?_
  exact ⟨h₁.1, F.args_object_init_2 obj _, object_init_meets F.bm_called.init.lookup F.bm_called.made (by decide) prog w A.in1 _ s₁ ⟨h₁.1, rfl, h₁.2⟩⟩
end
end Mine
end
section
open PySem PySem.W PyProof.Rows PySem.Calls PySem.Spec
set_option maxRecDepth 100000
namespace Mine
section
variable {prog : Program} {w : World} {A : Around} {E : Value → Shared → Prop} {s : Shared} {h₀ : Heap} {L : Addr} {m : Str → Option Value} {env : Env}
structure ESrc (prog : Program) (w : World) (A : Around) (h₀ : Heap) (L : Addr) (m : Str → Option Value) (env : Env) (elt : PySem.Expr) (a b : Str) (scope : Scope) (cl : List (Str × Addr)) (Q : Value → Shared → Prop) (e it l : Addr) (vs : List Value) (k : Nat) (R : Led) (Y : Nat → List Value → Prop) (s₁ : Shared) : Prop where
  hh : A.handled = none
  hei : e ≠ it
  hle : l ≠ e
  hli : l ≠ it
  en : IsEnum s₁.heap e it 0 .none
  iter : s₁.heap.IsListIter it l 0
  F : Fr h₀ L s₁.heap m
  N : News h₀ L s₁.heap R
  mem : (l, listOf vs.toArray k) ∈ R
  e0 : h₀.get? e = none
  i0 : h₀.get? it = none
  hLe : L ≠ e
  hLi : L ≠ it
  off : ∀ p ∈ R, p.1 ≠ e ∧ p.1 ≠ it
  size : vs.length ≤ sizeLine
  y0 : Y 0 []
  turn : ∀ (i : Nat) (ys : List Value) (x : Value) (t : Tok) (oe oit : Obj) (C : Addr) (oC : Obj) (D : Addr) (m₂ : Str → Option Value) (h : Heap) (tk : Nat) (E' : Value → Shared → Prop), vs[i]? = some x → Y i ys → LCg.NsObj oC m₂ → m₂ a = some (.int i t) → m₂ b = some x → Fr h₀ L h m →
    News h₀ L h ((e, oe) :: (it, oit) :: (C, oC) :: (D, LCg.lst ys) :: R) → (∀ p ∈ R, p.1 ≠ C ∧ p.1 ≠ D) → C ≠ D →
    wpAny (model prog w) A (eval elt (compEnvC scope cl C env)) (TurnSame h₀ L m { s₁ with heap := h, toks := tk } [(e, oe), (it, oit), (C, oC), (D, LCg.lst ys)] R (fun y => Y (i + 1) (ys ++ [y]))) E' { s₁ with heap := h, toks := tk }
  fin : ∀ (ys : List Value) (D : Addr) (h : Heap) (tk : Nat), Y vs.length ys → Fr h₀ L h m → News h₀ L h ((D, LCg.lst ys) :: R) → (∀ p ∈ R, p.1 ≠ D) → Q (.ref D) { s₁ with heap := h, toks := tk }
theorem ListComp_E {elt iter : PySem.Expr} {a b : Str} {pa pb tp : Pos} {kk : Nat} {scope : Scope} {cl : List (Str × Addr)} {pos : Pos} {Q : Value → Shared → Prop} (F₀ : Fr h₀ L s.heap m)
    (hclos : closureFor scope env = pure cl) (hcell : ∀ y ∈ scope.names, y.2 ≠ .cell) (hkind : scope.kind = .function)
    (hnames : ∀ y ∈ scope.names, y.2 = .local → scope.names.lookup y.1 = some .local) (hxa : scope.names.lookup a = some .local) (hxb : scope.names.lookup b = some .local) (hab : ¬ a = b)
    (h : wpAny (model prog w) A (eval iter env) (fun xv s₁ => ∃ e it l vs k R Y, xv = .ref e ∧ ESrc prog w A h₀ L m env elt a b scope cl Q e it l vs k R Y s₁) E s)
    (hs : ∀ x, foldedSetIterable iter env x = pure x := by intro _; rfl) :
    wpAny (model prog w) A (eval (.ListComp elt [⟨.Tuple [.Name a pa, .Name b pb] kk tp, iter, [], 0⟩] scope pos) env) Q E s := by
  rw [eval_ListComp]
  refine wpAny_comprehension_free (use := none) rfl hs hclos hkind hnames (wpAny_mono h (fun xv s₁ h₁ => ?_) fun _ _ e => e)
  obtain ⟨e, it, l, vs, k, R, Y, rfl, S⟩ := h₁
  have W := (WalksT.enumerate (prog := prog) (w := w) S.hh e it l S.hei S.hle S.hli vs.toArray).toU
  refine wpAny_pyIter_enum S.en ?_
  refine wpAny_newObj_type (wpAny_newFunctionEnv hcell (by intro y hy; simp at hy) (fun h₁ hns₁ hsb₁ => ?_) hkind)
  dsimp only at hns₁ hsb₁ ⊢
  -- the two new places: the list D, the block's own names C
  generalize hD : s₁.heap.objs.size = D at hns₁ hsb₁ ⊢
  generalize hH2 : s₁.heap.push { cls := .type "list", dict := none, data := .seq ([] : List Value).toArray } = H2 at hns₁ hsb₁ ⊢
  have hC : H2.objs.size = D + 1 := by rw [← hH2, Heap.size_push, hD]
  generalize H2.objs.size = C at hC hns₁ hsb₁ ⊢
  have hDC : D ≠ C := by rw [hC]; exact Nat.ne_of_lt (Nat.lt_succ_self _)
  have lt2 : ∀ b o, s₁.heap.get? b = some o → b ≠ C ∧ b ≠ D := fun b o x => by
    have q : b < D := hD ▸ Heap.lt_size x
    exact ⟨by rw [hC]; exact Nat.ne_of_lt (Nat.lt_succ_of_lt q), Nat.ne_of_lt q⟩
  have old : ∀ b o, s₁.heap.get? b = some o → h₁.get? b = some o := fun b o x => hsb₁.extBut b o (lt2 b o x).1 (Heap.get?_push_of_some _ (hH2 ▸ Heap.get?_push_of_some _ x))
  have hacc : h₁.get? D = some (LCg.lst []) := hsb₁.extBut _ _ hDC (Heap.get?_push_of_some _ (by rw [← hH2, ← hD]; exact Heap.get?_push_size _ rfl))
  have fresh : ∀ b, D ≤ b → h₀.get? b = none := fun b hb => by
    cases q : h₀.get? b with
    | none => rfl
    | some o => exact absurd (hD ▸ Heap.lt_size (S.F.keep b o q)) (Nat.not_lt.mpr hb)
  have hD₀ : h₀.get? D = none := fresh _ (Nat.le_refl _)
  have hC₀ : h₀.get? C = none := fresh _ (by rw [hC]; exact Nat.le_succ _)
  obtain ⟨oL, _, _, hoL, _⟩ := id S.F.ns
  have hCL : C ≠ L := Ne.symm (lt2 _ _ hoL).1
  have hDL : D ≠ L := Ne.symm (lt2 _ _ hoL).2
  have hCe : C ≠ e := Ne.symm (lt2 _ _ S.en).1
  have hDe : D ≠ e := Ne.symm (lt2 _ _ S.en).2
  obtain ⟨oi, hoi, _⟩ := id S.iter
  have hCi : C ≠ it := Ne.symm (lt2 _ _ hoi).1
  have hDi : D ≠ it := Ne.symm (lt2 _ _ hoi).2
  have hlm := (S.N _ S.mem).1
  have offR : ∀ p ∈ R, p.1 ≠ C ∧ p.1 ≠ D := fun p hp => lt2 _ _ (S.N p hp).1
  have loop : ∀ s₃ : Shared, s₃ = { s₁ with heap := h₁, toks := s₁.toks + ([] : List (Str × Value)).length } →
      codeAny (model prog w) A (.compLoop (.ListComp elt [⟨.Tuple [.Name a pa, .Name b pb] kk tp, iter, [], 0⟩] scope pos) 0 (.ref e) (.ref D) (compEnvC scope cl C env))
        (compPost (model prog w) A E none Q (.ref D) C) s₃ := by
    rintro s₃ rfl
    refine kcp_loop (fun n s' => ∃ h' tk i ys m', s' = { s₁ with heap := h', toks := tk } ∧ i ≤ vs.length ∧ n = vs.length + 1 - i ∧ ys.length = i ∧ ((∃ old, IsEnum h' e it i old) ∧ h'.IsListIter it l i) ∧ Fr h₀ L h' m ∧ h'.Ns C m' ∧ News h₀ L h' ((D, LCg.lst ys) :: R) ∧ Y i ys) ?_ (vs.length + 1)
      ⟨h₁, _, 0, [], _, rfl, Nat.zero_le _, rfl, rfl, ⟨⟨_, old _ _ S.en⟩, S.iter.at fun o x => old _ o x⟩, S.F.keeps old, hns₁, fun p hp => ?_, S.y0⟩
    · rintro n s' ⟨h', tk, i, ys, m', rfl, hi, rfl, hyl, st, F', hn', N', hY⟩
      have hl' : h'.IsList l vs.toArray := ⟨_, (N' _ (List.mem_cons_of_mem _ S.mem)).1, rfl, _, rfl⟩
      by_cases hlt : i < vs.length
      · refine W.item i _ _ _ (by simpa using hlt) ⟨st.1, st.2, hl'⟩ fun T vals h₂ tk₂ hP hT hM hk₂ => ?_
        obtain ⟨t, x, hx, rfl⟩ := hP
        obtain ⟨⟨x', hout⟩, hit₂, hl₂, hTe, hTi⟩ := id hM
        refine W.go _ _ _ i T _ _ _ hM fun h₃ st₃ hk₃ => ?_
        have hT₃ : h₃.IsTuple T #[.int i t, x] := by
          obtain ⟨o, q, r⟩ := hT
          exact ⟨o, hk₃ T o (by simp [hTe, hTi]) q, r⟩
        have up₃ : ∀ c o, c ≠ e → c ≠ it → h'.get? c = some o → h₃.get? c = some o := fun c o c1 c2 q => hk₃ c o (by simp [c1, c2]) (hk₂ c o (by simp [c1, c2]) q)
        refine kcp_assign (env := compEnvC scope cl C env) S.hh hT₃ (lookup_relabel_local hxa) (lookup_relabel_local hxb) (by simp [compEnvC, relabel, hkind]) (hn'.at' fun o q => up₃ _ o hCe hCi q) fun h₄ tk₄ hn₄ hs₄ => ?_
        have up : ∀ c o, c ≠ e → c ≠ it → c ≠ C → h'.get? c = some o → h₄.get? c = some o := fun c o c1 c2 c3 q => hs₄ c o c3 (up₃ c o c1 c2 q)
        obtain ⟨⟨old₃, he₃⟩, hit₃, _⟩ := st₃
        have he₄ : h₄.get? e = some _ := hs₄ e _ (Ne.symm hCe) he₃
        obtain ⟨oe, hoe, hEn⟩ : ∃ oe : Obj, h₄.get? e = some oe ∧ ∀ g : Heap, g.get? e = some oe → IsEnum g e it ((i + 1 : Nat) : Int) old₃ := ⟨_, he₄, fun g q => q⟩
        obtain ⟨oit, hoit, hic⟩ := hit₃
        have hit₄ : h₄.get? it = some oit := hs₄ it _ (Ne.symm hCi) hoit
        obtain ⟨oC, heC, hoC⟩ := LCg.ns_obj hn₄
        have F₄ : Fr h₀ L h₄ m := ⟨F'.ns.at' fun o q => up _ o S.hLe S.hLi (Ne.symm hCL) q, fun c o q => up c o (fun z => by rw [z, S.e0] at q; cases q) (fun z => by rw [z, S.i0] at q; cases q) (fun z => by rw [z, hC₀] at q; cases q) (F'.keep c o q), F'.above⟩
        have N₄ : News h₀ L h₄ ((e, oe) :: (it, oit) :: (C, oC) :: (D, LCg.lst ys) :: R) := fun q hq => by
          rcases List.mem_cons.mp hq with rfl | hq
          · exact ⟨hoe, Ne.symm S.hLe, S.e0⟩
          · rcases List.mem_cons.mp hq with rfl | hq
            · exact ⟨hit₄, Ne.symm S.hLi, S.i0⟩
            · rcases List.mem_cons.mp hq with rfl | hq
              · exact ⟨heC, hCL, hC₀⟩
              · have z := N' q hq
                rcases List.mem_cons.mp hq with rfl | hq
                · exact ⟨up _ _ hDe hDi hDC z.1, z.2⟩
                · exact ⟨up _ _ (S.off q hq).1 (S.off q hq).2 (offR q hq).1 z.1, z.2⟩
        refine wpAny_mono (S.turn i ys x t oe oit C oC D _ h₄ _ _ (by simpa using hx) hY hoC (by simp [hab]) (by simp) F₄ N₄ offR (Ne.symm hDC)) (fun y s₅ h₅ => ?_) fun _ _ q => q
        obtain ⟨h₅, tk₅, rfl, F₅, N₅, hY₅⟩ := h₅
        simp only [List.cons_append, List.nil_append] at N₅
        have ze := (N₅ (e, oe) List.mem_cons_self).1
        have zi := (N₅ (it, oit) (List.mem_cons_of_mem _ List.mem_cons_self)).1
        have zC := (N₅ (C, oC) (List.mem_cons_of_mem _ (List.mem_cons_of_mem _ List.mem_cons_self))).1
        have zD := (N₅ (D, LCg.lst ys) (List.mem_cons_of_mem _ (List.mem_cons_of_mem _ (List.mem_cons_of_mem _ List.mem_cons_self)))).1
        have NR : News h₀ L h₅ R := fun q hq => N₅ q (List.mem_cons_of_mem _ (List.mem_cons_of_mem _ (List.mem_cons_of_mem _ (List.mem_cons_of_mem _ hq))))
        refine append_at (hsz := by show ys.toArray.size ≤ sizeLine; rw [List.size_toArray, hyl]; exact Nat.le_trans hi S.size) zD fun h₆ hs₆ hD₆ => ?_
        refine ⟨vs.length + 1 - (i + 1), by omega, h₆, tk₅, i + 1, ys ++ [y], _, rfl, hlt, rfl, by rw [List.length_append, List.length_singleton, hyl], ⟨⟨_, hEn h₆ (hs₆.extBut e oe (Ne.symm hDe) ze)⟩, ⟨oit, hs₆.extBut it oit (Ne.symm hDi) zi, hic⟩⟩, F₅.change hs₆ hDL hD₀,
          (hoC.ns zC).sameBut hs₆ (Ne.symm hDC), fun q hq => ?_, hY₅⟩
        rcases List.mem_cons.mp hq with rfl | hq
        · exact ⟨hD₆.trans (congrArg some (LCg.lst_snoc ys y)), hDL, hD₀⟩
        · exact ⟨hs₆.extBut _ _ (offR q hq).2 (NR q hq).1, (NR q hq).2⟩
      · have hin : i = vs.length := Nat.le_antisymm hi (Nat.not_lt.mp hlt)
        subst hin
        refine W.done _ _ _ ⟨by simpa using st.1, by simpa using st.2, hl'⟩ fun h₂ tk₂ hk₂ => ?_
        have up₂ : ∀ c o, c ≠ e → c ≠ it → h'.get? c = some o → h₂.get? c = some o := fun c o c1 c2 q => hk₂ c o (by simp [c1, c2]) q
        have F₂ : Fr h₀ L h₂ m := ⟨F'.ns.at' fun o q => up₂ _ o S.hLe S.hLi q, fun c o q => up₂ c o (fun z => by rw [z, S.e0] at q; cases q) (fun z => by rw [z, S.i0] at q; cases q) (F'.keep c o q), F'.above⟩
        refine ⟨m', hn'.at' fun o q => up₂ _ o hCe hCi q, fun h'' hs'' => S.fin ys D h'' tk₂ hY (F₂.change hs'' hCL hC₀) (fun p hp => ?_) fun p hp => (offR p hp).2⟩
        rcases List.mem_cons.mp hp with rfl | hp
        · exact ⟨hs''.extBut _ _ hDC (up₂ _ _ hDe hDi (N' _ List.mem_cons_self).1), hDL, hD₀⟩
        · exact ⟨hs''.extBut _ _ (offR p hp).1 (up₂ _ _ (S.off p hp).1 (S.off p hp).2 (N' p (List.mem_cons_of_mem _ hp)).1), (N' p (List.mem_cons_of_mem _ hp)).2⟩
    · rcases List.mem_cons.mp hp with rfl | hp
      · exact ⟨hacc, hDL, hD₀⟩
      · exact ⟨old _ _ (S.N p hp).1, (S.N p hp).2⟩
  exact codeAny_compStart_list (loop _ rfl) (wpAny_pyIter_enum (old _ _ S.en) (loop _ rfl))
theorem enum_src {elt : PySem.Expr} {a b : Str} {scope : Scope} {cl : List (Str × Addr)} {Q : Value → Shared → Prop} {l : Addr} {vs : List Value} {k : Nat} {R : Led} (Y : Nat → List Value → Prop) (hh : A.handled = none) (F : Fr h₀ L s.heap m) (N : News h₀ L s.heap R) (hm : (l, listOf vs.toArray k) ∈ R) (hz : vs.length ≤ sizeLine) (y0 : Y 0 [])
    (turn : ∀ (g : Heap) (e it : Addr), (∀ p ∈ R, p.1 ≠ e ∧ p.1 ≠ it) → e ≠ it → ∀ (i : Nat) (ys : List Value) (x : Value) (t : Tok) (oe oit : Obj) (C : Addr) (oC : Obj) (D : Addr) (m₂ : Str → Option Value) (h : Heap) (tk : Nat) (E' : Value → Shared → Prop), vs[i]? = some x → Y i ys → LCg.NsObj oC m₂ → m₂ a = some (.int i t) → m₂ b = some x → Fr h₀ L h m →
      News h₀ L h ((e, oe) :: (it, oit) :: (C, oC) :: (D, LCg.lst ys) :: R) → (∀ p ∈ R, p.1 ≠ C ∧ p.1 ≠ D) → C ≠ D →
      wpAny (model prog w) A (eval elt (compEnvC scope cl C env)) (TurnSame h₀ L m { s with heap := h, toks := tk } [(e, oe), (it, oit), (C, oC), (D, LCg.lst ys)] R (fun y => Y (i + 1) (ys ++ [y]))) E' { s with heap := h, toks := tk })
    (fin : ∀ (ys : List Value) (D : Addr) (h : Heap) (tk : Nat), Y vs.length ys → Fr h₀ L h m → News h₀ L h ((D, LCg.lst ys) :: R) → (∀ p ∈ R, p.1 ≠ D) → Q (.ref D) { s with heap := h, toks := tk }) :
    wpAny (model prog w) A (call (.type "enumerate") [.ref l]) (fun xv s₁ => ∃ e it l vs k R Y, xv = .ref e ∧ ESrc prog w A h₀ L m env elt a b scope cl Q e it l vs k R Y s₁) E s := by
  have hg := (N _ hm).1
  have hlt : l < s.heap.objs.size := Heap.lt_size hg
  refine call_enumerate_list ⟨_, hg, rfl, _, rfl⟩ fun h' hE hI hsz hk => ?_
  have new : ∀ b, s.heap.objs.size ≤ b → h₀.get? b = none := fun b hb => by
    cases q : h₀.get? b with
    | none => rfl
    | some o => exact absurd (Heap.lt_size (F.keep b o q)) (Nat.not_lt.mpr hb)
  have offs : ∀ p ∈ R, p.1 ≠ s.heap.objs.size + 1 ∧ p.1 ≠ s.heap.objs.size := fun p hp => by
    have q := Heap.lt_size (N p hp).1
    exact ⟨Nat.ne_of_lt (Nat.lt_succ_of_lt q), Nat.ne_of_lt q⟩
  have q := F.ns.lt
  exact ⟨s.heap.objs.size + 1, s.heap.objs.size, l, vs, k, R, Y, rfl, {
    hh := hh, hei := Nat.succ_ne_self _, hle := Nat.ne_of_lt (Nat.lt_succ_of_lt hlt), hli := Nat.ne_of_lt hlt, en := hE, iter := hI, F := F.keeps hk, N := N.grown hk, mem := hm, e0 := new _ (Nat.le_succ _), i0 := new _ (Nat.le_refl _),
    hLe := Nat.ne_of_lt (Nat.lt_succ_of_lt q), hLi := Nat.ne_of_lt q, off := offs, size := hz, y0 := y0,
    turn := fun i ys x t oe oit C oC D m₂ h tk E' => turn h' _ _ offs (Nat.succ_ne_self _) i ys x t oe oit C oC D m₂ h tk E', fin := fun ys D h tk => fin ys D h tk }⟩
end
def flagKs (bs : List Bool) (i : Nat) : List Int := (List.range i).map fun j => 2 ^ j * b2i (bs.getD j false)
theorem flagKs_succ (bs : List Bool) (i : Nat) : flagKs bs (i + 1) = flagKs bs i ++ [2 ^ i * b2i (bs.getD i false)] := by unfold flagKs; rw [List.range_succ, List.map_append]; rfl
theorem flag_turn {bs : List Bool} {ys : List Value} {i : Nat} {b : Bool} {t : Tok} (hY : IntsAre ys (flagKs bs i)) (hb : bs[i]? = some b) : IntsAre (ys ++ [.int (2 ^ Int.toNat (i : Int) * (if b = true then 1 else 0)) t]) (flagKs bs (i + 1)) := by
  rw [flagKs_succ, Int.toNat_natCast]
  have e : bs.getD i false = b := by rw [List.getD_eq_getElem?_getD, hb]; rfl
  rw [e]
  exact hY.append (.cons _ t .nil)
theorem flag_sum (a b c d e f : Bool) : (flagKs [a, b, false, false, c, d, e, f] 8).sum = b2i a + 2 * b2i b + 16 * b2i c + 32 * b2i d + 64 * b2i e + 128 * b2i f := by
  show 2 ^ 0 * b2i a + (2 ^ 1 * b2i b + (2 ^ 2 * b2i false + (2 ^ 3 * b2i false + (2 ^ 4 * b2i c + (2 ^ 5 * b2i d + (2 ^ 6 * b2i e + (2 ^ 7 * b2i f + 0))))))) = _
  simp only [b2i, Bool.false_eq_true, if_false]
  omega
inductive BL : List Value → List Bool → Prop
  | nil : BL [] []
  | cons {b : Bool} {vs : List Value} {bs : List Bool} : BL vs bs → BL (.bool b :: vs) (b :: bs)
theorem BL.at {vs : List Value} {bs : List Bool} (h : BL vs bs) : ∀ {i : Nat} {x : Value}, vs[i]? = some x → ∃ b, x = .bool b ∧ bs[i]? = some b := by
  induction h with
  | nil => intro i x hx; simp at hx
  | cons _ ih =>
    intro i x hx
    cases i with
    | zero => exact ⟨_, by simpa using hx.symm, rfl⟩
    | succ i => exact ih (by simpa using hx)
theorem BL.len {vs : List Value} {bs : List Bool} (h : BL vs bs) : vs.length = bs.length := by
  induction h with
  | nil => rfl
  | cons _ ih => rw [List.length_cons, List.length_cons, ih]
section
variable {prog : Program} {w : World} {A : Around} {E : Value → Shared → Prop} {s : Shared} {h₀ : Heap} {L : Addr} {m : Str → Option Value} {env : Env}
theorem enum_flags {elt : PySem.Expr} {a b : Str} {scope : Scope} {cl : List (Str × Addr)} {Q : Value → Shared → Prop} {l : Addr} {vs : List Value} {bs : List Bool} {k : Nat} {R : Led} {S : Int} (hh : A.handled = none) (F : Fr h₀ L s.heap m) (N : News h₀ L s.heap R) (hm : (l, listOf vs.toArray k) ∈ R) (hb : BL vs bs) (hz : vs.length ≤ sizeLine) (hS : (flagKs bs bs.length).sum = S)
    (turn : ∀ (e it : Addr), (∀ p ∈ R, p.1 ≠ e ∧ p.1 ≠ it) → e ≠ it → ∀ (i : Nat) (ys : List Value) (x : Bool) (t : Tok) (oe oit : Obj) (C : Addr) (oC : Obj) (D : Addr) (m₂ : Str → Option Value) (h : Heap) (tk : Nat) (E' : Value → Shared → Prop), bs[i]? = some x → i < bs.length → IntsAre ys (flagKs bs i) → LCg.NsObj oC m₂ → m₂ a = some (.int i t) → m₂ b = some (.bool x) → Fr h₀ L h m →
      News h₀ L h ((e, oe) :: (it, oit) :: (C, oC) :: (D, LCg.lst ys) :: R) → (∀ p ∈ R, p.1 ≠ C ∧ p.1 ≠ D) → C ≠ D →
      wpAny (model prog w) A (eval elt (compEnvC scope cl C env)) (TurnSame h₀ L m { s with heap := h, toks := tk } [(e, oe), (it, oit), (C, oC), (D, LCg.lst ys)] R (fun y => IntsAre (ys ++ [y]) (flagKs bs (i + 1)))) E' { s with heap := h, toks := tk })
    (fin : ∀ (ys : List Value) (ks : List Int) (D : Addr) (h : Heap) (tk : Nat), IntsAre ys ks → ks.sum = S → ks.length = bs.length → Fr h₀ L h m → News h₀ L h ((D, LCg.lst ys) :: R) → (∀ p ∈ R, p.1 ≠ D) → Q (.ref D) { s with heap := h, toks := tk }) :
    wpAny (model prog w) A (call (.type "enumerate") [.ref l]) (fun xv s₁ => ∃ e it l vs k R Y, xv = .ref e ∧ ESrc prog w A h₀ L m env elt a b scope cl Q e it l vs k R Y s₁) E s := by
  refine enum_src (fun i ys => IntsAre ys (flagKs bs i)) hh F N hm hz .nil (fun g e it off hei i ys x t oe oit C oC D m₂ h tk E' hx hY hC hma hmb F N off2 hCD => ?_) fun ys D h tk hY F N off => ?_
  · obtain ⟨x, rfl, hx'⟩ := hb.at hx
    exact turn e it off hei i ys x t oe oit C oC D m₂ h tk E' hx' (List.getElem?_eq_some_iff.mp hx').1 hY hC hma hmb F N off2 hCD
  · exact fin ys _ D h tk (hb.len ▸ hY) hS (by unfold flagKs; simp) F N off
end
theorem OctsAre.nil : OctsAre [] [] := ⟨.nil, fun k hk => by cases hk⟩
theorem OctsAre.cons {k : Int} {t : Tok} {vs : List Value} {ks : List Int} (h0 : 0 ≤ k) (h1 : k < 256) (h : OctsAre vs ks) : OctsAre (.int k t :: vs) (k :: ks) :=
  ⟨.cons k t h.1, fun x hx => by
    rcases List.mem_cons.mp hx with rfl | hx
    · exact ⟨h0, h1⟩
    · exact h.2 x hx⟩
theorem OctsAre.append {vs ws : List Value} {ks ls : List Int} (h : OctsAre vs ks) (g : OctsAre ws ls) : OctsAre (vs ++ ws) (ks ++ ls) :=
  ⟨h.1.append g.1, fun x hx => by
    rcases List.mem_append.mp hx with hx | hx
    · exact h.2 x hx
    · exact g.2 x hx⟩
theorem flW_bd {ks : List Int} {a b c d e f : Bool} {r : Nat} (hS : ks.sum = b2i a + 2 * b2i b + 16 * b2i c + 32 * b2i d + 64 * b2i e + 128 * b2i f) (hr : r < 4) : 0 ≤ ks.sum + 4 * (r : Int) ∧ ks.sum + 4 * (r : Int) < 256 := by
  rw [hS]
  exact six_bd _ _ _ _ _ _ hr
section
variable {prog : Program} {w : World} {A : Around} {E : Value → Shared → Prop} {s : Shared} {h₀ : Heap} {L : Addr} {m : Str → Option Value} {news : Led}
theorem add_octs {a b : Addr} {n k : Nat} {xs ys : List Value} {ks ls : List Int} {r1 r2 : Led} {Q : Value → Shared → Prop} (F : Fr h₀ L s.heap m) (N : News h₀ L s.heap news) (ha : Del (a, listOf xs.toArray n) news r1) (hb : Del (b, listOf ys.toArray k) r1 r2)
    (hx : OctsAre xs ks) (hy : OctsAre ys ls) (hz : ks.length + ls.length ≤ 16777216)
    (h : ∀ D zs h', Fr h₀ L h' m → News h₀ L h' ((D, listOf (List.toArray zs) 0) :: r2) → (∀ p ∈ r2, p.1 < D) → OctsAre zs (ks ++ ls) → Q (.ref D) { s with heap := h' }) :
    wpAny (model prog w) A (binaryOp .Add (.ref a) (.ref b)) Q E s :=
  have sub : ∀ p ∈ r2, p ∈ news := fun p hp => ha.mem.2 p (hb.mem.2 p hp)
  add_arrays F N (News.isList N ha.mem.1) (News.isList N (ha.mem.2 _ hb.mem.1)) (fun h' F' N' => h _ (xs ++ ys) h' F' (fun p hp => N' p (by
      rcases List.mem_cons.mp hp with rfl | hp
      · exact List.mem_cons_self
      · exact List.mem_cons_of_mem _ (sub p hp))) (fun p hp => Heap.lt_size (N p (sub p hp)).1) (hx.append hy))
    (by rw [List.size_toArray, List.size_toArray, hx.1.length, hy.1.length, sizeLine_eq]; exact hz)
end
theorem pw_lo {pp pn : Int} (h0 : 0 ≤ pp) (h1 : 0 ≤ pn) : 0 ≤ 16 * pp + pn.fdiv 256 := by
  rw [Int.fdiv_eq_ediv_of_nonneg _ (by decide)]; omega
theorem pw_hi {pp pn : Int} (h0 : pp < 16) (h1 : pn < 4096) : 16 * pp + pn.fdiv 256 < 256 := by
  rw [Int.fdiv_eq_ediv_of_nonneg _ (by decide)]; omega
theorem fm256_lo {a : Int} : 0 ≤ a.fmod 256 := fm_lo (by decide)
theorem fm256_hi {a : Int} : a.fmod 256 < 256 := fm_hi (by decide)
structure CutMark : Prop where
  mark :: (one : True)
def CutInt (h₀ : Heap) (L : Addr) (m : Str → Option Value) (s : Shared) (keep : Led) (c : Int) (v : Value) (s' : Shared) : Prop :=
  ∃ t h' tk', v = .int c t ∧ s' = { s with heap := h', toks := tk' } ∧ Fr h₀ L h' m ∧ News h₀ L h' keep
section
variable {prog : Program} {w : World} {A : Around} {E : Value → Shared → Prop} {s : Shared} {h₀ : Heap} {L : Addr} {m : Str → Option Value} {news keep : Led} {c : Int}
theorem CutInt.intro {t : Tok} {h' : Heap} {tk' : Nat} {all rest : Led} (F : Fr h₀ L h' m) (N : News h₀ L h' all) (S : Pick keep all rest) : CutInt h₀ L m s keep c (.int c t) { s with heap := h', toks := tk' } :=
  ⟨t, h', tk', rfl, rfl, F, fun p hp => N p (S.mem.1 p hp)⟩
theorem CutInt.introE {d : Int} {t : Tok} {h' : Heap} {tk' : Nat} {all rest : Led} (e : d = c) (F : Fr h₀ L h' m) (N : News h₀ L h' all) (S : Pick keep all rest) : CutInt h₀ L m s keep c (.int d t) { s with heap := h', toks := tk' } :=
  ⟨t, h', tk', by rw [e], rfl, F, fun p hp => N p (S.mem.1 p hp)⟩
theorem cut_int {x : Sem Value} {Q : Value → Shared → Prop} (_F : Fr h₀ L s.heap m) (_N : News h₀ L s.heap keep) (h1 : CutMark → wpAny (model prog w) A x (CutInt h₀ L m s keep c) E s)
    (h2 : ∀ t h' tk', Fr h₀ L h' m → News h₀ L h' keep → Q (.int c t) { s with heap := h', toks := tk' }) : wpAny (model prog w) A x Q E s :=
  wpAny_mono (h1 ⟨trivial⟩) (fun v s' hv => by obtain ⟨t, h', tk', rfl, rfl, F, N⟩ := hv; exact h2 t h' tk' F N) fun _ _ e => e
theorem cut_int1 {p : Addr × Obj} {x : Sem Value} {Q : Value → Shared → Prop} (_F : Fr h₀ L s.heap m) (_N : News h₀ L s.heap (p :: keep)) (h1 : CutMark → wpAny (model prog w) A x (CutInt h₀ L m s keep c) E s)
    (h2 : ∀ t h' tk', Fr h₀ L h' m → News h₀ L h' keep → Q (.int c t) { s with heap := h', toks := tk' }) : wpAny (model prog w) A x Q E s :=
  cut_int _F (fun q hq => _N q (List.mem_cons_of_mem _ hq)) h1 h2
end
theorem flN_bd (a b c d e f : Bool) {r : Nat} (hr : r < 4) : 0 ≤ b2i a + 2 * b2i b + 16 * b2i c + 32 * b2i d + 64 * b2i e + 128 * b2i f + 4 * (r : Int) ∧ b2i a + 2 * b2i b + 16 * b2i c + 32 * b2i d + 64 * b2i e + 128 * b2i f + 4 * (r : Int) < 256 := by
  exact six_bd _ _ _ _ _ _ hr
theorem octs2_eq (x : Int) : octs 2 x = [x / 256 % 256, x % 256] := by
  show [x / 256 ^ 1 % 256, x / 256 ^ 0 % 256] = _
  rw [show (256 : Int) ^ 1 = 256 from rfl, show (256 : Int) ^ 0 = 1 from rfl, Int.ediv_one]
theorem octs2_256 {a : Int} (h0 : 0 ≤ a) (h1 : a < 256) : octs 2 (256 * a) = [a, 0] := by
  rw [octs2_eq, show 256 * a / 256 % 256 = a from by omega, show 256 * a % 256 = 0 from by omega]
theorem port_lo {pp pn : Int} : (4096 * pp + pn) % 256 = pn % 256 := by
  rw [show (4096 : Int) * pp = 256 * (16 * pp) from by rw [← Int.mul_assoc]; rfl, Int.add_comm, Int.add_mul_emod_self_left]
theorem port_hi {pp pn : Int} : (4096 * pp + pn) / 256 = 16 * pp + pn / 256 := by
  rw [show (4096 : Int) * pp = 256 * (16 * pp) from by rw [← Int.mul_assoc]; rfl, Int.add_comm, Int.add_mul_ediv_left _ _ (by decide), Int.add_comm]
theorem octs2_port {pp pn : Int} (h0 : 0 ≤ pp) (h1 : pp < 16) (h2 : 0 ≤ pn) (h3 : pn < 4096) : octs 2 (4096 * pp + pn) = [16 * pp + pn.fdiv 256, pn.fmod 256] := by
  have e : pn.fdiv 256 = pn / 256 := Int.fdiv_eq_ediv_of_nonneg _ (by decide)
  rw [octs2_eq, port_lo, port_hi, Int.fmod_eq_emod_of_nonneg _ (by decide), e, Int.emod_eq_of_lt (Int.add_nonneg (Int.mul_nonneg (by decide) h0) (Int.ediv_nonneg h2 (by decide))) (e ▸ pw_hi h1 h3)]
theorem octs2_0 : octs 2 0 = [0, 0] := by decide +kernel
end Mine
end
section
open PySem PySem.W PyProof.Rows PySem.Calls PySem.Spec
namespace Mine
theorem kinds_dict {prog : Program} {w : World} {a b c : Str} {ta tb tc : Tok} {va vb vc : Value} {n : Nat} (h1 : a ≠ b) (h2 : a ≠ c) (h3 : b ≠ c) :
    (dictOf [⟨PyData.keyHash w.params a, .str a ta, va⟩, ⟨PyData.keyHash w.params b, .str b tb, vb⟩, ⟨PyData.keyHash w.params c, .str c tc, vc⟩] n).IsDictOf (strKind prog w) [(a, va), (b, vb), (c, vc)] := by
  refine ⟨_, n, ⟨rfl, rfl, rfl⟩, rfl, fun e he => ?_, ?_, ?_⟩
  · have he' : e ∈ [(⟨PyData.keyHash w.params a, .str a ta, va⟩ : DictEntry), ⟨PyData.keyHash w.params b, .str b tb, vb⟩, ⟨PyData.keyHash w.params c, .str c tc, vc⟩] := by simpa using he
    simp only [List.mem_cons, List.not_mem_nil, or_false] at he'
    rcases he' with rfl | rfl | rfl
    · exact ⟨a, strKind_is _ _ _ _, rfl⟩
    · exact ⟨b, strKind_is _ _ _ _, rfl⟩
    · exact ⟨c, strKind_is _ _ _ _, rfl⟩
  · exact .cons (strKind_is _ _ _ _) rfl (.cons (strKind_is _ _ _ _) rfl (.cons (strKind_is _ _ _ _) rfl .nil))
  · simp [h1, h2, h3]
section
variable {prog : Program} {w : World} {A : Around} {E : Value → Shared → Prop} {s : Shared} {env : Env} {h₀ : Heap} {target : PySem.Expr} {body : List Stmt} {Q : Flow → Shared → Prop} {K : Frag}
theorem iter_kinds {d : Addr} {od : Obj} {kvs : List (Str × Value)} {m₀ : Str → Option Value} {news : Led}
    (hh : A.handled = none) (F : Fr h₀ env.locals s.heap m₀) (N : News h₀ env.locals s.heap news) (X₀ : K.In h₀) (hk : K.lookup d = some od) (hd : od.IsDictOf (strKind prog w) kvs) (lo : (d == sysModules) = false)
    (rest₀ : ∀ I : Addr, (∀ p ∈ news, p.1 < I) → ItemsRest prog w A E h₀ env target body Q s [(I, "dict_keyiterator")] [] (kvs.map fun p => Itm.tok fun t => .str p.1 t) m₀ news) :
    wpAny (model prog w) A (pyIter (.ref d)) (fun it s₂ => TurnsAt prog w A h₀ env target body Q E it s₂) E s := by
  have hg : h₀.get? d = some od := X₀ _ _ hk
  have hax : s.heap.get? d = some od := F.keep _ _ hg
  obtain ⟨ep, hat⟩ := (Heap.dictOf_iff.mpr ⟨od, hax, hd⟩ : s.heap.DictOf (strKind prog w) d kvs).dictAt
  have hne : d ≠ s.heap.objs.size := Nat.ne_of_lt hat.lt_size
  refine wpAny_pyIter_dict lo hat ?_
  refine ktg_core (tk0 := s.toks) (keep := []) (KTurns.ofWalks (Walks.dictKeys (knd := strKind prog w) hh s.heap.objs.size d hne kvs ep) fun i v s Q E st q => letGo_keyiter st.1 q) (by simp) ?_ ?_ (fun b hb => ?_) (fun b hb => by simpa using hb) (fun b hb => ?_) ?_ (fun p hp hI => ?_) ?_ (F.push _) (fun p hp => ⟨Heap.get?_push_of_some _ (N p hp).1, (N p hp).2⟩) trivial (rest₀ _ fun p hp => Heap.lt_size (N p hp).1)
  · rintro i v h ⟨k, x, hx, hk⟩
    obtain ⟨t, rfl⟩ := Value.isStrOf_shape hk
    exact ⟨.tok fun t => .str k t, by rw [List.getElem?_map, hx]; rfl, t, rfl⟩
  · rintro i h ⟨⟨oi, g, c, _⟩, _⟩
    exact ⟨[(s.heap.objs.size, oi)], ⟨⟨rfl, c⟩, trivial⟩, fun p hp => by rw [List.mem_singleton.mp hp]; exact g⟩
  · have hb' : b = s.heap.objs.size := by simpa using hb
    rw [hb']
    exact ⟨List.mem_cons_self .., next_is_new F⟩
  · have hb' : b = s.heap.objs.size ∨ b = d := by simpa using hb
    rcases hb' with e | e
    · exact .inl (by simp [e])
    · exact .inr (.inr ⟨od, by rw [e]; exact hg⟩)
  · intro hI
    have hb' : env.locals = s.heap.objs.size ∨ env.locals = d := by simpa using hI
    rcases hb' with e | e
    · exact absurd F.ns.lt (e ▸ Nat.lt_irrefl _)
    · exact absurd (Heap.lt_size hg) (Nat.not_lt.mpr (e ▸ F.above))
  · exact absurd (Heap.lt_size (N p hp).1) ((List.mem_singleton.mp hI) ▸ Nat.lt_irrefl _)
  · exact ⟨⟨_, Heap.get?_push_size _ rfl, rfl, rfl⟩, hat.push _⟩
end
theorem clipB2 (n : Nat) : clipAt n (36 + 2) = min 38 n := clip38 n
theorem clipT (n m : Nat) : clipAt n (36 + 2 + (m : Int)) = min (38 + m) n := by rw [show (36 + 2 + (m : Int)) = ((38 + m : Nat) : Int) from by omega]; exact clipAt_nat n _

open PySem.SeqAt in
inductive AllEq (A : Around) (s : Shared) : List Value → List Value → Prop
  | nil : AllEq A s [] []
  | cons {x y : Value} {xs ys : List Value} : EqAt A s x y true → AllEq A s xs ys → AllEq A s (x :: xs) (y :: ys)
section
open PySem.SeqAt
variable {A : Around} {s : Shared} {h₀ : Heap} {L a b : Addr} {news : Led} {xs ys : List Value}
theorem AllEq.len (h : AllEq A s xs ys) : xs.length = ys.length := by
  induction h with
  | nil => rfl
  | cons _ _ ih => simp [ih]
theorem AllEq.at (h : AllEq A s xs ys) : ∀ j (h1 : j < xs.length) (h2 : j < ys.length), EqAt A s xs[j] ys[j] true := by
  induction h with
  | nil => intro j h1; exact absurd h1 (Nat.not_lt_zero _)
  | cons q _ ih =>
    intro j h1 h2
    cases j with
    | zero => exact q
    | succ j => exact ih j (by simpa using h1) (by simpa using h2)
theorem eqAt_int (x : Int) (t u : Tok) : EqAt A s (.int x t) (.int x u) true := by
  have := EqAt.int_int (A := A) (s := s) x t x u
  rwa [beq_self_eq_true] at this
theorem eqAt_str (x : Str) (t u : Tok) : EqAt A s (.str x t) (.str x u) true := fun prog w E Q h => wpAny_eqBool_str (by rw [decide_eq_true rfl]; exact h)
theorem eqAt_bytes (x : Array UInt8) (t u : Tok) : EqAt A s (.bytes x t) (.bytes x u) true := fun prog w E Q h => eqBool_bytes (by rw [decide_eq_true rfl]; exact h)
theorem all_true (n : Nat) : ((List.range n).all fun _ => true) = true := by simp
theorem eqAt_tup (N : News h₀ L s.heap news) (ma : (a, tupO xs) ∈ news) (mb : (b, tupO ys) ∈ news) (hu : A.units < cLine) (h : AllEq A.in1 s xs ys) : EqAt A s (.ref a) (.ref b) true := by
  by_cases hne : a = b
  · subst hne; exact EqAt.same _
  refine EqAt.of_refs hne ?_
  have := RcAt.tuples (e := fun _ => true) (⟨_, (N _ ma).1, rfl, 0, rfl⟩ : s.heap.IsTuple a xs.toArray) (⟨_, (N _ mb).1, rfl, 0, rfl⟩ : s.heap.IsTuple b ys.toArray) hu (fun j h1 h2 => by simpa using h.at j (by simpa using h1) (by simpa using h2))
  have e : ((List.range (min xs.toArray.size ys.toArray.size)).all (fun _ => true) && xs.toArray.size == ys.toArray.size) = true := by rw [all_true]; simp [h.len]
  rwa [e] at this
theorem eq_tups {prog : Program} {w : World} {E Q : Value → Shared → Prop} (N : News h₀ L s.heap news) (ma : (a, tupO xs) ∈ news) (mb : (b, tupO ys) ∈ news) (hu : A.units < cLine) (h : AllEq A.in1 s xs ys) (q : Q (.bool true) s) :
    wpAny (model prog w) A (compareOp .Eq (.ref a) (.ref b)) Q E s := by
  have e : ((List.range (min xs.toArray.size ys.toArray.size)).all (fun _ => true) && xs.toArray.size == ys.toArray.size) = true := by rw [all_true]; simp [h.len]
  exact RcAt.tuples (e := fun _ => true) (⟨_, (N _ ma).1, rfl, 0, rfl⟩ : s.heap.IsTuple a xs.toArray) (⟨_, (N _ mb).1, rfl, 0, rfl⟩ : s.heap.IsTuple b ys.toArray) hu (fun j h1 h2 => by simpa using h.at j (by simpa using h1) (by simpa using h2)) prog w E Q (by rw [e]; exact q)
theorem ne_tups {prog : Program} {w : World} {E Q : Value → Shared → Prop} (N : News h₀ L s.heap news) (ma : (a, tupO xs) ∈ news) (mb : (b, tupO ys) ∈ news) (hu : A.units < cLine) (h : AllEq A.in1 s xs ys) (q : Q (.bool false) s) :
    wpAny (model prog w) A (compareOp .NotEq (.ref a) (.ref b)) Q E s := by
  have e : (!((List.range (min xs.toArray.size ys.toArray.size)).all (fun _ => true) && xs.toArray.size == ys.toArray.size)) = false := by rw [all_true]; simp [h.len]
  exact RcNeAt.tuples (e := fun _ => true) (⟨_, (N _ ma).1, rfl, 0, rfl⟩ : s.heap.IsTuple a xs.toArray) (⟨_, (N _ mb).1, rfl, 0, rfl⟩ : s.heap.IsTuple b ys.toArray) hu (fun j h1 h2 => by simpa using h.at j (by simpa using h1) (by simpa using h2)) prog w E Q (by rw [e]; exact q)
theorem units_in {A : Around} {n : Nat} (h : A.units + (n + 1) < cLine) : A.in1.units + n < cLine := by rw [units_in1]; omega
end
end Mine
end
section
open PySem PySem.W PyProof.Rows PySem.Calls PySem.Spec
namespace Mine
def RdV (ks : List Int) (rp rm co np nm pp pn : Int) : Prop :=
  num (((ks.drop 5).take 22).take 2) = rp ∧ num ((((ks.drop 5).take 22).drop 2).take 6) = rm ∧ num ((((ks.drop 5).take 22).drop 8).take 4) = co ∧ num ((((ks.drop 5).take 22).drop 12).take 2) = np ∧
  num (((((ks.drop 5).take 22).drop 12).drop 2).take 6) = nm ∧ num (((((ks.drop 5).take 22).drop 20).take 2).take 2) / 4096 = pp ∧ num (((((ks.drop 5).take 22).drop 20).take 2).take 2) % 4096 = pn
def RdT (ks : List Int) (ag mx he de : Int) : Prop :=
  num (((ks.drop 27).take 8).take 2) / 256 = ag ∧ num ((((ks.drop 27).take 8).drop 2).take 2) / 256 = mx ∧ num ((((ks.drop 27).take 8).drop 4).take 2) / 256 = he ∧ num ((((ks.drop 27).take 8).drop 6).take 2) / 256 = de
structure Keep9 (p : Prop) : Prop where
  mk ::
  out : p
theorem min_ii {prog : Program} {w : World} {A : Around} {E : Value → Shared → Prop} {s : Shared} {Q : Value → Shared → Prop} {a b : Int} {t u : Tok} {h₀ : Heap} {L : Addr} {m : Str → Option Value} {news : Led}
    (hh : A.handled = none) (F : Fr h₀ L s.heap m) (N : News h₀ L s.heap news) (h : ∀ h' tk tr, Fr h₀ L h' m → News h₀ L h' news → Q (.int (if b < a then b else a) tr) { s with heap := h', toks := tk }) :
    wpAny (model prog w) A (call (.builtin "min") [.int a t, .int b u]) Q E s := by
  by_cases hab : b < a
  · refine PySem.Flt.min_two_split (k := true) hh (.int _ _) (.int _ _) (decide_eq_true hab) F N (fun _ h' tk F' N' => ?_) (fun e => nomatch e)
    have := h h' tk u F' N'
    rwa [if_pos hab] at this
  · refine PySem.Flt.min_two_split (k := false) hh (.int _ _) (.int _ _) (decide_eq_false hab) F N (fun e => nomatch e) (fun _ h' tk F' N' => ?_)
    have := h h' tk t F' N'
    rwa [if_neg hab] at this
theorem oct_at {prog : Program} {w : World} {A : Around} {E : Value → Shared → Prop} {s : Shared} {Q : Value → Shared → Prop} {value slice : PySem.Expr} {b : Array UInt8} {ks : List Int} {i : Int} {k : Nat} {t ui : Tok} (hk : KBw.bInts b = ks) (hl : ks.length ≤ 200) (hn : k ≤ ks.length) (h0 : 0 ≤ i) (h1 : i < (k : Int))
    (h : ∀ t' k, 0 ≤ ks.getD i.toNat 0 → ks.getD i.toNat 0 < 256 → Q (.int (ks.getD i.toNat 0) t') { s with toks := k })
    (hs : subscripted slice false (.bytes b t) (.int i ui) = operate [.bytes b t, .int i ui] (getItem (.bytes b t) (.int i ui)) := by with_unfolding_all rfl)
    (ht : ∀ r, letTemporaryGo value (.bytes b t) r = pure () := by intro _; with_unfolding_all rfl) : wpAny (model prog w) A (subscriptTail value slice (.bytes b t) (.int i ui)) Q E s :=
  KBw.item_K hk (by omega) h0 (by omega) h hs ht
theorem subscripted_binop {l r : PySem.Expr} {op : Operator} {p : Pos} {o : Addr} {y : Int} {u : Tok} : subscripted (Expr.BinOp l op r p) false (.ref o) (.int y u) = operate [.ref o, .int y u] (getItem (.ref o) (.int y u)) := rfl
theorem role_at {prog : Program} {w : World} {A : Around} {E : Value → Shared → Prop} {s : Shared} {value slice : PySem.Expr} {l : Addr} {o : Obj} {t0 t1 t2 t3 u : Tok} {n r : Nat} {x : Int} {Q : Value → Shared → Prop} (ho : s.heap.get? l = some o) (hc : o.cls = .type "tuple") (hd : o.data = .seq #[.str "none" t0, .str "alternate" t1, .str "root" t2, .str "designated" t3] n)
    (hx : x = (r : Nat)) (hr : r < 4) (h : ∀ t', Q (.str (roleN r) t') s)
    (hs : ∀ (y : Int) (u : Tok), subscripted slice false (.ref l) (.int y u) = operate [.ref l, .int y u] (getItem (.ref l) (.int y u)) := by intro _ _; with_unfolding_all rfl) (hg : ∀ r, letTemporaryGo value (.ref l) r = pure () := by intro _; with_unfolding_all rfl) :
    wpAny (model prog w) A (subscriptTail value slice (.ref l) (.int x u)) Q E s := by
  subst hx
  have ht : s.heap.IsTuple l #[.str "none" t0, .str "alternate" t1, .str "root" t2, .str "designated" t3] := ⟨o, ho, hc, n, hd⟩
  have key : ∀ v t', #[Value.str "none" t0, .str "alternate" t1, .str "root" t2, .str "designated" t3][r]? = some v → v = .str (roleN r) t' → wpAny (model prog w) A (subscriptTail value slice (.ref l) (.int (r : Nat) u)) Q E s := fun v t' e1 e2 =>
    item_tuple ht (by omega) (by omega) (j := r) (by
      unfold seqIndex?
      have z : ¬ ((r : Int) < 0) := by omega
      simp only [z, if_false]
      rw [if_pos (by simp; omega)]
      simp) e1 (e2 ▸ h t') (hs _ _) hg
  match r, hr with
  | 0, _ => exact key _ t0 rfl rfl
  | 1, _ => exact key _ t1 rfl rfl
  | 2, _ => exact key _ t2 rfl rfl
  | 3, _ => exact key _ t3 rfl rfl
end Mine
end
section
open PySem PySem.W PyProof.Rows PySem.Calls PySem.Spec
namespace Mine
abbrev Tp (mean : ExcName → Option Value) (mg mb : Str → Option Value) (h : Heap) : Prop := Top Mine.vq (looseW Mine.vq [Str.ofString "KINDS", Str.ofString "Bpdu"]) mean mg mb h
abbrev frs (l : List Env) : List Addr := l.filterMap (·.frame)

def CtrS (kd : Nat) (w : World) (mean : ExcName → Option Value) (mg mb : Str → Option Value) (f : Addr) (vs : List Value) (front : Led) (Post : Value → Led → Prop) : Prop :=
  ∀ (dp un : Nat) (gd : Option (List Code)) (cn : Str) (snm : List (Str × NameKind)) (sig sic : Bool) (smo : List (Str × Const)) (a : Addr) (ccd : Value) (cl : List (Str × Addr)) (outer : List Env) (A₀ : Around) (base h₀ : Heap) (L : Addr) (m : Str → Option Value) (s : Shared) (Q E : Value → Shared → Prop) (rest : Led),
    Below A₀ base outer h₀ → Fr h₀ L s.heap m → (Mine.wr.heap_1 w.params).In h₀ → News h₀ L s.heap front → News h₀ L s.heap rest → Sep front rest → Tp mean mg mb h₀ → (Mine.wr.heap_1 w.params).In base → Tp mean mg mb base → KtsDicts (frs outer) h₀ →
      dp + kd < recursionLimit → un + 10 * kd + 100 < cLine →
      (∀ v news' h₀' h' tk', KtsTurn (frs outer) h₀ h₀' → Below A₀ base outer h₀' → (Mine.wr.heap_1 w.params).In h₀' → Tp mean mg mb h₀' → KtsDicts (frs outer) h₀' → Fr h₀' L h' m → News h₀' L h' (news' ++ rest) → Sep news' rest → Post v news' → Q v { s with heap := h', toks := tk' }) →
      wpAny (model PySem.Challenge.rw_pb0549_01.row.prog w) (ktrTop dp un gd cn (fscope snm sig sic smo) L a ccd cl outer) (call (.ref f) vs) Q E s

def EndS (fs : List Addr) (g : Heap) (s : Shared) (Post : Value → Led → Prop) (v : Value) (s' : Shared) : Prop :=
  ∃ g' L' m' news' h' tk', s' = { s with heap := h', toks := tk' } ∧ KtsTurn fs g g' ∧ Fr g' L' h' m' ∧ News g' L' h' news' ∧ Post v news'
theorem EndS.sub {fs : List Addr} {g g' : Heap} {s : Shared} {Post : Value → Led → Prop} {v : Value} {L' : Addr} {m' : Str → Option Value} {news' all rest : Led} {h' : Heap} {tk' : Nat} (K : KtsTurn fs g g') (F : Fr g' L' h' m') (N : News g' L' h' all) (P : Post v news') (S : Pick news' all rest) :
    EndS fs g s Post v { s with heap := h', toks := tk' } := ⟨g', L', m', news', h', tk', rfl, K, F, fun p hp => N p (S.mem.1 p hp), P⟩

section
variable {kd : Nat} {w : World} {mean : ExcName → Option Value} {mg mb : Str → Option Value} {f : Addr} {vs : List Value} {front : Led} {Post : Value → Led → Prop}
  {name qual : Str} {params : Arguments} {body : List Stmt} {scope : Scope} {dV kV doc pm cdv ct oc : Value} {an od : Option Addr} {osl : Array (Option Value)} {binds : List (Str × Value)}

theorem ctrS_back {env : Env} {outer : List Env} {A₀ : Around} {base h₀ : Heap} {L : Addr} {m : Str → Option Value} {s : Shared} {Q : Value → Shared → Prop} {rest : Led}
    (B : Below A₀ base outer h₀) (F : Fr h₀ L s.heap m) (N : News h₀ L s.heap front) (NR : News h₀ L s.heap rest) (S : Sep front rest) (hf : env.frame = some L) (XB : (Mine.wr.heap_1 w.params).In base) (TB : Tp mean mg mb base) (D : KtsDicts (frs outer) h₀)
    (hret : ∀ v news' h₀' h' tk', KtsTurn (frs outer) h₀ h₀' → Below A₀ base outer h₀' → (Mine.wr.heap_1 w.params).In h₀' → Tp mean mg mb h₀' → KtsDicts (frs outer) h₀' → Fr h₀' L h' m → News h₀' L h' (news' ++ rest) → Sep news' rest → Post v news' → Q v { s with heap := h', toks := tk' })
    {v : Value} {s' : Shared} (hl : EndS (frs (env :: outer)) (hideAll s.heap (front.map (·.1))) s Post v s') : Q v s' := by
  obtain ⟨g', L', m', news', h', tk', rfl, T', F', N', P⟩ := hl
  have nL₀ : h₀.get? L = none := kts_self F
  have nm : ∀ b o, h₀.get? b = some o → b ∉ front.map (·.1) := fun b o e q => by
    obtain ⟨p, hp, rfl⟩ := List.mem_map.mp q
    rw [(N p hp).2.2] at e; cases e
  have st : h₀.StaysIn (hideAll s.heap (front.map (·.1))) := fun b o e => hideAll_get _ (F.keep b o e) (nm b o e)
  obtain ⟨oL, es, ep, hL, hLd, hLk, hLf⟩ := F.ns
  have nL : L ∉ front.map (·.1) := fun q => by
    obtain ⟨p, hp, e⟩ := List.mem_map.mp q
    exact (N p hp).2.1 e
  have hLg := hideAll_get (front.map (·.1)) hL nL
  have nfs : ∀ b, b ≠ L → b ∉ frs outer → b ∉ frs (env :: outer) := fun b h1 h2 q => (memX hf q).elim h1 h2
  obtain ⟨sl, hs⟩ := T'.up hLg
  obtain ⟨T₁, S₁⟩ := kts_turn_at (h := h') (fs := frs outer) (g := h₀)
    (fun b hb => by
      obtain ⟨_, o, ho', _⟩ := B.frames.mem hb
      exact ⟨o, ho'⟩)
    (fun b o e nmem => F'.keep b o (T'.other b o (st b o e) (nfs b (fun z => by rw [z, nL₀] at e; cases e) nmem)))
    (fun b o e hm => by
      obtain ⟨sl', hs'⟩ := T'.up (st b o e)
      exact ⟨sl', F'.keep _ _ hs'⟩)
  have B₃ : Below A₀ base outer (ktsHeap h' (frs outer) h₀) := ⟨B.stack, fun b o e => T₁.other b o (B.stays b o e) (fun hm => by
    rw [(B.frames.mem hm).1] at e
    cases e), B.frames.of_keeps fun b o e _ => by
    obtain ⟨sl', hs'⟩ := T₁.up e
    exact ⟨_, hs', rfl⟩⟩
  have n0 : ∀ p ∈ news', h₀.get? p.1 = none := fun p hp => by
    cases q : h₀.get? p.1 with
    | none => rfl
    | some o =>
      obtain ⟨sl', hs'⟩ := T'.up (st _ _ q)
      have := (N' p hp).2.2
      rw [hs'] at this
      cases this
  have hr : ∀ q ∈ rest, g'.get? q.1 = some q.2 := fun q hq => T'.other _ _ (hideAll_get _ (NR q hq).1 fun hm => by
      obtain ⟨p, hp, e⟩ := List.mem_map.mp hm
      exact S.mem p hp q hq e) (nfs _ (NR q hq).2.1 fun hm => by
      obtain ⟨_, o, ho', _⟩ := B.frames.mem hm
      rw [(NR q hq).2.2] at ho'
      cases ho')
  refine hret v news' _ h' tk' T₁ B₃ (XB.keeps B₃.stays) (TB.keeps B₃.stays) (D.turn T₁) ⟨⟨_, es, ep, F'.keep _ _ hs, hLd, hLk, hLf⟩, S₁, by rw [T₁.size]; exact F.above⟩ (fun p hp => ?_) (Sep.of fun p hp q hq e => ?_) P
  · rcases List.mem_append.mp hp with hp | hp
    · exact ⟨(N' p hp).1, (fun q => by have := (N' p hp).2.2; rw [q, hs] at this; cases this), T₁.none_ _ (n0 p hp)⟩
    · exact ⟨F'.keep _ _ (hr p hp), (NR p hp).2.1, T₁.none_ _ (NR p hp).2.2⟩
  · have := (N' p hp).2.2
    rw [e, hr q hq] at this
    cases this

theorem ctrS_mk
    (ho : (Mine.wr.heap_1 w.params).lookup f = some ⟨oc, od, .func (fnOf name qual params body scope dV kV doc pm an cdv ct), osl⟩) (hcd : codeIn (Mine.wr.heap_1 w.params) cdv qual = true)
    (hbind : ∀ s, BindsTo s (fnOf name qual params body scope dV kV doc pm an cdv ct) ⟨vs, []⟩ binds) (hloc : ∀ y ∈ binds, scope.names.lookup y.1 = some .local)
    (hco : scope.isCoroutine = false) (hgen : scope.isGenerator = false) (hk : scope.kind = .function) (hcell : ∀ x ∈ scope.names, x.2 ≠ .cell)
    (h : ∀ (dp un : Nat) (gd : Option (List Code)) (cn : Str) (snm : List (Str × NameKind)) (sig sic : Bool) (smo : List (Str × Const)) (a : Addr) (ccd : Value) (cl : List (Str × Addr)) (outer : List Env) (base : Heap) (L : Addr) (s : Shared) (g : Heap) (L' : Addr) (h₁ : Heap) (tk : Nat),
      Fr g L' h₁ (fun y => binds.reverse.lookup y) → News g L' h₁ front → Below (ktrTop dp un gd cn (fscope snm sig sic smo) L a ccd cl outer) base (envX cn (fscope snm sig sic smo) L a ccd cl :: outer) g → (Mine.wr.heap_1 w.params).In g →
      Tp mean mg mb g → (∀ p ∈ front, p.1 < L') → dp + kd < recursionLimit → un + 10 * kd + 100 < cLine → (Mine.wr.heap_1 w.params).In base → Tp mean mg mb base → KtsDicts (frs (envX cn (fscope snm sig sic smo) L a ccd cl :: outer)) g →
      wpAny (model PySem.Challenge.rw_pb0549_01.row.prog w) ((ktrTop dp un gd cn (fscope snm sig sic smo) L a ccd cl outer).deeper (envOf qual scope L' f cdv)) (execs body (envOf qual scope L' f cdv))
        (fun fl s' => EndS (frs (envX cn (fscope snm sig sic smo) L a ccd cl :: outer)) g s Post (match fl with | .ret v => v | _ => .none) s') (fun _ _ => False) { s with heap := h₁, toks := tk }) :
    CtrS kd w mean mg mb f vs front Post := by
  intro dp un gd cn snm sig sic smo a ccd cl outer A₀ base h₀ L m s Q E rest B F X N NR S T XB TB D hdp hun hret
  refine wpAny_call ?_
  obtain ⟨FG, BG, st, lv⟩ := groundX (A := ktrTop dp un gd cn (fscope snm sig sic smo) L a ccd cl outer) (env := envX cn (fscope snm sig sic smo) L a ccd cl) (R := fun _ _ => True) B F N rfl rfl rfl
  refine codeAny_call_def (fd := fnOf name qual params body scope dV kV doc pm an cdv ct) (body := body) (binds := binds) (by show dp < recursionLimit; omega) (X.keeps F.keep _ _ ho) rfl (T.nolimit.keeps F.keep) (codeRec_of (X.keeps F.keep) hcd) rfl (hbind _) hcell hloc (fun h₁ hns hk₁ => ?_) hco hgen hk
  have DG : KtsDicts (frs (envX cn (fscope snm sig sic smo) L a ccd cl :: outer)) (hideAll s.heap (front.map (·.1))) := fun b hb => by
    rcases memX (env := envX cn (fscope snm sig sic smo) L a ccd cl) rfl hb with rfl | hb
    · obtain ⟨oL, es, ep, hL, hLd, _, _⟩ := FG.ns
      exact ⟨oL, es, ep, hL, hLd⟩
    · obtain ⟨o, es', n', ho', hd'⟩ := D b hb
      exact ⟨o, es', n', st b o ho', hd'⟩
  refine wpAny_mono (h dp un gd cn snm sig sic smo a ccd cl outer base L s _ s.heap.objs.size h₁ _ ⟨hns, fun b o e => hk₁ b o (of_hideAll _ e), Nat.le_of_eq (hideAll_size _ _)⟩
    (fun p hp => ⟨hk₁ _ _ (N p hp).1, Nat.ne_of_lt (Heap.lt_size (N p hp).1), hideAll_none _ (List.mem_map_of_mem hp)⟩) BG (X.keeps st) (T.keeps st) (fun p hp => Heap.lt_size (N p hp).1) hdp hun XB TB DG) (fun fl s' hl => ?_) fun _ _ y => y.elim
  exact ctrS_back (env := envX cn (fscope snm sig sic smo) L a ccd cl) B F N NR S rfl XB TB D hret hl
end

section
variable {prog : Program} {w : World} {A₀ : Around} {E : Value → Shared → Prop} {s' : Shared} {base g G : Heap} {outer : List Env} {L a e C : Addr} {m : Str → Option Value} {name : Str} {scope : Scope} {cd : Value}
  {b₀ : Stmt} {suite : List Stmt} {pos np : Pos} {rest : List ExceptHandler} {Q : Flow → Shared → Prop} {news : Led} {KF : Frag}
  {p : Program} {loose : List Str} {mean : ExcName → Option Value} {mg mb : Str → Option Value} {x : Str}
theorem caught_own (R : RaisedSN base G (envOf name scope L a cd :: outer) e (.ref C) news s'.heap) (F : Fr g L G m) (K : Below A₀ base outer g) (hsm : G.UpToSlots s'.heap) (XB : KF.In base) (TB : Top p loose mean mg mb base)
    (D : KtsDicts (outer.filterMap (·.frame)) g) (ex : nsIn KF mainGlobals x = some (some (.ref C))) (q : ktsIn KF C "BaseException" = true)
    (k : ∀ h' g', KtsTurn (outer.filterMap (·.frame)) g g' → Fr g' L h' m → News g' L h' news → Below A₀ base outer g' → KF.In g' → Top p loose mean mg mb g' → KtsDicts (outer.filterMap (·.frame)) g' →
      wpAny (model prog w) ((A₀.deeper (envOf name scope L a cd)).mark (some (.ref e))) (execs (b₀ :: suite) (envOf name scope L a cd)) Q E { s' with heap := h' })
    (hk : scope.kind = .function := by rfl) (hx : (envOf name scope L a cd).kindOf x = some .globalImplicit := by rfl) (hd : (x == ("__debug__" : Str)) = false := by decide)
    (hE : PassesOwnAt (model prog w) ((A₀.deeper (envOf name scope L a cd)).mark (some (.ref e))) (A₀.deeper (envOf name scope L a cd)) (envOf name scope L a cd) E := by passes_own) :
    wpAny (model prog w) (A₀.deeper (envOf name scope L a cd)) (noteFrame (.ref e) (envOf name scope L a cd))
      (fun _ s₂ => wpAny (model prog w) (A₀.deeper (envOf name scope L a cd)) (setFlight (.ref e) none) (fun _ s₃ =>
        wpAny (model prog w) (A₀.deeper (envOf name scope L a cd)) (handleBy (.ref e) (envOf name scope L a cd) (.ExceptHandler (some (.Name x np)) none (b₀ :: suite) pos :: rest)) Q E s₃) E s₂) E s' := by
  obtain ⟨B, a0, hB, hBG, hl, hfl⟩ := R
  have hL : B.get? L = none := by
    obtain ⟨_, ⟨L', _, hf, hn', _⟩, _⟩ := hfl.2.2.1
    obtain rfl : L = L' := Option.some.inj hf
    exact hn'
  refine wpAny_looks_onW (Around.frames_deeper K.stack) rfl hfl fun h₄ hheld₄ hsm₄ => ?_
  refine wpAny_landsW hheld₄ fun h₅ hheld hsm₅' => ?_
  have hsm₅ := hsm₄.trans hsm₅'
  obtain ⟨g₅, T₅, F₅, K₅⟩ := kts_ground K F hBG hheld.1 (hsm.trans hsm₅)
  have X₅ : KF.In g₅ := XB.keeps K₅.stays
  have P₅ : TopRead p loose mg mb g₅ := topRead_of (TB.keeps K₅.stays)
  obtain ⟨ob, hob, hobc⟩ := hheld.there
  obtain ⟨nm, q', N, bs, bm, hdct, sn, sub, ab, col, dd, k0, k1, k2, k3, k5, newId, hC, hbase, hbT⟩ := kts_cls X₅ q
  have hC₅ := F₅.keep _ _ hC
  refine wpAny_handleBy_cons (codeAny_handlers_test (name_K F₅ X₅ P₅ ex ?_ hk hx hd)) (by intro q; cases q)
  refine wpAny_excMatches_sub_self hC₅ hob hobc hbase (codeAny_handlers_suite ?_)
  refine lands_againW hheld fun h₆ hfl₆ hsm₆ => ?_
  obtain ⟨g₆, T₆, F₆, K₆⟩ := kts_ground K F hBG hfl₆.1 ((hsm.trans hsm₅).trans hsm₆)
  have Nl : News g₆ L h₆ news := fun q hq => ⟨hfl₆.1 _ _ (hl q hq).1, (fun z => by have := (hl q hq).1; rw [z, hL] at this; cases this), T₆.none_ _ (kts_none F.keep (hl q hq).2.1)⟩
  exact wpAny_passesOwnAt hE (k h₆ g₆ T₆ F₆ Nl K₆ (XB.keeps K₆.stays) (TB.keeps K₆.stays) (D.turn T₆))
end

theorem turn_none {g g' : Heap} (T : KtsTurn [] g g') : g.StaysIn g' := fun b o e => T.other b o e (by simp)
end Mine
end
section
open PySem PySem.W PyProof.Rows PySem.Calls PySem.Spec
set_option maxRecDepth 100000
namespace Mine
abbrev octAt (b : Array UInt8) (i : Nat) (v : Value) : Prop := ∃ c u, b[i]? = some c ∧ v = .int (c.toNat : Int) u
section
variable {prog : Program} {w : World} {A : Around} {E : Value → Shared → Prop} {s : Shared}
theorem extend_bytes {R : Result → Shared → Prop} (hh : A.handled = none) (x : Array UInt8) (t : Tok) (S : Addr) (res : Value) (c₀ : Nat) (hS : s.heap.get? S = some { cls := .type "list", data := .seq #[] c₀ })
    (hR : ∀ h' tk acc' c', (∀ b o, b ≠ S → s.heap.get? b = some o → h'.get? b = some o) → h'.get? S = some { cls := .type "list", dict := none, data := .seq acc' c', slots := #[] } →
      ItemsOf (octAt x) acc' x.size → R (.ok (.ret res)) { s with heap := h', toks := tk }) (hn : x.size ≤ sizeLine) :
    wpAny (model prog w) A.in1 (Builtin.List.listExtendWith (.ref S) (.bytes x t) res)
      (fun fin s' => match fin with | .done f => R (.ok f) s' | .again c' => c'.quiet = true ∧ codeAny (model prog w) A c' R s') (fun e s' => R (.error e) s') s := by
  have hSI : S ≠ s.heap.objs.size := Nat.ne_of_lt (Heap.lt_size hS)
  have hSf : S ∉ [s.heap.objs.size] := fun hm => hSI (List.mem_singleton.mp hm)
  unfold Builtin.List.listExtendWith
  refine wpAny_bind (wpAny_typeOf (T := "bytes") (v := .bytes x t) rfl ?_)
  have h1 : Builtin.List.listSameRef (.ref S) (.bytes x t) = false := rfl
  have h2 : (Value.type "bytes" == Value.type "list") = false := by decide
  have h3 : (Value.type "bytes" == Value.type "tuple") = false := by decide
  simp only [h1, h2, h3, Bool.or_false, Bool.false_eq_true, if_false]
  refine wpAny_bind (KBw.pyIter_bytes ?_)
  refine wpAny_bind (wpAny_holding ?_)
  unfold Builtin.List.listLengthHint
  refine wpAny_bind (wpAny_specialOf (T := "bytes") (v := .bytes x t) rfl FB.slot_bytes_len.lookup ?_)
  wp_delta
  refine wpAny_bind (wpAny_isInstance (T := "bytes") (v := .bytes x t) (b := true) rfl (by rw [isSubtype_type]; kernel_rfl) ?_)
  show wpAny _ _ (typeOf (Value.bytes x t) >>= _) _ _ _
  refine wpAny_bind (wpAny_typeOf (T := "bytes") (v := .bytes x t) rfl ?_)
  refine wpAny_pure ?_
  rw [if_neg (by decide)]
  refine wpAny_pure ⟨plainId_quiet PySem.F.plain_extend_loop _, codeAny_extend_loopS ((KBw.walks (A := A.in1) hh s.heap.objs.size x t).toS) hn _ hSf _ x.size 0 _ _ _ rfl (Nat.zero_le _) ⟨_, Heap.get?_push_size _ rfl, rfl, rfl⟩ (Heap.get?_push_of_some _ hS) (ItemsOf.nil _) fun s' acc' c' hm hS' hacc => ?_⟩
  rw [Moved.eq_with hm]
  refine hR s'.heap s'.toks acc' c' (fun b ob hb e => hm.heap b ob (fun hmem => ?_) (Heap.get?_push_of_some _ e)) hS' hacc
  rcases List.mem_cons.mp hmem with e' | hmem
  · exact hb e'
  · exact absurd (Heap.lt_size e) (by rw [List.mem_singleton.mp hmem]; exact Nat.lt_irrefl _)

theorem init_bytes {R : Result → Shared → Prop} (hh : A.handled = none) (x : Array UInt8) (t : Tok) (S : Addr) (hS : s.heap.get? S = some { cls := .type "list", data := .seq #[] })
    (hR : ∀ h' tk acc' c', (∀ b o, b ≠ S → s.heap.get? b = some o → h'.get? b = some o) → h'.get? S = some { cls := .type "list", dict := none, data := .seq acc' c', slots := #[] } →
      ItemsOf (octAt x) acc' x.size → R (.ok (.ret .none)) { s with heap := h', toks := tk }) (hn : x.size ≤ sizeLine) :
    wpAny (model prog w) A.in1 (Builtin.«list.__init__» ⟨[.ref S, .bytes x t], []⟩)
      (fun fin s' => match fin with | .done f => R (.ok f) s' | .again c' => c'.quiet = true ∧ codeAny (model prog w) A c' R s') (fun e s' => R (.error e) s') s := by
  show wpAny _ _ (do let old ← Builtin.List.listItems (.ref S); Builtin.List.listUpdate (.ref S) (fun _ => #[]); letGo old.toList.reverse; Builtin.List.listExtendWith (.ref S) (.bytes x t) .none) _ _ s
  refine wpAny_bind ?_
  unfold Builtin.List.listItems
  refine wpAny_bind (wpAny_seqItems hS rfl (wpAny_pure ?_))
  show wpAny _ _ (updateSeq S (fun _ => #[]) >>= fun _ => letGo (#[] : Array Value).toList.reverse >>= fun _ => Builtin.List.listExtendWith (.ref S) (.bytes x t) .none) _ _ s
  refine wpAny_bind (wpAny_updateSeq hS rfl ?_)
  have hS₂ := Heap.get?_update_self (Obj.mapSeq (fun _ => (#[] : Array Value))) hS rfl
  have oth : ∀ b o, b ≠ S → s.heap.get? b = some o → (s.heap.update S (Obj.mapSeq (fun _ => (#[] : Array Value)))).get? b = some o :=
    fun b o hb e => (Heap.get?_update_other _ _ (Ne.symm hb)).trans e
  refine wpAny_bind (wpAny_letGo ?_)
  refine extend_bytes (hn := hn) hh x t S .none _ hS₂ fun h' tk acc' c' hk hS' hacc => ?_
  exact hR h' tk acc' c' (fun b o hb e => hk b o hb (oth b o hb e)) hS' hacc

theorem call_list_bytes {Q : Value → Shared → Prop} (hh : A.handled = none) (x : Array UInt8) (t : Tok)
    (hQ : ∀ h' tk acc' c', (∀ b o, s.heap.get? b = some o → h'.get? b = some o) →
      h'.get? s.heap.objs.size = some { cls := .type "list", dict := none, data := .seq acc' c', slots := #[] } → ItemsOf (octAt x) acc' x.size → Q (.ref s.heap.objs.size) { s with heap := h', toks := tk }) (hn : x.size ≤ sizeLine) :
    wpAny (model prog w) A (call (.type "list") [.bytes x t]) Q E s := by
  refine callType_codes (Q₁ := fun obj s₁ => obj = .ref s.heap.objs.size ∧ s₁ = { s with heap := s.heap.push { cls := .type "list", data := .seq #[] } }) PySem.F.called_list (PySem.F.typeCall_list_1 _) PySem.F.entry_list_init
    (code_list_new _ ⟨rfl, rfl⟩) fun obj s₁ h₁ => ?_
  obtain ⟨rfl, rfl⟩ := h₁
  have hS : (s.heap.push { cls := .type "list", data := .seq #[] }).get? s.heap.objs.size = some { cls := .type "list", data := .seq #[] } := Heap.get?_push_size _ rfl
  refine ⟨⟨_, hS, rfl⟩, PySem.F.args_list_init_2 _ _, init_bytes (A := A.in1) (hn := hn) hh x t _ hS fun h' tk acc' c' hk hS' hacc => ?_⟩
  exact ⟨rfl, hQ h' tk acc' c' (fun b o e => hk b o (Nat.ne_of_lt (Heap.lt_size e)) (Heap.get?_push_of_some _ e)) hS' hacc⟩
end
theorem ints_of : ∀ (vs : List Value) (cs : List UInt8), vs.length = cs.length → (∀ (i : Nat) (v : Value), vs[i]? = some v → ∃ (c : UInt8) (u : Tok), cs[i]? = some c ∧ v = Value.int (c.toNat : Int) u) → IntsAre vs (cs.map fun c => (c.toNat : Int))
  | [], [], _, _ => .nil
  | [], _ :: _, e, _ => nomatch e
  | _ :: _, [], e, _ => nomatch e
  | v :: vs, c :: cs, e, h => by
    obtain ⟨c', u, hc, rfl⟩ := h 0 v rfl
    obtain rfl : c = c' := Option.some.inj hc
    exact .cons _ _ (ints_of vs cs (Nat.succ.inj e) fun i v hv => h (i + 1) v hv)
section
variable {prog : Program} {w : World} {A : Around} {E : Value → Shared → Prop} {s : Shared} {h₀ : Heap} {L : Addr} {m : Str → Option Value} {news : Led} {b : Array UInt8} {t : Tok} {ks : List Int} {Q : Value → Shared → Prop}
theorem list_bytes (hh : A.handled = none) (F : Fr h₀ L s.heap m) (N : News h₀ L s.heap news) (hk : KBw.bInts b = ks) (hn : ks.length ≤ 16384)
    (h : ∀ l vals n h' tk', Fr h₀ L h' m → News h₀ L h' ((l, listOf vals.toArray n) :: news) → (∀ p ∈ news, p.1 < l) → OctsAre vals ks → Q (.ref l) { s with heap := h', toks := tk' }) :
    wpAny (model prog w) A (call (.type "list") [.bytes b t]) Q E s := by
  subst hk
  have hsz : b.size ≤ 16384 := by rw [← KBw.ints_length b]; exact hn
  refine call_list_bytes hh b t (fun h' tk acc c' hkeep hl hit => ?_) (by rw [sizeLine_eq]; omega)
  have ho : OctsAre acc.toList (KBw.bInts b) := by
    refine ⟨ints_of acc.toList b.toList (by rw [Array.length_toList, Array.length_toList]; exact hit.1) fun i v hv => ?_, fun k hk => KBw.ints_in hk⟩
    obtain ⟨c, u, e1, e2⟩ := hit.2 i v (by simpa using hv)
    exact ⟨c, u, by simpa using e1, e2⟩
  have := h s.heap.objs.size acc.toList c' h' tk (F.keptAll hkeep) (fun p hp => ?_) (fun p hp => Heap.lt_size (N p hp).1) ho
  · exact this
  · rcases List.mem_cons.mp hp with rfl | hp
    · exact ⟨by rw [Array.toArray_toList]; exact hl, fun e => absurd F.ns.lt (by rw [← e]; exact Nat.lt_irrefl _), next_is_new F⟩
    · exact ⟨hkeep _ _ (N p hp).1, (N p hp).2⟩
end
end Mine
end
section
open PySem PySem.W PyProof.Rows PySem.Calls PySem.Spec
namespace Mine
def wire (v2 k fl : Int) (v t rest : List Int) : List Int := 0 :: 0 :: v2 :: k :: fl :: (v ++ (t ++ rest))
section
variable {v2 k fl : Int} {v t rest : List Int}
theorem wire_len (hv : v.length = 22) (ht : t.length = 8) : (wire v2 k fl v t rest).length = 35 + rest.length := by
  simp only [wire, List.length_cons, List.length_append, hv, ht]; omega
theorem wire_0 : num ((wire v2 k fl v t rest).take 2) = 0 := rfl
theorem wire_2 : (wire v2 k fl v t rest).getD (Int.toNat 2) 0 = v2 := rfl
theorem wire_3 : (wire v2 k fl v t rest).getD (Int.toNat 3) 0 = k := rfl
theorem wire_4 : (wire v2 k fl v t rest).getD (Int.toNat 4) 0 = fl := rfl
theorem wire_v (hv : v.length = 22) : ((wire v2 k fl v t rest).drop 5).take 22 = v := by
  show (v ++ (t ++ rest)).take 22 = v
  rw [← hv, List.take_left']; rfl
theorem wire_t (hv : v.length = 22) (ht : t.length = 8) : ((wire v2 k fl v t rest).drop 27).take 8 = t := by
  show ((v ++ (t ++ rest)).drop 22).take 8 = t
  rw [← hv, List.drop_left' rfl, ← ht, List.take_left' rfl]
theorem wire_r (hv : v.length = 22) (ht : t.length = 8) : (wire v2 k fl v t rest).drop 35 = rest := by
  show (v ++ (t ++ rest)).drop 30 = rest
  rw [show 30 = v.length + t.length from by rw [hv, ht], ← List.append_assoc, ← List.length_append, List.drop_left' rfl]
end
theorem oct2_eq (x : Int) : octs 2 x = [x / 256 % 256, x % 256] := by
  show [x / 256 ^ 1 % 256, x / 256 ^ 0 % 256] = _
  simp
theorem oct4_eq (x : Int) : octs 4 x = [x / 16777216 % 256, x / 65536 % 256, x / 256 % 256, x % 256] := by
  show [x / 256 ^ 3 % 256, x / 256 ^ 2 % 256, x / 256 ^ 1 % 256, x / 256 ^ 0 % 256] = _
  simp
theorem oct6_eq (x : Int) : octs 6 x = [x / 1099511627776 % 256, x / 4294967296 % 256, x / 16777216 % 256, x / 65536 % 256, x / 256 % 256, x % 256] := by
  show [x / 256 ^ 5 % 256, x / 256 ^ 4 % 256, x / 256 ^ 3 % 256, x / 256 ^ 2 % 256, x / 256 ^ 1 % 256, x / 256 ^ 0 % 256] = _
  simp
theorem num2 (a b : Int) : num [a, b] = 256 * a + b := by simp [num]
theorem oct_st {x b c : Int} (hb : 0 ≤ b) (hc : b * 256 = c) : 256 * (x / c) + x / b % 256 = x / b := by
  subst hc; rw [← Int.ediv_ediv_of_nonneg hb]; exact Int.mul_ediv_add_emod _ _
theorem oct_top {x c : Int} (h0 : 0 ≤ x) (h1 : x < c * 256) (hc : 0 < c) : x / c % 256 = x / c :=
  Int.emod_eq_of_lt (Int.ediv_nonneg h0 (Int.le_of_lt hc)) (Int.ediv_lt_of_lt_mul hc (by rw [Int.mul_comm]; exact h1))
theorem div_low {B a l : Int} (hB : B ≠ 0) (h : 0 ≤ l) (g : l < B) : (B * a + l) / B = a := by
  rw [Int.add_comm, Int.add_mul_ediv_left _ _ hB, Int.ediv_eq_zero_of_lt h g, Int.zero_add]
theorem num_octs2 {x : Int} (h0 : 0 ≤ x) (h1 : x < 65536) : num (octs 2 x) = x := by
  rw [oct2_eq, num2, oct_top h0 h1 (by decide)]; exact Int.mul_ediv_add_emod _ _
theorem num_octs4 {x : Int} (h0 : 0 ≤ x) (h1 : x < 4294967296) : num (octs 4 x) = x := by
  rw [oct4_eq]
  simp only [num, List.foldl_cons, List.foldl_nil]
  rw [oct_top h0 h1 (by decide), Int.mul_zero, Int.zero_add, oct_st (by decide) (by decide), oct_st (by decide) (by decide)]
  exact Int.mul_ediv_add_emod _ _
theorem num_octs6 {x : Int} (h0 : 0 ≤ x) (h1 : x < 281474976710656) : num (octs 6 x) = x := by
  rw [oct6_eq]
  simp only [num, List.foldl_cons, List.foldl_nil]
  rw [oct_top h0 h1 (by decide), Int.mul_zero, Int.zero_add, oct_st (by decide) (by decide), oct_st (by decide) (by decide), oct_st (by decide) (by decide), oct_st (by decide) (by decide)]
  exact Int.mul_ediv_add_emod _ _
theorem rdV_wire {v2 k fl : Int} {t rest : List Int} {rp rm co np nm pp pn ag mx he de : Int} (ok : okV rp rm co np nm pp pn ag mx he de) : RdV (wire v2 k fl (vecO rp rm co np nm pp pn) t rest) rp rm co np nm pp pn := by
  obtain ⟨⟨a1, b1⟩, ⟨a2, b2⟩, ⟨a3, b3⟩, ⟨a4, b4⟩, ⟨a5, b5⟩, ⟨a6, b6⟩, ⟨a7, b7⟩, _⟩ := ok
  unfold RdV
  rw [wire_v (vecO_length ..)]
  unfold vecO
  refine ⟨?_, ?_, ?_, ?_, ?_, ?_, ?_⟩
  · rw [oct2_eq, oct6_eq]; exact (oct2_eq rp ▸ num_octs2 a1 b1 : num [rp / 256 % 256, rp % 256] = rp)
  · rw [oct2_eq, oct6_eq]; exact (oct6_eq rm ▸ num_octs6 a2 b2)
  · rw [oct2_eq, oct6_eq, oct4_eq]; exact (oct4_eq co ▸ num_octs4 a3 b3)
  · rw [oct2_eq, oct6_eq, oct4_eq, oct2_eq]; exact (oct2_eq np ▸ num_octs2 a4 b4)
  · rw [oct2_eq, oct6_eq, oct4_eq, oct2_eq, oct6_eq]; exact (oct6_eq nm ▸ num_octs6 a5 b5)
  · rw [oct2_eq, oct6_eq, oct4_eq, oct2_eq, oct6_eq, oct2_eq]
    have e : num [(4096 * pp + pn) / 256 % 256, (4096 * pp + pn) % 256] = 4096 * pp + pn := oct2_eq _ ▸ num_octs2 (by omega) (by omega)
    show num [(4096 * pp + pn) / 256 % 256, (4096 * pp + pn) % 256] / 4096 = pp
    rw [e]; omega
  · rw [oct2_eq, oct6_eq, oct4_eq, oct2_eq, oct6_eq, oct2_eq]
    have e : num [(4096 * pp + pn) / 256 % 256, (4096 * pp + pn) % 256] = 4096 * pp + pn := oct2_eq _ ▸ num_octs2 (by omega) (by omega)
    show num [(4096 * pp + pn) / 256 % 256, (4096 * pp + pn) % 256] % 4096 = pn
    rw [e]; omega
theorem rdT_wire {v2 k fl : Int} {v rest : List Int} {ag mx he de l1 l2 l3 l4 : Int} (hv : v.length = 22) (h1 : 0 ≤ l1) (g1 : l1 < 256) (h2 : 0 ≤ l2) (g2 : l2 < 256) (h3 : 0 ≤ l3) (g3 : l3 < 256) (h4 : 0 ≤ l4) (g4 : l4 < 256) :
    RdT (wire v2 k fl v [ag, l1, mx, l2, he, l3, de, l4] rest) ag mx he de := by
  unfold RdT
  rw [wire_t hv rfl]
  refine ⟨?_, ?_, ?_, ?_⟩
  · show num [ag, l1] / 256 = ag; rw [num2]; exact div_low (by decide) h1 g1
  · show num [mx, l2] / 256 = mx; rw [num2]; exact div_low (by decide) h2 g2
  · show num [he, l3] / 256 = he; rw [num2]; exact div_low (by decide) h3 g3
  · show num [de, l4] / 256 = de; rw [num2]; exact div_low (by decide) h4 g4
theorem timO_eq {ag mx he de : Int} (a8 : 0 ≤ ag) (b8 : ag < 256) (a9 : 0 ≤ mx) (b9 : mx < 256) (a10 : 0 ≤ he) (b10 : he < 256) (a11 : 0 ≤ de) (b11 : de < 256) : timO ag mx he de = [ag, 0, mx, 0, he, 0, de, 0] := by
  unfold timO
  rw [octs2_256 a8 b8, octs2_256 a9 b9, octs2_256 a10 b10, octs2_256 a11 b11]
  rfl
abbrev flC (f0 f1 : Bool) : Int := b2i f0 + 128 * b2i f1
abbrev flR (f0 f1 f2 f3 f4 f5 : Bool) (r : Nat) : Int := b2i f0 + 128 * b2i f1 + 2 * b2i f2 + 4 * (r : Int) + 16 * b2i f4 + 32 * b2i f5 + 64 * b2i f3
theorem bitsC : ∀ f0 f1 : Bool, (Builtin.bitAnd (flC f0 f1) 1 == 1) = f0 ∧ (Builtin.bitAnd (flC f0 f1) 128 == 128) = f1 := by decide +kernel
theorem bitsR0 : ∀ (f0 f1 f2 f3 f4 f5 : Bool) (r : Fin 4), (Builtin.bitAnd (flR f0 f1 f2 f3 f4 f5 r) 1 == 1) = f0 ∧ (Builtin.bitAnd (flR f0 f1 f2 f3 f4 f5 r) 128 == 128) = f1 ∧ (Builtin.bitAnd (flR f0 f1 f2 f3 f4 f5 r) 2 == 2) = f2 ∧ (Builtin.bitAnd (flR f0 f1 f2 f3 f4 f5 r) 64 == 64) = f3 ∧
    (Builtin.bitAnd (flR f0 f1 f2 f3 f4 f5 r) 16 == 16) = f4 ∧ (Builtin.bitAnd (flR f0 f1 f2 f3 f4 f5 r) 32 == 32) = f5 ∧ Builtin.bitAnd ((flR f0 f1 f2 f3 f4 f5 r).fdiv (2 ^ Int.toNat 2)) 3 = ((r : Nat) : Int) := by decide +kernel
theorem bitsR (f0 f1 f2 f3 f4 f5 : Bool) {r : Nat} (hr : r < 4) : (Builtin.bitAnd (flR f0 f1 f2 f3 f4 f5 r) 1 == 1) = f0 ∧ (Builtin.bitAnd (flR f0 f1 f2 f3 f4 f5 r) 128 == 128) = f1 ∧ (Builtin.bitAnd (flR f0 f1 f2 f3 f4 f5 r) 2 == 2) = f2 ∧ (Builtin.bitAnd (flR f0 f1 f2 f3 f4 f5 r) 64 == 64) = f3 ∧
    (Builtin.bitAnd (flR f0 f1 f2 f3 f4 f5 r) 16 == 16) = f4 ∧ (Builtin.bitAnd (flR f0 f1 f2 f3 f4 f5 r) 32 == 32) = f5 ∧ Keep9 (Builtin.bitAnd ((flR f0 f1 f2 f3 f4 f5 r).fdiv (2 ^ Int.toNat 2)) 3 = (r : Nat)) :=
  let ⟨a, b, c, d, e, f, g⟩ := bitsR0 f0 f1 f2 f3 f4 f5 ⟨r, hr⟩
  ⟨a, b, c, d, e, f, ⟨g⟩⟩
end Mine
end
section
open PySem PySem.W PyProof.Rows PySem.Calls PySem.Spec
namespace Mine
section
variable {kd : Nat} {w : World} {mean : ExcName → Option Value} {mg mb : Str → Option Value} {f : Addr} {vs : List Value} {front : Led} {Post : Value → Led → Prop}
  {name qual : Str} {params : Arguments} {body : List Stmt} {scope : Scope} {dV kV doc pm cdv ct oc : Value} {an od : Option Addr} {osl : Array (Option Value)} {binds : List (Str × Value)}
theorem ctrS_mkC
    (ho : (Mine.wr.heap_1 w.params).lookup f = some ⟨oc, od, .func (fnOf name qual params body scope dV kV doc pm an cdv ct), osl⟩) (hcd : codeIn (Mine.wr.heap_1 w.params) cdv qual = true)
    (hbind : ∀ s, BindsTo s (fnOf name qual params body scope dV kV doc pm an cdv ct) ⟨vs, []⟩ binds) (hkind : (binds.all fun y => scope.names.lookup y.1 == some .local || scope.names.lookup y.1 == some .cell) = true)
    (hnd : ((cellsFrom 0 scope.names []).map (·.1)).Nodup)
    (hco : scope.isCoroutine = false) (hgen : scope.isGenerator = false) (hk : scope.kind = .function)
    (h : ∀ (dp un : Nat) (gd : Option (List Code)) (cn : Str) (snm : List (Str × NameKind)) (sig sic : Bool) (smo : List (Str × Const)) (a : Addr) (ccd : Value) (cl : List (Str × Addr)) (outer : List Env) (base : Heap) (L : Addr) (s : Shared) (g : Heap) (L' : Addr) (h₁ : Heap) (tk : Nat) (cells : Led),
      Fr g L' h₁ (bindL (envOfC qual scope L' f cdv).kindOf binds fun _ => none) → News g L' h₁ (cells ++ front) → CellsAre (bindC (envOfC qual scope L' f cdv).kindOf binds fun _ => none) (cellsFrom (L' + 1) scope.names []) cells → Below (ktrTop dp un gd cn (fscope snm sig sic smo) L a ccd cl outer) base (envX cn (fscope snm sig sic smo) L a ccd cl :: outer) g → (Mine.wr.heap_1 w.params).In g →
      Tp mean mg mb g → (∀ p ∈ front, p.1 < L') → dp + kd < recursionLimit → un + 10 * kd + 100 < cLine → (Mine.wr.heap_1 w.params).In base → Tp mean mg mb base → KtsDicts (frs (envX cn (fscope snm sig sic smo) L a ccd cl :: outer)) g →
      wpAny (model PySem.Challenge.rw_pb0549_01.row.prog w) ((ktrTop dp un gd cn (fscope snm sig sic smo) L a ccd cl outer).deeper (envOfC qual scope L' f cdv)) (execs body (envOfC qual scope L' f cdv))
        (fun fl s' => EndS (frs (envX cn (fscope snm sig sic smo) L a ccd cl :: outer)) g s Post (match fl with | .ret v => v | _ => .none) s') (fun _ _ => False) { s with heap := h₁, toks := tk }) :
    CtrS kd w mean mg mb f vs front Post := by
  intro dp un gd cn snm sig sic smo a ccd cl outer A₀ base h₀ L m s Q E rest B F X N NR S T XB TB D hdp hun hret
  refine wpAny_call ?_
  obtain ⟨FG, BG, st, lv⟩ := groundX (A := ktrTop dp un gd cn (fscope snm sig sic smo) L a ccd cl outer) (env := envX cn (fscope snm sig sic smo) L a ccd cl) (R := fun _ _ => True) B F N rfl rfl rfl
  have DG : KtsDicts (frs (envX cn (fscope snm sig sic smo) L a ccd cl :: outer)) (hideAll s.heap (front.map (·.1))) := fun b hb => by
    rcases memX (env := envX cn (fscope snm sig sic smo) L a ccd cl) rfl hb with rfl | hb
    · obtain ⟨oL, es, ep, hL, hLd, _, _⟩ := FG.ns
      exact ⟨oL, es, ep, hL, hLd⟩
    · obtain ⟨o, es', n', ho', hd'⟩ := D b hb
      exact ⟨o, es', n', st b o ho', hd'⟩
  refine codeAny_call_function (by show dp < recursionLimit; omega) (X.keeps F.keep _ _ ho) rfl hco hgen rfl (codeRec_of (X.keeps F.keep) hcd) ((hbind _) _ _ _ _ ?_)
  refine wpAny_newFunctionEnv_cells hk (kindsX hkind _) fun env' he s' x => ?_
  subst he
  refine ⟨(T.nolimit.keeps F.keep).keeps x.toInCall.keep, codeAny_func ?_⟩
  obtain ⟨h₁, tk, rfl, _⟩ := x.done
  have hk₁ := x.toInCall.keep
  obtain ⟨cells, NC, Y⟩ := Cl.news (h₀ := s.heap) (Nat.le_refl _) fun n c hm => ⟨x.cell n c (lookup_of_mem_nodup (cellsFrom_names scope.names 0 (s.heap.objs.size + 1) [] [] rfl ▸ hnd) hm), x.above n c hm⟩
  refine wpAny_mono (h dp un gd cn snm sig sic smo a ccd cl outer base L s _ s.heap.objs.size h₁ tk cells ⟨x.toInCall.ns, fun b o e => hk₁ b o (of_hideAll _ e), Nat.le_of_eq (hideAll_size _ _)⟩
    (fun p hp => ?_) Y BG (X.keeps st) (T.keeps st) (fun p hp => Heap.lt_size (N p hp).1) hdp hun XB TB DG) (fun fl s' hl => ?_) fun _ _ y => y.elim
  · rcases List.mem_append.mp hp with hp | hp
    · refine ⟨(NC p hp).1, (NC p hp).2.1, ?_⟩
      cases q : (hideAll s.heap (front.map (·.1))).get? p.1 with
      | none => rfl
      | some o => have := of_hideAll _ q; rw [(NC p hp).2.2] at this; cases this
    · exact ⟨hk₁ _ _ (N p hp).1, Nat.ne_of_lt (Heap.lt_size (N p hp).1), hideAll_none _ (List.mem_map_of_mem hp)⟩
  · exact ctrS_back (env := envX cn (fscope snm sig sic smo) L a ccd cl) B F N NR S rfl XB TB D hret hl
end
section
variable {kd : Nat} {w : World} {mean : ExcName → Option Value} {mg mb : Str → Option Value} {f : Addr} {vs : List Value} {front all rest : Led} {Post : Value → Led → Prop}
    {dp un : Nat} {gd : Option (List Code)} {cn : Str} {snm : List (Str × NameKind)} {sig sic : Bool} {smo : List (Str × Const)} {a : Addr} {ccd : Value} {cl : List (Str × Addr)} {outer : List Env} {A₀ : Around} {base h₀ : Heap} {L : Addr} {m : Str → Option Value} {s : Shared} {Q E : Value → Shared → Prop}
theorem CtrS.use (C : CtrS kd w mean mg mb f vs front Post)
    (B : Below A₀ base outer h₀) (F : Fr h₀ L s.heap m) (X : (Mine.wr.heap_1 w.params).In h₀) (N : News h₀ L s.heap all) (P : Pick front all rest) (S : Sep front rest) (T : Tp mean mg mb h₀) (XB : (Mine.wr.heap_1 w.params).In base) (TB : Tp mean mg mb base) (D : KtsDicts (frs outer) h₀)
    (hdp : dp + kd < recursionLimit) (hun : un + 10 * kd + 100 < cLine)
    (hret : ∀ h₀' h' tk', KtsTurn (frs outer) h₀ h₀' → Below A₀ base outer h₀' → (Mine.wr.heap_1 w.params).In h₀' → Tp mean mg mb h₀' → KtsDicts (frs outer) h₀' → Fr h₀' L h' m → ∀ v news', Bk (Post v news') (News h₀' L h' (news' ++ rest) → Bk (Sep news' rest) (Q v { s with heap := h', toks := tk' }))) :
    wpAny (model PySem.Challenge.rw_pb0549_01.row.prog w) (ktrTop dp un gd cn (fscope snm sig sic smo) L a ccd cl outer) (call (.ref f) vs) Q E s :=
  C _ _ _ _ _ _ _ _ _ _ _ _ _ _ _ _ _ _ _ _ _ B F X (fun p hp => N p (P.mem.1 p hp)) (fun p hp => N p (P.mem.2 p hp)) S T XB TB D hdp hun fun v n h₀' h' tk' K B' X' T' D' F' N' S' Po => hret h₀' h' tk' K B' X' T' D' F' v n Po N' S'
theorem CtrS.use0 (C : CtrS kd w mean mg mb f vs front Post)
    (B : Below A₀ base [] h₀) (F : Fr h₀ L s.heap m) (X : (Mine.wr.heap_1 w.params).In h₀) (N : News h₀ L s.heap all) (P : Pick front all rest) (S : Sep front rest) (T : Tp mean mg mb h₀) (XB : (Mine.wr.heap_1 w.params).In base) (TB : Tp mean mg mb base)
    (hdp : dp + kd < recursionLimit) (hun : un + 10 * kd + 100 < cLine)
    (hret : ∀ h' tk', Fr h₀ L h' m → ∀ v news', Bk (Post v news') (News h₀ L h' (news' ++ rest) → Bk (Sep news' rest) (Q v { s with heap := h', toks := tk' }))) :
    wpAny (model PySem.Challenge.rw_pb0549_01.row.prog w) (ktrTop dp un gd cn (fscope snm sig sic smo) L a ccd cl []) (call (.ref f) vs) Q E s := by
  refine CtrS.use C B F X N P S T XB TB ktsDicts_nil hdp hun fun h₀' h' tk' K B' X' T' D' F' v n Po N' S' => ?_
  have st : h₀.StaysIn h₀' := fun b o e => K.other b o e (by simp [frs])
  refine hret h' tk' ⟨F'.ns, fun b o e => F'.keep b o (st b o e), by rw [← K.size]; exact F'.above⟩ v n Po (fun p hp => ⟨(N' p hp).1, (N' p hp).2.1, ?_⟩) S'
  cases q : h₀.get? p.1 with
  | none => rfl
  | some o => have := (N' p hp).2.2; rw [st _ _ q] at this; cases this
end
end Mine
end
section
open PySem PySem.W PyProof.Rows PySem.Calls PySem.Spec
namespace Mine
section
variable {prog : Program} {w : World} {A : Around} {E : Value → Shared → Prop} {s : Shared} {h₀ : Heap} {L l t : Addr} {m : Str → Option Value} {news : Led} {value slice : PySem.Expr} {vs : List Value} {ks : List Int} {vl vu : Value} {lo hi : Option Int} {x y : Int} {Q : Value → Shared → Prop}
theorem OctsAre.sub {vs ws : List Value} {ks ls : List Int} (h : OctsAre vs ks) (g : IntsAre ws ls) (hs : ∀ x ∈ ls, x ∈ ks) : OctsAre ws ls := ⟨g, fun x hx => h.2 x (hs x hx)⟩
theorem slice_octs {n : Nat} {ms : List Int} (F : Fr h₀ L s.heap m) (N : News h₀ L s.heap news) (hm : (l, listOf vs.toArray n) ∈ news) (hk : OctsAre vs ks) (pl : IsPart vl lo) (pu : IsPart vu hi)
    (hi' : IntsAre vs ks → IntsAre (slicePick vs.toArray lo hi none).toList ms) (hs' : ∀ x ∈ ms, x ∈ ks) (hz : ks.length ≤ 16777216)
    (h : ∀ D zs h', Fr h₀ L h' m → News h₀ L h' ((D, listOf (List.toArray zs) 0) :: news) → (∀ p ∈ news, p.1 < D) → OctsAre zs ms → Q (.ref D) { s with heap := h' })
    (hs : subscripted slice false (.ref l) (.ref s.heap.objs.size) = operate [.ref s.heap.objs.size, .ref l] (getItem (.ref l) (.ref s.heap.objs.size)) := by with_unfolding_all rfl) (ht : ∀ r, letTemporaryGo value (.ref l) r = pure () := by intro _; with_unfolding_all rfl) :
    wpAny (model prog w) A (subscriptTail value slice (.ref l) (.ref s.heap.objs.size)) Q E { s with heap := s.heap.push { cls := .type "slice", data := .fields #[vl, vu, .none] } } := by
  refine kmk_slice F N (News.isList N hm) pl pu (fun D h' F' N' l1 => h D (slicePick vs.toArray lo hi none).toList h' F' ?_ l1 (hk.sub (hi' hk.1) hs')) hs ht (by rw [List.size_toArray, hk.1.length, sizeLine_eq]; exact hz)
  rw [Array.toArray_toList]
  exact N'
theorem slo_to (hy : 0 ≤ y) : IntsAre vs ks → IntsAre (slicePick vs.toArray none (some y) none).toList (ks.take y.toNat) := fun h => kmk_upto h hy
theorem slo_fr (hx : 0 ≤ x) : IntsAre vs ks → IntsAre (slicePick vs.toArray (some x) none none).toList (ks.drop x.toNat) := fun h => kmk_from h hx
theorem slo_run (hx : 0 ≤ x) (hy : 0 ≤ y) (hl : y.toNat ≤ ks.length) : IntsAre vs ks → IntsAre (slicePick vs.toArray (some x) (some y) none).toList ((ks.drop x.toNat).take (y.toNat - x.toNat)) := fun h => by
  have := kmk_run h hx hy
  rwa [Nat.min_eq_left hl] at this
theorem slo_neg (hy : y < 0) : IntsAre vs ks → IntsAre (slicePick vs.toArray none (some y) none).toList (ks.take (ks.length - (-y).toNat)) := fun h => kmk_upto_neg h hy
theorem mem_take' {α : Type} {l : List α} {n : Nat} : ∀ x ∈ l.take n, x ∈ l := fun _ h => List.mem_of_mem_take h
theorem mem_drop' {α : Type} {l : List α} {n : Nat} : ∀ x ∈ l.drop n, x ∈ l := fun _ h => List.mem_of_mem_drop h
theorem mem_run' {α : Type} {l : List α} {n k : Nat} : ∀ x ∈ (l.drop n).take k, x ∈ l := fun _ h => List.mem_of_mem_drop (List.mem_of_mem_take h)
theorem add_octs2 {a b : Addr} {n k : Nat} {xs ys : List Value} {ks ls : List Int} (F : Fr h₀ L s.heap m) (N : News h₀ L s.heap news) (ha : (a, listOf xs.toArray n) ∈ news) (hb : (b, listOf ys.toArray k) ∈ news)
    (hx : OctsAre xs ks) (hy : OctsAre ys ls) (hz : ks.length + ls.length ≤ 16777216)
    (h : ∀ D zs h', Fr h₀ L h' m → News h₀ L h' ((D, listOf (List.toArray zs) 0) :: news) → (∀ p ∈ news, p.1 < D) → OctsAre zs (ks ++ ls) → Q (.ref D) { s with heap := h' }) :
    wpAny (model prog w) A (binaryOp .Add (.ref a) (.ref b)) Q E s :=
  add_arrays F N (News.isList N ha) (News.isList N hb) (fun h' F' N' => h _ (xs ++ ys) h' F' N' (fun p hp => Heap.lt_size (N p hp).1) (hx.append hy))
    (by rw [List.size_toArray, List.size_toArray, hx.1.length, hy.1.length, sizeLine_eq]; exact hz)
theorem slicePart_of {v : Value} {k : Option Int} {Q : Option Int → Shared → Prop} (p : IsPart v k) (h : Q k s) : wpAny (model prog w) A (Builtin.Slice.slicePartIndex v) Q E s := by
  cases p with
  | none => exact slicePart_none h
  | int i t => exact slicePart_int h
theorem sliceApplied_of {sl : Addr} {n : Nat} {Q : Int × Int × Nat → Shared → Prop} (hs : s.heap.IsSliceOf sl vl vu .none) (pl : IsPart vl lo) (pu : IsPart vu hi)
    (h : Q ((Builtin.Slice.sliceAdjust lo hi 1 (n : Int)).1, 1, Builtin.Slice.slicePlaces (Builtin.Slice.sliceAdjust lo hi 1 (n : Int)).1 (Builtin.Slice.sliceAdjust lo hi 1 (n : Int)).2 1) s) :
    wpAny (model prog w) A (Builtin.Slice.sliceApplied (.ref sl) (pure (n : Int))) Q E s := by
  obtain ⟨os, hos, hcs, hds⟩ := id hs
  unfold Builtin.Slice.sliceApplied Builtin.Slice.sliceFields
  refine wpAny_bind (wpAny_bind (wpAny_field hos hds (x := vl) rfl (wpAny_bind (wpAny_field hos hds (x := vu) rfl (wpAny_bind (wpAny_field hos hds (x := .none) rfl (wpAny_pure ?_)))))))
  refine wpAny_bind (slicePart_none ?_)
  show wpAny _ _ (if ((1 : Int) == 0) = true then _ else _) _ _ s
  rw [if_neg (by decide)]
  exact wpAny_bind (slicePart_of pl (wpAny_bind (slicePart_of pu (wpAny_bind (wpAny_pure (wpAny_pure h))))))
theorem slice_tup {items zs : List Value} (a : Nat) (b : Int) (n : Nat) (F : Fr h₀ L s.heap m) (N : News h₀ L s.heap news) (hm : (t, tupO items) ∈ news) (pl : IsPart vl lo) (pu : IsPart vu hi)
    (ha : Builtin.Slice.sliceAdjust lo hi 1 (items.length : Int) = ((a : Int), b)) (hn : Builtin.Slice.slicePlaces (a : Int) b 1 = n) (hno : (((a : Int) == 0) && (1 : Int) == 1 && n == items.length) = false)
    (e : (items.drop a).take n = zs)
    (hz : zs.length ≤ 64)
    (h : ∀ D h', Fr h₀ L h' m → News h₀ L h' ((D, tupO zs) :: news) → (∀ p ∈ news, p.1 < D) → Q (.ref D) { s with heap := h' })
    (hs : subscripted slice false (.ref t) (.ref s.heap.objs.size) = operate [.ref s.heap.objs.size, .ref t] (getItem (.ref t) (.ref s.heap.objs.size)) := by with_unfolding_all rfl)
    (hg : ∀ r, letTemporaryGo value (.ref t) r = pure () := by intro _; with_unfolding_all rfl) :
    wpAny (model prog w) A (subscriptTail value slice (.ref t) (.ref s.heap.objs.size)) Q E { s with heap := s.heap.push { cls := .type "slice", data := .fields #[vl, vu, .none] } } := by
  have e' : ((List.range n).filterMap fun (k : Nat) => items.toArray[((a : Int) + (k : Int) * 1).toNat]?).toArray = zs.toArray := by
    have e1 : (fun (k : Nat) => items.toArray[((a : Int) + (k : Int) * 1).toNat]?) = fun k => items.toArray[a + k]? := by
      funext k
      have : ((a : Int) + (k : Int) * 1).toNat = a + k := by omega
      rw [this]
    rw [e1]
    have := pick_run items.toArray a n
    rw [List.filterMap_map] at this
    have e2 : ((fun x => items.toArray[x]?) ∘ fun x => a + x) = fun k => items.toArray[a + k]? := rfl
    rw [e2] at this
    rw [this, ← e]
  have ht : IsTup s.heap t items.toArray := N.isTup hm
  have ht' : IsTup (s.heap.push { cls := .type "slice", data := .fields #[vl, vu, .none] }) t items.toArray := ht.keeps fun _ _ e => Heap.get?_push_of_some _ e
  have N1 := News.push (F.push { cls := .type "slice", data := .fields #[vl, vu, .none] }) (N.grown fun _ _ e => Heap.get?_push_of_some _ e) (tupO zs)
  rw [Heap.size_push] at N1
  have hfin : Q (.ref (s.heap.push { cls := .type "slice", data := .fields #[vl, vu, .none] }).objs.size) { s with heap := (s.heap.push { cls := .type "slice", data := .fields #[vl, vu, .none] }).push (tupO zs) } := by
    rw [Heap.size_push]
    exact h _ _ ((F.push _).push _) N1 fun p hp => Nat.lt_succ_of_lt (Heap.lt_size (N p hp).1)
  refine subscriptTail_ops (s := { s with heap := s.heap.push { cls := .type "slice", data := .fields #[vl, vu, .none] } }) ht'.typeIs slot_tuple_getitem.lookup ?_ hs hg
  have hdrop : sizeOk (.seq zs.toArray) := by
    show zs.toArray.size ≤ sizeLine
    rw [List.size_toArray, sizeLine_eq]
    omega
  have hsl : (s.heap.push { cls := .type "slice", data := .fields #[vl, vu, .none] }).IsSliceOf s.heap.objs.size vl vu .none := Heap.IsSliceOf.new _ _ _ _
  generalize hH : s.heap.push { cls := .type "slice", data := .fields #[vl, vu, .none] } = H at *
  generalize s.heap.objs.size = sl at *
  obtain ⟨os, hos, hcs, hds⟩ := id hsl
  have hTs : ({ s with heap := H } : Shared).TypeIs (.ref sl) "slice" := ⟨os, hos, hcs⟩
  unfold getItem
  try with_reducible refine wpAny_holding ?_
  first | refine wpAny_bind (wpAny_pure ?_) | skip
  refine wpAny_bind (wpAny_sequenceKey ht'.typeIs (by decide) ?_)
  refine wpAny_bind (wpAny_callSpecial?_slot (name := Str.ofString "__getitem__") ht'.typeIs slot_tuple_getitem
    (wpAny_call_entry slot_tuple_getitem ht'.typeIs entry_tuple_getitem ?_ (args_tuple_getitem _ _)))
  show wpAny _ _ (Builtin.Tuple.tupleItemsOf (.ref t) >>= _) _ _ _
  refine wpAny_bind (tupleItemsOf_ ht' ?_)
  refine wpAny_bind (wpAny_typeOf hTs ?_)
  rw [if_pos (by decide)]
  have es : items.toArray.size = items.length := List.size_toArray
  refine wpAny_bind (sliceApplied_of (s := { s with heap := H }) hsl pl pu ?_)
  rw [es, ha]
  dsimp only
  rw [hn]
  show wpAny _ _ (if (_ && (1 : Int) == 1 && _) = true then _ else _) _ _ _
  rw [if_neg (by rw [hno]; exact Bool.false_ne_true), e']
  first
    | exact wpAny_bind (m := Builtin.Tuple.tupleExact _) (wpAny_newObj_type (wpAny_pure ⟨_, rfl, wpAny_pure hfin⟩) hdrop)
    | exact wpAny_bind (m := Builtin.Tuple.tupleExact _) (wpAny_newObj_type (wpAny_bind (wpAny_pure (wpAny_pure ⟨_, rfl, wpAny_pure hfin⟩))) hdrop)
    | exact wpAny_bind (wpAny_bind (m := Builtin.Tuple.tupleExact _) (wpAny_newObj_type (wpAny_pure (wpAny_pure ⟨_, rfl, wpAny_pure hfin⟩)) hdrop))
    | exact wpAny_bind (wpAny_bind (m := Builtin.Tuple.tupleExact _) (wpAny_newObj_type (wpAny_pure ⟨_, rfl, wpAny_pure hfin⟩) hdrop))
end
end Mine
end
section
open PySem PySem.W PyProof.Rows PySem.Calls PySem.Spec
namespace Mine
theorem ite_ft {p q : Prop} (h : q) : if false = true then p else q := h
theorem ite_tt9 {p q : Prop} (h : p) : if true = true then p else q := h
def Bad (ks : List Int) : Prop :=
  ks.length < 4 ∨ (4 ≤ ks.length ∧ ¬ num (ks.take 2) = 0) ∨
  (4 ≤ ks.length ∧ num (ks.take 2) = 0 ∧ ¬ 0 = ks.getD (Int.toNat 3) 0 ∧ ¬ 2 = ks.getD (Int.toNat 3) 0 ∧ ¬ 128 = ks.getD (Int.toNat 3) 0) ∨
  (4 ≤ ks.length ∧ num (ks.take 2) = 0 ∧ ks.getD (Int.toNat 3) 0 = 0 ∧ ks.length < 35) ∨
  (4 ≤ ks.length ∧ num (ks.take 2) = 0 ∧ ks.getD (Int.toNat 3) 0 = 2 ∧ ks.length < 36) ∨
  (36 ≤ ks.length ∧ num (ks.take 2) = 0 ∧ ks.getD (Int.toNat 3) 0 = 2 ∧ (if 3 < ks.getD (Int.toNat 2) 0 then 3 else ks.getD (Int.toNat 2) 0) < 2) ∨
  (36 ≤ ks.length ∧ num (ks.take 2) = 0 ∧ ks.getD (Int.toNat 3) 0 = 2 ∧ 2 ≤ (if 3 < ks.getD (Int.toNat 2) 0 then 3 else ks.getD (Int.toNat 2) 0) ∧ ¬ ks.getD (Int.toNat 35) 0 = 0)
theorem bad_short {ks : List Int} {n : Nat} (h : n < 4) : Bad (ks.take n) := Or.inl (by rw [List.length_take]; omega)
theorem bad_first {x : Int} {ks : List Int} (h : 0 ≤ x) (hl : 2 ≤ ks.length) : Bad ((x + 1) :: 0 :: ks) := Or.inr (Or.inl ⟨by simp only [List.length_cons]; omega, by
  show ¬ num [x + 1, 0] = 0
  simp only [num, List.foldl_cons, List.foldl_nil]
  omega⟩)
theorem bad_kind {v2 x : Int} {ks : List Int} (h0 : x ≠ 0) (h2 : x ≠ 2) (h8 : x ≠ 128) : Bad (0 :: 0 :: v2 :: x :: ks) := Or.inr (Or.inr (Or.inl ⟨by simp only [List.length_cons]; omega, rfl, Ne.symm h0, Ne.symm h2, Ne.symm h8⟩))
theorem take_cases {a b c d : Int} {ks : List Int} (n : Nat) : n < 4 ∨ ∃ m, n = m + 4 ∧ (a :: b :: c :: d :: ks).take n = a :: b :: c :: d :: ks.take m := by
  match n with
  | 0 => exact Or.inl (by decide)
  | 1 => exact Or.inl (by decide)
  | 2 => exact Or.inl (by decide)
  | 3 => exact Or.inl (by decide)
  | m + 4 => exact Or.inr ⟨m, rfl, rfl⟩
theorem bad_cut0 {v2 : Int} {ks : List Int} {n : Nat} (h : n < 35) : Bad ((0 :: 0 :: v2 :: 0 :: ks).take n) := by
  rcases take_cases (a := 0) (b := 0) (c := v2) (d := 0) (ks := ks) n with q | ⟨m, rfl, e⟩
  · exact bad_short q
  · rw [e]
    refine Or.inr (Or.inr (Or.inr (Or.inl ⟨by simp only [List.length_cons]; omega, rfl, rfl, ?_⟩)))
    simp only [List.length_cons, List.length_take]; omega
theorem bad_cut2 {v2 : Int} {ks : List Int} {n : Nat} (h : n < 36) : Bad ((0 :: 0 :: v2 :: 2 :: ks).take n) := by
  rcases take_cases (a := 0) (b := 0) (c := v2) (d := 2) (ks := ks) n with q | ⟨m, rfl, e⟩
  · exact bad_short q
  · rw [e]
    refine Or.inr (Or.inr (Or.inr (Or.inr (Or.inl ⟨by simp only [List.length_cons]; omega, rfl, rfl, ?_⟩))))
    simp only [List.length_cons, List.length_take]; omega
theorem bad_old {x : Int} {ks : List Int} (h : x < 2) (hl : 32 ≤ ks.length) : Bad (0 :: 0 :: x :: 2 :: ks) := by
  refine Or.inr (Or.inr (Or.inr (Or.inr (Or.inr (Or.inl ⟨by simp only [List.length_cons]; omega, rfl, rfl, ?_⟩)))))
  show (if 3 < x then 3 else x) < 2
  rw [if_neg (by omega)]; exact h
section
variable {v2 k fl x a b ag mx he de : Int} {v t rest more : List Int}
theorem wire_more : wire v2 k fl v t rest ++ more = wire v2 k fl v t (rest ++ more) := by unfold wire; simp only [List.cons_append, List.append_assoc]
theorem wire_ver : (wire v2 k fl v t rest).take 2 ++ [x] ++ (wire v2 k fl v t rest).drop 3 = wire x k fl v t rest := rfl
theorem wire_verM : (wire v2 k fl v t rest).take 2 ++ [x] ++ (wire v2 k fl v t rest).drop 3 ++ more = wire x k fl v t (rest ++ more) := by rw [wire_ver, wire_more]
theorem wire_kind : (wire v2 k fl v t rest).take 3 ++ [x] ++ (wire v2 k fl v t rest).drop 4 = wire v2 x fl v t rest := rfl
theorem wire_28 (hv : v.length = 22) : (wire v2 k fl v (a :: t) rest).take 28 = 0 :: 0 :: v2 :: k :: fl :: (v ++ [a]) := by
  show 0 :: 0 :: v2 :: k :: fl :: (v ++ (a :: t ++ rest)).take 23 = _
  rw [show v ++ (a :: t ++ rest) = (v ++ [a]) ++ (t ++ rest) from by simp, List.take_left' (by simp [hv])]
theorem wire_29 (hv : v.length = 22) : (wire v2 k fl v (a :: b :: t) rest).drop 29 = t ++ rest := by
  show (v ++ (a :: b :: t ++ rest)).drop 24 = _
  rw [show v ++ (a :: b :: t ++ rest) = (v ++ [a, b]) ++ (t ++ rest) from by simp, List.drop_left' (by simp [hv])]
theorem wire_parts (hv : v.length = 22) : (wire v2 k fl v [ag, 0, mx, 0, he, 0, de, 0] rest).take 28 ++ [a] ++ ((wire v2 k fl v [ag, 0, mx, 0, he, 0, de, 0] rest).drop 29).take 5 ++ [b] ++ (wire v2 k fl v [ag, 0, mx, 0, he, 0, de, 0] rest).drop 35 = wire v2 k fl v [ag, a, mx, 0, he, 0, de, b] rest := by
  rw [wire_28 hv, wire_29 hv, wire_r hv rfl]
  show _ ++ [mx, 0, he, 0, de] ++ _ ++ _ = _
  unfold wire
  simp
theorem wire_36x (hv : v.length = 22) (ht : t.length = 8) : (wire v2 k fl v t (a :: rest)).take 35 ++ [x] ++ (wire v2 k fl v t (a :: rest)).drop 36 = wire v2 k fl v t (x :: rest) := by
  have e : (wire v2 k fl v t (a :: rest)).drop 36 = rest := by
    rw [show 36 = 35 + 1 from rfl, ← List.drop_drop, wire_r hv ht]; rfl
  have e2 : (wire v2 k fl v t (a :: rest)).take 35 = 0 :: 0 :: v2 :: k :: fl :: (v ++ t) := by
    show 0 :: 0 :: v2 :: k :: fl :: (v ++ (t ++ a :: rest)).take 30 = _
    rw [← List.append_assoc, List.take_left' (by simp [hv, ht])]
  rw [e, e2]
  unfold wire
  simp
theorem bad_wire35 (hv : v.length = 22) (ht : t.length = 8) (h2 : 2 ≤ v2) (h0 : 0 ≤ x) : Bad (wire v2 2 fl v t ((1 + x) :: rest)) := by
  refine Or.inr (Or.inr (Or.inr (Or.inr (Or.inr (Or.inr ⟨?_, rfl, rfl, ?_, ?_⟩)))))
  · rw [wire_len hv ht]; simp only [List.length_cons]; omega
  · show 2 ≤ (if 3 < v2 then 3 else v2)
    split <;> omega
  · have e : (wire v2 2 fl v t ((1 + x) :: rest)).getD (Int.toNat 35) 0 = 1 + x := by
      show (wire v2 2 fl v t ((1 + x) :: rest)).getD 35 0 = 1 + x
      rw [List.getD_eq_getElem?_getD, ← List.getElem?_drop (i := 35) (j := 0), wire_r hv ht]
      rfl
    rw [e]; omega
theorem wire_last (hv : v.length = 22) (ht : t.length = 8) (z : List Int) (y : Int) : (wire v2 k fl v t (z ++ [y])).take ((wire v2 k fl v t (z ++ [y])).length - 1) = wire v2 k fl v t z := by
  rw [wire_len hv ht, ← wire_more]
  refine List.take_left' ?_
  rw [wire_len hv ht]; simp only [List.length_append, List.length_cons, List.length_nil]; omega
theorem wire_nine : wire x k fl v t ([0] ++ [0, 0]) = wire x k fl v t (0 :: (octs 2 ((([] : List Int).length : Nat) : Int) ++ ([] ++ []))) := by
  show _ = wire x k fl v t (0 :: (octs 2 0 ++ ([] ++ [])))
  rw [octs2_0]; rfl
theorem wire_tail {m : Int} {tl : List Int} : wire v2 k fl v t ((0 :: (octs 2 m ++ tl)) ++ more) = wire v2 k fl v t (0 :: (octs 2 m ++ (tl ++ more))) := by
  rw [List.cons_append, List.append_assoc]
theorem wire_tail0 {m : Int} {tl : List Int} : wire v2 k fl v t (0 :: (octs 2 m ++ tl)) = wire v2 k fl v t (0 :: (octs 2 m ++ (tl ++ []))) := by
  rw [List.append_nil]
theorem wire_cut {m : Int} {tl : List Int} {c : Nat} (hc : c = 1) (hv : v.length = 22) (ht : t.length = 8) (hne : tl ≠ []) : (wire v2 k fl v t (0 :: (octs 2 m ++ tl))).take ((wire v2 k fl v t (0 :: (octs 2 m ++ tl))).length - c) = wire v2 k fl v t (0 :: (octs 2 m ++ tl.dropLast)) := by
  subst hc
  obtain ⟨z, y, rfl⟩ : ∃ z y, tl = z ++ [y] := ⟨_, _, (List.dropLast_concat_getLast hne).symm⟩
  rw [show (0 : Int) :: (octs 2 m ++ (z ++ [y])) = (0 :: (octs 2 m ++ z)) ++ [y] from by simp, List.dropLast_concat]
  exact wire_last hv ht _ y
end
theorem wire_lenV {v2 k fl rp rm co np nm pp pn a b c d e f g h : Int} {rest : List Int} : (wire v2 k fl (vecO rp rm co np nm pp pn) [a, b, c, d, e, f, g, h] rest).length = 35 + rest.length := wire_len (vecO_length ..) rfl
theorem eq_bytes_cases {prog : Program} {w : World} {A : Around} {E : Value → Shared → Prop} {s : Shared} {b c : Array UInt8} {t u : Tok} {Q : Value → Shared → Prop} (h1 : b = c → Q (.bool true) s) (h2 : b ≠ c → Q (.bool false) s) : wpAny (model prog w) A (compareOp .Eq (.bytes b t) (.bytes c u)) Q E s := by
  refine eq_bytes ?_
  by_cases h : b = c
  · rw [show (b.toList == c.toList) = true from by rw [h]; exact beq_self_eq_true _]
    exact h1 h
  · rw [show (b.toList == c.toList) = false from beq_eq_false_iff_ne.mpr fun e => h (Array.toList_inj.mp e)]
    exact h2 h
theorem OctsAre.cast {vs : List Value} {ks ls : List Int} (h : OctsAre vs ks) (e : ks = ls) : OctsAre vs ls := e ▸ h
theorem News.cut {h₀ h : Heap} {L : Addr} {news : Led} (k : Nat) (N : News h₀ L h news) : News h₀ L h (news.drop k) := fun p hp => N p (List.mem_of_mem_drop hp)
theorem lt_all {news : Led} {d x : Addr} (l1 : ∀ p ∈ news, p.1 < d) (l2 : @LT.lt Nat _ d x) : ∀ p ∈ news, p.1 < x := fun p hp => Nat.lt_trans (l1 p hp) l2
theorem ne_octs {prog : Program} {w : World} {A : Around} {E : Value → Shared → Prop} {s : Shared} {h₀ : Heap} {L a b : Addr} {news : Led} {n k : Nat} {xs ys : List Value} {ks : List Int} {Q : Value → Shared → Prop} (N : News h₀ L s.heap news) (ma : (a, listOf xs.toArray n) ∈ news) (mb : (b, listOf ys.toArray k) ∈ news) (hi : OctsAre xs ks) (hj : OctsAre ys ks) (hu : A.units + 64 < cLine) (q : Q (.bool false) s) : wpAny (model prog w) A (compareOp .NotEq (.ref a) (.ref b)) Q E s :=
  ke_ne_ints (News.isList N ma) (News.isList N mb) hi.1 hj.1 hu (by rw [decide_eq_true rfl]; exact q)
end Mine
end
section
open PySem PySem.W PyProof.Rows PySem.Calls PySem.Spec
set_option maxRecDepth 100000
namespace Mine
section
variable {prog : Program} {w : World} {A : Around} {E : Value → Shared → Prop} {s : Shared} {env : Env} {h₀ : Heap} {x : Str} {body : List Stmt} {Q : Flow → Shared → Prop}
def TurnOk (h₀ : Heap) (L : Addr) (J : (Str → Option Value) → Led → Prop) (I : Addr) (oI : Obj) (s : Shared) (f : Flow) (s₂ : Shared) : Prop :=
  f = .next ∧ ∃ h' tk' m' nx, s₂ = { s with heap := h', toks := tk' } ∧ Fr h₀ L h' m' ∧ News h₀ L h' (nx ++ [(I, oI)]) ∧ (∀ p ∈ nx, @Ne Nat p.1 I) ∧ J m' nx
theorem range_turns {r : Addr} {a₀ b₀ : Int} {t₀ u₀ v₀ : Tok} {n : Nat} {m₀ : Str → Option Value} {news : Led} (J : (Str → Option Value) → Led → Prop)
    (hh : A.handled = none) (hr : IsRange s.heap r a₀ b₀ 1 t₀ u₀ v₀) (hsmall : Builtin.Range.small a₀ b₀ 1 = true) (hn : Builtin.Range.rangeSize a₀ b₀ 1 = (n : Int)) (F : Fr h₀ env.locals s.heap m₀) (N : News h₀ env.locals s.heap news) (hj : J m₀ news)
    (turn : ∀ k t m₁ nx h tk I oI, (∀ p ∈ nx, @Ne Nat p.1 I) → J m₁ nx → Fr h₀ env.locals h (fun y => if y = x then some (.int k t) else m₁ y) → News h₀ env.locals h (nx ++ [(I, oI)]) →
      wpAny (model prog w) A (execs body env) (TurnOk h₀ env.locals J I oI s) E { s with heap := h, toks := tk })
    (done : ∀ m₁ nx h tk, J m₁ nx → Fr h₀ env.locals h m₁ → News h₀ env.locals h nx → Q .next { s with heap := h, toks := tk }) :
    wpAny (model prog w) A (pyIter (.ref r)) (fun it s₂ => LoopAtV prog w A h₀ env x body Q E it s₂) E s := by
  refine wpAny_pyIter_range hr hsmall ?_
  have W : Walks prog w A s.heap.objs.size [s.heap.objs.size] [s.heap.objs.size] n (fun i v => i < n ∧ ∃ t, v = .int (a₀ + i * 1) t)
      (fun i h => IsRangeIter h s.heap.objs.size (a₀ + (i : Nat) * 1) ((n : Int) - (i : Nat)) 1) := (Walks.range hh _ a₀ 1 n).bound
  refine ⟨_, _, _, n, _, _, m₀, news, fun _ => J, rfl, W, ?_, ?_, ?_, (by show IsRangeIter _ _ _ _ _; rw [hn]; simpa using Heap.get?_push_size _ rfl), F.push _, (fun p hp => ⟨Heap.get?_push_of_some _ (N p hp).1, (N p hp).2⟩), hj, ?_, ?_⟩
  · intro hm
    exact absurd F.ns.lt ((List.mem_singleton.mp hm) ▸ Nat.lt_irrefl _)
  · intro b hb
    rw [List.mem_singleton.mp hb]
    exact next_is_new F
  · intro p hp hI
    exact absurd (Heap.lt_size (N p hp).1) ((List.mem_singleton.mp hI) ▸ Nat.lt_irrefl _)
  · rintro i v m₁ nx s₁ own ⟨hh', tk', rfl⟩ hin hP hJ hoff hown hget hfp hst F₁ N₁
    obtain ⟨_, t, rfl⟩ := hP
    have hI0 : h₀.get? s.heap.objs.size = none := next_is_new F
    have hoI := hst
    unfold IsRangeIter at hoI
    have hIown := hfp _ (List.mem_cons.mpr (.inl rfl)) hI0 _ hoI
    have hne : ∀ p ∈ nx, @Ne Nat p.1 s.heap.objs.size := fun p hp e => hoff p hp (List.mem_singleton.mpr e)
    have N₂ : News h₀ env.locals hh' (nx ++ [(s.heap.objs.size, _)]) := fun p hp => N₁ p ((List.mem_append.mp hp).elim (fun h => List.mem_append.mpr (.inr h)) fun h => List.mem_append.mpr (.inl (by rw [List.mem_singleton.mp h]; exact hIown)))
    refine wpAny_mono (turn _ t m₁ nx hh' tk' _ _ hne hJ F₁ N₂) (fun f s₂ p => ?_) fun _ _ e => e
    obtain ⟨rfl, h', tk, m', nx', rfl, F', N', hne', hm⟩ := p
    have hoI' := (N' _ (List.mem_append.mpr (.inr (List.mem_singleton.mpr rfl)))).1
    refine LoopStepV.next ⟨rfl, h', tk, m', nx', rfl, F', fun p hp => ?_, fun p hp hq => hne' p hp (List.mem_singleton.mp hq), hm⟩
    rcases List.mem_append.mp hp with hp | hp
    · have e1 := List.mem_singleton.mp (hown p hp)
      have e2 := hget p hp
      have N3 := N' _ (List.mem_append.mpr (.inr (List.mem_singleton.mpr rfl)))
      have e3 : p = (s.heap.objs.size, _) := Prod.ext e1 (Option.some.inj (e2.symm.trans (by rw [e1]; exact hoI)))
      rw [e3]; exact N3
    · exact N' p (List.mem_append.mpr (.inl hp))
  · rintro h' tk m' nx F' N' _ hJ
    exact done m' nx h' tk hJ F' N'
end
abbrev over (o1 o2 o3 : Option Value) (m₀ : Str → Option Value) : Str → Option Value := fun y : Str => if y = Str.ofString "told" then o1 else if y = Str.ofString "row" then o2 else if y = Str.ofString "turn" then o3 else m₀ y
theorem over3 {m' m₀ : Str → Option Value} (h : ∀ y : Str, ¬ y = Str.ofString "told" → ¬ y = Str.ofString "row" → ¬ y = Str.ofString "turn" → m' y = m₀ y) : m' = over (m' (Str.ofString "told")) (m' (Str.ofString "row")) (m' (Str.ofString "turn")) m₀ := by
  funext y
  unfold over
  by_cases h1 : y = Str.ofString "told"
  · rw [if_pos h1, h1]
  · rw [if_neg h1]
    by_cases h2 : y = Str.ofString "row"
    · rw [if_pos h2, h2]
    · rw [if_neg h2]
      by_cases h3 : y = Str.ofString "turn"
      · rw [if_pos h3, h3]
      · rw [if_neg h3]; exact h y h1 h2 h3
theorem News.rotl {h₀ h : Heap} {L : Addr} {l : Led} {p : Addr × Obj} (N : News h₀ L h l) (hp : p ∈ l) : News h₀ L h (p :: l.dropLast) := fun q hq => by
  rcases List.mem_cons.mp hq with rfl | hq
  · exact N _ hp
  · exact N _ ((List.dropLast_sublist l).mem hq)
def JL (src : Addr) (pre : Led) (m₀ : Str → Option Value) (m : Str → Option Value) (nx : Led) : Prop :=
  ∃ o1 o2 o3 o, m = over o1 o2 o3 m₀ ∧ nx = (src, o) :: pre ∧ SrcO o
theorem JL.start {src : Addr} {pre : Led} {m₀ : Str → Option Value} {o : Obj} (h0 : SrcO o) : JL src pre m₀ m₀ ((src, o) :: pre) :=
  ⟨_, _, _, _, over3 fun _ _ _ _ => rfl, rfl, h0⟩
section
variable {fl rp rm co np nm pp pn ag mx he de : Int}
end
theorem packA_w : packA = [0, 0, 0, 128] := by decide +kernel
theorem ver23 {ver : Int} (h2 : 2 ≤ ver) (h3 : ver ≤ 3) : ver = 2 ∨ ver = 3 := by omega
end Mine
end
section
open PySem PySem.W PyProof.Rows PySem.Calls PySem.Spec
set_option maxRecDepth 100000
namespace Mine
section
variable {prog : Program} {w : World} {A : Around} {E : Value → Shared → Prop} {s : Shared} {h₀ : Heap} {L : Addr} {m : Str → Option Value} {news keep : Led}
def CutB (h₀ : Heap) (L : Addr) (m : Str → Option Value) (s : Shared) (keep : Led) (b : Bool) (v : Bool) (s' : Shared) : Prop :=
  ∃ h' tk', v = b ∧ s' = { s with heap := h', toks := tk' } ∧ Fr h₀ L h' m ∧ News h₀ L h' keep
theorem CutB.intro {b : Bool} {h' : Heap} {tk' : Nat} {all rest : Led} (F : Fr h₀ L h' m) (N : News h₀ L h' all) (S : Pick keep all rest) : CutB h₀ L m s keep b b { s with heap := h', toks := tk' } :=
  ⟨h', tk', rfl, rfl, F, fun p hp => N p (S.mem.1 p hp)⟩
theorem cut_test {x : Sem Bool} {b : Bool} {Q : Bool → Shared → Prop} (_F : Fr h₀ L s.heap m) (_N : News h₀ L s.heap keep) (h1 : CutMark → wpAny (model prog w) A x (CutB h₀ L m s keep b) E s)
    (h2 : ∀ h' tk', Fr h₀ L h' m → News h₀ L h' keep → Q b { s with heap := h', toks := tk' }) : wpAny (model prog w) A x Q E s :=
  wpAny_mono (h1 ⟨trivial⟩) (fun v s' hv => by obtain ⟨h', tk', rfl, rfl, F, N⟩ := hv; exact h2 h' tk' F N) fun _ _ e => e
theorem cut_test1 {p : Addr × Obj} {x : Sem Bool} {b : Bool} {Q : Bool → Shared → Prop} (_F : Fr h₀ L s.heap m) (_N : News h₀ L s.heap (p :: keep)) (h1 : CutMark → wpAny (model prog w) A x (CutB h₀ L m s keep b) E s)
    (h2 : ∀ h' tk', Fr h₀ L h' m → News h₀ L h' keep → Q b { s with heap := h', toks := tk' }) : wpAny (model prog w) A x Q E s :=
  cut_test _F (fun q hq => _N q (List.mem_cons_of_mem _ hq)) h1 h2
theorem News.turn {h : Heap} {a b : Addr × Obj} {l1 l2 : Led} (N : News h₀ L h (a :: (l1 ++ (b :: l2)))) : News h₀ L h (a :: b :: (l1 ++ l2)) := fun p hp => N p (by
  rcases List.mem_cons.mp hp with rfl | hp
  · exact .head _
  · refine .tail _ (List.mem_append.mpr ?_)
    rcases List.mem_cons.mp hp with rfl | hp
    · exact .inr (.head _)
    · rcases List.mem_append.mp hp with hp | hp
      · exact .inl hp
      · exact .inr (.tail _ hp))
theorem slice_tail {t : Addr} {value slice : PySem.Expr} {v0 : Value} {R : List Value} {u : Tok} {Q : Value → Shared → Prop} (F : Fr h₀ L s.heap m) (N : News h₀ L s.heap news) (hm : (t, tupO (v0 :: R)) ∈ news) (hR : R.length ≤ 60)
    (h : ∀ D h', Fr h₀ L h' m → News h₀ L h' ((D, tupO R) :: news) → (∀ p ∈ news, p.1 < D) → Q (.ref D) { s with heap := h' })
    (hs : subscripted slice false (.ref t) (.ref s.heap.objs.size) = operate [.ref s.heap.objs.size, .ref t] (getItem (.ref t) (.ref s.heap.objs.size)) := by with_unfolding_all rfl)
    (hg : ∀ r, letTemporaryGo value (.ref t) r = pure () := by intro _; with_unfolding_all rfl) :
    wpAny (model prog w) A (subscriptTail value slice (.ref t) (.ref s.heap.objs.size)) Q E { s with heap := s.heap.push { cls := .type "slice", data := .fields #[.int 1 u, .none, .none] } } := by
  have hl : 1 ≤ (v0 :: R).length := by simp
  refine slice_tup 1 ((v0 :: R).length : Int) R.length F N hm (IsPart.int 1 u) IsPart.none (adjust_from 1 _ hl) ?_ ?_ ?_ (Nat.le_trans hR (by decide)) h hs hg
  · have := places_from 1 (v0 :: R).length hl
    simpa using this
  · rfl
  · simp
end
theorem sub_cons {p : Addr × Obj} {r all : Led} (h : p ∈ all) (g : ∀ q ∈ r, q ∈ all) : ∀ q ∈ p :: r, q ∈ all := fun q hq => by
  rcases List.mem_cons.mp hq with rfl | hq
  · exact h
  · exact g q hq
theorem sub_skip {e : Addr × Obj} {t l : Led} (g : ∀ q ∈ t, q ∈ l) : ∀ q ∈ t, q ∈ e :: l := fun q hq => .tail _ (g q hq)
theorem sub_app {t l1 l : Led} (g : ∀ q ∈ t, q ∈ l) : ∀ q ∈ t, q ∈ l1 ++ l := fun q hq => List.mem_append_right _ (g q hq)
theorem sub_appL {t l1 l : Led} (g : ∀ q ∈ t, q ∈ l1) : ∀ q ∈ t, q ∈ l1 ++ l := fun q hq => List.mem_append_left _ (g q hq)
theorem allLt_mem {d : Addr} {l : Led} (h : AllLt d l) : ∀ p ∈ l, @LT.lt Nat _ p.1 d := by
  induction l with
  | nil => intro p hp; cases hp
  | cons x r ih =>
    intro p hp
    obtain ⟨h1, h2⟩ : @LT.lt Nat _ x.1 d ∧ AllLt d r := h
    rcases List.mem_cons.mp hp with rfl | hp
    · exact h1
    · exact ih h2 p hp
theorem lt_tail {d : Addr} {l : Led} (h : AllLt d l) : ∀ q ∈ l, @Ne Nat d q.1 := fun q hq => Nat.ne_of_gt (allLt_mem h q hq)
section
variable {prog : Program} {w : World} {A : Around} {E : Value → Shared → Prop} {s : Shared} {h₀ : Heap} {L : Addr} {m : Str → Option Value} {news keep : Led}
theorem CutB.sub {b : Bool} {h' : Heap} {tk' : Nat} {all : Led} (F : Fr h₀ L h' m) (N : News h₀ L h' all) (S : ∀ p ∈ keep, p ∈ all) : CutB h₀ L m s keep b b { s with heap := h', toks := tk' } :=
  ⟨h', tk', rfl, rfl, F, fun p hp => N p (S p hp)⟩
theorem News.told {h : Heap} {y x dx : Addr × Obj} {D T l : Led} (N : News h₀ L h ((y :: (D ++ (x :: dx :: T))) ++ l)) : ∃ TT, (∀ p ∈ D, p ∈ TT) ∧ (∀ p ∈ T, p ∈ TT) ∧ (∀ p ∈ TT, p ∈ D ∨ p ∈ T) ∧ News h₀ L h (y :: x :: dx :: (l ++ TT)) :=
  ⟨D ++ T, fun _ h => List.mem_append_left _ h, fun _ h => List.mem_append_right _ h, fun _ h => List.mem_append.mp h, fun p hp => N p (by
    simp only [List.mem_cons, List.mem_append] at hp ⊢
    rcases hp with h | h | h | h | h | h
    · exact .inl (.inl h)
    · exact .inl (.inr (.inr (.inl h)))
    · exact .inl (.inr (.inr (.inr (.inl h))))
    · exact .inr h
    · exact .inl (.inr (.inl h))
    · exact .inl (.inr (.inr (.inr (.inr h)))))⟩
end
theorem Ctr.useM {kd : Nat} {w : World} {mean : ExcName → Option Value} {mg mb : Str → Option Value} {f : Addr} {vs : List Value} {front all rest : Led} {Post : Value → Led → Prop} (C : Ctr kd w mean mg mb f vs front Post)
    {dp un : Nat} {gd : Option (List Code)} {cn : Str} {snm : List (Str × NameKind)} {sig sic : Bool} {smo : List (Str × Const)} {a : Addr} {ccd : Value} {cl : List (Str × Addr)} {outer : List Env} {A₀ : Around} {base h₀ : Heap} {L : Addr} {m : Str → Option Value} {s : Shared} {Q E : Value → Shared → Prop}
    (B : Below A₀ base outer h₀) (F : Fr h₀ L s.heap m) (X : (Mine.wr.heap_1 w.params).In h₀) (N : News h₀ L s.heap all) (P1 : ∀ p ∈ front, p ∈ all) (P2 : ∀ p ∈ rest, p ∈ all) (S : Sep front rest) (T : Tp mean mg mb h₀)
    (hdp : dp + kd < recursionLimit) (hun : un + 10 * kd + 100 < cLine)
    (hret : ∀ h' tk', Fr h₀ L h' m → ∀ v news', Post v news' → News h₀ L h' (news' ++ rest) → Sep news' rest → Q v { s with heap := h', toks := tk' }) :
    wpAny (model PySem.Challenge.rw_pb0549_01.row.prog w) (ktrTop dp un gd cn (fscope snm sig sic smo) L a ccd cl outer) (call (.ref f) vs) Q E s :=
  C _ _ _ _ _ _ _ _ _ _ _ _ _ _ _ _ _ _ _ _ _ B F X (fun p hp => N p (P1 p hp)) (fun p hp => N p (P2 p hp)) S T hdp hun fun v n h t F N S P => hret h t F v n P N S
theorem Sep.off {a b : Led} {q : Addr × Obj} (h : Sep a b) (hq : q ∈ b) : ∀ p ∈ a, @Ne Nat q.1 p.1 := fun p hp => Ne.symm (h.mem p hp q hq)
inductive PostTold (x dx : Addr) (ox od : Obj) (T : Led) (ver : Int) (PD : List Value → Led → Prop) : Value → Led → Prop
  | mk (y : Addr) (D : Led) (t : Tok) (R : List Value) : PD R D → PostTold x dx ox od T ver PD (.ref y) ((y, tupO (.int ver t :: R)) :: (D ++ ((x, ox) :: (dx, od) :: T)))
inductive PostRd (PV : Int → Prop) (PR : List Value → Led → Prop) : Value → Led → Prop
  | mk (y : Addr) (D : Led) (k : Int) (t : Tok) (R : List Value) : PV k → PR R D → PostRd PV PR (.ref y) ((y, tupO (.int k t :: R)) :: D)
def Reads9 (w : World) (mean : ExcName → Option Value) (mg mb : Str → Option Value) (PV : Int → Prop) (PR : List Value → Led → Prop) (ks : List Int) : Prop :=
  ∀ (row : Addr) (vals : List Value) (n : Nat), OctsAre vals ks → Ctr 18 w mean mg mb 296 [.ref row] [(row, listOf vals.toArray n)] (PostRd PV PR)
def Equal9 (PD PR : List Value → Led → Prop) (T : Led) : Prop :=
  ∀ R D R' D', PD R D → PR R' D' → ∀ (h₀ : Heap) (L : Addr) (s : Shared) (A : Around) (news : Led), News h₀ L s.heap news → (∀ p ∈ D', p ∈ news) → (∀ p ∈ D, p ∈ news) → (∀ p ∈ T, p ∈ news) → A.units + 2 < cLine → AllEq A s R' R
theorem sepT {T l : Led} (h : ∀ q ∈ T, ∀ p ∈ l, @Ne Nat q.1 p.1) : Sep T l := Sep.of h
theorem Pick.self : ∀ l : Led, Pick l l []
  | [] => .nil
  | _ :: r => .cons .head (Pick.self r)
theorem Pick.skip {f l r : Led} {e : Addr × Obj} (h : Pick f l r) : Pick f (e :: l) (e :: r) := by
  induction h with
  | nil => exact .nil
  | cons d _ ih => exact .cons (.tail d) ih
theorem off1_mem {d : Addr} {l : Led} (h : LCg.Off1 d l) : ∀ p ∈ l, @Ne Nat p.1 d := by
  induction l with
  | nil => intro p hp; cases hp
  | cons x r ih =>
    intro p hp
    obtain ⟨h1, h2⟩ : (@Ne Nat x.1 d) ∧ LCg.Off1 d r := h
    rcases List.mem_cons.mp hp with rfl | hp
    · exact h1
    · exact ih h2 p hp
theorem sub_more {D T l : Led} (h : ∀ p ∈ T, p ∈ l) (g : ∀ p ∈ D, p ∈ T) : ∀ p ∈ D, p ∈ l := fun p hp => h p (g p hp)
theorem eq_strs_ne {prog : Program} {w : World} {A : Around} {E : Value → Shared → Prop} {s : Shared} {a b : Str} {t u : Tok} {Q : Value → Shared → Prop} (hne : a ≠ b) (h : Q (.bool false) s) : wpAny (model prog w) A (compareOp .Eq (.str a t) (.str b u)) Q E s :=
  eq_str (by rw [show (a == b) = false from beq_eq_false_iff_ne.mpr hne]; exact h)
theorem eq_strs_same {prog : Program} {w : World} {A : Around} {E : Value → Shared → Prop} {s : Shared} {a : Str} {t u : Tok} {Q : Value → Shared → Prop} (h : Q (.bool true) s) : wpAny (model prog w) A (compareOp .Eq (.str a t) (.str a u)) Q E s :=
  eq_str (by rw [show (a == a) = true from beq_self_eq_true a]; exact h)
theorem rapid_ne : Str.ofString "rapid" ≠ Str.ofString "config" := by decide +kernel
theorem ks_parts {ks : List Int} {a b : Int} : ks.take (Int.toNat 28) ++ [a] ++ (ks.drop (Int.toNat 29)).take (Int.toNat 34 - Int.toNat 29) ++ [b] ++ ks.drop (Int.toNat 35) = ks.take 28 ++ [a] ++ (ks.drop 29).take 5 ++ [b] ++ ks.drop 35 := rfl
section
variable {w : World} {mean : ExcName → Option Value} {mg mb : Str → Option Value} {PV : Int → Prop} {PR : List Value → Led → Prop} {ks : List Int} {zs : List Value} {z1 z2 : Int} {row : Addr} {n : Nat}
theorem use_parts (g3 : ∀ z1 z2 : Int, 0 ≤ z1 → z1 < 256 → 0 ≤ z2 → z2 < 256 → Reads9 w mean mg mb PV PR (ks.take 28 ++ [z1] ++ (ks.drop 29).take 5 ++ [z2] ++ ks.drop 35))
    (o : OctsAre zs (ks.take (Int.toNat 28) ++ [z1] ++ (ks.drop (Int.toNat 29)).take (Int.toNat 34 - Int.toNat 29) ++ [z2] ++ ks.drop (Int.toNat 35))) (h1 : 0 ≤ z1) (h2 : z1 < 256) (h3 : 0 ≤ z2) (h4 : z2 < 256) : Ctr 18 w mean mg mb 296 [.ref row] [(row, listOf zs.toArray n)] (PostRd PV PR) :=
  g3 z1 z2 h1 h2 h3 h4 row zs n (o.cast ks_parts)
theorem use_ver (g4 : ∀ z : Int, (z = 1 ∨ z = 2 ∨ z = 3 ∨ z = 200) → Reads9 w mean mg mb PV PR (ks.take 2 ++ [z] ++ ks.drop 3))
    (o : OctsAre zs (ks.take (Int.toNat 2) ++ [z1] ++ ks.drop (Int.toNat 3))) (h : z1 = 1 ∨ z1 = 2 ∨ z1 = 3 ∨ z1 = 200) : Ctr 18 w mean mg mb 296 [.ref row] [(row, listOf zs.toArray n)] (PostRd PV PR) := g4 z1 h row zs n o
end
theorem told_P2 {e c r s : Addr × Obj} {l : Led} : ∀ p ∈ [e, c, s, r], p ∈ e :: s :: c :: r :: l :=
  List.forall_mem_cons.mpr ⟨.head _, List.forall_mem_cons.mpr ⟨.tail _ (.tail _ (.head _)), List.forall_mem_cons.mpr ⟨.tail _ (.head _), List.forall_mem_cons.mpr ⟨.tail _ (.tail _ (.tail _ (.head _))), List.forall_mem_nil _⟩⟩⟩⟩
theorem EndS.subM {fs : List Addr} {g g' : Heap} {s : Shared} {Post : Value → Led → Prop} {v : Value} {L' : Addr} {m' : Str → Option Value} {news' all : Led} {h' : Heap} {tk' : Nat} (K : KtsTurn fs g g') (F : Fr g' L' h' m') (N : News g' L' h' all) (P : Post v news') (S : ∀ p ∈ news', p ∈ all) :
    EndS fs g s Post v { s with heap := h', toks := tk' } := ⟨g', L', m', news', h', tk', rfl, K, F, fun p hp => N p (S p hp), P⟩
theorem News.all {h₀ h : Heap} {L : Addr} {a : Addr × Obj} {D rest : Led} (N : News h₀ L h ((a :: D) ++ rest)) : ∃ T2 : Led, (∀ p ∈ D, p ∈ T2) ∧ (∀ p ∈ rest, p ∈ T2) ∧ News h₀ L h (a :: T2) :=
  ⟨D ++ rest, fun _ h => List.mem_append_left _ h, fun _ h => List.mem_append_right _ h, N⟩
theorem News.dup {h₀ h : Heap} {L : Addr} {a p : Addr × Obj} {T : Led} (N : News h₀ L h (a :: T)) (hp : p ∈ T) : News h₀ L h (a :: p :: T) := fun q hq => by
  rcases List.mem_cons.mp hq with rfl | hq
  · exact N _ (.head _)
  · rcases List.mem_cons.mp hq with rfl | hq
    · exact N _ (.tail _ hp)
    · exact N _ (.tail _ hq)
theorem ks_neg {ks : List Int} : ks.take (ks.length - (-(-1) : Int).toNat) = ks.take (ks.length - 1) := rfl
theorem add_tup {prog : Program} {w : World} {A : Around} {E : Value → Shared → Prop} {s : Shared} {h₀ : Heap} {L a b : Addr} {m : Str → Option Value} {news : Led} {xs ys zs : List Value} {Q : Value → Shared → Prop} (F : Fr h₀ L s.heap m) (N : News h₀ L s.heap news) (ha : (a, tupO xs) ∈ news) (hb : (b, tupO ys) ∈ news) (hv : xs ≠ []) (hw : ys ≠ []) (hz : xs.length + ys.length ≤ 16384) (e : xs ++ ys = zs)
    (h : ∀ D h', Fr h₀ L h' m → News h₀ L h' ((D, tupO zs) :: news) → (∀ p ∈ news, p.1 < D) → Q (.ref D) { s with heap := h' }) : wpAny (model prog w) A (binaryOp .Add (.ref a) (.ref b)) Q E s :=
  kde_addT F N (N.isTup ha) (N.isTup hb) (by simpa using hv) (by simpa using hw) (by simpa using hz) (by simpa using e) h
end Mine
end
section
open PySem PySem.W PyProof.Rows PySem.Calls PySem.Spec
namespace Mine
theorem ltK {l : Led} {a b : Addr} {o : Obj} (h : Keep9 (∀ p ∈ l, @LT.lt Nat _ p.1 b)) (m : (a, o) ∈ l) : @Ne Nat a b := Nat.ne_of_lt (h.out _ m)
theorem gtK {l : Led} {a b : Addr} {o : Obj} (h : Keep9 (∀ p ∈ l, @LT.lt Nat _ p.1 a)) (m : (b, o) ∈ l) : @Ne Nat a b := Nat.ne_of_gt (h.out _ m)
theorem ltK1 {l : Led} {a b : Addr} {o : Obj} {k : Nat} (h : Keep9 (∀ p ∈ l, @LT.lt Nat _ p.1 b)) (m : (a, o) ∈ l) : @Ne Nat a (b + k) := Nat.ne_of_lt (Nat.lt_of_lt_of_le (h.out _ m) (Nat.le_add_right _ _))
theorem gtK1 {l : Led} {a b : Addr} {o : Obj} {k : Nat} (h : Keep9 (∀ p ∈ l, @LT.lt Nat _ p.1 a)) (m : (b, o) ∈ l) : @Ne Nat (a + k) b := (ltK1 h m).symm
theorem ltSide {l : Led} {a b : Addr} {o : Obj} (h : Keep9 (∀ p ∈ l, @LT.lt Nat _ p.1 b)) (m : (a, o) ∈ l) : @LT.lt Nat _ a b := h.out _ m
theorem sepK {l r : Led} {a b : Addr} {o o' : Obj} (h : Keep9 (Sep l r)) (m : (a, o) ∈ l) (m' : (b, o') ∈ r) : @Ne Nat a b := h.out.mem _ m _ m'
theorem sepK' {l r : Led} {a b : Addr} {o o' : Obj} (h : Keep9 (Sep l r)) (m : (b, o) ∈ l) (m' : (a, o') ∈ r) : @Ne Nat a b := Ne.symm (h.out.mem _ m _ m')
inductive Bef (a b : Addr) : List Addr → Prop
  | here {r} : b ∈ r → Bef a b (a :: r)
  | next {c r} : Bef a b r → Bef a b (c :: r)
theorem Bef.ne {a b : Addr} {l : List Addr} (h : Apart l) (m : Bef a b l) : @Ne Nat a b := by
  induction m with
  | here m => exact h.1 _ m
  | next _ ih => exact ih h.2
theorem apK {l : List Addr} {a b : Addr} (h : Keep9 (Apart l)) (m : Bef a b l) : @Ne Nat a b := m.ne h.out
theorem apK' {l : List Addr} {a b : Addr} (h : Keep9 (Apart l)) (m : Bef b a l) : @Ne Nat a b := Ne.symm (m.ne h.out)
theorem offK {l : Led} {a b : Addr} {o : Obj} (h : Keep9 (∀ q ∈ l, @Ne Nat a q.1)) (m : (b, o) ∈ l) : @Ne Nat a b := h.out _ m
theorem offK' {l : Led} {a b : Addr} {o : Obj} (h : Keep9 (∀ q ∈ l, @Ne Nat b q.1)) (m : (a, o) ∈ l) : @Ne Nat a b := Ne.symm (h.out _ m)
theorem letFr {G : Prop} {g : Heap} {L : Addr} {h : Heap} {m : Str → Option Value} (F : Fr g L h m) (k : let m9 := m; Fr g L h m9 → G) : G := k F
theorem letNw {G : Prop} {g : Heap} {L : Addr} {h : Heap} {l : Led} (N : News g L h l) (k : let n9 := l; News g L h n9 → G) : G := k N
theorem ltT {l T : Led} {d : Addr} (h : Keep9 (∀ p ∈ l, @LT.lt Nat _ p.1 d)) (g : ∀ q ∈ T, q ∈ l) : ∀ q ∈ T, @Ne Nat d q.1 := fun q hq => Nat.ne_of_gt (h.out q (g q hq))
theorem sepT1 {A B T : Led} {a : Addr} {o : Obj} (h : Keep9 (Sep A B)) (m : (a, o) ∈ A) (g : ∀ q ∈ T, q ∈ B) : ∀ q ∈ T, @Ne Nat a q.1 := fun q hq => h.out.mem _ m q (g q hq)
theorem sepT2 {A B T : Led} {a : Addr} {o : Obj} (h : Keep9 (Sep A B)) (m : (a, o) ∈ B) (g : ∀ q ∈ T, q ∈ A) : ∀ q ∈ T, @Ne Nat a q.1 := fun q hq => Ne.symm (h.out.mem q (g q hq) _ m)
theorem Sep.symm {A B : Led} (h : Sep B A) : Sep A B := Sep.of fun p hp q hq => Ne.symm (h.mem q hq p hp)
theorem offT {T l : Led} {d : Addr} (h : Keep9 (LCg.Off1 d l)) (g : ∀ q ∈ T, q ∈ l) : ∀ q ∈ T, @Ne Nat d q.1 := fun q hq => Ne.symm (off1_mem h.out q (g q hq))
theorem ltT1 {l T : Led} {d : Addr} {k : Nat} (h : Keep9 (∀ p ∈ l, @LT.lt Nat _ p.1 d)) (g : ∀ q ∈ T, q ∈ l) : ∀ q ∈ T, @Ne Nat (d + k) q.1 := fun q hq => Nat.ne_of_gt (Nat.lt_of_lt_of_le (h.out q (g q hq)) (Nat.le_add_right _ _))
theorem off3_mem {I C D : Addr} {l : Led} (h : LCg.Off3 I C D l) : ∀ p ∈ l, @Ne Nat p.1 I ∧ @Ne Nat p.1 C ∧ @Ne Nat p.1 D := by
  induction l with
  | nil => intro p hp; cases hp
  | cons x r ih =>
    intro p hp
    simp only [LCg.Off3, and_assoc] at h
    obtain ⟨h1, h2, h3, h4⟩ := h
    rcases List.mem_cons.mp hp with rfl | hp
    · exact ⟨h1, h2, h3⟩
    · exact ih h4 p hp
theorem o3a {I C D a : Addr} {l : Led} {o : Obj} (h : Keep9 (LCg.Off3 I C D l)) (m : (a, o) ∈ l) : @Ne Nat a I := (off3_mem h.out _ m).1
theorem o3b {I C D a : Addr} {l : Led} {o : Obj} (h : Keep9 (LCg.Off3 I C D l)) (m : (a, o) ∈ l) : @Ne Nat a C := (off3_mem h.out _ m).2.1
theorem o3c {I C D a : Addr} {l : Led} {o : Obj} (h : Keep9 (LCg.Off3 I C D l)) (m : (a, o) ∈ l) : @Ne Nat a D := (off3_mem h.out _ m).2.2
theorem o3a' {I C D a : Addr} {l : Led} {o : Obj} (h : Keep9 (LCg.Off3 I C D l)) (m : (a, o) ∈ l) : @Ne Nat I a := (off3_mem h.out _ m).1.symm
theorem o3b' {I C D a : Addr} {l : Led} {o : Obj} (h : Keep9 (LCg.Off3 I C D l)) (m : (a, o) ∈ l) : @Ne Nat C a := (off3_mem h.out _ m).2.1.symm
theorem o3c' {I C D a : Addr} {l : Led} {o : Obj} (h : Keep9 (LCg.Off3 I C D l)) (m : (a, o) ∈ l) : @Ne Nat D a := (off3_mem h.out _ m).2.2.symm
theorem add_tup1 {prog : Program} {w : World} {A : Around} {E : Value → Shared → Prop} {s : Shared} {h₀ : Heap} {L a b : Addr} {m : Str → Option Value} {news : Led} {xs : List Value} {Q : Value → Shared → Prop} (F : Fr h₀ L s.heap m) (N : News h₀ L s.heap news) (ha : (a, tupO xs) ∈ news) (hb : (b, tupO []) ∈ news) (hv : xs ≠ []) (hz : xs.length ≤ 16384)
    (h : Q (.ref a) s) : wpAny (model prog w) A (binaryOp .Add (.ref a) (.ref b)) Q E s :=
  kde_addT1 F N (N.isTup ha) (N.isTup hb) (by simpa using hv) (by simp) (by simpa using hz) h
noncomputable def nth : Led → Nat → Option (Addr × Obj)
  | [], _ => none
  | p :: _, 0 => some p
  | _ :: r, n + 1 => nth r n
theorem mem_nth {l : Led} {p : Addr × Obj} : ∀ (i : Nat), nth l i = some p → p ∈ l := by
  induction l with
  | nil => intro i h; cases h
  | cons x r ih =>
    intro i h
    cases i with
    | zero => cases h; exact .head _
    | succ i => exact .tail _ (ih i h)
theorem offS {l : Led} {a b : Addr} {o : Obj} (h : Keep9 (∀ p ∈ l, p.1 ≠ b)) (m : (a, o) ∈ l) : @Ne Nat a b := h.out _ m
theorem offS' {l : Led} {a b : Addr} {o : Obj} (h : Keep9 (∀ p ∈ l, p.1 ≠ a)) (m : (b, o) ∈ l) : @Ne Nat a b := Ne.symm (h.out _ m)
theorem offL {l : Led} {a b : Addr} {o : Obj} (h : Keep9 (LCg.Off1 b l)) (m : (a, o) ∈ l) : @Ne Nat a b := off1_mem h.out _ m
theorem offL' {l : Led} {a b : Addr} {o : Obj} (h : Keep9 (LCg.Off1 a l)) (m : (b, o) ∈ l) : @Ne Nat a b := Ne.symm (off1_mem h.out _ m)
theorem letCons {G : Prop} {g : Heap} {L : Addr} {h : Heap} {p : Addr × Obj} {l : Led} (N : News g L h (p :: l)) (k : let e9 := p; let n9 := e9 :: l; News g L h n9 → G) : G := k N
theorem letApp {G : Prop} {g : Heap} {L : Addr} {h : Heap} {p : Addr × Obj} {f r : Led} (N : News g L h ((p :: f) ++ r)) (k : let e9 := p; News g L h (f ++ (e9 :: r)) → G) : G := k (fun q hq => N q (by
  simp only [List.cons_append, List.mem_cons, List.mem_append] at hq ⊢
  rcases hq with h | h | h
  · exact .inr (.inl h)
  · exact .inl h
  · exact .inr (.inr h)))
theorem letNil {G : Prop} {g : Heap} {L : Addr} {h : Heap} {r : Led} (N : News g L h ([] ++ r)) (k : let n9 := r; News g L h n9 → G) : G := k N
theorem letFront {g : Heap} {L : Addr} {h : Heap} {f : Led} (N : News g L h f) : News g L h (f ++ []) := fun p hp => N p (by simpa using hp)
theorem Ctr.useG0 {kd : Nat} {w : World} {mean : ExcName → Option Value} {mg mb : Str → Option Value} {f : Addr} {vs : List Value} {front all rest : Led} {Post : Value → Led → Prop} (C : Ctr kd w mean mg mb f vs front Post)
    {dp un : Nat} {gd : Option (List Code)} {cn : Str} {snm : List (Str × NameKind)} {sig sic : Bool} {smo : List (Str × Const)} {a : Addr} {ccd : Value} {cl : List (Str × Addr)} {outer : List Env} {A₀ : Around} {base h₀ : Heap} {L : Addr} {m : Str → Option Value} {s : Shared} {Q E : Value → Shared → Prop}
    (B : Below A₀ base outer h₀) (F : Fr h₀ L s.heap m) (X : (Mine.wr.heap_1 w.params).In h₀) (N : News h₀ L s.heap all) (P : Pick front all rest) (S : Sep front rest) (T : Top Mine.vq (looseW Mine.vq [Str.ofString "KINDS", Str.ofString "Bpdu"]) mean mg mb h₀)
    (hdp : dp + kd < recursionLimit) (hun : un + 10 * kd + 100 < cLine)
    (hret : ∀ h' tk', Fr h₀ L h' m → let G9 : Value → Prop := fun v => Q v { s with heap := h', toks := tk' }; ∀ v news', Bk (Post v news') (News h₀ L h' (news' ++ rest) → G9 v)) :
    wpAny (model PySem.Challenge.rw_pb0549_01.row.prog w) (ktrTop dp un gd cn (fscope snm sig sic smo) L a ccd cl outer) (call (.ref f) vs) Q E s :=
  C.use B F X N P S T hdp hun fun v n h t F N _ P => hret h t F v n P N
theorem Ctr.useG1 {kd : Nat} {w : World} {mean : ExcName → Option Value} {mg mb : Str → Option Value} {f : Addr} {vs : List Value} {front all rest : Led} {Post : Value → Led → Prop} (C : Ctr kd w mean mg mb f vs front Post)
    {dp un : Nat} {gd : Option (List Code)} {cn : Str} {snm : List (Str × NameKind)} {sig sic : Bool} {smo : List (Str × Const)} {a : Addr} {ccd : Value} {cl : List (Str × Addr)} {outer : List Env} {A₀ : Around} {base h₀ : Heap} {L : Addr} {m : Str → Option Value} {s : Shared} {Q E : Value → Shared → Prop}
    (B : Below A₀ base outer h₀) (F : Fr h₀ L s.heap m) (X : (Mine.wr.heap_1 w.params).In h₀) (N : News h₀ L s.heap all) (P : Pick front all rest) (S : Sep front rest) (T : Top Mine.vq (looseW Mine.vq [Str.ofString "KINDS", Str.ofString "Bpdu"]) mean mg mb h₀)
    (hdp : dp + kd < recursionLimit) (hun : un + 10 * kd + 100 < cLine)
    (hret : ∀ h' tk', Fr h₀ L h' m → let G9 : Value → Prop := fun v => Q v { s with heap := h', toks := tk' }; ∀ v news', Bk (Post v news') (News h₀ L h' (news' ++ rest) → Bk (Sep news' rest) (G9 v))) :
    wpAny (model PySem.Challenge.rw_pb0549_01.row.prog w) (ktrTop dp un gd cn (fscope snm sig sic smo) L a ccd cl outer) (call (.ref f) vs) Q E s :=
  C.use B F X N P S T hdp hun fun v n h t F N S P => hret h t F v n P N S
theorem lenB_nil : (([] : List Int)).length ≤ 0 := Nat.le_refl _
theorem lenB_cons {zlx : Int} {zla : List Int} {zlm : Nat} (zlh : zla.length ≤ zlm) : (zlx :: zla).length ≤ zlm + 1 := Nat.succ_le_succ zlh
theorem lenB_app {zla zlb : List Int} {zlm zln : Nat} (zlh : zla.length ≤ zlm) (zlk : zlb.length ≤ zln) : (zla ++ zlb).length ≤ zlm + zln := by rw [List.length_append]; exact Nat.add_le_add zlh zlk
theorem lenB_take {zla : List Int} {zli zlm : Nat} (zlh : zla.length ≤ zlm) : (zla.take zli).length ≤ zlm := by rw [List.length_take]; exact Nat.le_trans (Nat.min_le_right _ _) zlh
theorem lenB_drop {zla : List Int} {zli zlm : Nat} (zlh : zla.length ≤ zlm) : (zla.drop zli).length ≤ zlm := by rw [List.length_drop]; exact Nat.le_trans (Nat.sub_le _ _) zlh
theorem lenB_octs {zln : Nat} {zlx : Int} {zli : Nat} : (octsTo zln zlx zli).length ≤ zli := Nat.le_of_eq (octsTo_length _ _ _)
theorem lenB_two {zla zlb : List Int} {zlm zln zlN : Nat} (zlh : zla.length ≤ zlm) (zlk : zlb.length ≤ zln) (zle : zlm + zln ≤ zlN) : zla.length + zlb.length ≤ zlN := Nat.le_trans (Nat.add_le_add zlh zlk) zle
theorem lenB_one {zla : List Int} {zlm zlN : Nat} (zlh : zla.length ≤ zlm) (zle : zlm ≤ zlN) : zla.length ≤ zlN := Nat.le_trans zlh zle
theorem rmK {d a R : Nat} (h : d + a + 100 < R) (j : Nat) (e : 3 + 10 * j ≤ a) : d + 3 + 10 * j + 100 < R := by omega
end Mine
end
section
open PySem PySem.W PyProof.Rows PySem.Calls PySem.Spec
set_option maxRecDepth 100000
namespace Mine
inductive PTake (src : Addr) (top : Int) : Value → Led → Prop
  | mk (o : Obj) (r : Int) (tr : Tok) : SrcO o → 0 ≤ r → r < top → PTake src top (.int r tr) [(src, o)]
inductive POne (src : Addr) (its : List Value) : Value → Led → Prop
  | mk (o : Obj) (v : Value) : SrcO o → v ∈ its → POne src its v [(src, o)]
def okB (p q : Int) : Prop := (0 ≤ p ∧ p < 65536) ∧ (0 ≤ q ∧ q < 281474976710656)
inductive PBridge (src : Addr) : Value → Led → Prop
  | mk (o : Obj) (x : Addr) (p q : Int) (tp tq : Tok) : SrcO o → okB p q → Keep9 (Apart [src, x]) → PBridge src (.ref x) [(x, tupO [.int p tp, .int q tq]), (src, o)]
def okVec (rp rm co np nm pp pn : Int) : Prop := okB rp rm ∧ (0 ≤ co ∧ co < 4294967296) ∧ okB np nm ∧ (0 ≤ pp ∧ pp < 16) ∧ (0 ≤ pn ∧ pn < 4096)
def okT (ag mx he de : Int) : Prop := (0 ≤ ag ∧ ag < 256) ∧ (0 ≤ mx ∧ mx < 256) ∧ (0 ≤ he ∧ he < 256) ∧ (0 ≤ de ∧ de < 256)
theorem okV.of {rp rm co np nm pp pn ag mx he de : Int} (h : okVec rp rm co np nm pp pn) (g : okT ag mx he de) : okV rp rm co np nm pp pn ag mx he de :=
  ⟨h.1.1, h.1.2, h.2.1, h.2.2.1.1, h.2.2.1.2, h.2.2.2.1, h.2.2.2.2, g.1, g.2.1, g.2.2.1, g.2.2.2⟩
theorem okV.vec {rp rm co np nm pp pn ag mx he de : Int} (h : okV rp rm co np nm pp pn ag mx he de) : okVec rp rm co np nm pp pn :=
  ⟨⟨h.1, h.2.1⟩, h.2.2.1, ⟨h.2.2.2.1, h.2.2.2.2.1⟩, h.2.2.2.2.2.1, h.2.2.2.2.2.2.1⟩
theorem okV.tim {rp rm co np nm pp pn ag mx he de : Int} (h : okV rp rm co np nm pp pn ag mx he de) : okT ag mx he de := h.2.2.2.2.2.2.2
inductive PVector (src : Addr) : Value → Led → Prop
  | mk (o : Obj) (xv xr xn xp : Addr) (rp rm co np nm pp pn : Int) (t1 t2 t3 t4 t5 t6 t7 : Tok) : SrcO o → okVec rp rm co np nm pp pn → Keep9 (Apart [src, xr, xn, xp, xv]) →
    PVector src (.ref xv) [(xv, tupO [.ref xr, .int co t3, .ref xn, .ref xp]), (xr, tupO [.int rp t1, .int rm t2]), (xn, tupO [.int np t4, .int nm t5]), (xp, tupO [.int (16 * pp) t6, .int pn t7]), (src, o)]
inductive PInt (front : Led) (k : Int) : Value → Led → Prop
  | mk (t : Tok) : PInt front k (.int k t) front
inductive PBytes (front : Led) (ks : List Int) : Value → Led → Prop
  | mk (b : Array UInt8) (t : Tok) : KBw.bInts b = ks → PBytes front ks (.bytes b t) front
inductive KindOf : Str → Int → Int → Bool → Bool → Bool → Bool → Nat → Array UInt8 → List Int → Prop
  | c : KindOf (Str.ofString "config") 0 0 false false false false 0 #[] []
  | r2 (f2 f3 f4 f5 : Bool) (r : Nat) : r < 4 → KindOf (Str.ofString "rapid") 2 2 f2 f3 f4 f5 r #[] [0]
  | r3 (f2 f3 f4 f5 : Bool) (r : Nat) (tail : Array UInt8) : r < 4 → tail.size ≤ 200 → KindOf (Str.ofString "rapid") 3 2 f2 f3 f4 f5 r tail (0 :: (octs 2 ((KBw.bInts tail).length : Nat) ++ KBw.bInts tail))
theorem KindOf.r4 {kd : Str} {ver code : Int} {f2 f3 f4 f5 : Bool} {r : Nat} {tail : Array UInt8} {rest : List Int} (h : KindOf kd ver code f2 f3 f4 f5 r tail rest) : r < 4 := by
  cases h
  · decide
  · assumption
  · assumption
theorem KindOf.nch {kd : Str} {ver code : Int} {f2 f3 f4 f5 : Bool} {r : Nat} {tail : Array UInt8} {rest : List Int} (h : KindOf kd ver code f2 f3 f4 f5 r tail rest) : kd ≠ Str.ofString "change" := by
  cases h
  · decide +kernel
  · decide +kernel
  · decide +kernel
theorem KindOf.cases2 {kd : Str} {ver code : Int} {f2 f3 f4 f5 : Bool} {r : Nat} {tail : Array UInt8} {rest : List Int} (h : KindOf kd ver code f2 f3 f4 f5 r tail rest) : (kd = Str.ofString "config" ∧ code = 0 ∧ ver = 0 ∧ rest = []) ∨ (kd = Str.ofString "rapid" ∧ code = 2 ∧ ((ver = 2 ∧ rest = [0]) ∨ (ver = 3 ∧ tail.size ≤ 200 ∧ rest = 0 :: (octs 2 ((KBw.bInts tail).length : Nat) ++ KBw.bInts tail)))) := by
  cases h with
  | c => exact .inl ⟨rfl, rfl, rfl, rfl⟩
  | r2 => exact .inr ⟨rfl, rfl, .inl ⟨rfl, rfl⟩⟩
  | r3 _ _ _ _ _ _ _ h => exact .inr ⟨rfl, rfl, .inr ⟨rfl, h, rfl⟩⟩
theorem KindOf.flC {kd : Str} {ver code : Int} {f0 f1 f2 f3 f4 f5 : Bool} {r : Nat} {tail : Array UInt8} {rest : List Int} (h : KindOf kd ver code f2 f3 f4 f5 r tail rest) (hk : kd ≠ Str.ofString "rapid") : b2i f0 + 128 * b2i f1 = flR f0 f1 f2 f3 f4 f5 r := by
  cases h with
  | c => cases f0 <;> cases f1 <;> rfl
  | r2 => exact absurd rfl hk
  | r3 => exact absurd rfl hk
theorem KindOf.verC {kd : Str} {ver code : Int} {f2 f3 f4 f5 : Bool} {r : Nat} {tail : Array UInt8} {rest : List Int} (h : KindOf kd ver code f2 f3 f4 f5 r tail rest) (hk : kd ≠ Str.ofString "rapid") : ver = 0 := by
  rcases h.cases2 with ⟨_, _, z, _⟩ | ⟨z, _⟩
  · exact z
  · exact absurd z hk
theorem PInt.of {front : Led} {k k' : Int} (e : k' = k) (t : Tok) : PInt front k (.int k' t) front := e ▸ .mk t
theorem PBytes.of {front : Led} {ks ls : List Int} {b : Array UInt8} {t : Tok} (h : KBw.bInts b = ls) (e : ls = ks) : PBytes front ks (.bytes b t) front := .mk b t (h.trans e)
inductive PNew (front : Led) (o : Obj) : Value → Led → Prop
  | mk (x : Addr) : Keep9 (∀ q ∈ front, @Ne Nat x q.1) → PNew front o (.ref x) ((x, o) :: front)
inductive POcts (front : Led) (ks : List Int) : Value → Led → Prop
  | mk (x : Addr) (vals : List Value) (k : Nat) : OctsAre vals ks → Keep9 (∀ q ∈ front, @Ne Nat x q.1) → POcts front ks (.ref x) ((x, listOf vals.toArray k) :: front)
theorem ne_kd {prog : Program} {w : World} {A : Around} {E : Value → Shared → Prop} {s : Shared} {a b : Str} {t u : Tok} {Q : Value → Shared → Prop} (h1 : a = b → Q (.bool false) s) (h2 : a ≠ b → Q (.bool true) s) : wpAny (model prog w) A (compareOp .NotEq (.str a t) (.str b u)) Q E s := by
  refine ne_str ?_
  by_cases h : a = b
  · rw [show (a != b) = false from by rw [h]; exact bne_self_eq_false b]; exact h1 h
  · rw [show (a != b) = true from bne_iff_ne.mpr h]; exact h2 h
theorem ne_strs_ne {prog : Program} {w : World} {A : Around} {E : Value → Shared → Prop} {s : Shared} {a b : Str} {t u : Tok} {Q : Value → Shared → Prop} (hne : a ≠ b) (h : Q (.bool true) s) : wpAny (model prog w) A (compareOp .NotEq (.str a t) (.str b u)) Q E s :=
  ne_kd (fun e => absurd e hne) fun _ => h
def CtrX (kd : Nat) (w : World) (mean : ExcName → Option Value) (mg mb : Str → Option Value) (f : Addr) (vs : List Value) (front : Led) (good : Prop) (Post : Value → Led → Prop) (C : Addr) : Prop :=
  (good → Ctr kd w mean mg mb f vs front Post) ∧ (¬ good → CtrE kd w mean mg mb f vs front C)
structure Both (a b : Prop) : Prop where
  mk ::
  l : a
  r : b
def okP (pr pn : Int) : Prop := (pr.fmod 16 = 0 ∧ 0 ≤ pr ∧ pr ≤ 240) ∧ (0 ≤ pn ∧ pn < 4096)
def okVecG (rp rm co np nm pr pn : Int) : Prop := okB rp rm ∧ (0 ≤ co ∧ co < 4294967296) ∧ okB np nm ∧ okP pr pn
def vecG (rp rm co np nm pr pn : Int) : List Int := octs 2 rp ++ octs 6 rm ++ octs 4 co ++ (octs 2 np ++ octs 6 nm) ++ octs 2 (256 * pr + pn)
theorem vecG_length (rp rm co np nm pr pn : Int) : (vecG rp rm co np nm pr pn).length = 22 := by simp only [vecG, List.length_append, octsTo_length]
theorem vecG_eq {rp rm co np nm pp pn : Int} : vecG rp rm co np nm (16 * pp) pn = vecO rp rm co np nm pp pn := by
  unfold vecG vecO
  rw [show 256 * (16 * pp) + pn = 4096 * pp + pn from by omega]
theorem okVec.g {rp rm co np nm pp pn : Int} (h : okVec rp rm co np nm pp pn) : okVecG rp rm co np nm (16 * pp) pn :=
  ⟨h.1, h.2.1, h.2.2.1, ⟨by rw [Int.fmod_eq_emod_of_nonneg _ (by decide)]; omega, by have := h.2.2.2.1.1; omega, by have := h.2.2.2.1.2; omega⟩, h.2.2.2.2⟩
theorem okT.eq {ag mx he de : Int} (h : okT ag mx he de) : timO ag mx he de = [ag, 0, mx, 0, he, 0, de, 0] := timO_eq h.1.1 h.1.2 h.2.1.1 h.2.1.2 h.2.2.1.1 h.2.2.1.2 h.2.2.2.1 h.2.2.2.2
theorem KindOf.bd {kd : Str} {ver code : Int} {f2 f3 f4 f5 : Bool} {r : Nat} {tail : Array UInt8} {rest : List Int} (h : KindOf kd ver code f2 f3 f4 f5 r tail rest) : (0 ≤ ver ∧ ver < 256) ∧ (0 ≤ code ∧ code < 256) := by
  cases h <;> decide
theorem KindOf.tl {kd : Str} {ver code : Int} {f2 f3 f4 f5 : Bool} {r : Nat} {tail : Array UInt8} {rest : List Int} (h : KindOf kd ver code f2 f3 f4 f5 r tail rest) : ∃ tl, KBw.bInts tail = tl ∧ tl.length ≤ 200 := ⟨_, rfl, by
  unfold KBw.bInts
  cases h with
  | c => exact Nat.zero_le _
  | r2 => exact Nat.zero_le _
  | r3 _ _ _ _ _ _ _ h => simpa using h⟩
section
variable {kd : Str} {ver code : Int} {f2 f3 f4 f5 : Bool} {r : Nat} {tail : Array UInt8} {rest : List Int} {fl rp rm co np nm pp pn ag mx he de : Int} {tl : List Int}
theorem pack_0 {v t : List Int} : ((((octs 2 0 ++ [ver, code]) ++ [fl]) ++ v) ++ t) ++ rest = wire ver code fl v t rest := by
  unfold wire
  rw [octs2_0]
  simp only [List.append_assoc, List.cons_append, List.nil_append]
theorem pack_c (h : KindOf kd ver code f2 f3 f4 f5 r tail rest) (e : kd = Str.ofString "config") (ht : okT ag mx he de) :
    (((octs 2 0 ++ [ver, code]) ++ [fl]) ++ vecG rp rm co np nm (16 * pp) pn) ++ timO ag mx he de = wire ver code fl (vecO rp rm co np nm pp pn) [ag, 0, mx, 0, he, 0, de, 0] rest := by
  have z : rest = [] := by
    rcases h.cases2 with ⟨_, _, _, z⟩ | ⟨z, _⟩
    · exact z
    · rw [e] at z; exact absurd z (by decide +kernel)
  rw [vecG_eq, ht.eq, ← pack_0, z, List.append_nil]
theorem pack_r2 (h : KindOf kd ver code f2 f3 f4 f5 r tail rest) (e : kd ≠ Str.ofString "config") (hv : ver < 3) (ht : okT ag mx he de) :
    ((((octs 2 0 ++ [ver, code]) ++ [fl]) ++ vecG rp rm co np nm (16 * pp) pn) ++ timO ag mx he de) ++ [0] = wire ver code fl (vecO rp rm co np nm pp pn) [ag, 0, mx, 0, he, 0, de, 0] rest := by
  have z : rest = [0] := by
    rcases h.cases2 with ⟨z, _⟩ | ⟨_, _, ⟨_, z⟩ | ⟨z, _⟩⟩
    · exact absurd z e
    · exact z
    · omega
  rw [vecG_eq, ht.eq, ← pack_0, z]
theorem pack_r3 (h : KindOf kd ver code f2 f3 f4 f5 r tail rest) (e : kd ≠ Str.ofString "config") (hv : ¬ ver < 3) (htl : KBw.bInts tail = tl) (ht : okT ag mx he de) :
    ((((((octs 2 0 ++ [ver, code]) ++ [fl]) ++ vecG rp rm co np nm (16 * pp) pn) ++ timO ag mx he de) ++ [0]) ++ octs 2 (tl.length : Nat)) ++ tl = wire ver code fl (vecO rp rm co np nm pp pn) [ag, 0, mx, 0, he, 0, de, 0] rest := by
  have z : rest = 0 :: (octs 2 (tl.length : Nat) ++ tl) := by
    rcases h.cases2 with ⟨z, _⟩ | ⟨_, _, ⟨z, _⟩ | ⟨_, _, z⟩⟩
    · exact absurd z e
    · omega
    · rw [z, htl]
  rw [vecG_eq, ht.eq, z, ← pack_0]
  simp only [List.append_assoc, List.cons_append, List.nil_append]
end
theorem eq_ints_ne {prog : Program} {w : World} {A : Around} {E : Value → Shared → Prop} {s : Shared} {a b : Int} {t u : Tok} {Q : Value → Shared → Prop} (hne : a ≠ b) (h : Q (.bool false) s) : wpAny (model prog w) A (compareOp .Eq (.int a t) (.int b u)) Q E s :=
  eq_int (by rw [show (a == b) = false from beq_eq_false_iff_ne.mpr hne]; exact h)
theorem eq_kd {prog : Program} {w : World} {A : Around} {E : Value → Shared → Prop} {s : Shared} {a b : Str} {t u : Tok} {Q : Value → Shared → Prop} (h1 : a = b → Q (.bool true) s) (h2 : a ≠ b → Q (.bool false) s) : wpAny (model prog w) A (compareOp .Eq (.str a t) (.str b u)) Q E s := by
  refine eq_str ?_
  by_cases h : a = b
  · rw [show (a == b) = true from beq_iff_eq.mpr h]; exact h1 h
  · rw [show (a == b) = false from beq_eq_false_iff_ne.mpr h]; exact h2 h
section
variable {kd : Str} {ver code : Int} {f0 f1 f2 f3 f4 f5 : Bool} {r : Nat} {tail : Array UInt8} {rest : List Int} {rp rm co np nm pp pn ag mx he de : Int} {tl : List Int} {zs : List Value}
theorem written_W (ok : okVec rp rm co np nm pp pn) {X : List Int} (hx : X = rest) : ([0, 0, ver, code] ++ [b2i f0 + 2 * b2i f2 + 16 * b2i f4 + 32 * b2i f5 + 64 * b2i f3 + 128 * b2i f1 + 4 * (r : Int)] ++ octs (Int.toNat 2) rp ++ octs (Int.toNat 6) rm ++ octs (Int.toNat 4) co ++ octs (Int.toNat 2) np ++ octs (Int.toNat 6) nm ++ [16 * pp + pn.fdiv 256, pn.fmod 256] ++ [ag, 0] ++ [mx, 0] ++ [he, 0] ++ [de, 0]) ++ X = wire ver code (flR f0 f1 f2 f3 f4 f5 r) (vecO rp rm co np nm pp pn) [ag, 0, mx, 0, he, 0, de, 0] rest := by
  subst hx
  obtain ⟨_, _, _, ⟨a6, b6⟩, ⟨a7, b7⟩⟩ := ok
  unfold wire vecO flR
  rw [octs2_port a6 b6 a7 b7]
  rw [← fl_ac]
  simp only [List.append_assoc, List.cons_append, List.nil_append]
  rfl
theorem written_c (hk : KindOf kd ver code f2 f3 f4 f5 r tail rest) (e : kd ≠ Str.ofString "rapid") (ok : okVec rp rm co np nm pp pn) (h : OctsAre zs (([0, 0, ver, code] ++ [b2i f0 + 2 * b2i f2 + 16 * b2i f4 + 32 * b2i f5 + 64 * b2i f3 + 128 * b2i f1 + 4 * (r : Int)] ++ octs (Int.toNat 2) rp ++ octs (Int.toNat 6) rm ++ octs (Int.toNat 4) co ++ octs (Int.toNat 2) np ++ octs (Int.toNat 6) nm ++ [16 * pp + pn.fdiv 256, pn.fmod 256] ++ [ag, 0] ++ [mx, 0] ++ [he, 0] ++ [de, 0]) ++ [])) : OctsAre zs (wire ver code (flR f0 f1 f2 f3 f4 f5 r) (vecO rp rm co np nm pp pn) [ag, 0, mx, 0, he, 0, de, 0] rest) := by
  rw [← written_W (X := []) ok (by
    rcases hk.cases2 with ⟨_, _, _, z⟩ | ⟨z, _⟩
    · exact z.symm
    · exact absurd z e)]
  exact h
theorem written_r2 (hk : KindOf kd ver code f2 f3 f4 f5 r tail rest) (e : kd = Str.ofString "rapid") (hv : ¬ ver = 3) (ok : okVec rp rm co np nm pp pn) (h : OctsAre zs (([0, 0, ver, code] ++ [b2i f0 + 2 * b2i f2 + 16 * b2i f4 + 32 * b2i f5 + 64 * b2i f3 + 128 * b2i f1 + 4 * (r : Int)] ++ octs (Int.toNat 2) rp ++ octs (Int.toNat 6) rm ++ octs (Int.toNat 4) co ++ octs (Int.toNat 2) np ++ octs (Int.toNat 6) nm ++ [16 * pp + pn.fdiv 256, pn.fmod 256] ++ [ag, 0] ++ [mx, 0] ++ [he, 0] ++ [de, 0]) ++ [0] ++ [])) : OctsAre zs (wire ver code (flR f0 f1 f2 f3 f4 f5 r) (vecO rp rm co np nm pp pn) [ag, 0, mx, 0, he, 0, de, 0] rest) := by
  rw [← written_W (X := [0]) ok (by
    rcases hk.cases2 with ⟨z, _⟩ | ⟨_, _, ⟨_, z⟩ | ⟨z, _⟩⟩
    · rw [e] at z; exact absurd z (by decide +kernel)
    · exact z.symm
    · exact absurd z hv)]
  rw [List.append_nil] at h
  exact h
theorem written_r3 (hk : KindOf kd ver code f2 f3 f4 f5 r tail rest) (e : kd = Str.ofString "rapid") (hv : ver = 3) (htl : KBw.bInts tail = tl) (ok : okVec rp rm co np nm pp pn) (h : OctsAre zs (([0, 0, ver, code] ++ [b2i f0 + 2 * b2i f2 + 16 * b2i f4 + 32 * b2i f5 + 64 * b2i f3 + 128 * b2i f1 + 4 * (r : Int)] ++ octs (Int.toNat 2) rp ++ octs (Int.toNat 6) rm ++ octs (Int.toNat 4) co ++ octs (Int.toNat 2) np ++ octs (Int.toNat 6) nm ++ [16 * pp + pn.fdiv 256, pn.fmod 256] ++ [ag, 0] ++ [mx, 0] ++ [he, 0] ++ [de, 0]) ++ [0] ++ (octs (Int.toNat 2) (tl.length : Nat) ++ tl))) : OctsAre zs (wire ver code (flR f0 f1 f2 f3 f4 f5 r) (vecO rp rm co np nm pp pn) [ag, 0, mx, 0, he, 0, de, 0] rest) := by
  rw [← written_W (X := [0] ++ (octs (Int.toNat 2) (tl.length : Nat) ++ tl)) ok (by
    rcases hk.cases2 with ⟨z, _⟩ | ⟨_, _, ⟨z, _⟩ | ⟨_, _, z⟩⟩
    · rw [e] at z; exact absurd z (by decide +kernel)
    · omega
    · rw [z, htl]; rfl)]
  rw [List.append_assoc] at h
  exact h
end
inductive PNum (ks : List Int) : Value → Led → Prop
  | mk (n : Int) (t : Tok) : num ks = n → 0 ≤ n → n < 18446744073709551616 → PNum ks (.int n t) []
inductive PRbr (ks : List Int) : Value → Led → Prop
  | mk (x : Addr) (p q : Int) (t1 t2 : Tok) : num (ks.take 2) = p → num ((ks.drop 2).take 6) = q → PRbr ks (.ref x) [(x, tupO [.int p t1, .int q t2])]
inductive PRpo (ks : List Int) : Value → Led → Prop
  | mk (x : Addr) (p q : Int) (t1 t2 : Tok) : num (ks.take 2) / 4096 = p → num (ks.take 2) % 4096 = q → PRpo ks (.ref x) [(x, tupO [.int (16 * p) t1, .int q t2])]
def RdW (ks : List Int) (rp rm co np nm pp pn : Int) : Prop :=
  num (ks.take 2) = rp ∧ num ((ks.drop 2).take 6) = rm ∧ num ((ks.drop 8).take 4) = co ∧ num ((ks.drop 12).take 2) = np ∧ num (((ks.drop 12).drop 2).take 6) = nm ∧ num (((ks.drop 20).take 2).take 2) / 4096 = pp ∧ num (((ks.drop 20).take 2).take 2) % 4096 = pn
def RdU (ks : List Int) (ag mx he de : Int) : Prop := num (ks.take 2) / 256 = ag ∧ num ((ks.drop 2).take 2) / 256 = mx ∧ num ((ks.drop 4).take 2) / 256 = he ∧ num ((ks.drop 6).take 2) / 256 = de
inductive PRvec (ks : List Int) : Value → Led → Prop
  | mk (x r y p : Addr) (rp rm co np nm pp pn : Int) (t1 t2 t3 t4 t5 t6 t7 : Tok) : RdW ks rp rm co np nm pp pn → Keep9 (Apart [x, r, y, p]) →
    PRvec ks (.ref x) [(x, tupO [.ref r, .int co t3, .ref y, .ref p]), (r, tupO [.int rp t1, .int rm t2]), (y, tupO [.int np t4, .int nm t5]), (p, tupO [.int (16 * pp) t6, .int pn t7])]
def KindNo (kd : Str) (k : Int) : Prop := (kd = Str.ofString "config" ∧ k = 0) ∨ (kd = Str.ofString "rapid" ∧ k = 2) ∨ (kd = Str.ofString "change" ∧ k = 128)
inductive PKind (k : Int) : Value → Led → Prop
  | mk (kd : Str) (t : Tok) : KindNo kd k → PKind k (.str kd t) []
def Short (ks : List Int) : Prop := ks.length < 38 ∨ (38 ≤ ks.length ∧ ((ks.drop 38).length : Int) < num ((ks.drop 36).take 2))
def Whole (ks tl : List Int) : Prop := 38 ≤ ks.length ∧ num ((ks.drop 36).take 2) = (tl.length : Nat) ∧ (ks.drop 38).take tl.length = tl ∧ tl.length ≤ 200
inductive PTail (ks : List Int) : Value → Led → Prop
  | short : Short ks → PTail ks .none []
  | whole (b : Array UInt8) (t : Tok) : Whole ks (KBw.bInts b) → PTail ks (.bytes b t) []
theorem num_nat {ks : List Int} {b : Array UInt8} {i : Nat} {n : Int} (hb : KBw.bInts b = ks) (h : num ((ks.drop i).take 2) = n) : ∃ m : Nat, n = m ∧ m < 65536 := by
  have hi : ∀ k ∈ (ks.drop i).take 2, 0 ≤ k ∧ k < 256 := fun k hk => by
    have hk := List.mem_of_mem_drop (List.mem_of_mem_take hk)
    rw [← hb] at hk
    unfold KBw.bInts at hk
    obtain ⟨u, _, rfl⟩ := List.mem_map.mp hk
    exact ⟨Int.natCast_nonneg _, by have := u.toNat_lt; omega⟩
  have hn : 0 ≤ n ∧ n < 65536 := by
    subst h
    match hl : (ks.drop i).take 2, hi with
    | [], _ => exact ⟨by decide, by decide⟩
    | [a], hi => have := hi a (.head _); simp only [num, List.foldl_cons, List.foldl_nil]; omega
    | [a, c], hi => have := hi a (.head _); have := hi c (.tail _ (.head _)); simp only [num, List.foldl_cons, List.foldl_nil]; omega
    | a :: c :: d :: r, _ => have := congrArg List.length hl; simp only [List.length_take, List.length_cons] at this; omega
  exact ⟨n.toNat, by omega, by omega⟩
theorem tail_whole {ks tl : List Int} {m : Nat} (h0 : 38 ≤ ks.length) (hl : ks.length ≤ 200) (hn : num ((ks.drop 36).take 2) = (m : Nat)) (e : tl = (ks.drop 38).take (38 + m - 38)) (h : ((tl.length : Nat) : Int) = (m : Nat)) : Whole ks tl := by
  have hm : tl.length = m := by omega
  refine ⟨h0, by rw [hn, hm], ?_, ?_⟩
  · rw [hm, e, Nat.add_sub_cancel_left]
  · have : tl.length ≤ ks.length := by rw [e]; simp only [List.length_take, List.length_drop]; omega
    omega
theorem tail_shortN {ks tl : List Int} {m : Nat} (h0 : 38 ≤ ks.length) (hn : num ((ks.drop 36).take 2) = (m : Nat)) (e : tl = (ks.drop 38).take (38 + m - 38)) (h : ¬ ((tl.length : Nat) : Int) = (m : Nat)) : Short ks := by
  refine .inr ⟨h0, ?_⟩
  rw [hn]
  have : tl.length = min m (ks.drop 38).length := by rw [e, Nat.add_sub_cancel_left, List.length_take]
  omega
theorem PassesOwn.both {M : Model} {A : Around} {env : Env} {E : Value → Shared → Prop} {g : Prop} (h : PassesOwn M A env E) : PassesOwn M A env (fun e s => Both g (E e s)) := fun e s' hb =>
  wpAny_mono (h e s' hb.r) (fun _ _ h1 => wpAny_mono h1 (fun _ _ z => ⟨hb.l, z⟩) fun _ _ z => ⟨hb.l, z⟩) fun _ _ h1 => wpAny_mono h1 (fun _ _ z => ⟨hb.l, z⟩) fun _ _ z => ⟨hb.l, z⟩
theorem Ctr.frame {kd : Nat} {w : World} {mean : ExcName → Option Value} {mg mb : Str → Option Value} {f : Addr} {vs : List Value} {front front' R : Led} {Post Post' : Value → Led → Prop} (C : Ctr kd w mean mg mb f vs front Post) (h1 : ∀ p ∈ front, p ∈ front') (h2 : ∀ p ∈ R, p ∈ front') (hs : Sep front R)
    (hp : ∀ v n, Post v n → ∃ n', Post' v n' ∧ ∀ q ∈ n', q ∈ n ++ R) : Ctr kd w mean mg mb f vs front' Post' := by
  intro dp un gd cn snm sig sic smo a ccd cl outer A₀ base h₀ L m s Q E rest B F X N NR S T hd hu hret
  refine C _ _ _ _ _ _ _ _ _ _ _ _ _ _ _ _ _ _ _ _ (R ++ rest) B F X (fun p hp => N p (h1 p hp)) (fun p hp => ?_) (Sep.of fun p hp q hq => ?_) T hd hu fun v n h' t F' N' S' P' => ?_
  · rcases List.mem_append.mp hp with hp | hp
    · exact N p (h2 p hp)
    · exact NR p hp
  · rcases List.mem_append.mp hq with hq | hq
    · exact hs.mem p hp q hq
    · exact S.mem p (h1 p hp) q hq
  · obtain ⟨n', P9, sub⟩ := hp v n P'
    refine hret v n' h' t F' (fun p hp => ?_) (Sep.of fun p hp q hq => ?_) P9
    · rcases List.mem_append.mp hp with hp | hp
      · refine N' p (List.mem_append.mpr ?_)
        rcases List.mem_append.mp (sub p hp) with h | h
        · exact .inl h
        · exact .inr (List.mem_append.mpr (.inl h))
      · exact N' p (List.mem_append.mpr (.inr (List.mem_append.mpr (.inr hp))))
    · rcases List.mem_append.mp (sub p hp) with h | h
      · exact S'.mem p h q (List.mem_append.mpr (.inr hq))
      · exact S.mem p (h2 p h) q hq
theorem apartT {x dx xv xr xn xp tm dt : Addr} (hd : Apart [x, dx, xv, xr, xn, xp, tm, dt]) : Apart [x, dx, tm, dt] := by
  simp only [Apart, List.forall_mem_cons, List.not_mem_nil, false_implies, implies_true, and_true, and_assoc] at hd ⊢
  simp only [hd, not_false_eq_true, ne_eq, and_true, true_and]
theorem tm1 {a b c d e f g h : Addr × Obj} : ∀ p ∈ [a, b, g, h], p ∈ [a, b, c, d, e, f, g, h] := by simp
theorem tm2 {a b c d e f g h : Addr × Obj} : ∀ p ∈ [c, d, e, f], p ∈ [a, b, c, d, e, f, g, h] := by simp
theorem tm3 {y z a b c d e f g h : Addr × Obj} : ∀ q ∈ y :: ([z] ++ (a :: b :: [c, d, e, f, g, h])), q ∈ [y, z, a, b, g, h] ++ [c, d, e, f] := by simp
theorem sepT8 {x dx xv xr xn xp tm dt : Addr} {o1 o2 o3 o4 o5 o6 o7 o8 : Obj} (hd : Apart [x, dx, xv, xr, xn, xp, tm, dt]) : Sep [(x, o1), (dx, o2), (tm, o3), (dt, o4)] [(xv, o5), (xr, o6), (xn, o7), (xp, o8)] := by
  refine Sep.of ?_
  simp only [Apart, List.forall_mem_cons, List.not_mem_nil, false_implies, implies_true, and_true, and_assoc] at hd ⊢
  obtain ⟨a1, a2, a3, a4, a5, a6, a7, b1, b2, b3, b4, b5, b6, c1, c2, c3, c4, c5, d1, d2, d3, d4, e1, e2, e3, f1, f2, g1⟩ := hd
  exact ⟨a2, a3, a4, a5, b1, b2, b3, b4, Ne.symm c4, Ne.symm d3, Ne.symm e2, Ne.symm f1, Ne.symm c5, Ne.symm d4, Ne.symm e3, Ne.symm f2⟩
theorem oct_atG {prog : Program} {w : World} {A : Around} {E : Value → Shared → Prop} {s : Shared} {Q : Value → Shared → Prop} {value slice : PySem.Expr} {b : Array UInt8} {ks : List Int} {i : Int} {t ui : Tok} (hk : KBw.bInts b = ks) (hl : ks.length ≤ 200) (h0 : 0 ≤ i) (h1 : i < (ks.length : Nat))
    (h : ∀ z t' k, ks.getD i.toNat 0 = z → 0 ≤ z → z < 256 → Q (.int z t') { s with toks := k })
    (hs : subscripted slice false (.bytes b t) (.int i ui) = operate [.bytes b t, .int i ui] (getItem (.bytes b t) (.int i ui)) := by with_unfolding_all rfl)
    (ht : ∀ r, letTemporaryGo value (.bytes b t) r = pure () := by intro _; with_unfolding_all rfl) : wpAny (model prog w) A (subscriptTail value slice (.bytes b t) (.int i ui)) Q E s :=
  KBw.item_K hk (by omega) h0 (by omega) (fun t' k a c => h _ t' k rfl a c) hs ht
theorem min_iiG {prog : Program} {w : World} {A : Around} {E : Value → Shared → Prop} {s : Shared} {Q : Value → Shared → Prop} {a b : Int} {t u : Tok} {h₀ : Heap} {L : Addr} {m : Str → Option Value} {news : Led}
    (hh : A.handled = none) (F : Fr h₀ L s.heap m) (N : News h₀ L s.heap news) (h : ∀ v h' tk tr, (if b < a then b else a) = v → Fr h₀ L h' m → News h₀ L h' news → Q (.int v tr) { s with heap := h', toks := tk }) :
    wpAny (model prog w) A (call (.builtin "min") [.int a t, .int b u]) Q E s := min_ii hh F N fun h' tk tr F' N' => h _ h' tk tr rfl F' N'
theorem role_ex {z : Int} (h0 : 0 ≤ z) (h1 : z < 256) : ∃ r : Nat, r < 4 ∧ Builtin.bitAnd (z.fdiv (2 ^ Int.toNat 2)) 3 = (r : Nat) := by
  have key : ∀ y : Fin 256, ∃ r : Fin 4, Builtin.bitAnd (((y.val : Nat) : Int).fdiv (2 ^ Int.toNat 2)) 3 = ((r.val : Nat) : Int) := by decide +kernel
  obtain ⟨r, hr⟩ := key ⟨z.toNat, by omega⟩
  rw [show (((⟨z.toNat, by omega⟩ : Fin 256).val : Nat) : Int) = z from Int.toNat_of_nonneg h0] at hr
  exact ⟨r.val, r.isLt, hr⟩
theorem role_atG {prog : Program} {w : World} {A : Around} {E : Value → Shared → Prop} {s : Shared} {value slice : PySem.Expr} {l : Addr} {o : Obj} {t0 t1 t2 t3 u : Tok} {n : Nat} {z : Int} {Q : Value → Shared → Prop} (ho : s.heap.get? l = some o) (hc : o.cls = .type "tuple") (hd : o.data = .seq #[.str "none" t0, .str "alternate" t1, .str "root" t2, .str "designated" t3] n)
    (h0 : 0 ≤ z) (h1 : z < 256) (h : ∀ (r : Nat) t', r < 4 → Keep9 (Builtin.bitAnd (z.fdiv (2 ^ Int.toNat 2)) 3 = (r : Nat)) → Q (.str (roleN r) t') s)
    (hs : ∀ (y : Int) (u : Tok), subscripted slice false (.ref l) (.int y u) = operate [.ref l, .int y u] (getItem (.ref l) (.int y u)) := by intro _ _; with_unfolding_all rfl) (hg : ∀ r, letTemporaryGo value (.ref l) r = pure () := by intro _; with_unfolding_all rfl) :
    wpAny (model prog w) A (subscriptTail value slice (.ref l) (.int (Builtin.bitAnd (z.fdiv (2 ^ Int.toNat 2)) 3) u)) Q E s := by
  obtain ⟨r, hr, e⟩ := role_ex h0 h1
  exact role_at ho hc hd e hr (fun t' => h r t' hr ⟨e⟩) hs hg
section
variable {prog : Program} {w : World} {A : Around} {E : Value → Shared → Prop} {s : Shared} {h₀ : Heap} {L : Addr} {m : Str → Option Value} {keep : Led}
def CutV (h₀ : Heap) (L : Addr) (m : Str → Option Value) (s : Shared) (keep : Led) (P : Value → Prop) (v : Value) (s' : Shared) : Prop :=
  ∃ h' tk', P v ∧ s' = { s with heap := h', toks := tk' } ∧ Fr h₀ L h' m ∧ News h₀ L h' keep
theorem CutV.intro {P : Value → Prop} {v : Value} {h' : Heap} {tk' : Nat} {all rest : Led} (p : P v) (F : Fr h₀ L h' m) (N : News h₀ L h' all) (S : Pick keep all rest) : CutV h₀ L m s keep P v { s with heap := h', toks := tk' } :=
  ⟨h', tk', p, rfl, F, fun q hq => N q (S.mem.1 q hq)⟩
theorem cut_val {x : Sem Value} (P : Value → Prop) {Q : Value → Shared → Prop} (_F : Fr h₀ L s.heap m) (_N : News h₀ L s.heap keep) (h1 : CutMark → wpAny (model prog w) A x (CutV h₀ L m s keep P) E s)
    (h2 : ∀ v h' tk', P v → Fr h₀ L h' m → News h₀ L h' keep → Q v { s with heap := h', toks := tk' }) : wpAny (model prog w) A x Q E s :=
  wpAny_mono (h1 ⟨trivial⟩) (fun v s' hv => by obtain ⟨h', tk', p, rfl, F, N⟩ := hv; exact h2 v h' tk' p F N) fun _ _ e => e
end
abbrev V2 (ks : List Int) : Int := if 3 < ks.getD (Int.toNat 2) 0 then 3 else ks.getD (Int.toNat 2) 0
inductive TailRd (ks : List Int) : Int → Array UInt8 → Prop
  | two : V2 ks = 2 → TailRd ks 2 #[]
  | short : V2 ks = 3 → Short ks → TailRd ks 2 #[]
  | whole (tail : Array UInt8) : V2 ks = 3 → Whole ks (KBw.bInts tail) → TailRd ks 3 tail
inductive KindRd (ks : List Int) : Str → Int → Bool → Bool → Bool → Bool → Bool → Bool → Nat → Array UInt8 → Prop
  | c (z : Int) : ks.getD (Int.toNat 3) 0 = 0 → ks.getD (Int.toNat 4) 0 = z → KindRd ks (Str.ofString "config") 0 (Builtin.bitAnd z 1 == 1) (Builtin.bitAnd z 128 == 128) false false false false 0 #[]
  | r (z ver : Int) (r : Nat) (tail : Array UInt8) : ks.getD (Int.toNat 3) 0 = 2 → ks.getD (Int.toNat 4) 0 = z → Keep9 (Builtin.bitAnd (z.fdiv (2 ^ Int.toNat 2)) 3 = (r : Nat)) → r < 4 → TailRd ks ver tail →
    KindRd ks (Str.ofString "rapid") ver (Builtin.bitAnd z 1 == 1) (Builtin.bitAnd z 128 == 128) (Builtin.bitAnd z 2 == 2) (Builtin.bitAnd z 64 == 64) (Builtin.bitAnd z 16 == 16) (Builtin.bitAnd z 32 == 32) r tail
theorem KindRd.of {ks : List Int} {kd : Str} {ver : Int} {f0 f1 f2 f3 f4 f5 : Bool} {r : Nat} {tail : Array UInt8} (h : KindRd ks kd ver f0 f1 f2 f3 f4 f5 r tail) : ∃ code rest, KindOf kd ver code f2 f3 f4 f5 r tail rest := by
  cases h with
  | c => exact ⟨_, _, .c⟩
  | r z ver r tail _ _ _ h4 ht =>
    cases ht with
    | two => exact ⟨_, _, .r2 _ _ _ _ _ h4⟩
    | short => exact ⟨_, _, .r2 _ _ _ _ _ h4⟩
    | whole tail _ h => exact ⟨_, _, .r3 _ _ _ _ _ _ h4 (by have := h.2.2.2; unfold KBw.bInts at this; simpa using this)⟩
inductive Tells (ks : List Int) : Int → List Value → Led → Prop
  | a (tk : Tok) : ks.getD (Int.toNat 3) 0 = 128 → Tells ks 0 [.str "change" tk, .none, .none] []
  | v (kd : Str) (ver : Int) (f0 f1 f2 f3 f4 f5 : Bool) (r : Nat) (tail : Array UInt8) (z xv xr xn xp : Addr) (rp rm co np nm pp pn ag mx he de : Int) (tk tf tt h1 h2 h3 h4 i1 i2 i3 i4 i5 i6 i7 : Tok) :
    KindRd ks kd ver f0 f1 f2 f3 f4 f5 r tail → RdV ks rp rm co np nm pp pn → RdT ks ag mx he de →
    Tells ks ver [.str kd tk, .ref xv, .ref z, .int (flR f0 f1 f2 f3 f4 f5 r) tf, .bytes tail tt] [(z, tupO [.int ag h1, .int mx h2, .int he h3, .int de h4]), (xv, tupO [.ref xr, .int co i3, .ref xn, .ref xp]), (xr, tupO [.int rp i1, .int rm i2]), (xn, tupO [.int np i4, .int nm i5]), (xp, tupO [.int (16 * pp) i6, .int pn i7])]
inductive PTells (ks : List Int) : Value → Led → Prop
  | mk (y : Addr) (ver : Int) (t : Tok) (R : List Value) (D : Led) : Tells ks ver R D → PTells ks (.ref y) ((y, tupO (.int ver t :: R)) :: D)
inductive PRd (ks : List Int) (row : Addr) (o : Obj) : Value → Led → Prop
  | mk (y : Addr) (ver : Int) (t : Tok) (R : List Value) (D : Led) : Tells ks ver R D → PRd ks row o (.ref y) ((y, tupO (.int ver t :: R)) :: (D ++ [(row, o)]))
inductive PForm (front : Led) : Value → Led → Prop
  | mk (t : Tok) : PForm front (.str (Str.ofString "form") t) front
def TailV (ks : List Int) (v : Value) : Prop := ∃ ver tail, TailRd ks ver tail ∧ ((v = .none ∧ ver = 2 ∧ tail = #[]) ∨ ∃ tr, v = .bytes tail tr ∧ ver = 3)
theorem Pick.app : ∀ {f r : Led}, Pick f (f ++ r) r
  | [], _ => .nil
  | _ :: _, _ => .cons .head Pick.app
theorem Ctr.useMI {kd : Nat} {w : World} {mean : ExcName → Option Value} {mg mb : Str → Option Value} {f : Addr} {vs : List Value} {front all rest : Led} {Post : Value → Led → Prop} (C : Ctr kd w mean mg mb f vs front Post)
    {dp un : Nat} {gd : Option (List Code)} {cn : Str} {snm : List (Str × NameKind)} {sig sic : Bool} {smo : List (Str × Const)} {a : Addr} {ccd : Value} {cl : List (Str × Addr)} {outer : List Env} {A₀ : Around} {base h₀ : Heap} {L : Addr} {m : Str → Option Value} {s : Shared} {Q E : Value → Shared → Prop}
    (B : Below A₀ base outer h₀) (F : Fr h₀ L s.heap m) (X : (Mine.wr.heap_1 w.params).In h₀) (N : News h₀ L s.heap all) (P1 : ∀ p ∈ front, p ∈ all) (P2 : ∀ p ∈ rest, p ∈ all) (S : Sep front rest) (T : Tp mean mg mb h₀)
    (hdp : dp + kd < recursionLimit) (hun : un + 10 * kd + 100 < cLine)
    (hret : ∀ h' tk', Fr h₀ L h' m → let G9 : Value → Prop := fun v => Q v { s with heap := h', toks := tk' }; ∀ v news', Post v news' → News h₀ L h' (news' ++ rest) → Keep9 (Sep news' rest) → G9 v) :
    wpAny (model PySem.Challenge.rw_pb0549_01.row.prog w) (ktrTop dp un gd cn (fscope snm sig sic smo) L a ccd cl outer) (call (.ref f) vs) Q E s :=
  Ctr.useM C B F X N P1 P2 S T hdp hun fun h t F v n P N S => hret h t F v n P N ⟨S⟩
theorem CtrS.useI {kd : Nat} {w : World} {mean : ExcName → Option Value} {mg mb : Str → Option Value} {f : Addr} {vs : List Value} {front all rest : Led} {Post : Value → Led → Prop} (C : CtrS kd w mean mg mb f vs front Post)
    {dp un : Nat} {gd : Option (List Code)} {cn : Str} {snm : List (Str × NameKind)} {sig sic : Bool} {smo : List (Str × Const)} {a : Addr} {ccd : Value} {cl : List (Str × Addr)} {outer : List Env} {A₀ : Around} {base h₀ : Heap} {L : Addr} {m : Str → Option Value} {s : Shared} {Q E : Value → Shared → Prop}
    (B : Below A₀ base outer h₀) (F : Fr h₀ L s.heap m) (X : (Mine.wr.heap_1 w.params).In h₀) (N : News h₀ L s.heap all) (P : Pick front all rest) (S : Sep front rest) (T : Tp mean mg mb h₀) (XB : (Mine.wr.heap_1 w.params).In base) (TB : Tp mean mg mb base) (D : KtsDicts (frs outer) h₀)
    (hdp : dp + kd < recursionLimit) (hun : un + 10 * kd + 100 < cLine)
    (hret : ∀ h₀' h' tk', KtsTurn (frs outer) h₀ h₀' → Below A₀ base outer h₀' → (Mine.wr.heap_1 w.params).In h₀' → Tp mean mg mb h₀' → KtsDicts (frs outer) h₀' → Fr h₀' L h' m → let G9 : Value → Prop := fun v => Q v { s with heap := h', toks := tk' }; ∀ v news', Post v news' → News h₀' L h' (news' ++ rest) → Keep9 (Sep news' rest) → G9 v) :
    wpAny (model PySem.Challenge.rw_pb0549_01.row.prog w) (ktrTop dp un gd cn (fscope snm sig sic smo) L a ccd cl outer) (call (.ref f) vs) Q E s :=
  C _ _ _ _ _ _ _ _ _ _ _ _ _ _ _ _ _ _ _ _ _ B F X (fun p hp => N p (P.mem.1 p hp)) (fun p hp => N p (P.mem.2 p hp)) S T XB TB D hdp hun fun v n h₀' h' tk' K B' X' T' D' F' N' S' Po => hret h₀' h' tk' K B' X' T' D' F' v n Po N' ⟨S'⟩
inductive POr (src : Addr) : Value → Led → Prop
  | mk (o : Obj) : SrcO o → POr src (.bool true) [(src, o)]
theorem letCons2 {G : Prop} {g : Heap} {L : Addr} {h : Heap} {p q : Addr × Obj} {l : Led} (N : News g L h (p :: q :: l)) (k : let d9 := q; let e9 := p; let n9 := e9 :: d9 :: l; News g L h n9 → G) : G := k N
theorem Ctr.useI1 {kd : Nat} {w : World} {mean : ExcName → Option Value} {mg mb : Str → Option Value} {f : Addr} {vs : List Value} {front all rest : Led} {Post : Value → Led → Prop} (C : Ctr kd w mean mg mb f vs front Post)
    {dp un : Nat} {gd : Option (List Code)} {cn : Str} {snm : List (Str × NameKind)} {sig sic : Bool} {smo : List (Str × Const)} {a : Addr} {ccd : Value} {cl : List (Str × Addr)} {outer : List Env} {A₀ : Around} {base h₀ : Heap} {L : Addr} {m : Str → Option Value} {s : Shared} {Q E : Value → Shared → Prop}
    (B : Below A₀ base outer h₀) (F : Fr h₀ L s.heap m) (X : (Mine.wr.heap_1 w.params).In h₀) (N : News h₀ L s.heap all) (P : Pick front all rest) (S : Sep front rest) (T : Top Mine.vq (looseW Mine.vq [Str.ofString "KINDS", Str.ofString "Bpdu"]) mean mg mb h₀)
    (hdp : dp + kd < recursionLimit) (hun : un + 10 * kd + 100 < cLine)
    (hret : ∀ h' tk', Fr h₀ L h' m → let G9 : Value → Prop := fun v => Q v { s with heap := h', toks := tk' }; ∀ v news', Post v news' → News h₀ L h' (news' ++ rest) → Keep9 (Sep news' rest) → G9 v) :
    wpAny (model PySem.Challenge.rw_pb0549_01.row.prog w) (ktrTop dp un gd cn (fscope snm sig sic smo) L a ccd cl outer) (call (.ref f) vs) Q E s :=
  C.use B F X N P S T hdp hun fun v n h t F N S P => hret h t F v n P N ⟨S⟩
theorem Ctr.useI0 {kd : Nat} {w : World} {mean : ExcName → Option Value} {mg mb : Str → Option Value} {f : Addr} {vs : List Value} {front all rest : Led} {Post : Value → Led → Prop} (C : Ctr kd w mean mg mb f vs front Post)
    {dp un : Nat} {gd : Option (List Code)} {cn : Str} {snm : List (Str × NameKind)} {sig sic : Bool} {smo : List (Str × Const)} {a : Addr} {ccd : Value} {cl : List (Str × Addr)} {outer : List Env} {A₀ : Around} {base h₀ : Heap} {L : Addr} {m : Str → Option Value} {s : Shared} {Q E : Value → Shared → Prop}
    (B : Below A₀ base outer h₀) (F : Fr h₀ L s.heap m) (X : (Mine.wr.heap_1 w.params).In h₀) (N : News h₀ L s.heap all) (P : Pick front all rest) (S : Sep front rest) (T : Top Mine.vq (looseW Mine.vq [Str.ofString "KINDS", Str.ofString "Bpdu"]) mean mg mb h₀)
    (hdp : dp + kd < recursionLimit) (hun : un + 10 * kd + 100 < cLine)
    (hret : ∀ h' tk', Fr h₀ L h' m → let G9 : Value → Prop := fun v => Q v { s with heap := h', toks := tk' }; ∀ v news', Post v news' → News h₀ L h' (news' ++ rest) → G9 v) :
    wpAny (model PySem.Challenge.rw_pb0549_01.row.prog w) (ktrTop dp un gd cn (fscope snm sig sic smo) L a ccd cl outer) (call (.ref f) vs) Q E s :=
  C.use B F X N P S T hdp hun fun v n h t F N _ P => hret h t F v n P N
theorem CtrX.use {kd : Nat} {w : World} {mean : ExcName → Option Value} {mg mb : Str → Option Value} {f : Addr} {vs : List Value} {front all rest : Led} {Post : Value → Led → Prop} {good : Prop} {c : Addr} (C : CtrX kd w mean mg mb f vs front good Post c)
    {dp un : Nat} {gd : Option (List Code)} {cn : Str} {snm : List (Str × NameKind)} {sig sic : Bool} {smo : List (Str × Const)} {a : Addr} {ccd : Value} {cl : List (Str × Addr)} {outer : List Env} {A₀ : Around} {base h₀ : Heap} {L : Addr} {m : Str → Option Value} {s : Shared} {Q E : Value → Shared → Prop}
    (B : Below A₀ base outer h₀) (F : Fr h₀ L s.heap m) (X : (Mine.wr.heap_1 w.params).In h₀) (N : News h₀ L s.heap all) (P : Pick front all rest) (S : Sep front rest) (T : Top Mine.vq (looseW Mine.vq [Str.ofString "KINDS", Str.ofString "Bpdu"]) mean mg mb h₀)
    (hdp : dp + kd < recursionLimit) (hun : un + 10 * kd + 100 < cLine)
    (hok : good → ∀ h' tk', Fr h₀ L h' m → let G9 : Value → Prop := fun v => Q v { s with heap := h', toks := tk' }; ∀ v news', Post v news' → News h₀ L h' (news' ++ rest) → Keep9 (Sep news' rest) → G9 v)
    (hbad : ¬ good → ∀ e G h' tk', Fr h₀ L G m → RaisedSN base G (envX cn (fscope snm sig sic smo) L a ccd cl :: outer) e (.ref c) rest h' → G.UpToSlots h' → E (.ref e) { s with heap := h', toks := tk' }) :
    wpAny (model PySem.Challenge.rw_pb0549_01.row.prog w) (ktrTop dp un gd cn (fscope snm sig sic smo) L a ccd cl outer) (call (.ref f) vs) Q E s :=
  Classical.byCases (fun hg => (C.1 hg).use B F X N P S T hdp hun fun v n h t F N S P => hok hg h t F v n P N ⟨S⟩) fun hg => (C.2 hg).use B F X N P S T hdp hun (hbad hg)
section
variable {kd : Nat} {w : World} {mean : ExcName → Option Value} {mg mb : Str → Option Value} {f C : Addr} {vs : List Value} {front : Led} {good : Prop} {Post : Value → Led → Prop}
  {name qual : Str} {params : Arguments} {body : List Stmt} {scope : Scope} {dV kV doc pm cdv ct oc : Value} {an od : Option Addr} {osl : Array (Option Value)} {binds : List (Str × Value)}
theorem ctrX_mk
    (ho : (Mine.wr.heap_1 w.params).lookup f = some ⟨oc, od, .func (fnOf name qual params body scope dV kV doc pm an cdv ct), osl⟩) (hcd : codeIn (Mine.wr.heap_1 w.params) cdv qual = true)
    (hbind : ∀ s, BindsTo s (fnOf name qual params body scope dV kV doc pm an cdv ct) ⟨vs, []⟩ binds) (hloc : ∀ y ∈ binds, scope.names.lookup y.1 = some .local)
    (hco : scope.isCoroutine = false) (hgen : scope.isGenerator = false) (hk : scope.kind = .function) (hcell : ∀ x ∈ scope.names, x.2 ≠ .cell)
    (h : ∀ (dp un : Nat) (gd : Option (List Code)) (cn : Str) (snm : List (Str × NameKind)) (sig sic : Bool) (smo : List (Str × Const)) (a : Addr) (ccd : Value) (cl : List (Str × Addr)) (outer : List Env) (base : Heap) (L : Addr) (s : Shared) (g : Heap) (L' : Addr) (h₁ : Heap) (tk : Nat),
      Fr g L' h₁ (fun y => binds.reverse.lookup y) → News g L' h₁ front → Below (ktrTop dp un gd cn (fscope snm sig sic smo) L a ccd cl outer) base (envX cn (fscope snm sig sic smo) L a ccd cl :: outer) g → (Mine.wr.heap_1 w.params).In g →
      Top Mine.vq (looseW Mine.vq [Str.ofString "KINDS", Str.ofString "Bpdu"]) mean mg mb g → (∀ p ∈ front, p.1 < L') → dp + kd < recursionLimit → un + 10 * kd + 100 < cLine →
      wpAny (model PySem.Challenge.rw_pb0549_01.row.prog w) ((ktrTop dp un gd cn (fscope snm sig sic smo) L a ccd cl outer).deeper (envOf qual scope L' f cdv)) (execs body (envOf qual scope L' f cdv))
        (fun fl s' => Both good (End g s Post (match fl with | .ret v => v | _ => .none) s')) (fun e s' => Both (¬ good) <| wpAny (model PySem.Challenge.rw_pb0549_01.row.prog w) ((ktrTop dp un gd cn (fscope snm sig sic smo) L a ccd cl outer).deeper (envOf qual scope L' f cdv)) (leaving (envOf qual scope L' f cdv) e)
          (fun _ s'' => EndE base g (envX cn (fscope snm sig sic smo) L a ccd cl :: outer) C s e s'') (fun _ _ => False) s') { s with heap := h₁, toks := tk }) :
    CtrX kd w mean mg mb f vs front good Post C :=
  ⟨fun hg => ctr_mk ho hcd hbind hloc hco hgen hk hcell fun dp un gd cn snm sig sic smo a ccd cl outer base L s g L' h₁ tk F N B X T lt hdp hun => wpAny_mono (h dp un gd cn snm sig sic smo a ccd cl outer base L s g L' h₁ tk F N B X T lt hdp hun) (fun _ _ p => p.r) (fun _ _ p => absurd hg p.l),
   fun hg => ctrE_mk ho hcd hbind hloc hco hgen hk hcell fun dp un gd cn snm sig sic smo a ccd cl outer base L s g L' h₁ tk F N B X T lt hdp hun => wpAny_mono (h dp un gd cn snm sig sic smo a ccd cl outer base L s g L' h₁ tk F N B X T lt hdp hun) (fun _ _ p => absurd p.l hg) (fun _ _ p => p.r)⟩
theorem ctrX_mkC
    (ho : (Mine.wr.heap_1 w.params).lookup f = some ⟨oc, od, .func (fnOf name qual params body scope dV kV doc pm an cdv ct), osl⟩) (hcd : codeIn (Mine.wr.heap_1 w.params) cdv qual = true)
    (hbind : ∀ s, BindsTo s (fnOf name qual params body scope dV kV doc pm an cdv ct) ⟨vs, []⟩ binds) (hkind : (binds.all fun y => scope.names.lookup y.1 == some .local || scope.names.lookup y.1 == some .cell) = true)
    (hnd : ((cellsFrom 0 scope.names []).map (·.1)).Nodup)
    (hco : scope.isCoroutine = false) (hgen : scope.isGenerator = false) (hk : scope.kind = .function)
    (h : ∀ (dp un : Nat) (gd : Option (List Code)) (cn : Str) (snm : List (Str × NameKind)) (sig sic : Bool) (smo : List (Str × Const)) (a : Addr) (ccd : Value) (cl : List (Str × Addr)) (outer : List Env) (base : Heap) (L : Addr) (s : Shared) (g : Heap) (L' : Addr) (h₁ : Heap) (tk : Nat) (cells : Led),
      Fr g L' h₁ (bindL (envOfC qual scope L' f cdv).kindOf binds fun _ => none) → News g L' h₁ (cells ++ front) → CellsAre (bindC (envOfC qual scope L' f cdv).kindOf binds fun _ => none) (cellsFrom (L' + 1) scope.names []) cells → Below (ktrTop dp un gd cn (fscope snm sig sic smo) L a ccd cl outer) base (envX cn (fscope snm sig sic smo) L a ccd cl :: outer) g → (Mine.wr.heap_1 w.params).In g →
      Top Mine.vq (looseW Mine.vq [Str.ofString "KINDS", Str.ofString "Bpdu"]) mean mg mb g → (∀ p ∈ front, p.1 < L') → dp + kd < recursionLimit → un + 10 * kd + 100 < cLine →
      wpAny (model PySem.Challenge.rw_pb0549_01.row.prog w) ((ktrTop dp un gd cn (fscope snm sig sic smo) L a ccd cl outer).deeper (envOfC qual scope L' f cdv)) (execs body (envOfC qual scope L' f cdv))
        (fun fl s' => Both good (End g s Post (match fl with | .ret v => v | _ => .none) s')) (fun e s' => Both (¬ good) <| wpAny (model PySem.Challenge.rw_pb0549_01.row.prog w) ((ktrTop dp un gd cn (fscope snm sig sic smo) L a ccd cl outer).deeper (envOfC qual scope L' f cdv)) (leaving (envOfC qual scope L' f cdv) e)
          (fun _ s'' => EndE base g (envX cn (fscope snm sig sic smo) L a ccd cl :: outer) C s e s'') (fun _ _ => False) s') { s with heap := h₁, toks := tk }) :
    CtrX kd w mean mg mb f vs front good Post C :=
  ⟨fun hg => ctr_mkC ho hcd hbind hkind hnd hco hgen hk fun dp un gd cn snm sig sic smo a ccd cl outer base L s g L' h₁ tk cells F N Y B X T lt hdp hun => wpAny_mono (h dp un gd cn snm sig sic smo a ccd cl outer base L s g L' h₁ tk cells F N Y B X T lt hdp hun) (fun _ _ p => p.r) (fun _ _ p => absurd hg p.l),
   fun hg => ctrE_mkC ho hcd hbind hkind hnd hco hgen hk fun dp un gd cn snm sig sic smo a ccd cl outer base L s g L' h₁ tk cells F N Y B X T lt hdp hun => wpAny_mono (h dp un gd cn snm sig sic smo a ccd cl outer base L s g L' h₁ tk cells F N Y B X T lt hdp hun) (fun _ _ p => absurd p.l hg) (fun _ _ p => p.r)⟩
end
end Mine
end
section
open PySem PySem.W PyProof.Rows PySem.Calls PySem.Spec
set_option maxRecDepth 100000
namespace Mine
theorem wire_35 {v2 k fl x : Int} {v t rest : List Int} (hv : v.length = 22) (ht : t.length = 8) : (wire v2 k fl v t (x :: rest)).getD (Int.toNat 35) 0 = x := by
  show (wire v2 k fl v t (x :: rest)).getD 35 0 = x
  rw [List.getD_eq_getElem?_getD, ← List.getElem?_drop (i := 35) (j := 0), wire_r hv ht]
  rfl
theorem wire_36 {v2 k fl x : Int} {v t rest : List Int} (hv : v.length = 22) (ht : t.length = 8) : (wire v2 k fl v t (x :: rest)).drop 36 = rest := by
  rw [show 36 = 35 + 1 from rfl, ← List.drop_drop, wire_r hv ht]
  rfl
theorem wire_38 {v2 k fl x m : Int} {v t z : List Int} (hv : v.length = 22) (ht : t.length = 8) : (wire v2 k fl v t (x :: (octs 2 m ++ z))).drop 38 = z := by
  rw [show 38 = 36 + 2 from rfl, ← List.drop_drop, wire_36 hv ht, oct2_eq]
  rfl
theorem wire_m {v2 k fl x : Int} {v t z : List Int} {m : Nat} (hv : v.length = 22) (ht : t.length = 8) (hm : m < 65536) : num (((wire v2 k fl v t (x :: (octs 2 (m : Nat) ++ z))).drop 36).take 2) = (m : Nat) := by
  rw [wire_36 hv ht]
  have e : (octs 2 ((m : Nat) : Int) ++ z).take 2 = octs 2 ((m : Nat) : Int) := by rw [oct2_eq]; rfl
  rw [e]
  exact num_octs2 (by omega) (by omega)
inductive PRv (kd : Str) (fl : Int) (tail : Array UInt8) (rp rm co np nm pp pn ag mx he de : Int) : List Value → Led → Prop
  | mk (z xv xr xn xp : Addr) (tk tf tt h1 h2 h3 h4 i1 i2 i3 i4 i5 i6 i7 : Tok) (E : Led) : PRv kd fl tail rp rm co np nm pp pn ag mx he de [.str kd tk, .ref xv, .ref z, .int fl tf, .bytes tail tt]
    ((z, tupO [.int ag h1, .int mx h2, .int he h3, .int de h4]) :: (xv, tupO [.ref xr, .int co i3, .ref xn, .ref xp]) :: (xr, tupO [.int rp i1, .int rm i2]) :: (xn, tupO [.int np i4, .int nm i5]) :: (xp, tupO [.int (16 * pp) i6, .int pn i7]) :: E)
inductive PDv (kind : Str) (tk : Tok) (xv : Addr) (fl : Int) (tail : Array UInt8) (tt : Tok) (ag mx he de : Int) (h1 h2 h3 h4 : Tok) : List Value → Led → Prop
  | mk (z : Addr) (t : Tok) : PDv kind tk xv fl tail tt ag mx he de h1 h2 h3 h4 [.str kind tk, .ref xv, .ref z, .int fl t, .bytes tail tt] [(z, tupO [.int ag h1, .int mx h2, .int he h3, .int de h4])]
inductive PA : List Value → Led → Prop
  | mk (tk : Tok) (D : Led) : PA [.str "change" tk, .none, .none] D
section
variable {v2 k fl : Int} {v t rest : List Int}
theorem good_wireC (hv : v.length = 22) (ht : t.length = 8) : ¬ Bad (wire v2 0 fl v t rest) := by
  have hl := wire_len (v2 := v2) (k := 0) (fl := fl) (rest := rest) hv ht
  rintro (h | ⟨_, h⟩ | ⟨_, _, h, _⟩ | ⟨_, _, _, h⟩ | ⟨_, _, h, _⟩ | ⟨_, _, h, _⟩ | ⟨_, _, h, _⟩)
  · omega
  · exact h rfl
  · exact h rfl
  · omega
  · exact (by decide : ¬ ((0 : Int) = 2)) h
  · exact (by decide : ¬ ((0 : Int) = 2)) h
  · exact (by decide : ¬ ((0 : Int) = 2)) h
theorem good_wireR (hv : v.length = 22) (ht : t.length = 8) (h2 : 2 ≤ v2) : ¬ Bad (wire v2 2 fl v t (0 :: rest)) := by
  have hl := wire_len (v2 := v2) (k := 2) (fl := fl) (rest := 0 :: rest) hv ht
  simp only [List.length_cons] at hl
  rintro (h | ⟨_, h⟩ | ⟨_, _, _, h, _⟩ | ⟨_, _, h, _⟩ | ⟨_, _, _, h⟩ | ⟨_, _, _, h⟩ | ⟨_, _, _, _, h⟩)
  · omega
  · exact h rfl
  · exact h rfl
  · exact (by decide : ¬ ((2 : Int) = 0)) h
  · omega
  · have h : (if 3 < v2 then 3 else v2) < 2 := h
    split at h <;> omega
  · exact h (wire_35 hv ht)
theorem good_a4 {x : Int} {rest : List Int} : ¬ Bad (0 :: 0 :: x :: 128 :: rest) := by
  rintro (h | ⟨_, h⟩ | ⟨_, _, _, _, h⟩ | ⟨_, _, h, _⟩ | ⟨_, _, h, _⟩ | ⟨_, _, h, _⟩ | ⟨_, _, h, _⟩)
  · simp only [List.length_cons] at h; omega
  · exact h rfl
  · exact h rfl
  · exact (by decide : ¬ ((128 : Int) = 0)) h
  · exact (by decide : ¬ ((128 : Int) = 2)) h
  · exact (by decide : ¬ ((128 : Int) = 2)) h
  · exact (by decide : ¬ ((128 : Int) = 2)) h
end
theorem RdV.inj {ks : List Int} {a1 a2 a3 a4 a5 a6 a7 b1 b2 b3 b4 b5 b6 b7 : Int} (h : RdV ks a1 a2 a3 a4 a5 a6 a7) (g : RdV ks b1 b2 b3 b4 b5 b6 b7) : a1 = b1 ∧ a2 = b2 ∧ a3 = b3 ∧ a4 = b4 ∧ a5 = b5 ∧ a6 = b6 ∧ a7 = b7 :=
  ⟨h.1.symm.trans g.1, h.2.1.symm.trans g.2.1, h.2.2.1.symm.trans g.2.2.1, h.2.2.2.1.symm.trans g.2.2.2.1, h.2.2.2.2.1.symm.trans g.2.2.2.2.1, h.2.2.2.2.2.1.symm.trans g.2.2.2.2.2.1, h.2.2.2.2.2.2.symm.trans g.2.2.2.2.2.2⟩
theorem RdT.inj {ks : List Int} {a1 a2 a3 a4 b1 b2 b3 b4 : Int} (h : RdT ks a1 a2 a3 a4) (g : RdT ks b1 b2 b3 b4) : a1 = b1 ∧ a2 = b2 ∧ a3 = b3 ∧ a4 = b4 :=
  ⟨h.1.symm.trans g.1, h.2.1.symm.trans g.2.1, h.2.2.1.symm.trans g.2.2.1, h.2.2.2.symm.trans g.2.2.2⟩
def TailOf (code : Int) (ks : List Int) (ver : Int) (tail : Array UInt8) : Prop := (code = 0 ∧ ver = 0 ∧ tail = #[]) ∨ (code = 2 ∧ TailRd ks ver tail)
theorem kind_wire {kd kd' : Str} {ver code v2 ver' : Int} {f0 f1 f2 f3 f4 f5 g0 g1 g2 g3 g4 g5 : Bool} {r r' : Nat} {tail tail' : Array UInt8} {rest v t more : List Int}
    (hk : KindOf kd ver code f2 f3 f4 f5 r tail rest) (hK : KindRd (wire v2 code (flR f0 f1 f2 f3 f4 f5 r) v t more) kd' ver' g0 g1 g2 g3 g4 g5 r' tail') :
    kd' = kd ∧ flR g0 g1 g2 g3 g4 g5 r' = flR f0 f1 f2 f3 f4 f5 r ∧ TailOf code (wire v2 code (flR f0 f1 f2 f3 f4 f5 r) v t more) ver' tail' := by
  obtain ⟨q1, q2, q3, q4, q5, q6, q7⟩ := bitsR f0 f1 f2 f3 f4 f5 hk.r4
  cases hK with
  | c z h3 h4 =>
    have h3 : code = 0 := h3
    have h4 : flR f0 f1 f2 f3 f4 f5 r = z := h4
    subst h4
    refine ⟨?_, ?_, .inl ⟨h3, rfl, rfl⟩⟩
    · rcases hk.cases2 with ⟨e, _⟩ | ⟨_, e, _⟩
      · exact e.symm
      · omega
    · rw [q1, q2]
      cases hk with
      | c => rfl
      | r2 => exact absurd h3 (by decide : ¬ ((2 : Int) = 0))
      | r3 => exact absurd h3 (by decide : ¬ ((2 : Int) = 0))
  | r z _ r' tail' h3 h4 h5 h6 h7 =>
    have h3 : code = 2 := h3
    have h4 : flR f0 f1 f2 f3 f4 f5 r = z := h4
    subst h4
    have er : r' = r := by
      have := h5.out.symm.trans q7.out
      omega
    refine ⟨?_, by rw [q1, q2, q3, q4, q5, q6, er], .inr ⟨h3, h7⟩⟩
    rcases hk.cases2 with ⟨_, e, _⟩ | ⟨e, _⟩
    · omega
    · exact e.symm
theorem PRv.cast {kd kd' : Str} {fl fl' : Int} {tail : Array UInt8} {a1 a2 a3 a4 a5 a6 a7 a8 a9 a10 a11 b1 b2 b3 b4 b5 b6 b7 b8 b9 b10 b11 : Int} {R : List Value} {D : Led} (h : PRv kd' fl' tail a1 a2 a3 a4 a5 a6 a7 a8 a9 a10 a11 R D) (e : kd' = kd) (e' : fl' = fl)
    (q : a1 = b1 ∧ a2 = b2 ∧ a3 = b3 ∧ a4 = b4 ∧ a5 = b5 ∧ a6 = b6 ∧ a7 = b7) (q' : a8 = b8 ∧ a9 = b9 ∧ a10 = b10 ∧ a11 = b11) : PRv kd fl tail b1 b2 b3 b4 b5 b6 b7 b8 b9 b10 b11 R D := by
  rw [← e, ← e', ← q.1, ← q.2.1, ← q.2.2.1, ← q.2.2.2.1, ← q.2.2.2.2.1, ← q.2.2.2.2.2.1, ← q.2.2.2.2.2.2, ← q'.1, ← q'.2.1, ← q'.2.2.1, ← q'.2.2.2]
  exact h
theorem tells_wire {kd : Str} {ver code v2 l1 l2 ver' : Int} {f0 f1 f2 f3 f4 f5 : Bool} {r : Nat} {tail : Array UInt8} {rest more : List Int} {rp rm co np nm pp pn ag mx he de : Int} {R : List Value} {D E : Led}
    (hk : KindOf kd ver code f2 f3 f4 f5 r tail rest) (ok : okV rp rm co np nm pp pn ag mx he de) (a1 : 0 ≤ l1) (b1 : l1 < 256) (a2 : 0 ≤ l2) (b2 : l2 < 256)
    (hT : Tells (wire v2 code (flR f0 f1 f2 f3 f4 f5 r) (vecO rp rm co np nm pp pn) [ag, l1, mx, 0, he, 0, de, l2] more) ver' R D) :
    ∃ tail', TailOf code (wire v2 code (flR f0 f1 f2 f3 f4 f5 r) (vecO rp rm co np nm pp pn) [ag, l1, mx, 0, he, 0, de, l2] more) ver' tail' ∧ PRv kd (flR f0 f1 f2 f3 f4 f5 r) tail' rp rm co np nm pp pn ag mx he de R (D ++ E) := by
  cases hT with
  | a tk h =>
    have h : code = 128 := h
    rcases hk.cases2 with ⟨_, z, _⟩ | ⟨_, z, _⟩ <;> omega
  | v kd' ver' g0 g1 g2 g3 g4 g5 r' tail' z xv xr xn xp _ _ _ _ _ _ _ _ _ _ _ tk tf tt h1 h2 h3 h4 i1 i2 i3 i4 i5 i6 i7 hK hV hT2 =>
    obtain ⟨e1, e2, h⟩ := kind_wire hk hK
    exact ⟨tail', h, PRv.cast (.mk ..) e1 e2 (hV.inj (rdV_wire ok)) (hT2.inj (rdT_wire (vecO_length ..) a1 b1 (by decide) (by decide) (by decide) (by decide) a2 b2))⟩
section
variable {fl rp rm co np nm pp pn v2 l1 l2 l3 l4 l5 l6 l7 l8 ver : Int} {tl more : List Int} {tail' tail : Array UInt8}
theorem not_short {m : Nat} {v t : List Int} (hv : v.length = 22) (ht : t.length = 8) (hm : m < 65536) (hl : m ≤ more.length) : ¬ Short (wire v2 2 fl v t (0 :: (octs 2 (m : Nat) ++ more))) := by
  have e := wire_len (v2 := v2) (k := 2) (fl := fl) (rest := 0 :: (octs 2 (m : Nat) ++ more)) hv ht
  have eo : (octs 2 ((m : Nat) : Int)).length = 2 := octsTo_length ..
  simp only [List.length_cons, List.length_append, eo] at e
  rintro (h | ⟨_, h⟩)
  · omega
  · rw [wire_m hv ht hm, wire_38 hv ht] at h
    omega
theorem tail_of {m : Nat} {v t : List Int} (hv : v.length = 22) (ht : t.length = 8) (hm : m < 65536) (hl : m ≤ more.length) (h3 : (if 3 < v2 then 3 else v2) = 3) (h : TailOf 2 (wire v2 2 fl v t (0 :: (octs 2 (m : Nat) ++ more))) ver tail') : ver = 3 ∧ KBw.bInts tail' = more.take m := by
  rcases h with ⟨h, _⟩ | ⟨_, h⟩
  · exact absurd h (by decide)
  · have h3 : V2 (wire v2 2 fl v t (0 :: (octs 2 (m : Nat) ++ more))) = 3 := h3
    cases h with
    | two h => rw [h3] at h; exact absurd h (by decide)
    | short _ s => exact absurd s (not_short hv ht hm hl)
    | whole _ _ w =>
      obtain ⟨_, w2, w3, _⟩ := w
      rw [wire_m hv ht hm] at w2
      rw [wire_38 hv ht] at w3
      refine ⟨rfl, ?_⟩
      rw [← w3, show (KBw.bInts tail').length = m from by omega]
theorem tail_two {v t : List Int} {z : List Int} (h3 : v2 = 2) (h : TailOf 2 (wire v2 2 fl v t z) ver tail') : ver = 2 ∧ tail' = #[] := by
  rcases h with ⟨h, _⟩ | ⟨_, h⟩
  · exact absurd h (by decide)
  · have h2 : V2 (wire v2 2 fl v t z) = 2 := by subst h3; rfl
    cases h with
    | two => exact ⟨rfl, rfl⟩
    | short q => rw [h2] at q; exact absurd q (by decide)
    | whole _ q => rw [h2] at q; exact absurd q (by decide)
theorem tail_cut9 {m : Nat} {v t : List Int} (hv : v.length = 22) (ht : t.length = 8) (hm : m < 65536) (hl : more.length < m) (h3 : v2 = 3) (h : TailOf 2 (wire v2 2 fl v t (0 :: (octs 2 (m : Nat) ++ more))) ver tail') : ver = 2 ∧ tail' = #[] := by
  rcases h with ⟨h, _⟩ | ⟨_, h⟩
  · exact absurd h (by decide)
  · have h3 : V2 (wire v2 2 fl v t (0 :: (octs 2 (m : Nat) ++ more))) = 3 := by subst h3; rfl
    cases h with
    | two h => rw [h3] at h; exact absurd h (by decide)
    | short => exact ⟨rfl, rfl⟩
    | whole _ _ w =>
      obtain ⟨_, w2, w3, _⟩ := w
      rw [wire_m hv ht hm] at w2
      rw [wire_38 hv ht] at w3
      have := congrArg List.length w3
      simp only [List.length_take] at this
      omega
end
end Mine
end
open PySem PySem.W PyProof.Rows
namespace Mine
local macro_rules | `(tactic| walk_at $s:str) => `(tactic| k_extra $(Lean.Syntax.mkStrLit ("X " ++ s.getString)))
local macro_rules | `(tactic| k_room) => `(tactic| ktr_room)
local macro_rules | `(tactic| k_lt $h:ident) => `(tactic| ((replace $h := allLt_of $h); (simp only [AllLt, and_true] at $h:ident); (repeat ((have _ := And.left $h); (replace $h := And.right $h)))))
local macro_rules | `(tactic| k_units) => `(tactic| ktr_units)
local macro_rules | `(tactic| ke_room) => `(tactic| ktr_units)
local macro_rules | `(tactic| k_lt $h:ident) => `(tactic| (replace $h := Keep9.mk $h))
local macro_rules | `(tactic| k_lt $h:ident) => `(tactic| ((replace $h := Keep9.mk $h); (try k_extra "X M letCons")))
theorem kw_1 : True := by
  k_with "X M fill" => (((have hX : (fun w : World => wr.heap_1 w.params) = (fun w : World => wr.heap_1 w.params) ∧ PySem.Challenge.rw_pb0549_01 = PySem.Challenge.rw_pb0549_01 := ⟨rfl, rfl⟩); revert hX; k_fill; intro hX; clear hX))
  k_with "X M enter" => ((refine' ctr_mk ?k6_q2 ?k7_q2 ?k9_q2 ?kB_q2 ?c2_q2 ?c3_q2 ?c4_q2 ?c5_q2 ?_; (case k6_q2 => k_is); (case k7_q2 => k_is); (case k9_q2 => exact fun _ => BindsTo.of_eq rfl); (case kB_q2 => exact locs rfl); (case c2_q2 => exact rfl); (case c3_q2 => exact rfl); (case c4_q2 => exact rfl); (case c5_q2 => decide); intro dp un gd cn snm sig sic smo a ccd cl outer base L s g' L' h' tk' F' N' B' X' T' lt' hdp hun; (try dsimp only); (try k_lt lt'); (try k_fold)))
  k_with "X M enterC" => ((refine' ctr_mkC ?k6_q3 ?k7_q3 ?k9_q3 ?kB_q3 ?kD_q3 ?c2_q3 ?c3_q3 ?c4_q3 ?_; (case k6_q3 => k_is); (case k7_q3 => k_is); (case k9_q3 => exact fun _ => BindsTo.of_eq rfl); (case kB_q3 => exact rfl); (case kD_q3 => decide +kernel); (case c2_q3 => exact rfl); (case c3_q3 => exact rfl); (case c4_q3 => exact rfl); intro dp un gd cn snm sig sic smo a ccd cl outer base L s g' L' h' tk' cells' F' N' Y' B' X' T' lt' hdp hun; (try k_lt lt'); k_cells Y'; (try simp only [List.cons_append, List.nil_append] at N'); (try dsimp only); (try k_fold)))
  k_with "X M del" => (first | exact Del.head | (refine' Del.tail ?dt9_q4; (case dt9_q4 => k_extra "X M del")))
  k_with "X M pick" => (first | exact Pick.nil | (refine' Pick.cons ?pd9_q5 ?pr9_q5; (case pd9_q5 => k_extra "X M del"); (case pr9_q5 => k_extra "X M pick")))
  k_with "X M ne" => ((refine neN ?_; (try dsimp only); first | with_reducible assumption | exact Ne.symm (by with_reducible assumption) | exact Nat.ne_of_lt (by with_reducible assumption) | exact Nat.ne_of_gt (by with_reducible assumption) | omega))
  k_with "X M sep" => (repeat' (first | with_reducible exact True.intro | with_reducible exact List.forall_mem_nil _ | with_reducible refine And.intro ?_ ?_ | with_reducible refine List.forall_mem_cons.mpr ⟨?_, ?_⟩ | ((with_reducible show Sep _ _); refine And.intro ?_ ?_) | ((with_reducible show Apart (_ :: _)); refine And.intro ?_ ?_) | ((with_reducible show Sep [] _); exact True.intro) | ((with_reducible show Apart []); exact True.intro) | k_extra "X M ne"))
  k_with "X M back" => (((try dsimp only); repeat (first | (with_reducible refine Bk.ex ?_; intro x9) | with_reducible refine Bk.and ?_ | with_reducible refine Bk.or ?_ ?_ | with_reducible refine Bk.ap_cons ?_ | with_reducible refine Bk.ap_nil ?_ | (with_reducible refine Bk.na_cons ?_; intro e9) | with_reducible refine Bk.na_nil ?_ | with_reducible refine Bk.sep_cons ?_ | with_reducible refine Bk.sep_nil ?_ | (with_reducible refine Bk.ne_cons ?_; intro e9) | with_reducible refine Bk.ne_nil ?_ | (with_reducible refine Bk.fact ?_; intro e9; first | subst e9 | skip))))
  k_with "X M room" => (((try simp only [depth_under_make, depth_under_kw, depth_in1, depth_deeper, depth_caller] at *); (try dsimp only [ktrTop] at *); omega))
  k_with "X M end" => (((try dsimp only); refine' End.intro ?F_q10 ?N_q10 ?_; (case F_q10 => k_asm); (case N_q10 => k_asm)))
  k_with "X M post" => (repeat' (first | exact rfl | refine' Exists.intro _ ?_ | refine' And.intro ?_ ?_))
  k_with "X M fin" => (((try dsimp only); refine' End.sub ?F_q12 ?N_q12 ?P_q12 ?S_q12; (case F_q12 => k_asm); (case N_q12 => k_asm); (case' P_q12 => ((try dsimp only); k_extra "X M post")); (case S_q12 => k_extra "X M pick"); all_goals (first | done | with_reducible assumption | with_reducible exact List.forall_mem_nil _ | ((with_reducible refine List.forall_mem_cons.mpr ⟨?_, ?_⟩); k_extra "X M sep"; done) | ((with_reducible show Apart []); exact True.intro) | ((with_reducible show Apart (_ :: _)); k_extra "X M sep"; done) | with_reducible exact fun _ => rfl | with_reducible exact Nat.zero_le _ | ((with_reducible show Array.size _ ≤ _); simp only [byteArr_size]; omega) | omega | skip)))
  k_with "X M finA" => (((try dsimp only); refine' End.sub ?F_q13 ?N_q13 (Or.inl ?P_q13) ?S_q13; (case F_q13 => k_asm); (case N_q13 => k_asm); (case' P_q13 => ((try dsimp only); k_extra "X M post")); (case S_q13 => k_extra "X M pick"); all_goals (first | done | with_reducible assumption | with_reducible exact List.forall_mem_nil _ | ((with_reducible refine List.forall_mem_cons.mpr ⟨?_, ?_⟩); k_extra "X M sep"; done) | ((with_reducible show Apart []); exact True.intro) | ((with_reducible show Apart (_ :: _)); k_extra "X M sep"; done) | with_reducible exact fun _ => rfl | with_reducible exact Nat.zero_le _ | ((with_reducible show Array.size _ ≤ _); simp only [byteArr_size]; omega) | omega | skip)))
  k_with "X M finB" => (((try dsimp only); refine' End.sub ?F_q14 ?N_q14 (Or.inr (Or.inl ?P_q14)) ?S_q14; (case F_q14 => k_asm); (case N_q14 => k_asm); (case' P_q14 => ((try dsimp only); k_extra "X M post")); (case S_q14 => k_extra "X M pick"); all_goals (first | done | with_reducible assumption | with_reducible exact List.forall_mem_nil _ | ((with_reducible refine List.forall_mem_cons.mpr ⟨?_, ?_⟩); k_extra "X M sep"; done) | ((with_reducible show Apart []); exact True.intro) | ((with_reducible show Apart (_ :: _)); k_extra "X M sep"; done) | with_reducible exact fun _ => rfl | with_reducible exact Nat.zero_le _ | ((with_reducible show Array.size _ ≤ _); simp only [byteArr_size]; omega) | omega | skip)))
  k_with "X M finC" => (((try dsimp only); refine' End.sub ?F_q15 ?N_q15 (Or.inr (Or.inr ?P_q15)) ?S_q15; (case F_q15 => k_asm); (case N_q15 => k_asm); (case' P_q15 => ((try dsimp only); k_extra "X M post")); (case S_q15 => k_extra "X M pick"); all_goals (first | done | with_reducible assumption | with_reducible exact List.forall_mem_nil _ | ((with_reducible refine List.forall_mem_cons.mpr ⟨?_, ?_⟩); k_extra "X M sep"; done) | ((with_reducible show Apart []); exact True.intro) | ((with_reducible show Apart (_ :: _)); k_extra "X M sep"; done) | with_reducible exact fun _ => rfl | with_reducible exact Nat.zero_le _ | ((with_reducible show Array.size _ ≤ _); simp only [byteArr_size]; omega) | omega | skip)))
  k_with "X setItem ref int" => (((fail_if_success (fail_if_success (with_reducible show wpAny _ _ (setItem (Value.ref _) (Value.int 0 _) _) _ _ _))); k_here; k_dflt (refine' set2_0 ?k1_q16 ?k2_q16 ?k3_q16 ?_; (case k1_q16 => k_asm); (case k2_q16 => k_asm); (case k3_q16 => k_upd); k_whole); intro h' F' N'; (try dsimp only at N'); (try dsimp only); (try k_sweep)))
  k_with "X setItem ref int" => (((fail_if_success (fail_if_success (with_reducible show wpAny _ _ (setItem (Value.ref _) (Value.int 1 _) _) _ _ _))); k_here; k_dflt (refine' set2_1g ?b1_q17 ?b2_q17 ?k1_q17 ?k2_q17 ?k3_q17 ?_; (case k1_q17 => k_asm); (case k2_q17 => k_asm); (case k3_q17 => intro c; k_upd); (case b1_q17 => exact fm_lo (by decide)); (case b2_q17 => exact fm_hi (by decide)); k_whole); intro c' h' hc1' hc2' F' N'; (try dsimp only at N'); (try dsimp only); (try k_sweep)))
  k_with "X subscriptTail Name Constant ref int" => (((fail_if_success (fail_if_success (with_reducible show wpAny _ _ (subscriptTail _ _ (Value.ref _) (Value.int _ _)) _ _ _))); k_here; k_dflt (refine' kim_list ?N_q18 ?hm_q18 ?hc_q18 ?hd_q18 ?h0_q18 ?hf_q18 ?hx_q18 ?_; (case N_q18 => k_asm); (case hm_q18 => k_mem); (case hc_q18 => rfl); (case hd_q18 => rfl); (case h0_q18 => decide); (case hf_q18 => decide); (case hx_q18 => rfl); k_whole)))
  k_with "X M side" => (first | with_reducible assumption | ((with_reducible show List.length _ ≤ _); simp only [List.length_take, List.length_drop]; omega) | omega | exact Nat.le_of_ble_eq_true rfl | exact rfl | trivial)
  k_with "X CompSrc Compare" => ((k_here; k_dflt (refine' cs_src (fun i ys => ∃ bs : List Bool, BoolsAre ys bs ∧ bs.length = i) ?hh_q20 ?F_q20 ?N_q20 ?S_q20 ?hr_q20 ?he_q20 ?he'_q20 ?h1_q20 ?hY_q20 ?turn_q20 ?fin_q20; (case hh_q20 => exact rfl); (case F_q20 => k_asm); (case N_q20 => k_asm); (case h1_q20 => with_reducible assumption); (case S_q20 => k_extra "X M pick"); (case hr_q20 => with_reducible assumption); (case he_q20 => first | decide | omega); (case he'_q20 => first | decide | omega); (case hY_q20 => exact ⟨[], rfl, rfl⟩); (case turn_q20 => (intro i ys o9 v I oI C oC D m₂ h tk E' hi hY h1 hP hC hx F N off ne; (obtain ⟨t9', hv9'⟩ := hP); subst hv9'; (replace off := Keep9.mk off); (obtain ⟨_, _, _⟩ := ne); k_steps; (try dsimp only); refine' TurnEnd.intro ?F_q20 ?N_q20 ?S_q20 ?h1_q20 ?hY_q20; (case F_q20 => k_asm); (case N_q20 => k_asm); (case S_q20 => (try simp only [List.cons_append, List.nil_append]); k_extra "X M pick"); (case h1_q20 => with_reducible assumption);  (case hY_q20 => (obtain ⟨bs, hb1, hb2⟩ := hY; exact ⟨bs ++ [_], bools_snoc hb1, by simp [hb2]⟩))))); intro g ys o9 hY h1; (obtain ⟨b0, b1, b2, b3, b4, b5, hys⟩ := bools6 hY); subst hys))
  k_with "X CompSrc Call" => ((k_here; k_dflt (refine' cs_src (fun i ys => ∃ ks : List Int, OctsAre ys ks ∧ ks.length = i) ?hh_q21 ?F_q21 ?N_q21 ?S_q21 ?hr_q21 ?he_q21 ?he'_q21 ?h1_q21 ?hY_q21 ?turn_q21 ?fin_q21; (case hh_q21 => exact rfl); (case F_q21 => k_asm); (case N_q21 => k_asm); (case h1_q21 => with_reducible assumption); (case S_q21 => k_extra "X M pick"); (case hr_q21 => with_reducible assumption); (case he_q21 => first | decide | omega); (case he'_q21 => first | decide | omega); (case hY_q21 => exact ⟨[], ⟨.nil, by simp⟩, rfl⟩); (case turn_q21 => (intro i ys o9 v I oI C oC D m₂ h tk E' hi hY h1 hP hC hx F N off ne; (obtain ⟨t9', hv9'⟩ := hP); subst hv9'; (replace off := Keep9.mk off); (obtain ⟨_, _, _⟩ := ne); k_steps; (try dsimp only); refine' TurnEnd.intro ?F_q21 ?N_q21 ?S_q21 ?h1_q21 ?hY_q21; (case F_q21 => k_asm); (case N_q21 => k_asm); (case S_q21 => (try simp only [List.cons_append, List.nil_append]); k_extra "X M pick"); (case h1_q21 => with_reducible assumption);  (case hY_q21 => (obtain ⟨bs, hb1, hb2⟩ := hY; exact ⟨bs ++ [_], octs_snoc hb1 (by with_reducible assumption) (by with_reducible assumption), by simp [hb2]⟩))))); intro g ys o9 hY h1; (obtain ⟨ks, hks, hkl⟩ := hY)))
  k_with "X call type:bytes" => (((fail_if_success (fail_if_success (with_reducible show wpAny _ _ (PySem.call (Value.type "bytes") [Value.ref _]) _ _ _))); k_here; k_dflt (refine' KBa.make_K ?F_q22 ?N_q22 ?h_q22 ?l_q22 ?i_q22 ?r_q22 ?n_q22 ?_; (case F_q22 => k_asm); (case N_q22 => k_asm); (case h_q22 => exact rfl); (case l_q22 => exact News.isList (by k_asm) (by k_mem)); (case i_q22 => exact OctsAre.ints (by with_reducible assumption)); (case r_q22 => exact OctsAre.inB (by with_reducible assumption)); (case n_q22 => exact OctsAre.short (by with_reducible assumption) (by with_reducible assumption) (by omega))); intro h9 t9 k9 F9 N9 e9; (try k_sweep); (try dsimp only); (try k_fold)))
  k_with "X FinE" => (((unfold LCg.FinE); intro D' h' tk' F' N' o1'; (try simp only [LCg.Off1, and_true] at o1'); (repeat ((have _ := And.left o1'); (replace o1' := And.right o1'))); (try simp only [List.nil_append, List.cons_append] at N'); (try dsimp only)))
  k_with "X FinA" => (((unfold LCg.FinA); intro D' h' tk' F' N' o1'; (try simp only [LCg.Off1, and_true] at o1'); (repeat ((have _ := And.left o1'); (replace o1' := And.right o1'))); (try simp only [List.nil_append, List.cons_append] at N'); (try dsimp only)))
  k_with "X subscriptTail" => (((fail_if_success (fail_if_success (with_reducible show wpAny _ _ (subscriptTail _ (Expr.Slice _ _ none _) (Value.bytes _ _) (Value.ref _)) _ _ _))); k_here; (with_reducible rename Fr _ _ _ _ => F'); (with_reducible rename News _ _ _ _ => N'); (refine KBc.slice_K (s := ⟨_, _, _, _, _⟩) F' N' (by kba_ints) (by constructor) (by constructor) (by kba_size) ?_); intro _ _ _ _ _ kbcK; (try simp only [Option.elim, clipA0, clipA2, clipA4, clipA6, clip0, clip1, clip2, clip3, clip4, clip5, clip6, clip8, clip12, clip20, clip22, clip25, clip27, clip28, clip29, clip34, clip35, clip36, clip38, clipB2, clipT, clipAt_nat, sl_mid, sl_to, sl_from, List.drop_zero, Nat.sub_zero, Nat.reduceSub] at kbcK)))
  k_with "X binaryOp Add bytes bytes" => (((fail_if_success (fail_if_success (with_reducible show wpAny _ _ (binaryOp Operator.Add (Value.bytes _ _) (Value.bytes _ _)) _ _ _))); k_here; (refine KBa.add_K (by first | exact bInts_nil | kba_ints) (by first | exact bInts_nil | kba_ints) (by simp only [List.length_append, octsTo_length, vecO_length, vecG_length, timO_length, List.length_cons, List.length_nil]; omega) ?_); intro _ _ kbaApp; (try simp only [List.nil_append] at kbaApp)))
  k_with "X exec For Name Call cons nil" => (((fail_if_success (fail_if_success (with_reducible show wpAny _ _ (exec (Stmt.For (Expr.Name "worth" _) _ _ _ _) _) _ _ _))); k_here; (rename Fr _ _ _ _ => lF'); (with_unfolding_all refine' For_turns lF' ?_; k_whole)))
  k_with "X getMethod ref" => (((fail_if_success (fail_if_success (with_reducible show wpAny _ _ (getMethod (Value.ref 67) _ _) _ _ _))); k_here; (with_reducible rename Fr _ _ _ _ => F9); (with_reducible rename Frag.In _ _ => X9); k_dflt (refine' getMethod_tuple ?tho_q28 ?thc_q28 ?thd_q28 ?_; (case tho_q28 => exact (X9.keeps F9.keep) _ _ (by k_is)); (case thc_q28 => exact rfl); (case thd_q28 => exact rfl))))
  k_with "X call builtin:tuple.index" => (((fail_if_success (fail_if_success (with_reducible show wpAny _ _ (PySem.call (Value.builtin "tuple.index") [Value.ref 67, Value.str (roleN _) _]) _ _ _))); k_here; (with_reducible rename Fr _ _ _ _ => F9); (with_reducible rename Frag.In _ _ => X9); k_dflt (refine' tuple_index_role ?tho_q29 ?thc_q29 ?thd_q29 ?thr_q29 ?_; (case tho_q29 => exact (X9.keeps F9.keep) _ _ (by k_is)); (case thc_q29 => exact rfl); (case thd_q29 => exact rfl); (case thr_q29 => assumption))))
  k_with "X call builtin:list.index" => (((fail_if_success (fail_if_success (with_reducible show wpAny _ _ (PySem.call (Value.builtin "list.index") ([Value.ref _] ++ [Value.str "none" _])) _ _ _))); k_here; k_dflt (refine' list_index_role (r := 0) ?tN_q30 ?tm_q30 ?thr_q30 ?_; (case tN_q30 => k_asm); (case tm_q30 => k_mem); (case thr_q30 => decide))))
  k_with "X call builtin:list.index" => (((fail_if_success (fail_if_success (with_reducible show wpAny _ _ (PySem.call (Value.builtin "list.index") ([Value.ref _] ++ [Value.str (roleN _) _])) _ _ _))); k_here; k_dflt (refine' list_index_role ?tN_q31 ?tm_q31 ?thr_q31 ?_; (case tN_q31 => k_asm); (case tm_q31 => k_mem); (case thr_q31 => with_reducible assumption))))
  k_with "X call type:bytes" => (((fail_if_success (fail_if_success (with_reducible show wpAny _ _ (PySem.call (Value.type "bytes") [Value.ref _]) _ _ _))); k_here; k_dflt (refine' bytes1 ?bF_q32 ?bN_q32 ?bh_q32 ?bm_q32 ?b0_q32 ?b1_q32 ?_; (case bF_q32 => k_asm); (case bN_q32 => k_asm); (case bh_q32 => exact rfl); (case bm_q32 => k_mem); (case b0_q32 => k_extra "X M oct"); (case b1_q32 => k_extra "X M oct")); intro h9 t9 k9 F9 N9 e9; (try k_sweep); (try dsimp only); (try k_fold)))
  k_with "X call type:bytes" => (((fail_if_success (fail_if_success (with_reducible show wpAny _ _ (PySem.call (Value.type "bytes") [Value.ref _]) _ _ _))); k_here; k_dflt (refine' bytes2 ?bF_q33 ?bN_q33 ?bh_q33 ?bm_q33 ?b0_q33 ?b1_q33 ?b2_q33 ?b3_q33 ?_; (case bF_q33 => k_asm); (case bN_q33 => k_asm); (case bh_q33 => exact rfl); (case bm_q33 => k_mem); (case b0_q33 => k_extra "X M oct"); (case b1_q33 => k_extra "X M oct"); (case b2_q33 => k_extra "X M oct"); (case b3_q33 => k_extra "X M oct")); intro h9 t9 k9 F9 N9 e9; (try k_sweep); (try dsimp only); (try k_fold)))
  k_with "X M oct" => (first | with_reducible assumption | with_reducible exact (flN_bd _ _ _ _ _ _ (by first | with_reducible assumption | decide)).1 | with_reducible exact (flN_bd _ _ _ _ _ _ (by first | with_reducible assumption | decide)).2 | with_reducible exact fm256_lo | with_reducible exact fm256_hi | with_reducible exact pw_lo (by with_reducible assumption) (by with_reducible assumption) | with_reducible exact pw_hi (by with_reducible assumption) (by with_reducible assumption) | with_reducible exact (flW_bd (by with_reducible assumption) (by first | with_reducible assumption | decide)).1 | with_reducible exact (flW_bd (by with_reducible assumption) (by first | with_reducible assumption | decide)).2 | with_reducible exact (flC_bd _ _).1 | with_reducible exact (flC_bd _ _).2 | with_reducible exact (flR_bd _ _ _ _ _ _ (by with_reducible assumption)).1 | with_reducible exact (flR_bd _ _ _ _ _ _ (by with_reducible assumption)).2 | omega)
  k_with "X call type:bytes" => (((fail_if_success (fail_if_success (with_reducible show wpAny _ _ (PySem.call (Value.type "bytes") [Value.int 1 _]) _ _ _))); k_here; k_dflt (refine bytes_one ?_); intro _ _ kbaOne))
  k_with "X eval ListComp" => (((fail_if_success (fail_if_success (with_reducible show wpAny _ _ (eval (Expr.ListComp _ [⟨Expr.Name "place" _, _, [], 0⟩] _ _) _) _ _ _))); k_here; k_dflt (refine ListComp_W (F₀ := by k_asm) (by with_unfolding_all rfl) (by decide) (by rfl) (by decide) (by rfl) ?_)))
  k_with "X binaryOp FloorDiv int int" => (((fail_if_success (fail_if_success (with_reducible show wpAny _ _ (binaryOp Operator.FloorDiv (Value.int _ _) (Value.int (256 ^ _) _)) _ _ _))); k_here; k_dflt (refine floordiv_int (pow256_ne _) ?_ (Or.inl (PyProof.noPylong_of_log2 (pow256_log (by omega)))))))
  k_with "X M octs" => (first | with_reducible assumption | exact OctsAre.nil | (refine' OctsAre.cons ?oc1_q38 ?oc2_q38 ?oc3_q38; (case oc1_q38 => k_extra "X M oct"); (case oc2_q38 => k_extra "X M oct"); (case oc3_q38 => k_extra "X M octs")))
  k_with "X M len" => (first | with_reducible exact lenB_octs | with_reducible exact lenB_nil | ((with_reducible apply lenB_cons) <;> k_extra "X M len") | ((with_reducible apply lenB_app) <;> k_extra "X M len") | ((with_reducible apply lenB_take) <;> k_extra "X M len") | ((with_reducible apply lenB_drop) <;> k_extra "X M len") | with_reducible assumption)
  k_with "X M lensz" => (first | ((with_reducible show List.length _ + List.length _ ≤ _); (with_reducible apply lenB_two) <;> first | decide | k_extra "X M len") | ((with_reducible show List.length _ ≤ _); (with_reducible apply lenB_one) <;> first | decide | k_extra "X M len"))
  k_with "X M hu" => (((try dsimp only [ktrTop]); first | exact rmK (by with_reducible assumption) 3 (by decide) | exact rmK (by with_reducible assumption) 4 (by decide) | exact rmK (by with_reducible assumption) 6 (by decide) | exact rmK (by with_reducible assumption) 5 (by decide) | exact rmK (by with_reducible assumption) 8 (by decide) | exact rmK (by with_reducible assumption) 10 (by decide) | exact rmK (by with_reducible assumption) 12 (by decide) | exact rmK (by with_reducible assumption) 7 (by decide) | exact rmK (by with_reducible assumption) 9 (by decide) | exact rmK (by with_reducible assumption) 18 (by decide) | exact rmK (by with_reducible assumption) 13 (by decide) | exact rmK (by with_reducible assumption) 24 (by decide)))
  k_with "X M osz" => (first | k_extra "X M lensz" | (simp only [List.length_append, octsTo_length, vecO_length, timO_length, List.length_cons, List.length_nil, List.length_take, List.length_drop]; omega))
  k_with "X binaryOp Add ref ref" => (((fail_if_success (fail_if_success (with_reducible show wpAny _ _ (binaryOp Operator.Add (Value.ref _) (Value.ref _)) _ _ _))); k_here; k_dflt (refine' add_octs ?oF_q43 ?oN_q43 ?oa_q43 ?ob_q43 ?ox_q43 ?oy_q43 ?oz_q43 ?_; (case oF_q43 => k_asm); (case oN_q43 => k_asm); (case oa_q43 => k_extra "X M del"); (case ob_q43 => k_extra "X M del"); (case ox_q43 => k_extra "X M octs"); (case oy_q43 => k_extra "X M octs"); (case oz_q43 => k_extra "X M osz")); intro D' zs' h' F' N' l1' o9'; (try k_lt l1'); (try k_sweep); (try dsimp only); (try k_fold)))
  k_with "X eval ListComp" => (((fail_if_success (fail_if_success (with_reducible show wpAny _ _ (eval (Expr.ListComp _ [⟨Expr.Name "at" _, _, [], 0⟩] _ _) _) _ _ _))); k_here; k_dflt (refine ListComp_W (F₀ := by k_asm) (by with_unfolding_all rfl) (by decide) (by rfl) (by decide) (by rfl) ?_)))
  k_with "X callWith ref" => (((fail_if_success (fail_if_success (with_reducible show wpAny _ _ (callWith _ (Value.ref _) _ (backTo _ (starEach [] _)) []) _ _ _))); k_here; (with_reducible rename Fr _ _ _ _ => F9); (with_reducible rename Frag.In _ _ => X9); k_dflt (refine' callWith_K0 ?k1_q45 ?k2_q45 ?_; (case k1_q45 => exact Frag.In.keeps X9 (Fr.keep F9)); (case k2_q45 => k_is); k_whole)))
  k_with "X call builtin:Exception.__init__" => (((fail_if_success (fail_if_success (with_reducible show wpAny _ _ (PySem.call (Value.builtin "Exception.__init__") [Value.ref _, _]) _ _ _))); k_here; k_dflt (refine' exc_initK ?eF_q46 ?eX_q46 ?eN_q46 ?eH_q46 ?eC_q46 ?_; (case eF_q46 => k_asm); (case eX_q46 => k_asm); (case eN_q46 => k_asm); (case eH_q46 => k_asm); (case eC_q46 => k_is)); intro t1 h1 tk1 F1 N1; (try dsimp only)))
  k_with "X setAttr ref" => (((fail_if_success (fail_if_success (with_reducible show wpAny _ _ (setAttr (Value.ref _) "message" _) _ _ _))); k_here; k_dflt (refine' exc_set ?eF_q47 ?eX_q47 ?eN_q47 ?eH_q47 ?eC_q47 ?es_q47 ?en_q47 ?_; (case eF_q47 => k_asm); (case eX_q47 => k_asm); (case eN_q47 => k_asm); (case eH_q47 => k_asm); (case eC_q47 => k_is); (case es_q47 => k_is); (case en_q47 => k_is)); intro d1 h1 tk1 F1 N1; (try dsimp only)))
  k_with "X exec Raise some none" => (((fail_if_success (fail_if_success (with_reducible show wpAny _ _ (exec (Stmt.Raise (some (Expr.Call (Expr.Name "FormError" _) _ _ _)) none _) _) _ _ _))); k_here; k_dflt (refine' raise_K (C := 51) ?eX_q48 ?eC_q48 ?eh_q48 ?_; (case eX_q48 => k_asm); (case eC_q48 => k_is); (case eh_q48 => exact rfl))))
  k_with "X exec Raise some none" => (((fail_if_success (fail_if_success (with_reducible show wpAny _ _ (exec (Stmt.Raise (some (Expr.Call (Expr.Name "SizeError" _) _ _ _)) none _) _) _ _ _))); k_here; k_dflt (refine' raise_K (C := 63) ?eX_q49 ?eC_q49 ?eh_q49 ?_; (case eX_q49 => k_asm); (case eC_q49 => k_is); (case eh_q49 => exact rfl))))
  k_with "X RaiseEnd" => ((k_dflt (refine' RaiseEnd.intro ?eF_q50 ?eN_q50 ?em_q50 ?_; (case eF_q50 => k_asm); (case eN_q50 => k_asm); (case em_q50 => exact List.Mem.head _)); (try dsimp only); k_extra "X M raise"))
  k_with "X leaving ref" => ((k_here; first | (k_dflt (refine' leave_first ?eK_q51 ?eF_q51 ?eN_q51 ?em_q51 ?ec_q51 ?ed_q51 ?ef_q51 ?ek_q51 ?_; (case eK_q51 => with_reducible assumption); (case eF_q51 => k_asm); (case eN_q51 => k_asm); (case em_q51 => exact List.Mem.head _); (case ec_q51 => exact rfl); (case ed_q51 => exact rfl); (case ef_q51 => exact rfl); (case ek_q51 => exact rfl)); intro h1 R1 U1; exact EndE.intro R1 U1) | (k_dflt ((with_reducible rename RaisedSN _ _ _ _ _ _ _ => rS9); refine' leave_next ?eK_q51 ?eF_q51 ?eR_q51 ?eU_q51 ?ef_q51 ?_; (case eR_q51 => exact rS9); (case eU_q51 => assumption); (case eF_q51 => with_reducible assumption); (case eK_q51 => with_reducible assumption); (case ef_q51 => exact rfl)); intro h1 R1 U1; exact EndE.intro R1 U1)))
  k_with "X getMethod type:Exception" => ((k_here; refine' method_type ?F_q52 ?X_q52 ?m_q52 (by decide +kernel) ?e_q52 ?h_q52 ?_; (case F_q52 => k_asm); (case X_q52 => k_asm); (case m_q52 => exact meta_Exc); (case e_q52 => k_dflt k_is); (case h_q52 => k_handed)))
  k_with "X exec For Name Name" => (((fail_if_success (fail_if_success (with_reducible show wpAny _ _ (exec (Stmt.For (Expr.Name "kind" _) _ _ _ _) _) _ _ _))); k_here; (rename Fr _ _ _ _ => lF'); (with_unfolding_all refine' For_turns lF' ?_; k_whole)))
  k_with "X pyIter ref" => (((fail_if_success (fail_if_success (with_reducible show wpAny _ _ (pyIter (Value.ref 66)) _ _ _))); k_here; (with_unfolding_all refine' iter_kinds ?h_q54 ?F_q54 ?N_q54 ?X_q54 ?k_q54 ?d_q54 ?l_q54 ?_; (case h_q54 => with_unfolding_all rfl); (case F_q54 => k_asm); (case N_q54 => k_asm); (case X_q54 => k_asm); (case k_q54 => k_is); (case d_q54 => exact kinds_dict (by decide) (by decide) (by decide)); (case l_q54 => decide); k_whole); intro i' l1; (try k_lt l1)))
  k_with "X M eqv" => (first | with_reducible exact PySem.SeqAt.EqAt.same _ | with_reducible exact eqAt_int _ _ _ | with_reducible exact eqAt_str _ _ _ | with_reducible exact eqAt_bytes _ _ _ | (refine' eqAt_tup ?qN_q55 ?qa_q55 ?qb_q55 ?qu_q55 ?qh_q55; (case qN_q55 => k_asm); (case qa_q55 => k_mem); (case qb_q55 => k_mem); (case qu_q55 => ((simp only [units_in1]); ktr_units)); (case qh_q55 => k_extra "X M eqvs")))
  k_with "X M eqvs" => (first | exact AllEq.nil | (refine' AllEq.cons ?qe_q56 ?qr_q56; (case qe_q56 => k_extra "X M eqv"); (case qr_q56 => k_extra "X M eqvs")))
  k_with "X compareOp Eq ref ref" => (((fail_if_success (fail_if_success (with_reducible show wpAny _ _ (compareOp CmpOp.Eq (Value.ref _) (Value.ref _)) _ _ _))); k_here; k_dflt (refine' eq_tups ?qN_q57 ?qa_q57 ?qb_q57 ?qu_q57 ?qh_q57 ?_; (case qN_q57 => k_asm); (case qa_q57 => k_mem); (case qb_q57 => k_mem); (case qu_q57 => ktr_units); (case qh_q57 => k_extra "X M eqvs"))))
  k_with "X compareOp NotEq ref ref" => (((fail_if_success (fail_if_success (with_reducible show wpAny _ _ (compareOp CmpOp.NotEq (Value.ref _) (Value.ref _)) _ _ _))); k_here; k_dflt (refine' ne_tups ?qN_q58 ?qa_q58 ?qb_q58 ?qu_q58 ?qh_q58 ?_; (case qN_q58 => k_asm); (case qa_q58 => k_mem); (case qb_q58 => k_mem); (case qu_q58 => ktr_units); (case qh_q58 => k_extra "X M eqvs"))))
  k_with "X M hide" => (iterate 48 (try ((with_reducible rename @Ne Nat _ _ => hd9); (have hk9 := Keep9.mk hd9); clear hd9)))
  k_with "X M show" => (iterate 48 (try ((with_reducible rename Keep9 _ => hd9); (have hk9 := Keep9.out hd9); clear hd9)))
  k_with "X call builtin:min" => (((fail_if_success (fail_if_success (with_reducible show wpAny _ _ (PySem.call (Value.builtin "min") [Value.int _ _, Value.int _ _]) _ _ _))); k_here; k_dflt (refine' min_ii ?hh_q61 ?F_q61 ?N_q61 ?_; (case hh_q61 => exact rfl); (case F_q61 => k_asm); (case N_q61 => k_asm)); intro h9 tk9 tr9 F9 N9; (try k_sweep); (try dsimp only)))
  k_with "X subscriptTail" => (((fail_if_success (fail_if_success (with_reducible show wpAny _ _ (subscriptTail _ (Expr.Constant _ _ _) (Value.bytes _ _) (Value.int _ _)) _ _ _))); k_here; (refine oct_at (by with_reducible assumption) (by with_reducible assumption) (by with_reducible assumption) (by decide) (by decide) ?_); intro _ _ kbaLo kbaHi; (try dsimp only)))
  k_with "X subscriptTail" => (((fail_if_success (fail_if_success (with_reducible show wpAny _ _ (subscriptTail _ _ (Value.ref 67) (Value.int _ _)) _ _ _))); k_here; (with_reducible rename Fr _ _ _ _ => F9); (with_reducible rename Frag.In _ _ => X9); k_dflt (refine' role_at ?tho_q63 ?thc_q63 ?thd_q63 ?thx_q63 ?thr_q63 ?_ ?ths_q63 ?thg_q63; (case ths_q63 => exact fun _ _ => subscripted_binop); (case thg_q63 => (intro _; with_unfolding_all rfl)); (case tho_q63 => exact (X9.keeps F9.keep) _ _ (by k_is)); (case thc_q63 => exact rfl); (case thd_q63 => exact rfl); (case thx_q63 => exact Keep9.out (by with_reducible assumption)); (case thr_q63 => with_reducible assumption)); intro tr9; (try dsimp only)))
  k_with "X call type:list" => (((fail_if_success (fail_if_success (with_reducible show wpAny _ _ (PySem.call (Value.type "list") [Value.bytes _ _]) _ _ _))); k_here; k_dflt (refine' list_bytes ?hh_q64 ?F_q64 ?N_q64 ?hk_q64 ?hn_q64 ?_; (case hh_q64 => exact rfl); (case F_q64 => k_asm); (case N_q64 => k_asm); (case hk_q64 => with_reducible assumption); (case hn_q64 => first | exact Nat.le_trans (by with_reducible assumption) (by decide) | k_extra "X M osz")); intro l9 vals9 n9 h9 tk9 F9 N9 lt9 ok9; (try k_lt lt9); (try k_sweep); (try dsimp only); (try k_fold)))
  k_with "X M mem" => (first | with_reducible exact List.mem_cons_self | (with_reducible refine List.mem_cons_of_mem _ ?_; k_extra "X M mem") | (with_reducible refine List.mem_append_right _ ?_; k_extra "X M mem"))
  k_with "X M amem" => (first | with_reducible exact List.mem_cons_self | (with_reducible refine List.mem_cons_of_mem _ ?_; k_extra "X M amem"))
  k_with "X M bef" => (first | (with_reducible refine Bef.here ?_; k_extra "X M amem") | (with_reducible refine Bef.next ?_; k_extra "X M bef"))
  k_with "X M nesep" => (first | (refine' sepK (by with_reducible assumption) ?ma9_q68 ?mb9_q68; (case ma9_q68 => k_extra "X M mem"); (case mb9_q68 => k_extra "X M mem")) | (refine' sepK' (by with_reducible assumption) ?ma9_q68 ?mb9_q68; (case ma9_q68 => k_extra "X M mem"); (case mb9_q68 => k_extra "X M mem")) | (((with_reducible rename Keep9 (Sep _ _) => zz9); clear zz9); k_extra "X M nesep"))
  k_with "X M neap" => (first | (refine' apK (by with_reducible assumption) ?ma9_q69; (case ma9_q69 => k_extra "X M bef")) | (refine' apK' (by with_reducible assumption) ?ma9_q69; (case ma9_q69 => k_extra "X M bef")) | (((with_reducible rename Keep9 (Apart _) => zz9); clear zz9); k_extra "X M neap"))
  k_with "X M ne" => ((refine neN ?_; (try dsimp only); first | with_reducible assumption | exact Ne.symm (by with_reducible assumption) | exact Keep9.out (by with_reducible assumption) | exact Ne.symm (Keep9.out (by with_reducible assumption)) | (refine' gtK (by with_reducible assumption) ?ma9_q70; (case ma9_q70 => k_extra "X M mem")) | (refine' ltK (by with_reducible assumption) ?ma9_q70; (case ma9_q70 => k_extra "X M mem")) | k_extra "X M neap" | k_extra "X M nesep" | (refine' offK (by with_reducible assumption) ?ma9_q70; (case ma9_q70 => k_extra "X M mem")) | (refine' offK' (by with_reducible assumption) ?ma9_q70; (case ma9_q70 => k_extra "X M mem")) | (refine' ltK1 (by with_reducible assumption) ?ma9_q70; (case ma9_q70 => k_extra "X M mem")) | (refine' gtK1 (by with_reducible assumption) ?ma9_q70; (case ma9_q70 => k_extra "X M mem")) | k_extra "X M neoff" | exact Nat.ne_of_lt (by with_reducible assumption) | exact Nat.ne_of_gt (by with_reducible assumption) | omega))
  k_with "X M back" => (((try dsimp only); repeat (first | (with_reducible refine Bk.ex ?_; intro x9) | with_reducible refine Bk.and ?_ | with_reducible refine Bk.or ?_ ?_ | with_reducible refine Bk.ap_nil ?_ | with_reducible refine Bk.sep_nil ?_ | ((with_reducible show Bk (Apart _) _); refine Bk.fact ?_; intro e9; (replace e9 := Keep9.mk e9)) | ((with_reducible show Bk (Sep _ _) _); refine Bk.fact ?_; intro e9; (replace e9 := Keep9.mk e9)) | with_reducible refine Bk.na_nil ?_ | with_reducible refine Bk.ne_nil ?_ | (with_reducible refine Bk.fact ?_; intro e9; first | subst e9 | skip))))
  k_with "X M letF" => (((with_reducible rename Fr _ _ _ _ => fr9); refine letFr fr9 ?_; clear fr9; intro m9 fr9))
  k_with "X M letN" => (((with_reducible rename News _ _ _ _ => nw9); refine letNw nw9 ?_; clear nw9; intro n9 nw9))
  k_with "X storeName" => ((k_here; k_dflt (refine' storeX_L ?F_q74 ?N_q74 ?_ ?a_q74 ?b_q74; (case F_q74 => k_asm); (case N_q74 => k_asm); (case a_q74 => rfl); (case b_q74 => rfl); k_whole; intro h' F' N'; (try k_sweep)); (try k_extra "X M letF")))
  k_with "X M side" => (((with_reducible show _ ≠ _); k_extra "X M ne"))
  k_with "X M neoff" => (first | (refine' o3a (by with_reducible assumption) ?ma9_q76; (case ma9_q76 => k_extra "X M mem")) | (refine' o3b (by with_reducible assumption) ?ma9_q76; (case ma9_q76 => k_extra "X M mem")) | (refine' o3c (by with_reducible assumption) ?ma9_q76; (case ma9_q76 => k_extra "X M mem")) | (refine' o3a' (by with_reducible assumption) ?ma9_q76; (case ma9_q76 => k_extra "X M mem")) | (refine' o3b' (by with_reducible assumption) ?ma9_q76; (case ma9_q76 => k_extra "X M mem")) | (refine' o3c' (by with_reducible assumption) ?ma9_q76; (case ma9_q76 => k_extra "X M mem")) | (refine' offS (by with_reducible assumption) ?ma9_q76; (case ma9_q76 => k_extra "X M mem")) | (refine' offS' (by with_reducible assumption) ?ma9_q76; (case ma9_q76 => k_extra "X M mem")) | (refine' offL (by with_reducible assumption) ?ma9_q76; (case ma9_q76 => k_extra "X M mem")) | (refine' offL' (by with_reducible assumption) ?ma9_q76; (case ma9_q76 => k_extra "X M mem")))
  k_with "X FinE" => (((unfold LCg.FinE); intro D' h' tk' F' N' o1'; (replace o1' := Keep9.mk o1'); (try simp only [List.nil_append, List.cons_append] at N'); (try dsimp only)))
  k_with "X FinA" => (((unfold LCg.FinA); intro D' h' tk' F' N' o1'; (replace o1' := Keep9.mk o1'); (try simp only [List.nil_append, List.cons_append] at N'); (try dsimp only)))
  k_with "X M hide" => (skip)
  k_with "X M show" => (skip)
  k_with "X M side" => ((refine' ltSide (by with_reducible assumption) ?ma9_q81; (case ma9_q81 => k_extra "X M mem")))
  k_with "X M side" => (first | exact Keep9.out (by with_reducible assumption) | ((with_reducible show Apart _); k_extra "X M sep"; done))
  k_with "X M letApp" => (((repeat ((with_reducible rename News _ _ _ _ => nw9); with_reducible refine letApp nw9 ?_; clear nw9; intro e9 nw9)); (try ((with_reducible rename News _ _ _ _ => nw9); with_reducible refine letNil nw9 ?_; clear nw9; intro n9 nw9))))
  k_with "X M letCons" => (((with_reducible rename News _ _ _ _ => nw9); with_reducible refine letCons nw9 ?_; clear nw9; intro e9 n9 nw9))
  k_with "X M letCons2" => (((with_reducible rename News _ _ _ _ => nw9); with_reducible refine letCons2 nw9 ?_; clear nw9; intro d9 e9 n9 nw9))
  k_with "X M raise" => ((try (show wpAny _ _ _ _ _ _)))
  k_with "X M side" => (((with_reducible refine Keep9.mk ?_); first | ((with_reducible show Apart _); k_extra "X M sep"; done) | ((with_reducible show @Ne Nat _ _); k_extra "X M ne")))
  k_with "X subscriptTail" => (((fail_if_success (fail_if_success (with_reducible show wpAny _ _ (subscriptTail _ (Expr.Constant _ _ _) (Value.bytes _ _) (Value.int _ _)) _ _ _))); k_here; (refine oct_atG (by with_reducible assumption) (by with_reducible assumption) (by decide) (by omega) ?_); intro z9 _ _ _ kbaLo kbaHi; (try dsimp only)))
  k_with "X subscriptTail" => (((fail_if_success (fail_if_success (with_reducible show wpAny _ _ (subscriptTail _ _ (Value.ref 67) (Value.int _ _)) _ _ _))); k_here; (with_reducible rename Fr _ _ _ _ => F9); (with_reducible rename Frag.In _ _ => X9); k_dflt (refine' role_atG ?tho_q89 ?thc_q89 ?thd_q89 ?th0_q89 ?th1_q89 ?_ ?ths_q89 ?thg_q89; (case ths_q89 => exact fun _ _ => subscripted_binop); (case thg_q89 => (intro _; with_unfolding_all rfl)); (case tho_q89 => exact (X9.keeps F9.keep) _ _ (by k_is)); (case thc_q89 => exact rfl); (case thd_q89 => exact rfl); (case th0_q89 => with_reducible assumption); (case th1_q89 => with_reducible assumption)); intro r9 tr9 _ _; (try dsimp only)))
  k_with "X call builtin:min" => (((fail_if_success (fail_if_success (with_reducible show wpAny _ _ (PySem.call (Value.builtin "min") [Value.int _ _, Value.int _ _]) _ _ _))); k_here; k_dflt (refine' min_iiG ?hh_q90 ?F_q90 ?N_q90 ?_; (case hh_q90 => exact rfl); (case F_q90 => k_asm); (case N_q90 => k_asm)); intro v9 h9 tk9 tr9 _ F9 N9; (try k_sweep); (try dsimp only)))
  trivial
section
set_option maxRecDepth 100000 in
set_option maxHeartbeats 8000000 in
theorem c_take {w : World} {mean : ExcName → Option Value} {mg mb : Str → Option Value} {src : Addr} {o : Obj} {top : Int} {tt : Tok} (ho : SrcO o) (ht : 1 ≤ top) (ht' : top ≤ 65536) :
    Ctr 4 w mean mg mb 253 [.ref src, .int top tt] [(src, o)] (PTake src top) := by
  obtain ⟨a, b, ta, tb, n, rfl, ha, hb, hb'⟩ := ho
  k_extra "X M fill"
  k_dflt (refine' ctr_mk (binds := [("source", .ref src), ("top", .int top tt)]) ?k6 ?k7 ?k9 ?kB ?c2 ?c3 ?c4 ?c5 ?_; (case k6 => k_is); (case k7 => k_is); (case k9 => exact fun _ => BindsTo.of_eq rfl); (case kB => exact locs rfl); (case c2 => exact rfl); (case c3 => exact rfl); (case c4 => exact rfl); (case c5 => decide); intro dp un gd cn snm sig sic smo a9 ccd cl outer base L s g' L' h' tk' F' N' B' X' T' lt' hdp hun; (show (let A9 : Around := _; let Q9 : _ → _ → Prop := _; wpAny _ A9 _ Q9 _ _)); intro A9 Q9; (try dsimp only at F' N'); (replace lt' := Keep9.mk lt'); (replace N' := letFront N'); k_extra "X M letApp"; (try k_fold))
  k_steps
  · k_extra "X M end"
    exact PTake.mk _ _ _ ⟨_, _, _, _, _, rfl, fd_lo ha ht, hb, hb'⟩ (fm_lo ht) (fm_hi ht)
  · k_extra "X M end"
    exact PTake.mk _ _ _ ⟨_, _, _, _, _, rfl, ha, by assumption, by assumption⟩ (fm_lo ht) (fm_hi ht)
end
theorem kw_2 : True := by
  k_with "X call ref" => (((fail_if_success (fail_if_success (with_reducible show wpAny _ _ (PySem.call (Value.ref 253) _) _ _ _))); k_here; k_dflt (refine' Ctr.useI0 (c_take ?s0_q91 ?s1_q91 ?s2_q91) ?B_q91 ?F_q91 ?X_q91 ?N_q91 ?P_q91 ?S_q91 ?T_q91 ?hd_q91 ?hu_q91 ?_; (case B_q91 => k_asm); (case F_q91 => k_asm); (case X_q91 => k_asm); (case N_q91 => k_asm); (case P_q91 => k_extra "X M pick"); (case S_q91 => k_extra "X M sep"); (case T_q91 => k_asm); (case hd_q91 => first | exact rm1 (by with_reducible assumption) (by decide) | ((dsimp only [ktrTop]); exact rm1 (by with_reducible assumption) (by decide)) | ((dsimp only [ktrTop]); omega) | omega | ktr_room); (case hu_q91 => first | k_extra "X M hu" | ((dsimp only [ktrTop]); omega) | omega | ktr_units); (case s0_q91 => k_extra "X M side"); (case s1_q91 => k_extra "X M side"); (case s2_q91 => k_extra "X M side"); skip); intro h9 tk9 F9 G9 v9 n9 P9; ((first | refine P9.casesOn ?_ | refine P9.casesOn ?_ ?_) <;> (clear P9; intros; k_extra "X M letApp"; (try show wpAny _ _ _ _ _ _); (try k_sweep); (try dsimp only); (try k_fold)))))
  trivial
section
set_option maxRecDepth 100000 in
set_option maxHeartbeats 8000000 in
theorem c_one {w : World} {mean : ExcName → Option Value} {mg mb : Str → Option Value} {src lst : Addr} {o : Obj} {k : Nat} {its : List Value} (ho : SrcO o) (hl : 1 ≤ its.length) (hl' : its.length ≤ 10) (hne : @LT.lt Nat _ src lst) :
    Ctr 6 w mean mg mb 260 [.ref src, .ref lst] [(src, o), (lst, listOf its.toArray k)] (POne src its) := by
  k_extra "X M fill"
  k_dflt (refine' ctr_mk (binds := [("source", .ref src), ("things", .ref lst)]) ?k6 ?k7 ?k9 ?kB ?c2 ?c3 ?c4 ?c5 ?_; (case k6 => k_is); (case k7 => k_is); (case k9 => exact fun _ => BindsTo.of_eq rfl); (case kB => exact locs rfl); (case c2 => exact rfl); (case c3 => exact rfl); (case c4 => exact rfl); (case c5 => decide); intro dp un gd cn snm sig sic smo a9 ccd cl outer base L s g' L' h' tk' F' N' B' X' T' lt' hdp hun; (show (let A9 : Around := _; let Q9 : _ → _ → Prop := _; wpAny _ A9 _ Q9 _ _)); intro A9 Q9; (try dsimp only at F' N'); (replace lt' := Keep9.mk lt'); (replace N' := letFront N'); k_extra "X M letApp"; (try k_fold))
  k_with "call builtin:len" => (k_dflt (refine' len_any ?N ?hm ?hz ?_; (case N => k_asm); (case hm => k_mem); (case hz => omega); k_whole))
  k_with "subscriptTail" => ((fail_if_success (fail_if_success (with_reducible show wpAny _ _ (subscriptTail (Expr.Name "things" _) _ _ _) _ _ _))); k_dflt (refine' item_any ?N ?hm ?h0 ?h1 ?hz ?_; (case N => k_asm); (case hm => k_mem); (case h0 => omega); (case h1 => omega); (case hz => omega)); intro x9 hx9)
  k_steps
  (try dsimp only)
  refine' End.sub ?pF ?pN (POne.mk _ _ ?h1 ?h2) ?pS
  (case pF => k_asm)
  (case pN => k_asm)
  (case pS => k_extra "X M pick")
  all_goals (with_reducible assumption)
end
theorem kw_3 : True := by
  k_with "X call ref" => (((fail_if_success (fail_if_success (with_reducible show wpAny _ _ (PySem.call (Value.ref 260) _) _ _ _))); k_here; k_dflt (refine' Ctr.useI0 (c_one ?s0_q92 ?s1_q92 ?s2_q92 ?s3_q92) ?B_q92 ?F_q92 ?X_q92 ?N_q92 ?P_q92 ?S_q92 ?T_q92 ?hd_q92 ?hu_q92 ?_; (case B_q92 => k_asm); (case F_q92 => k_asm); (case X_q92 => k_asm); (case N_q92 => k_asm); (case P_q92 => k_extra "X M pick"); (case S_q92 => k_extra "X M sep"); (case T_q92 => k_asm); (case hd_q92 => first | exact rm1 (by with_reducible assumption) (by decide) | ((dsimp only [ktrTop]); exact rm1 (by with_reducible assumption) (by decide)) | ((dsimp only [ktrTop]); omega) | omega | ktr_room); (case hu_q92 => first | k_extra "X M hu" | ((dsimp only [ktrTop]); omega) | omega | ktr_units); (case s0_q92 => k_extra "X M side"); (case s1_q92 => k_extra "X M side"); (case s2_q92 => k_extra "X M side"); (case s3_q92 => k_extra "X M side"); skip); intro h9 tk9 F9 G9 v9 n9 P9; ((first | refine P9.casesOn ?_ | refine P9.casesOn ?_ ?_) <;> (clear P9; intros; k_extra "X M letApp"; (try show wpAny _ _ _ _ _ _); (try k_sweep); (try dsimp only); (try k_fold)))))
  trivial
section
set_option maxRecDepth 100000 in
set_option maxHeartbeats 8000000 in
theorem c_lbridge {w : World} {mean : ExcName → Option Value} {mg mb : Str → Option Value} {src : Addr} {o : Obj} (ho : SrcO o) : Ctr 8 w mean mg mb 272 [.ref src] [(src, o)] (PBridge src) := by
  k_extra "X M fill"
  k_dflt (refine' ctr_mk (binds := [("source", .ref src)]) ?k6 ?k7 ?k9 ?kB ?c2 ?c3 ?c4 ?c5 ?_; (case k6 => k_is); (case k7 => k_is); (case k9 => exact fun _ => BindsTo.of_eq rfl); (case kB => exact locs rfl); (case c2 => exact rfl); (case c3 => exact rfl); (case c4 => exact rfl); (case c5 => decide); intro dp un gd cn snm sig sic smo a9 ccd cl outer base L s g' L' h' tk' F' N' B' X' T' lt' hdp hun; (show (let A9 : Around := _; let Q9 : _ → _ → Prop := _; wpAny _ A9 _ Q9 _ _)); intro A9 Q9; (try dsimp only at F' N'); (replace lt' := Keep9.mk lt'); (replace N' := letFront N'); k_extra "X M letApp"; (try k_fold))
  k_steps
  obtain ⟨p, tp, rfl, hp⟩ := mem4 (by assumption)
  obtain ⟨q, tq, rfl, hq⟩ := mem3 (by assumption)
  rw [show (2 : Int) ^ Int.toNat 48 = 281474976710656 from rfl] at hq
  (try dsimp only)
  refine' End.sub ?pF ?pN (PBridge.mk _ _ _ _ _ _ ?h1 ⟨⟨?h2, ?h3⟩, ⟨?h4, ?h5⟩⟩ ⟨?pA⟩) ?pS
  (case pF => k_asm)
  (case pN => k_asm)
  (case pS => k_extra "X M pick")
  (case pA => k_extra "X M sep")
  all_goals (first | with_reducible assumption | omega)
end
theorem kw_4 : True := by
  k_with "X call ref" => (((fail_if_success (fail_if_success (with_reducible show wpAny _ _ (PySem.call (Value.ref 272) _) _ _ _))); k_here; k_dflt (refine' Ctr.useI1 (c_lbridge ?s0_q93) ?B_q93 ?F_q93 ?X_q93 ?N_q93 ?P_q93 ?S_q93 ?T_q93 ?hd_q93 ?hu_q93 ?_; (case B_q93 => k_asm); (case F_q93 => k_asm); (case X_q93 => k_asm); (case N_q93 => k_asm); (case P_q93 => k_extra "X M pick"); (case S_q93 => k_extra "X M sep"); (case T_q93 => k_asm); (case hd_q93 => first | exact rm1 (by with_reducible assumption) (by decide) | ((dsimp only [ktrTop]); exact rm1 (by with_reducible assumption) (by decide)) | ((dsimp only [ktrTop]); omega) | omega | ktr_room); (case hu_q93 => first | k_extra "X M hu" | ((dsimp only [ktrTop]); omega) | omega | ktr_units); (case s0_q93 => k_extra "X M side"); skip); intro h9 tk9 F9 G9 v9 n9 P9; ((first | refine P9.casesOn ?_ | refine P9.casesOn ?_ ?_) <;> (clear P9; intros; k_extra "X M letApp"; (try show wpAny _ _ _ _ _ _); (try k_sweep); (try dsimp only); (try k_fold)))))
  trivial
section
set_option maxRecDepth 100000 in
set_option maxHeartbeats 8000000 in
theorem c_lvector {w : World} {mean : ExcName → Option Value} {mg mb : Str → Option Value} {src : Addr} {o : Obj} (ho : SrcO o) : Ctr 10 w mean mg mb 279 [.ref src] [(src, o)] (PVector src) := by
  k_extra "X M fill"
  k_dflt (refine' ctr_mk (binds := [("source", .ref src)]) ?k6 ?k7 ?k9 ?kB ?c2 ?c3 ?c4 ?c5 ?_; (case k6 => k_is); (case k7 => k_is); (case k9 => exact fun _ => BindsTo.of_eq rfl); (case kB => exact locs rfl); (case c2 => exact rfl); (case c3 => exact rfl); (case c4 => exact rfl); (case c5 => decide); intro dp un gd cn snm sig sic smo a9 ccd cl outer base L s g' L' h' tk' F' N' B' X' T' lt' hdp hun; (show (let A9 : Around := _; let Q9 : _ → _ → Prop := _; wpAny _ A9 _ Q9 _ _)); intro A9 Q9; (try dsimp only at F' N'); (replace lt' := Keep9.mk lt'); (replace N' := letFront N'); k_extra "X M letApp"; (try k_fold))
  k_steps
  obtain ⟨co, tc, rfl, hc⟩ := mem4 (a := 0) (b := 19) (by assumption)
  obtain ⟨pn, tn, rfl, hn⟩ := mem4 (a := 1) (b := 255) (by assumption)
  rw [show (2 : Int) ^ Int.toNat 32 = 4294967296 from rfl] at hc
  (try dsimp only)
  refine' End.sub ?pF ?pN (PVector.mk _ _ _ _ _ _ _ _ _ _ _ _ _ _ _ _ _ _ _ ?h1 ⟨?h2, ⟨?h3, ?h4⟩, ?h5, ⟨?h6, ?h7⟩, ⟨?h8, ?h9⟩⟩ ⟨?pA⟩) ?pS
  (case pF => k_asm)
  (case pN => k_asm)
  (case pS => k_extra "X M pick")
  (case pA => k_extra "X M sep")
  all_goals (first | with_reducible assumption | omega)
end
theorem kw_5 : True := by
  k_with "X call ref" => (((fail_if_success (fail_if_success (with_reducible show wpAny _ _ (PySem.call (Value.ref 279) _) _ _ _))); k_here; k_dflt (refine' Ctr.useI1 (c_lvector ?s0_q94) ?B_q94 ?F_q94 ?X_q94 ?N_q94 ?P_q94 ?S_q94 ?T_q94 ?hd_q94 ?hu_q94 ?_; (case B_q94 => k_asm); (case F_q94 => k_asm); (case X_q94 => k_asm); (case N_q94 => k_asm); (case P_q94 => k_extra "X M pick"); (case S_q94 => k_extra "X M sep"); (case T_q94 => k_asm); (case hd_q94 => first | exact rm1 (by with_reducible assumption) (by decide) | ((dsimp only [ktrTop]); exact rm1 (by with_reducible assumption) (by decide)) | ((dsimp only [ktrTop]); omega) | omega | ktr_room); (case hu_q94 => first | k_extra "X M hu" | ((dsimp only [ktrTop]); omega) | omega | ktr_units); (case s0_q94 => k_extra "X M side"); skip); intro h9 tk9 F9 G9 v9 n9 P9; ((first | refine P9.casesOn ?_ | refine P9.casesOn ?_ ?_) <;> (clear P9; intros; k_extra "X M letApp"; (try show wpAny _ _ _ _ _ _); (try k_sweep); (try dsimp only); (try k_fold)))))
  trivial
section

abbrev bpduO (w : World) (t1 t2 t3 t4 t5 t6 t7 t8 t9 t10 t11 t12 : Tok) (v1 v2 v3 v4 v5 v6 v7 v8 v9 v10 v11 v12 : Value) : Obj := dictOf [⟨PyData.keyHash w.params "version", .str "version" t1, v1⟩, ⟨PyData.keyHash w.params "kind", .str "kind" t2, v2⟩, ⟨PyData.keyHash w.params "vector", .str "vector" t3, v3⟩, ⟨PyData.keyHash w.params "times", .str "times" t4, v4⟩, ⟨PyData.keyHash w.params "is_change", .str "is_change" t5, v5⟩, ⟨PyData.keyHash w.params "is_change_ack", .str "is_change_ack" t6, v6⟩, ⟨PyData.keyHash w.params "is_proposal", .str "is_proposal" t7, v7⟩, ⟨PyData.keyHash w.params "is_agreement", .str "is_agreement" t8, v8⟩, ⟨PyData.keyHash w.params "role", .str "role" t9, v9⟩, ⟨PyData.keyHash w.params "is_learning", .str "is_learning" t10, v10⟩, ⟨PyData.keyHash w.params "is_forwarding", .str "is_forwarding" t11, v11⟩, ⟨PyData.keyHash w.params "tail", .str "tail" t12, v12⟩] 12
abbrev timesO (w : World) (t1 t2 t3 t4 : Tok) (v1 v2 v3 v4 : Value) : Obj := dictOf [⟨PyData.keyHash w.params "age", .str "age" t1, v1⟩, ⟨PyData.keyHash w.params "max_age", .str "max_age" t2, v2⟩, ⟨PyData.keyHash w.params "hello", .str "hello" t3, v3⟩, ⟨PyData.keyHash w.params "delay", .str "delay" t4, v4⟩] 4
theorem allNe_of_lt {l : Led} {d : Addr} (h : ∀ p ∈ l, p.1 < d) : ∀ p ∈ l, p.1 ≠ d := fun p hp => Nat.ne_of_lt (h p hp)
local macro_rules | `(tactic| k_all) => `(tactic| exact allNe_of_lt (by assumption))
def BindsO (s : Shared) (o : Option Obj) (args : Args) (binds : List (Str × Value)) : Prop := ∀ fd oc od osl, o = some ⟨oc, od, .func fd, osl⟩ → BindsTo s fd args binds
set_option maxRecDepth 100000 in
set_option maxHeartbeats 8000000 in
theorem new_bpdu {w : World} {mean : ExcName → Option Value} {mg mb : Str → Option Value} {pos : List Value} {kw : List (Str × Value)} {v1 v2 v3 v4 v5 v6 v7 v8 v9 v10 v11 v12 : Value} (hb : ∀ (s : Shared) (x : Addr), (Mine.wr.heap_1 w.params).In s.heap → BindsO s ((Mine.wr.heap_1 w.params).lookup 117) ⟨.ref x :: pos, kw⟩ [("self", .ref x), ("version", v1), ("kind", v2), ("vector", v3), ("times", v4), ("is_change", v5), ("is_change_ack", v6), ("is_proposal", v7), ("is_agreement", v8), ("role", v9), ("is_learning", v10), ("is_forwarding", v11), ("tail", v12)])
    {dp un : Nat} {gd : Option (List Code)} {cn : Str} {snm : List (Str × NameKind)} {sig sic : Bool} {smo : List (Str × Const)} {a : Addr} {ccd : Value} {cl : List (Str × Addr)} {outer : List Env} {A₀ : Around} {base h₀ : Heap} {L : Addr} {m : Str → Option Value} {s : Shared} {Q E : Value → Shared → Prop} {news : Led}
    (B : Below A₀ base outer h₀) (F : Fr h₀ L s.heap m) (X : (Mine.wr.heap_1 w.params).In h₀) (N : News h₀ L s.heap news) (T : Top Mine.vq (looseW Mine.vq [Str.ofString "KINDS", Str.ofString "Bpdu"]) mean mg mb h₀)
    (hdp : dp + 3 < recursionLimit) (hun : un + 10 * 3 + 100 < cLine)
    (hret : ∀ x dx (t1 t2 t3 t4 t5 t6 t7 t8 t9 t10 t11 t12 : Tok) h' tk', Fr h₀ L h' m → News h₀ L h' ((x, instObj 134 dx) :: (dx, bpduO w t1 t2 t3 t4 t5 t6 t7 t8 t9 t10 t11 t12 v1 v2 v3 v4 v5 v6 v7 v8 v9 v10 v11 v12) :: news) → (∀ p ∈ news, p.1 < dx) → @LT.lt Nat _ dx x → Q (.ref x) { s with heap := h', toks := tk' }) :
    wpAny (model PySem.Challenge.rw_pb0549_01.row.prog w) (ktrTop dp un gd cn (fscope snm sig sic smo) L a ccd cl outer) (call (.ref 134) pos kw) Q E s := by
  k_extra "X M fill"
  k_dflt (refine' call_cls (fI := 117) ?k1 ?k2 ?k3 ?k4 ?k5 ?k6 ?_; (case k1 => exact F); (case k2 => exact X); (case k3 => exact N); (case k4 => k_is); (case k5 => k_is); (case k6 => k_is); intro x' d' h' F' N' l1 l2; replace l2 := ltN l2)
  k_dflt (refine' code_def ?k1 ?k2 ?k3 ?k4 ?k5 ?kA ?kF ?kK ?k6 ?k7 ?k8 ?k9 ?kB ?_ ?c2 ?c3 ?c4 ?c5; (case kA => exact rfl); (case kF => exact rfl); (case kK => exact rfl); (case k1 => exact B); (case k2 => exact F'); (case k3 => exact X); (case k4 => exact N'); (case k5 => exact T); (case k6 => k_is); (case k7 => k_is); (case k8 => ktr_room); (case k9 => exact hb _ _ (X.keeps F'.keep) _ _ _ _ (by k_is)); (case kB => exact locs rfl); (case c2 => exact rfl); (case c3 => exact rfl); (case c4 => exact rfl); (case c5 => decide); k_whole; intro g' L' h' FG' F' N' B' X' T'; (try dsimp only); (try k_lift B'); (try k_fold))
  k_steps
  refine' hret _ _ _ _ _ _ _ _ _ _ _ _ _ _ _ _ ?F ?N l1 l2
  (case F => k_asm)
  (case N => k_asm)

set_option maxRecDepth 100000 in
set_option maxHeartbeats 8000000 in
theorem new_times {w : World} {mean : ExcName → Option Value} {mg mb : Str → Option Value} {v1 v2 v3 v4 : Value}
    {dp un : Nat} {gd : Option (List Code)} {cn : Str} {snm : List (Str × NameKind)} {sig sic : Bool} {smo : List (Str × Const)} {a : Addr} {ccd : Value} {cl : List (Str × Addr)} {outer : List Env} {A₀ : Around} {base h₀ : Heap} {L : Addr} {m : Str → Option Value} {s : Shared} {Q E : Value → Shared → Prop} {news : Led}
    (B : Below A₀ base outer h₀) (F : Fr h₀ L s.heap m) (X : (Mine.wr.heap_1 w.params).In h₀) (N : News h₀ L s.heap news) (T : Top Mine.vq (looseW Mine.vq [Str.ofString "KINDS", Str.ofString "Bpdu"]) mean mg mb h₀)
    (hdp : dp + 3 < recursionLimit) (hun : un + 10 * 3 + 100 < cLine)
    (hret : ∀ x dx (t1 t2 t3 t4 : Tok) h' tk', Fr h₀ L h' m → News h₀ L h' ((x, instObj 98 dx) :: (dx, timesO w t1 t2 t3 t4 v1 v2 v3 v4) :: news) → (∀ p ∈ news, p.1 < dx) → @LT.lt Nat _ dx x → Q (.ref x) { s with heap := h', toks := tk' }) :
    wpAny (model PySem.Challenge.rw_pb0549_01.row.prog w) (ktrTop dp un gd cn (fscope snm sig sic smo) L a ccd cl outer) (call (.ref 98) [v1, v2, v3, v4]) Q E s := by
  k_extra "X M fill"
  k_dflt (refine' call_cls (fI := 81) ?k1 ?k2 ?k3 ?k4 ?k5 ?k6 ?_; (case k1 => exact F); (case k2 => exact X); (case k3 => exact N); (case k4 => k_is); (case k5 => k_is); (case k6 => k_is); intro x' d' h' F' N' l1 l2; replace l2 := ltN l2)
  k_dflt (refine' code_def ?k1 ?k2 ?k3 ?k4 ?k5 ?kA ?kF ?kK ?k6 ?k7 ?k8 ?k9 ?kB ?_ ?c2 ?c3 ?c4 ?c5; (case kA => exact rfl); (case kF => exact rfl); (case kK => exact rfl); (case k1 => exact B); (case k2 => exact F'); (case k3 => exact X); (case k4 => exact N'); (case k5 => exact T); (case k6 => k_is); (case k7 => k_is); (case k8 => ktr_room); (case k9 => refine BindsTo.of_eq (binds := [("self", .ref x'), ("age", v1), ("max_age", v2), ("hello", v3), ("delay", v4)]) ?_; exact rfl); (case kB => exact locs rfl); (case c2 => exact rfl); (case c3 => exact rfl); (case c4 => exact rfl); (case c5 => decide); k_whole; intro g' L' h' FG' F' N' B' X' T'; (try dsimp only); (try k_lift B'); (try k_fold))
  k_steps
  refine' hret _ _ _ _ _ _ _ _ ?F ?N l1 l2
  (case F => k_asm)
  (case N => k_asm)

theorem BindsO.of {s : Shared} {o : Option Obj} {fd : FuncData} {oc : Value} {od : Option Addr} {osl : Array (Option Value)} {args : Args} {binds : List (Str × Value)} (e : o = some ⟨oc, od, .func fd, osl⟩) (h : BindsTo s fd args binds) : BindsO s o args binds := by
  intro fd' oc' od' osl' e'
  rw [e] at e'
  cases e'
  exact h
set_option maxRecDepth 100000 in
theorem bind2 {w : World} {a1 a2 : Value} (s : Shared) (x : Addr) (X : (Mine.wr.heap_1 w.params).In s.heap) : BindsO s ((Mine.wr.heap_1 w.params).lookup 117) ⟨[.ref x, a1, a2], []⟩ [("self", .ref x), ("version", a1), ("kind", a2), ("vector", .none), ("times", .none), ("is_change", .bool false), ("is_change_ack", .bool false), ("is_proposal", .bool false), ("is_agreement", .bool false), ("role", .str "none" 344), ("is_learning", .bool false), ("is_forwarding", .bool false), ("tail", .bytes #[] 345)] := by
  k_extra "X M fill"
  refine BindsO.of (by k_dflt k_is) ?_
  k_dflt (refine' binds_K X rfl ?k1 ?k3 ?k4 ?k2; (case k1 => k_is); (case k3 => exact rfl); (case k4 => exact rfl); (case k2 => kernel_rfl!))
set_option maxRecDepth 100000 in
theorem bind4 {w : World} {a1 a2 a3 a4 : Value} (s : Shared) (x : Addr) (X : (Mine.wr.heap_1 w.params).In s.heap) : BindsO s ((Mine.wr.heap_1 w.params).lookup 117) ⟨[.ref x, a1, a2, a3, a4], []⟩ [("self", .ref x), ("version", a1), ("kind", a2), ("vector", a3), ("times", a4), ("is_change", .bool false), ("is_change_ack", .bool false), ("is_proposal", .bool false), ("is_agreement", .bool false), ("role", .str "none" 344), ("is_learning", .bool false), ("is_forwarding", .bool false), ("tail", .bytes #[] 345)] := by
  k_extra "X M fill"
  refine BindsO.of (by k_dflt k_is) ?_
  k_dflt (refine' binds_K X rfl ?k1 ?k3 ?k4 ?k2; (case k1 => k_is); (case k3 => exact rfl); (case k4 => exact rfl); (case k2 => kernel_rfl!))
set_option maxRecDepth 100000 in
theorem bind4r {w : World} {a1 a2 a3 a4 a5 : Value} (s : Shared) (x : Addr) (X : (Mine.wr.heap_1 w.params).In s.heap) : BindsO s ((Mine.wr.heap_1 w.params).lookup 117) ⟨[.ref x, a1, a2, a3, a4], [("role", a5)]⟩ [("self", .ref x), ("version", a1), ("kind", a2), ("vector", a3), ("times", a4), ("is_change", .bool false), ("is_change_ack", .bool false), ("is_proposal", .bool false), ("is_agreement", .bool false), ("role", a5), ("is_learning", .bool false), ("is_forwarding", .bool false), ("tail", .bytes #[] 345)] := by
  k_extra "X M fill"
  refine BindsO.of (by k_dflt k_is) ?_
  k_dflt (refine' binds_K X rfl ?k1 ?k3 ?k4 ?k2; (case k1 => k_is); (case k3 => exact rfl); (case k4 => exact rfl); (case k2 => kernel_rfl!))
set_option maxRecDepth 100000 in
theorem bind6 {w : World} {a1 a2 a3 a4 a5 a6 : Value} (s : Shared) (x : Addr) (X : (Mine.wr.heap_1 w.params).In s.heap) : BindsO s ((Mine.wr.heap_1 w.params).lookup 117) ⟨[.ref x, a1, a2, a3, a4, a5, a6], []⟩ [("self", .ref x), ("version", a1), ("kind", a2), ("vector", a3), ("times", a4), ("is_change", a5), ("is_change_ack", a6), ("is_proposal", .bool false), ("is_agreement", .bool false), ("role", .str "none" 344), ("is_learning", .bool false), ("is_forwarding", .bool false), ("tail", .bytes #[] 345)] := by
  k_extra "X M fill"
  refine BindsO.of (by k_dflt k_is) ?_
  k_dflt (refine' binds_K X rfl ?k1 ?k3 ?k4 ?k2; (case k1 => k_is); (case k3 => exact rfl); (case k4 => exact rfl); (case k2 => kernel_rfl!))

set_option maxRecDepth 100000 in
theorem bind12 {w : World} {a1 a2 a3 a4 a5 a6 a7 a8 a9 a10 a11 a12 : Value} (s : Shared) (x : Addr) (_X : (Mine.wr.heap_1 w.params).In s.heap) : BindsO s ((Mine.wr.heap_1 w.params).lookup 117) ⟨[.ref x, a1, a2, a3, a4, a5, a6, a7, a8, a9, a10, a11, a12], []⟩ [("self", .ref x), ("version", a1), ("kind", a2), ("vector", a3), ("times", a4), ("is_change", a5), ("is_change_ack", a6), ("is_proposal", a7), ("is_agreement", a8), ("role", a9), ("is_learning", a10), ("is_forwarding", a11), ("tail", a12)] := by
  k_extra "X M fill"
  refine BindsO.of (by k_dflt k_is) ?_
  k_dflt (refine' binds_K _X rfl ?k1 ?k3 ?k4 ?k2; (case k1 => k_is); (case k3 => exact rfl); (case k4 => exact rfl); (case k2 => kernel_rfl!))
end
theorem kw_6 : True := by
  k_with "X call ref" => (((fail_if_success (fail_if_success (with_reducible show wpAny _ _ (PySem.call (Value.ref 134) [_, _, _, _] [_]) _ _ _))); k_here; k_dflt (refine' new_bpdu ?hb_q95 ?B_q95 ?F_q95 ?X_q95 ?N_q95 ?T_q95 ?hd_q95 ?hu_q95 ?_; (case hb_q95 => exact fun s x X => bind4r s x X); (case B_q95 => k_asm); (case F_q95 => k_asm); (case X_q95 => k_asm); (case N_q95 => k_asm); (case T_q95 => k_asm); (case hd_q95 => first | ((dsimp only [ktrTop]); omega) | omega | ktr_room); (case hu_q95 => first | k_extra "X M hu" | ((dsimp only [ktrTop]); omega) | omega | ktr_units)); intro x' d' t1 t2 t3 t4 t5 t6 t7 t8 t9 t10 t11 t12 h' tk' F' N' l1 l2; (have l3 := lt_all l1 l2); (replace l1 := Keep9.mk l1); (replace l3 := Keep9.mk l3); (try k_extra "X M letCons2"); (try k_sweep); (try dsimp only); (try k_fold)))
  k_with "X call ref" => (((fail_if_success (fail_if_success (with_reducible show wpAny _ _ (PySem.call (Value.ref 134) [_, _, _, _] []) _ _ _))); k_here; k_dflt (refine' new_bpdu ?hb_q96 ?B_q96 ?F_q96 ?X_q96 ?N_q96 ?T_q96 ?hd_q96 ?hu_q96 ?_; (case hb_q96 => exact fun s x X => bind4 s x X); (case B_q96 => k_asm); (case F_q96 => k_asm); (case X_q96 => k_asm); (case N_q96 => k_asm); (case T_q96 => k_asm); (case hd_q96 => first | ((dsimp only [ktrTop]); omega) | omega | ktr_room); (case hu_q96 => first | k_extra "X M hu" | ((dsimp only [ktrTop]); omega) | omega | ktr_units)); intro x' d' t1 t2 t3 t4 t5 t6 t7 t8 t9 t10 t11 t12 h' tk' F' N' l1 l2; (have l3 := lt_all l1 l2); (replace l1 := Keep9.mk l1); (replace l3 := Keep9.mk l3); (try k_extra "X M letCons2"); (try k_sweep); (try dsimp only); (try k_fold)))
  k_with "X call ref" => (((fail_if_success (fail_if_success (with_reducible show wpAny _ _ (PySem.call (Value.ref 134) [_, _, _, _, _, _, _, _, _, _, _, _] []) _ _ _))); k_here; k_dflt (refine' new_bpdu ?hb_q97 ?B_q97 ?F_q97 ?X_q97 ?N_q97 ?T_q97 ?hd_q97 ?hu_q97 ?_; (case hb_q97 => exact fun s x X => bind12 s x X); (case B_q97 => k_asm); (case F_q97 => k_asm); (case X_q97 => k_asm); (case N_q97 => k_asm); (case T_q97 => k_asm); (case hd_q97 => first | ((dsimp only [ktrTop]); omega) | omega | ktr_room); (case hu_q97 => first | k_extra "X M hu" | ((dsimp only [ktrTop]); omega) | omega | ktr_units)); intro x' d' t1 t2 t3 t4 t5 t6 t7 t8 t9 t10 t11 t12 h' tk' F' N' l1 l2; (have l3 := lt_all l1 l2); (replace l1 := Keep9.mk l1); (replace l3 := Keep9.mk l3); (try k_extra "X M letCons2"); (try k_sweep); (try dsimp only); (try k_fold)))
  k_with "X call ref" => (((fail_if_success (fail_if_success (with_reducible show wpAny _ _ (PySem.call (Value.ref 134) [_, _, _, _, _, _] []) _ _ _))); k_here; k_dflt (refine' new_bpdu ?hb_q98 ?B_q98 ?F_q98 ?X_q98 ?N_q98 ?T_q98 ?hd_q98 ?hu_q98 ?_; (case hb_q98 => exact fun s x X => bind6 s x X); (case B_q98 => k_asm); (case F_q98 => k_asm); (case X_q98 => k_asm); (case N_q98 => k_asm); (case T_q98 => k_asm); (case hd_q98 => first | ((dsimp only [ktrTop]); omega) | omega | ktr_room); (case hu_q98 => first | k_extra "X M hu" | ((dsimp only [ktrTop]); omega) | omega | ktr_units)); intro x' d' t1 t2 t3 t4 t5 t6 t7 t8 t9 t10 t11 t12 h' tk' F' N' l1 l2; (have l3 := lt_all l1 l2); (replace l1 := Keep9.mk l1); (replace l3 := Keep9.mk l3); (try k_extra "X M letCons2"); (try k_sweep); (try dsimp only); (try k_fold)))
  k_with "X call ref" => (((fail_if_success (fail_if_success (with_reducible show wpAny _ _ (PySem.call (Value.ref 134) [_, _] []) _ _ _))); k_here; k_dflt (refine' new_bpdu ?hb_q99 ?B_q99 ?F_q99 ?X_q99 ?N_q99 ?T_q99 ?hd_q99 ?hu_q99 ?_; (case hb_q99 => exact fun s x X => bind2 s x X); (case B_q99 => k_asm); (case F_q99 => k_asm); (case X_q99 => k_asm); (case N_q99 => k_asm); (case T_q99 => k_asm); (case hd_q99 => first | ((dsimp only [ktrTop]); omega) | omega | ktr_room); (case hu_q99 => first | k_extra "X M hu" | ((dsimp only [ktrTop]); omega) | omega | ktr_units)); intro x' d' t1 t2 t3 t4 t5 t6 t7 t8 t9 t10 t11 t12 h' tk' F' N' l1 l2; (have l3 := lt_all l1 l2); (replace l1 := Keep9.mk l1); (replace l3 := Keep9.mk l3); (try k_extra "X M letCons2"); (try k_sweep); (try dsimp only); (try k_fold)))
  k_with "X call ref" => (((fail_if_success (fail_if_success (with_reducible show wpAny _ _ (PySem.call (Value.ref 98) _ _) _ _ _))); k_here; k_dflt (refine' new_times ?B_q100 ?F_q100 ?X_q100 ?N_q100 ?T_q100 ?hd_q100 ?hu_q100 ?_; (case B_q100 => k_asm); (case F_q100 => k_asm); (case X_q100 => k_asm); (case N_q100 => k_asm); (case T_q100 => k_asm); (case hd_q100 => first | ((dsimp only [ktrTop]); omega) | omega | ktr_room); (case hu_q100 => first | k_extra "X M hu" | ((dsimp only [ktrTop]); omega) | omega | ktr_units)); intro x' d' t1 t2 t3 t4 h' tk' F' N' l1 l2; (have l3 := lt_all l1 l2); (replace l1 := Keep9.mk l1); (replace l3 := Keep9.mk l3); (try k_extra "X M letCons2"); (try k_sweep); (try dsimp only); (try k_fold)))
  trivial
section
inductive PNotice (w : World) : Value → Led → Prop
  | mk (x dx : Addr) (k1 k2 k3 k4 k5 k6 k7 k8 k9 k10 k11 k12 tv tk tr tt : Tok) : Keep9 (Apart [x, dx]) → PNotice w (.ref x) [(x, instObj 134 dx), (dx, bpduO w k1 k2 k3 k4 k5 k6 k7 k8 k9 k10 k11 k12 (.int 0 tv) (.str "change" tk) .none .none (.bool false) (.bool false) (.bool false) (.bool false) (.str "none" tr) (.bool false) (.bool false) (.bytes #[] tt))]
set_option maxRecDepth 100000 in
set_option maxHeartbeats 8000000 in
theorem c_notice {w : World} {mean : ExcName → Option Value} {mg mb : Str → Option Value} : Ctr 6 w mean mg mb 145 [] [] (PNotice w) := by
  k_extra "X M fill"
  k_dflt (refine' ctr_mk (binds := []) ?k6 ?k7 ?k9 ?kB ?c2 ?c3 ?c4 ?c5 ?_; (case k6 => k_is); (case k7 => k_is); (case k9 => exact fun _ => BindsTo.of_eq rfl); (case kB => exact locs rfl); (case c2 => exact rfl); (case c3 => exact rfl); (case c4 => exact rfl); (case c5 => decide); intro dp un gd cn snm sig sic smo a9 ccd cl outer base L s g' L' h' tk' F' N' B' X' T' lt' hdp hun; (show (let A9 : Around := _; let Q9 : _ → _ → Prop := _; wpAny _ A9 _ Q9 _ _)); intro A9 Q9; (try dsimp only at F' N'); (replace lt' := Keep9.mk lt'); (replace N' := letFront N'); k_extra "X M letApp"; (try k_fold))
  k_steps
  (try dsimp only)
  refine' End.sub ?pF ?pN (PNotice.mk _ _ _ _ _ _ _ _ _ _ _ _ _ _ _ _ _ _ ⟨?pA⟩) ?pS
  (case pF => k_asm)
  (case pN => k_asm)
  (case pS => k_extra "X M pick")
  (case pA => k_extra "X M sep")
end
theorem kw_7 : True := by
  k_with "X call ref" => (((fail_if_success (fail_if_success (with_reducible show wpAny _ _ (PySem.call (Value.ref 145) _) _ _ _))); k_here; k_dflt (refine' Ctr.useI1 (c_notice ) ?B_q101 ?F_q101 ?X_q101 ?N_q101 ?P_q101 ?S_q101 ?T_q101 ?hd_q101 ?hu_q101 ?_; (case B_q101 => k_asm); (case F_q101 => k_asm); (case X_q101 => k_asm); (case N_q101 => k_asm); (case P_q101 => k_extra "X M pick"); (case S_q101 => k_extra "X M sep"); (case T_q101 => k_asm); (case hd_q101 => first | exact rm1 (by with_reducible assumption) (by decide) | ((dsimp only [ktrTop]); exact rm1 (by with_reducible assumption) (by decide)) | ((dsimp only [ktrTop]); omega) | omega | ktr_room); (case hu_q101 => first | k_extra "X M hu" | ((dsimp only [ktrTop]); omega) | omega | ktr_units);  skip); intro h9 tk9 F9 G9 v9 n9 P9; ((first | refine P9.casesOn ?_ | refine P9.casesOn ?_ ?_) <;> (clear P9; intros; k_extra "X M letApp"; (try show wpAny _ _ _ _ _ _); (try k_sweep); (try dsimp only); (try k_fold)))))
  trivial
section
inductive Drawn (w : World) (src : Addr) : Value → Led → Prop
  | change (o : Obj) (x dx : Addr) (k1 k2 k3 k4 k5 k6 k7 k8 k9 k10 k11 k12 tv tk tr tt : Tok) : SrcO o → Keep9 (Apart [src, x, dx]) → Drawn w src (.ref x) [(x, instObj 134 dx), (dx, bpduO w k1 k2 k3 k4 k5 k6 k7 k8 k9 k10 k11 k12 (.int 0 tv) (.str "change" tk) .none .none (.bool false) (.bool false) (.bool false) (.bool false) (.str "none" tr) (.bool false) (.bool false) (.bytes #[] tt)), (src, o)]
  | thing (o : Obj) (x dx xv xr xn xp tm dt : Addr) (k1 k2 k3 k4 k5 k6 k7 k8 k9 k10 k11 k12 j1 j2 j3 j4 i1 i2 i3 i4 i5 i6 i7 h1 h2 h3 h4 tv tk tr tt : Tok) (rp rm co np nm pp pn ag mx he de : Int) (kd : Str) (ver code : Int) (f0 f1 f2 f3 f4 f5 : Bool) (r : Nat) (tail : Array UInt8) (rest : List Int) : SrcO o → Keep9 (Apart [src, x, dx, xv, xr, xn, xp, tm, dt]) → okVec rp rm co np nm pp pn → okT ag mx he de → KindOf kd ver code f2 f3 f4 f5 r tail rest → tail.size ≤ 9 → Drawn w src (.ref x) [(x, instObj 134 dx), (dx, bpduO w k1 k2 k3 k4 k5 k6 k7 k8 k9 k10 k11 k12 (.int ver tv) (.str kd tk) (.ref xv) (.ref tm) (.bool f0) (.bool f1) (.bool f2) (.bool f3) (.str (roleN r) tr) (.bool f4) (.bool f5) (.bytes tail tt)), (xv, tupO [.ref xr, .int co i3, .ref xn, .ref xp]), (xr, tupO [.int rp i1, .int rm i2]), (xn, tupO [.int np i4, .int nm i5]), (xp, tupO [.int (16 * pp) i6, .int pn i7]), (tm, instObj 98 dt), (dt, timesO w j1 j2 j3 j4 (.int ag h1) (.int mx h2) (.int he h3) (.int de h4)), (src, o)]
theorem lt_le {a b c : Int} (h : a < b) (hc : b ≤ c := by decide) : a < c := by omega
theorem add_lo {a c : Int} (h : 0 ≤ a) (hc : 0 ≤ c := by decide) : 0 ≤ c + a := by omega
theorem add_hi {a b c d : Int} (h : a < b) (hc : c + b ≤ d := by decide) : c + a < d := by omega
theorem or3_lo {x a b c : Int} (h : x = a ∨ x = b ∨ x = c) (ha : 0 ≤ a := by decide) (hb : 0 ≤ b := by decide) (hc : 0 ≤ c := by decide) : 0 ≤ x := by omega
theorem or3_hi {x a b c d : Int} (h : x = a ∨ x = b ∨ x = c) (ha : a < d := by decide) (hb : b < d := by decide) (hc : c < d := by decide) : x < d := by omega
theorem way_two {x : Int} (h : 0 ≤ x) (h4 : x < 4) (h0 : x ≠ 0) (h1 : x ≠ 1) (h3 : x ≠ 3) : x = 2 := by omega
theorem okT.mk {ag mx he de : Int} (a8 : 0 ≤ ag) (b8 : ag < 256) (a9 : 0 ≤ mx) (b9 : mx < 256) (a10 : 0 ≤ he) (b10 : he < 256) (a11 : 0 ≤ de) (b11 : de < 256) : okT ag mx he de := ⟨⟨a8, b8⟩, ⟨a9, b9⟩, ⟨a10, b10⟩, ⟨a11, b11⟩⟩
theorem byteArr_le9 {ks : List Int} {x : Int} (h : ks.length = x.toNat) (hm : x < 10) : (byteArr ks).size ≤ 9 := by rw [byteArr_size]; omega
theorem byteArr_le {ks : List Int} {n m : Nat} (h : ks.length = n) (hm : n ≤ m) : (byteArr ks).size ≤ m := by rw [byteArr_size]; omega
theorem kw_8 : True := by
  k_with "X M okt" => ((refine okT.mk ?_ ?_ ?_ ?_ ?_ ?_ ?_ ?_ <;> (first | with_reducible assumption | exact lt_le (by with_reducible assumption) | exact add_lo (by with_reducible assumption) | exact add_hi (by with_reducible assumption) | exact or3_lo (by with_reducible assumption) | exact or3_hi (by with_reducible assumption) | omega)))
  trivial
set_option maxRecDepth 100000 in
set_option maxHeartbeats 8000000 in
theorem c_drawn {w : World} {mean : ExcName → Option Value} {mg mb : Str → Option Value} {src : Addr} {o : Obj} (ho : SrcO o) : Ctr 12 w mean mg mb 289 [.ref src] [(src, o)] (Drawn w src) := by
  k_extra "X M fill"
  k_dflt (refine' ctr_mkC (binds := [("source", .ref src)]) ?k6 ?k7 ?k9 ?kB ?kD ?c2 ?c3 ?c4 ?_; (case k6 => k_is); (case k7 => k_is); (case k9 => exact fun _ => BindsTo.of_eq rfl); (case kB => exact rfl); (case kD => decide +kernel); (case c2 => exact rfl); (case c3 => exact rfl); (case c4 => exact rfl); intro dp un gd cn snm sig sic smo a9 ccd cl outer base L s g' L' h' tk' cells' F' N' Y' B' X' T' lt' hdp hun; (show (let A9 : Around := _; let Q9 : _ → _ → Prop := _; wpAny _ A9 _ Q9 _ _)); intro A9 Q9; (replace lt' := Keep9.mk lt'))
  obtain ⟨o0, hE', d0⟩ := CellsAre.one Y'
  subst hE'
  clear Y'
  replace d0 : o0.data = Data.cell (some (.ref src)) := d0
  replace F' : Fr g' L' h' (fun _ => none) := F'
  simp only [List.cons_append, List.nil_append] at N'
  replace N' := letFront N'
  k_extra "X M letApp"
  (try k_fold)
  k_steps
  · (try dsimp only)
    refine' End.sub ?pFA ?pNA (Drawn.change _ _ _ _ _ _ _ _ _ _ _ _ _ _ _ _ _ _ _ ?poA ⟨?papA⟩) ?pSA
    (case pFA => k_asm)
    (case pNA => k_asm)
    (case pSA => k_extra "X M pick")
    (case papA => k_extra "X M sep")
    (case poA => with_reducible assumption)
  · obtain ⟨de, td, rfl, hde⟩ := mem3 (a := 4) (by assumption)
    (try dsimp only)
    refine' End.sub ?pFB ?pNB (Drawn.thing _ _ _ _ _ _ _ _ _ _ _ _ _ _ _ _ _ _ _ _ _ _ _ _ _ _ _ _ _ _ _ _ _ _ _ _ _ _ _ _ _ _ _ _ _ _ _ _ _ _ _ _ _ _ _ _ _ _ _ _ _ _ _ ?poB ⟨?papB⟩ ?pokB ?potB KindOf.c (Nat.zero_le _)) ?pSB
    (case pFB => k_asm)
    (case pNB => k_asm)
    (case pSB => k_extra "X M pick")
    (case poB => with_reducible assumption)
    (case papB => k_extra "X M sep")
    (case pokB => with_reducible assumption)
    (case potB => k_extra "X M okt")
  · obtain ⟨de, td, rfl, hde⟩ := mem3 (a := 4) (by assumption)
    obtain ⟨r, tr, rfl, hr⟩ := memRole (by assumption)
    (rename List.length _ = _ => hkl9)
    (rename _ = (3 : Int) => hw9)
    subst hw9
    (try dsimp only)
    refine' End.sub ?pFC ?pNC (Drawn.thing _ _ _ _ _ _ _ _ _ _ _ _ _ _ _ _ _ _ _ _ _ _ _ _ _ _ _ _ _ _ _ _ _ _ _ _ _ _ _ _ _ _ _ _ _ _ _ _ _ _ _ _ _ _ _ _ _ _ _ _ _ _ _ ?poC ⟨?papC⟩ ?pokC ?potC (KindOf.r3 _ _ _ _ _ _ hr (Nat.le_trans (byteArr_le9 hkl9 (by with_reducible assumption)) (by decide))) (byteArr_le9 hkl9 (by with_reducible assumption))) ?pSC
    (case pFC => k_asm)
    (case pNC => k_asm)
    (case pSC => k_extra "X M pick")
    (case poC => with_reducible assumption)
    (case papC => k_extra "X M sep")
    (case pokC => with_reducible assumption)
    (case potC => k_extra "X M okt")
  · obtain ⟨de, td, rfl, hde⟩ := mem3 (a := 4) (by assumption)
    obtain ⟨r, tr, rfl, hr⟩ := memRole (by assumption)
    (rename _ ≠ (3 : Int) => hw3)
    (have hw9 := way_two (h3 := hw3) (by with_reducible assumption) (by with_reducible assumption) (by with_reducible assumption) (by with_reducible assumption))
    subst hw9
    (try dsimp only)
    refine' End.sub ?pFD ?pND (Drawn.thing _ _ _ _ _ _ _ _ _ _ _ _ _ _ _ _ _ _ _ _ _ _ _ _ _ _ _ _ _ _ _ _ _ _ _ _ _ _ _ _ _ _ _ _ _ _ _ _ _ _ _ _ _ _ _ _ _ _ _ _ _ _ _ ?poD ⟨?papD⟩ ?pokD ?potD (KindOf.r2 _ _ _ _ _ hr) (Nat.zero_le _)) ?pSD
    (case pFD => k_asm)
    (case pND => k_asm)
    (case pSD => k_extra "X M pick")
    (case poD => with_reducible assumption)
    (case papD => k_extra "X M sep")
    (case pokD => with_reducible assumption)
    (case potD => k_extra "X M okt")
end
section
set_option maxRecDepth 100000 in
set_option maxHeartbeats 8000000 in
theorem new_exc51 {w : World} {mean : ExcName → Option Value} {mg mb : Str → Option Value} {v : Value}
    {dp un : Nat} {gd : Option (List Code)} {cn : Str} {snm : List (Str × NameKind)} {sig sic : Bool} {smo : List (Str × Const)} {a : Addr} {ccd : Value} {cl : List (Str × Addr)} {outer : List Env} {A₀ : Around} {base h₀ : Heap} {L : Addr} {m : Str → Option Value} {s : Shared} {Q E : Value → Shared → Prop} {news : Led}
    (B : Below A₀ base outer h₀) (F : Fr h₀ L s.heap m) (X : (Mine.wr.heap_1 w.params).In h₀) (N : News h₀ L s.heap news) (T : Top Mine.vq (looseW Mine.vq [Str.ofString "KINDS", Str.ofString "Bpdu"]) mean mg mb h₀)
    (hdp : dp + 3 < recursionLimit) (hun : un + 10 * 3 + 100 < cLine)
    (hret : ∀ x t d h' tk', Fr h₀ L h' m → News h₀ L h' ((x, excO 51 (.ref t) (some d)) :: news) → Q (.ref x) { s with heap := h', toks := tk' }) :
    wpAny (model PySem.Challenge.rw_pb0549_01.row.prog w) (ktrTop dp un gd cn (fscope snm sig sic smo) L a ccd cl outer) (call (.ref 51) [v]) Q E s := by
  k_extra "X M fill"
  k_dflt (refine' exc_make (fI := 35) ?k1 ?k2 ?k3 ?k4 ?k5 ?k6 ?_; (case k1 => exact F); (case k2 => exact X); (case k3 => exact N); (case k4 => k_is); (case k5 => k_is); (case k6 => k_is); intro x' t0 h' F' N' hne)
  refine wpAny_call ?_
  k_dflt (refine' code_def ?k1 ?k2 ?k3 ?k4 ?k5 ?kA ?kF ?kK ?k6 ?k7 ?k8 ?k9 ?kB ?_ ?c2 ?c3 ?c4 ?c5; (case kA => exact rfl); (case kF => exact rfl); (case kK => exact rfl); (case k1 => exact B); (case k2 => exact F'); (case k3 => exact X); (case k4 => exact N'); (case k5 => exact T); (case k6 => k_is); (case k7 => k_is); (case k8 => ktr_room); (case k9 => exact BindsTo.of_eq rfl); (case kB => exact locs rfl); (case c2 => exact rfl); (case c3 => exact rfl); (case c4 => exact rfl); (case c5 => decide); k_whole; intro g' L' h' FG' F' N' B' X' T'; (try dsimp only); (try k_lift B'); (try k_fold))
  k_steps
  refine' hret _ _ _ _ _ ?F ?N
  (case F => k_asm)
  (case N => k_asm)
set_option maxRecDepth 100000 in
set_option maxHeartbeats 8000000 in
theorem new_exc63 {w : World} {mean : ExcName → Option Value} {mg mb : Str → Option Value} {v : Value}
    {dp un : Nat} {gd : Option (List Code)} {cn : Str} {snm : List (Str × NameKind)} {sig sic : Bool} {smo : List (Str × Const)} {a : Addr} {ccd : Value} {cl : List (Str × Addr)} {outer : List Env} {A₀ : Around} {base h₀ : Heap} {L : Addr} {m : Str → Option Value} {s : Shared} {Q E : Value → Shared → Prop} {news : Led}
    (B : Below A₀ base outer h₀) (F : Fr h₀ L s.heap m) (X : (Mine.wr.heap_1 w.params).In h₀) (N : News h₀ L s.heap news) (T : Top Mine.vq (looseW Mine.vq [Str.ofString "KINDS", Str.ofString "Bpdu"]) mean mg mb h₀)
    (hdp : dp + 3 < recursionLimit) (hun : un + 10 * 3 + 100 < cLine)
    (hret : ∀ x t d h' tk', Fr h₀ L h' m → News h₀ L h' ((x, excO 63 (.ref t) (some d)) :: news) → Q (.ref x) { s with heap := h', toks := tk' }) :
    wpAny (model PySem.Challenge.rw_pb0549_01.row.prog w) (ktrTop dp un gd cn (fscope snm sig sic smo) L a ccd cl outer) (call (.ref 63) [v]) Q E s := by
  k_extra "X M fill"
  k_dflt (refine' exc_make (fI := 35) ?k1 ?k2 ?k3 ?k4 ?k5 ?k6 ?_; (case k1 => exact F); (case k2 => exact X); (case k3 => exact N); (case k4 => k_is); (case k5 => k_is); (case k6 => k_is); intro x' t0 h' F' N' hne)
  refine wpAny_call ?_
  k_dflt (refine' code_def ?k1 ?k2 ?k3 ?k4 ?k5 ?kA ?kF ?kK ?k6 ?k7 ?k8 ?k9 ?kB ?_ ?c2 ?c3 ?c4 ?c5; (case kA => exact rfl); (case kF => exact rfl); (case kK => exact rfl); (case k1 => exact B); (case k2 => exact F'); (case k3 => exact X); (case k4 => exact N'); (case k5 => exact T); (case k6 => k_is); (case k7 => k_is); (case k8 => ktr_room); (case k9 => exact BindsTo.of_eq rfl); (case kB => exact locs rfl); (case c2 => exact rfl); (case c3 => exact rfl); (case c4 => exact rfl); (case c5 => decide); k_whole; intro g' L' h' FG' F' N' B' X' T'; (try dsimp only); (try k_lift B'); (try k_fold))
  k_steps
  refine' hret _ _ _ _ _ ?F ?N
  (case F => k_asm)
  (case N => k_asm)
end
theorem kw_9 : True := by
  k_with "X call ref" => (((fail_if_success (fail_if_success (with_reducible show wpAny _ _ (PySem.call (Value.ref 51) [_]) _ _ _))); k_here; k_dflt (refine' new_exc51 ?B_q103 ?F_q103 ?X_q103 ?N_q103 ?T_q103 ?hd_q103 ?hu_q103 ?_; (case B_q103 => k_asm); (case F_q103 => k_asm); (case X_q103 => k_asm); (case N_q103 => k_asm); (case T_q103 => k_asm); (case hd_q103 => first | exact rm1 (by with_reducible assumption) (by decide) | ((dsimp only [ktrTop]); exact rm1 (by with_reducible assumption) (by decide)) | ((dsimp only [ktrTop]); omega) | omega | ktr_room); (case hu_q103 => first | k_extra "X M hu" | ((dsimp only [ktrTop]); omega) | omega | ktr_units)); intro x1 t1 d1 h1 tk1 F1 N1; (try dsimp only)))
  k_with "X call ref" => (((fail_if_success (fail_if_success (with_reducible show wpAny _ _ (PySem.call (Value.ref 63) [_]) _ _ _))); k_here; k_dflt (refine' new_exc63 ?B_q104 ?F_q104 ?X_q104 ?N_q104 ?T_q104 ?hd_q104 ?hu_q104 ?_; (case B_q104 => k_asm); (case F_q104 => k_asm); (case X_q104 => k_asm); (case N_q104 => k_asm); (case T_q104 => k_asm); (case hd_q104 => first | exact rm1 (by with_reducible assumption) (by decide) | ((dsimp only [ktrTop]); exact rm1 (by with_reducible assumption) (by decide)) | ((dsimp only [ktrTop]); omega) | omega | ktr_room); (case hu_q104 => first | k_extra "X M hu" | ((dsimp only [ktrTop]); omega) | omega | ktr_units)); intro x1 t1 d1 h1 tk1 F1 N1; (try dsimp only)))
  trivial
section
theorem kw_10 : True := by
  k_with "X M raise" => (first | (refine' Both.mk ?bad9_q105 ?_; (case bad9_q105 => k_extra "X M bad"); show wpAny _ _ _ _ _ _) | (try show wpAny _ _ _ _ _ _))
  k_with "X M bad" => (k_dflt (rintro ⟨hg1, hg2⟩; first | contradiction | omega))
  trivial
set_option maxRecDepth 100000 in
set_option maxHeartbeats 8000000 in
theorem c_noct {w : World} {mean : ExcName → Option Value} {mg mb : Str → Option Value} {x size : Int} {t ts : Tok} (hs : 1 ≤ size) (hs' : size ≤ 8) :
    CtrX 5 w mean mg mb 150 [.int x t, .int size ts] [] (0 ≤ x ∧ x < 1 * 2 ^ Int.toNat (8 * size)) (PBytes [] (octs size.toNat x)) 63 := by
  k_extra "X M fill"
  k_dflt (refine' ctrX_mkC (binds := [("number", .int x t), ("size", .int size ts)]) ?k6 ?k7 ?k9 ?kB ?kD ?c2 ?c3 ?c4 ?_; (case k6 => k_is); (case k7 => k_is); (case k9 => exact fun _ => BindsTo.of_eq rfl); (case kB => exact rfl); (case kD => decide +kernel); (case c2 => exact rfl); (case c3 => exact rfl); (case c4 => exact rfl); intro dp un gd cn snm sig sic smo a9 ccd cl outer base L s g' L' h' tk' cells' F' N' Y' B' X' T' lt' hdp hun; (show (let A9 : Around := _; let Q9 : _ → _ → Prop := _; let E9 : _ → _ → Prop := _; wpAny _ A9 _ Q9 E9 _)); intro A9 Q9 E9; (replace lt' := Keep9.mk lt'))
  obtain ⟨o0, hE', d0⟩ := CellsAre.one Y'
  subst hE'
  clear Y'
  replace d0 : o0.data = Data.cell (some (.int x t)) := d0
  replace F' : Fr g' L' h' (fun y => if y = "size" then some (.int size ts) else none) := F'
  simp only [List.cons_append, List.nil_append] at N'
  replace N' := letFront N'
  k_extra "X M letApp"
  (try k_fold)
  k_steps
  refine' WSrc.range (n := size.toNat) ?zhh ?zF ?zN ?zhr ?zsm ?zn ?zsz ?zrest
  (case zhh => rfl)
  (case zF => k_asm)
  (case zN => k_asm)
  (case zhr => assumption)
  (case zsm => exact down_small hs hs')
  (case zn => exact down_size hs hs')
  (case zsz => rw [sizeLine_eq]; omega)
  intro g
  refine' cr_same _ (fun i ys => OctsAre ys (octsTo size.toNat x i)) size.toNat trivial ?turn ?fin _ 0 [] (by omega) noct_start
  · intro i ys v I oI C oC D m₂ h tk E' hi hY hP hC hx F N off ne
    obtain ⟨t9', hv9'⟩ := hP
    subst hv9'
    replace off := Keep9.mk off
    obtain ⟨_, _, _⟩ := ne
    k_steps
    (try dsimp only)
    refine' TurnSame.intro ?yF ?yN ?yS ?yY
    (case yF => k_asm)
    (case yN => k_asm)
    (case yS => (try simp only [List.cons_append, List.nil_append]); k_extra "X M pick")
    (case yY => exact noct_turn hi hY)
  intro ys hks
  have hkl := octsTo_length size.toNat x size.toNat
  k_steps
  (try dsimp only)
  refine' Both.mk ?hg (End.sub ?pF ?pN (PBytes.mk _ _ (KBa.ints_make (octsTo_in _ _ _))) Pick.nil)
  (case pF => k_asm)
  (case pN => k_asm)
  (case hg => exact ⟨by assumption, by assumption⟩)
end
theorem kw_11 : True := by
  k_with "X M raise" => ((try (show wpAny _ _ _ _ _ _)))
  trivial
section
theorem c_noct2 {w : World} {mean : ExcName → Option Value} {mg mb : Str → Option Value} {x : Int} {t ts : Tok} : CtrX 5 w mean mg mb 150 [.int x t, .int 2 ts] [] (0 ≤ x ∧ x < 65536) (PBytes [] (octs 2 x)) 63 :=
  (by decide : (1 * 2 ^ Int.toNat (8 * 2) : Int) = 65536) ▸ c_noct (size := 2) (by decide) (by decide)
theorem c_noct4 {w : World} {mean : ExcName → Option Value} {mg mb : Str → Option Value} {x : Int} {t ts : Tok} : CtrX 5 w mean mg mb 150 [.int x t, .int 4 ts] [] (0 ≤ x ∧ x < 4294967296) (PBytes [] (octs 4 x)) 63 :=
  (by decide : (1 * 2 ^ Int.toNat (8 * 4) : Int) = 4294967296) ▸ c_noct (size := 4) (by decide) (by decide)
theorem c_noct6 {w : World} {mean : ExcName → Option Value} {mg mb : Str → Option Value} {x : Int} {t ts : Tok} : CtrX 5 w mean mg mb 150 [.int x t, .int 6 ts] [] (0 ≤ x ∧ x < 281474976710656) (PBytes [] (octs 6 x)) 63 :=
  (by decide : (1 * 2 ^ Int.toNat (8 * 6) : Int) = 281474976710656) ▸ c_noct (size := 6) (by decide) (by decide)
end
theorem kw_12 : True := by
  k_with "X call ref" => (((fail_if_success (fail_if_success (with_reducible show wpAny _ _ (PySem.call (Value.ref 150) _) _ _ _))); k_here; k_dflt (refine' CtrX.use (c_noct2 ) ?B_q108 ?F_q108 ?X_q108 ?N_q108 ?P_q108 ?S_q108 ?T_q108 ?hd_q108 ?hu_q108 ?_ ?_; (case B_q108 => k_asm); (case F_q108 => k_asm); (case X_q108 => k_asm); (case N_q108 => k_asm); (case P_q108 => k_extra "X M pick"); (case S_q108 => k_extra "X M sep"); (case T_q108 => k_asm); (case hd_q108 => first | exact rm1 (by with_reducible assumption) (by decide) | ((dsimp only [ktrTop]); exact rm1 (by with_reducible assumption) (by decide)) | ((dsimp only [ktrTop]); omega) | omega | ktr_room); (case hu_q108 => first | k_extra "X M hu" | ((dsimp only [ktrTop]); omega) | omega | ktr_units);  skip) <;> (intro g9; first | ((with_reducible have q9 : ¬ _ := g9); clear q9; intro e9 G9 h9 tk9 F9 R9 U9; (try dsimp only); k_extra "X M raise") | (intro h9 tk9 F9 G9 v9 n9 P9; ((first | refine P9.casesOn ?_ | refine P9.casesOn ?_ ?_) <;> (clear P9; intros; k_extra "X M letApp"; (try show wpAny _ _ _ _ _ _); (try k_sweep); (try dsimp only); (try k_fold)))))))
  k_with "X call ref" => (((fail_if_success (fail_if_success (with_reducible show wpAny _ _ (PySem.call (Value.ref 150) _) _ _ _))); k_here; k_dflt (refine' CtrX.use (c_noct4 ) ?B_q109 ?F_q109 ?X_q109 ?N_q109 ?P_q109 ?S_q109 ?T_q109 ?hd_q109 ?hu_q109 ?_ ?_; (case B_q109 => k_asm); (case F_q109 => k_asm); (case X_q109 => k_asm); (case N_q109 => k_asm); (case P_q109 => k_extra "X M pick"); (case S_q109 => k_extra "X M sep"); (case T_q109 => k_asm); (case hd_q109 => first | exact rm1 (by with_reducible assumption) (by decide) | ((dsimp only [ktrTop]); exact rm1 (by with_reducible assumption) (by decide)) | ((dsimp only [ktrTop]); omega) | omega | ktr_room); (case hu_q109 => first | k_extra "X M hu" | ((dsimp only [ktrTop]); omega) | omega | ktr_units);  skip) <;> (intro g9; first | ((with_reducible have q9 : ¬ _ := g9); clear q9; intro e9 G9 h9 tk9 F9 R9 U9; (try dsimp only); k_extra "X M raise") | (intro h9 tk9 F9 G9 v9 n9 P9; ((first | refine P9.casesOn ?_ | refine P9.casesOn ?_ ?_) <;> (clear P9; intros; k_extra "X M letApp"; (try show wpAny _ _ _ _ _ _); (try k_sweep); (try dsimp only); (try k_fold)))))))
  k_with "X call ref" => (((fail_if_success (fail_if_success (with_reducible show wpAny _ _ (PySem.call (Value.ref 150) _) _ _ _))); k_here; k_dflt (refine' CtrX.use (c_noct6 ) ?B_q110 ?F_q110 ?X_q110 ?N_q110 ?P_q110 ?S_q110 ?T_q110 ?hd_q110 ?hu_q110 ?_ ?_; (case B_q110 => k_asm); (case F_q110 => k_asm); (case X_q110 => k_asm); (case N_q110 => k_asm); (case P_q110 => k_extra "X M pick"); (case S_q110 => k_extra "X M sep"); (case T_q110 => k_asm); (case hd_q110 => first | exact rm1 (by with_reducible assumption) (by decide) | ((dsimp only [ktrTop]); exact rm1 (by with_reducible assumption) (by decide)) | ((dsimp only [ktrTop]); omega) | omega | ktr_room); (case hu_q110 => first | k_extra "X M hu" | ((dsimp only [ktrTop]); omega) | omega | ktr_units);  skip) <;> (intro g9; first | ((with_reducible have q9 : ¬ _ := g9); clear q9; intro e9 G9 h9 tk9 F9 R9 U9; (try dsimp only); k_extra "X M raise") | (intro h9 tk9 F9 G9 v9 n9 P9; ((first | refine P9.casesOn ?_ | refine P9.casesOn ?_ ?_) <;> (clear P9; intros; k_extra "X M letApp"; (try show wpAny _ _ _ _ _ _); (try k_sweep); (try dsimp only); (try k_fold)))))))
  k_with "X M side" => ((with_reducible refine And.intro ?sa9_q111 ?sb9_q111; (case sa9_q111 => k_extra "X M side"); (case sb9_q111 => k_extra "X M side")))
  k_with "X call ref" => (((fail_if_success (fail_if_success (with_reducible show wpAny _ _ (PySem.call (Value.ref 150) _) _ _ _))); k_here; k_dflt (refine' Ctr.useI1 (c_noct2.1 ?s0_q112) ?B_q112 ?F_q112 ?X_q112 ?N_q112 ?P_q112 ?S_q112 ?T_q112 ?hd_q112 ?hu_q112 ?_; (case B_q112 => k_asm); (case F_q112 => k_asm); (case X_q112 => k_asm); (case N_q112 => k_asm); (case P_q112 => k_extra "X M pick"); (case S_q112 => k_extra "X M sep"); (case T_q112 => k_asm); (case hd_q112 => first | exact rm1 (by with_reducible assumption) (by decide) | ((dsimp only [ktrTop]); exact rm1 (by with_reducible assumption) (by decide)) | ((dsimp only [ktrTop]); omega) | omega | ktr_room); (case hu_q112 => first | k_extra "X M hu" | ((dsimp only [ktrTop]); omega) | omega | ktr_units); (case s0_q112 => k_extra "X M side"); skip); intro h9 tk9 F9 G9 v9 n9 P9; ((first | refine P9.casesOn ?_ | refine P9.casesOn ?_ ?_) <;> (clear P9; intros; k_extra "X M letApp"; (try show wpAny _ _ _ _ _ _); (try k_sweep); (try dsimp only); (try k_fold)))))
  k_with "X call ref" => (((fail_if_success (fail_if_success (with_reducible show wpAny _ _ (PySem.call (Value.ref 150) _) _ _ _))); k_here; k_dflt (refine' Ctr.useI1 (c_noct4.1 ?s0_q113) ?B_q113 ?F_q113 ?X_q113 ?N_q113 ?P_q113 ?S_q113 ?T_q113 ?hd_q113 ?hu_q113 ?_; (case B_q113 => k_asm); (case F_q113 => k_asm); (case X_q113 => k_asm); (case N_q113 => k_asm); (case P_q113 => k_extra "X M pick"); (case S_q113 => k_extra "X M sep"); (case T_q113 => k_asm); (case hd_q113 => first | exact rm1 (by with_reducible assumption) (by decide) | ((dsimp only [ktrTop]); exact rm1 (by with_reducible assumption) (by decide)) | ((dsimp only [ktrTop]); omega) | omega | ktr_room); (case hu_q113 => first | k_extra "X M hu" | ((dsimp only [ktrTop]); omega) | omega | ktr_units); (case s0_q113 => k_extra "X M side"); skip); intro h9 tk9 F9 G9 v9 n9 P9; ((first | refine P9.casesOn ?_ | refine P9.casesOn ?_ ?_) <;> (clear P9; intros; k_extra "X M letApp"; (try show wpAny _ _ _ _ _ _); (try k_sweep); (try dsimp only); (try k_fold)))))
  k_with "X call ref" => (((fail_if_success (fail_if_success (with_reducible show wpAny _ _ (PySem.call (Value.ref 150) _) _ _ _))); k_here; k_dflt (refine' Ctr.useI1 (c_noct6.1 ?s0_q114) ?B_q114 ?F_q114 ?X_q114 ?N_q114 ?P_q114 ?S_q114 ?T_q114 ?hd_q114 ?hu_q114 ?_; (case B_q114 => k_asm); (case F_q114 => k_asm); (case X_q114 => k_asm); (case N_q114 => k_asm); (case P_q114 => k_extra "X M pick"); (case S_q114 => k_extra "X M sep"); (case T_q114 => k_asm); (case hd_q114 => first | exact rm1 (by with_reducible assumption) (by decide) | ((dsimp only [ktrTop]); exact rm1 (by with_reducible assumption) (by decide)) | ((dsimp only [ktrTop]); omega) | omega | ktr_room); (case hu_q114 => first | k_extra "X M hu" | ((dsimp only [ktrTop]); omega) | omega | ktr_units); (case s0_q114 => k_extra "X M side"); skip); intro h9 tk9 F9 G9 v9 n9 P9; ((first | refine P9.casesOn ?_ | refine P9.casesOn ?_ ?_) <;> (clear P9; intros; k_extra "X M letApp"; (try show wpAny _ _ _ _ _ _); (try k_sweep); (try dsimp only); (try k_fold)))))
  trivial
section
theorem kw_13 : True := by
  k_with "X M raise" => (first | (refine' Both.mk ?bad9_q115 ?_; (case bad9_q115 => k_extra "X M bad"); show wpAny _ _ _ _ _ _) | (try show wpAny _ _ _ _ _ _))
  k_with "X M bad" => (k_dflt (first | exact fun hz => absurd hz.1 (by with_reducible assumption) | exact fun hz => absurd hz.2 (by with_reducible assumption)))
  trivial
set_option maxRecDepth 100000 in
set_option maxHeartbeats 8000000 in
theorem c_boct {w : World} {mean : ExcName → Option Value} {mg mb : Str → Option Value} {x : Addr} {p q : Int} {t1 t2 : Tok} : CtrX 7 w mean mg mb 164 [.ref x] [(x, tupO [.int p t1, .int q t2])] (okB p q) (PBytes [(x, tupO [.int p t1, .int q t2])] (octs 2 p ++ octs 6 q)) 63 := by
  k_extra "X M fill"
  k_dflt (refine' ctrX_mk (binds := [("bridge", .ref x)]) ?k6 ?k7 ?k9 ?kB ?c2 ?c3 ?c4 ?c5 ?_; (case k6 => k_is); (case k7 => k_is); (case k9 => exact fun _ => BindsTo.of_eq rfl); (case kB => exact locs rfl); (case c2 => exact rfl); (case c3 => exact rfl); (case c4 => exact rfl); (case c5 => decide); intro dp un gd cn snm sig sic smo a9 ccd cl outer base L s g' L' h' tk' F' N' B' X' T' lt' hdp hun; (show (let A9 : Around := _; let Q9 : _ → _ → Prop := _; let E9 : _ → _ → Prop := _; wpAny _ A9 _ Q9 E9 _)); intro A9 Q9 E9; (try dsimp only at F' N'); (replace lt' := Keep9.mk lt'); (replace N' := letFront N'); k_extra "X M letApp"; (try k_fold))
  k_steps
  (try dsimp only)
  refine' Both.mk ?hg (End.sub ?pF ?pN (PBytes.mk _ _ ?pB) ?pS)
  (case pF => k_asm)
  (case pN => k_asm)
  (case pS => k_extra "X M pick")
  (case hg => exact ⟨by with_reducible assumption, by with_reducible assumption⟩)
  (case pB => with_reducible assumption)
end
theorem kw_14 : True := by
  k_with "X M raise" => ((try (show wpAny _ _ _ _ _ _)))
  trivial
section
theorem or_portG {prog : Program} {w : World} {A : Around} {E : Value → Shared → Prop} {s : Shared} {p q : Int} {t u : Tok} {Q : Value → Shared → Prop} (hm : p.fmod 16 = 0) (h0 : 0 ≤ p) (h1 : 0 ≤ q) (h2 : q < 4096) (h : Q (.int (256 * p + q) s.toks) { s with toks := s.toks + 1 }) :
    wpAny (model prog w) A (binaryOp .BitOr (.int (p * 2 ^ Int.toNat 8) t) (.int q u)) Q E s := by
  have e : p = 16 * (p / 16) := by rw [Int.fmod_eq_emod_of_nonneg _ (by decide)] at hm; omega
  have e2 : 4096 * (p / 16) + q = 256 * p + q := by omega
  have key := port_or (pp := p / 16) (by omega) h1 h2
  rw [← e, e2] at key
  exact or_int (by rw [key]; exact h)
theorem kw_15 : True := by
  k_with "X binaryOp BitOr int int" => (((fail_if_success (fail_if_success (with_reducible show wpAny _ _ (binaryOp Operator.BitOr (Value.int (_ * _) _) (Value.int _ _)) _ _ _))); k_here; k_dflt (refine or_portG (by assumption) (by assumption) (by assumption) (by assumption) ?_)))
  trivial
theorem pbG {p q : Int} (h0 : 0 ≤ p) (h1 : p ≤ 240) (h2 : 0 ≤ q) (h3 : q < 4096) : 0 ≤ 256 * p + q ∧ 256 * p + q < 65536 := by omega
theorem kw_16 : True := by
  k_with "X M side" => (first | exact pbG (by with_reducible assumption) (by with_reducible assumption) (by with_reducible assumption) (by with_reducible assumption))
  k_with "X M raise" => (first | (refine' Both.mk ?bad9_q120 ?_; (case bad9_q120 => k_extra "X M bad"); show wpAny _ _ _ _ _ _) | (try show wpAny _ _ _ _ _ _))
  k_with "X M bad" => (k_dflt (rintro ⟨⟨hz1, hz2, hz3⟩, hz4, hz5⟩; first | contradiction | omega))
  trivial
set_option maxRecDepth 100000 in
set_option maxHeartbeats 8000000 in
theorem c_poct {w : World} {mean : ExcName → Option Value} {mg mb : Str → Option Value} {x : Addr} {p q : Int} {t1 t2 : Tok} : CtrX 7 w mean mg mb 171 [.ref x] [(x, tupO [.int p t1, .int q t2])] (okP p q) (PBytes [(x, tupO [.int p t1, .int q t2])] (octs 2 (256 * p + q))) 63 := by
  k_extra "X M fill"
  k_dflt (refine' ctrX_mk (binds := [("port_id", .ref x)]) ?k6 ?k7 ?k9 ?kB ?c2 ?c3 ?c4 ?c5 ?_; (case k6 => k_is); (case k7 => k_is); (case k9 => exact fun _ => BindsTo.of_eq rfl); (case kB => exact locs rfl); (case c2 => exact rfl); (case c3 => exact rfl); (case c4 => exact rfl); (case c5 => decide); intro dp un gd cn snm sig sic smo a9 ccd cl outer base L s g' L' h' tk' F' N' B' X' T' lt' hdp hun; (show (let A9 : Around := _; let Q9 : _ → _ → Prop := _; let E9 : _ → _ → Prop := _; wpAny _ A9 _ Q9 E9 _)); intro A9 Q9 E9; (try dsimp only at F' N'); (replace lt' := Keep9.mk lt'); (replace N' := letFront N'); k_extra "X M letApp"; (try k_fold))
  k_steps
  (try dsimp only)
  refine' Both.mk ?hg (End.sub ?pF ?pN (PBytes.mk _ _ ?pB) ?pS)
  (case pF => k_asm)
  (case pN => k_asm)
  (case pS => k_extra "X M pick")
  (case hg => exact ⟨⟨by with_reducible assumption, by with_reducible assumption, by with_reducible assumption⟩, by with_reducible assumption, by with_reducible assumption⟩)
  (case pB => with_reducible assumption)
end
theorem kw_17 : True := by
  k_with "X M side" => (first | with_reducible assumption | ((with_reducible show List.length _ ≤ _); simp only [List.length_take, List.length_drop]; omega) | omega | exact Nat.le_of_ble_eq_true rfl | exact rfl | trivial)
  k_with "X M side" => (((with_reducible show _ ≠ _); k_extra "X M ne"))
  k_with "X M side" => ((refine' ltSide (by with_reducible assumption) ?ma9_q124; (case ma9_q124 => k_extra "X M mem")))
  k_with "X M side" => (first | exact Keep9.out (by with_reducible assumption) | ((with_reducible show Apart _); k_extra "X M sep"; done))
  k_with "X M raise" => ((try (show wpAny _ _ _ _ _ _)))
  k_with "X M side" => (((with_reducible refine Keep9.mk ?_); first | ((with_reducible show Apart _); k_extra "X M sep"; done) | ((with_reducible show @Ne Nat _ _); k_extra "X M ne")))
  k_with "X M side" => ((with_reducible refine And.intro ?sa9_q128 ?sb9_q128; (case sa9_q128 => k_extra "X M side"); (case sb9_q128 => k_extra "X M side")))
  k_with "X call ref" => (((fail_if_success (fail_if_success (with_reducible show wpAny _ _ (PySem.call (Value.ref 164) _) _ _ _))); k_here; k_dflt (refine' CtrX.use (c_boct ) ?B_q129 ?F_q129 ?X_q129 ?N_q129 ?P_q129 ?S_q129 ?T_q129 ?hd_q129 ?hu_q129 ?_ ?_; (case B_q129 => k_asm); (case F_q129 => k_asm); (case X_q129 => k_asm); (case N_q129 => k_asm); (case P_q129 => k_extra "X M pick"); (case S_q129 => k_extra "X M sep"); (case T_q129 => k_asm); (case hd_q129 => first | exact rm1 (by with_reducible assumption) (by decide) | ((dsimp only [ktrTop]); exact rm1 (by with_reducible assumption) (by decide)) | ((dsimp only [ktrTop]); omega) | omega | ktr_room); (case hu_q129 => first | k_extra "X M hu" | ((dsimp only [ktrTop]); omega) | omega | ktr_units);  skip) <;> (intro g9; first | ((with_reducible have q9 : ¬ _ := g9); clear q9; intro e9 G9 h9 tk9 F9 R9 U9; (try dsimp only); k_extra "X M raise") | (intro h9 tk9 F9 G9 v9 n9 P9; ((first | refine P9.casesOn ?_ | refine P9.casesOn ?_ ?_) <;> (clear P9; intros; k_extra "X M letApp"; (try show wpAny _ _ _ _ _ _); (try k_sweep); (try dsimp only); (try k_fold)))))))
  k_with "X call ref" => (((fail_if_success (fail_if_success (with_reducible show wpAny _ _ (PySem.call (Value.ref 164) _) _ _ _))); k_here; k_dflt (refine' Ctr.useI1 (c_boct.1 ?s0_q130) ?B_q130 ?F_q130 ?X_q130 ?N_q130 ?P_q130 ?S_q130 ?T_q130 ?hd_q130 ?hu_q130 ?_; (case B_q130 => k_asm); (case F_q130 => k_asm); (case X_q130 => k_asm); (case N_q130 => k_asm); (case P_q130 => k_extra "X M pick"); (case S_q130 => k_extra "X M sep"); (case T_q130 => k_asm); (case hd_q130 => first | exact rm1 (by with_reducible assumption) (by decide) | ((dsimp only [ktrTop]); exact rm1 (by with_reducible assumption) (by decide)) | ((dsimp only [ktrTop]); omega) | omega | ktr_room); (case hu_q130 => first | k_extra "X M hu" | ((dsimp only [ktrTop]); omega) | omega | ktr_units); (case s0_q130 => k_extra "X M side"); skip); intro h9 tk9 F9 G9 v9 n9 P9; ((first | refine P9.casesOn ?_ | refine P9.casesOn ?_ ?_) <;> (clear P9; intros; k_extra "X M letApp"; (try show wpAny _ _ _ _ _ _); (try k_sweep); (try dsimp only); (try k_fold)))))
  k_with "X call ref" => (((fail_if_success (fail_if_success (with_reducible show wpAny _ _ (PySem.call (Value.ref 171) _) _ _ _))); k_here; k_dflt (refine' CtrX.use (c_poct ) ?B_q131 ?F_q131 ?X_q131 ?N_q131 ?P_q131 ?S_q131 ?T_q131 ?hd_q131 ?hu_q131 ?_ ?_; (case B_q131 => k_asm); (case F_q131 => k_asm); (case X_q131 => k_asm); (case N_q131 => k_asm); (case P_q131 => k_extra "X M pick"); (case S_q131 => k_extra "X M sep"); (case T_q131 => k_asm); (case hd_q131 => first | exact rm1 (by with_reducible assumption) (by decide) | ((dsimp only [ktrTop]); exact rm1 (by with_reducible assumption) (by decide)) | ((dsimp only [ktrTop]); omega) | omega | ktr_room); (case hu_q131 => first | k_extra "X M hu" | ((dsimp only [ktrTop]); omega) | omega | ktr_units);  skip) <;> (intro g9; first | ((with_reducible have q9 : ¬ _ := g9); clear q9; intro e9 G9 h9 tk9 F9 R9 U9; (try dsimp only); k_extra "X M raise") | (intro h9 tk9 F9 G9 v9 n9 P9; ((first | refine P9.casesOn ?_ | refine P9.casesOn ?_ ?_) <;> (clear P9; intros; k_extra "X M letApp"; (try show wpAny _ _ _ _ _ _); (try k_sweep); (try dsimp only); (try k_fold)))))))
  k_with "X call ref" => (((fail_if_success (fail_if_success (with_reducible show wpAny _ _ (PySem.call (Value.ref 171) _) _ _ _))); k_here; k_dflt (refine' Ctr.useI1 (c_poct.1 ?s0_q132) ?B_q132 ?F_q132 ?X_q132 ?N_q132 ?P_q132 ?S_q132 ?T_q132 ?hd_q132 ?hu_q132 ?_; (case B_q132 => k_asm); (case F_q132 => k_asm); (case X_q132 => k_asm); (case N_q132 => k_asm); (case P_q132 => k_extra "X M pick"); (case S_q132 => k_extra "X M sep"); (case T_q132 => k_asm); (case hd_q132 => first | exact rm1 (by with_reducible assumption) (by decide) | ((dsimp only [ktrTop]); exact rm1 (by with_reducible assumption) (by decide)) | ((dsimp only [ktrTop]); omega) | omega | ktr_room); (case hu_q132 => first | k_extra "X M hu" | ((dsimp only [ktrTop]); omega) | omega | ktr_units); (case s0_q132 => k_extra "X M side"); skip); intro h9 tk9 F9 G9 v9 n9 P9; ((first | refine P9.casesOn ?_ | refine P9.casesOn ?_ ?_) <;> (clear P9; intros; k_extra "X M letApp"; (try show wpAny _ _ _ _ _ _); (try k_sweep); (try dsimp only); (try k_fold)))))
  trivial
section
theorem kw_18 : True := by
  k_with "X M raise" => (first | (refine' Both.mk ?bad9_q133 ?_; (case bad9_q133 => k_extra "X M bad"); show wpAny _ _ _ _ _ _) | (try show wpAny _ _ _ _ _ _))
  k_with "X M bad" => (k_dflt (first | exact fun hz => absurd hz.1 (by with_reducible assumption) | exact fun hz => absurd hz.2.1 (by with_reducible assumption) | exact fun hz => absurd hz.2.2.1 (by with_reducible assumption) | exact fun hz => absurd hz.2.2.2 (by with_reducible assumption)))
  trivial
set_option maxRecDepth 100000 in
set_option maxHeartbeats 8000000 in
theorem c_voct {w : World} {mean : ExcName → Option Value} {mg mb : Str → Option Value} {xv xr xn xp : Addr} {rp rm co np nm pr pn : Int} {i1 i2 i3 i4 i5 i6 i7 : Tok} (ha : Keep9 (Apart [xv, xr, xn, xp])) :
    CtrX 9 w mean mg mb 178 [.ref xv] [(xv, tupO [.ref xr, .int co i3, .ref xn, .ref xp]), (xr, tupO [.int rp i1, .int rm i2]), (xn, tupO [.int np i4, .int nm i5]), (xp, tupO [.int pr i6, .int pn i7])] (okVecG rp rm co np nm pr pn)
      (PBytes [(xv, tupO [.ref xr, .int co i3, .ref xn, .ref xp]), (xr, tupO [.int rp i1, .int rm i2]), (xn, tupO [.int np i4, .int nm i5]), (xp, tupO [.int pr i6, .int pn i7])] (vecG rp rm co np nm pr pn)) 63 := by
  k_extra "X M fill"
  k_dflt (refine' ctrX_mk (binds := [("vector", .ref xv)]) ?k6 ?k7 ?k9 ?kB ?c2 ?c3 ?c4 ?c5 ?_; (case k6 => k_is); (case k7 => k_is); (case k9 => exact fun _ => BindsTo.of_eq rfl); (case kB => exact locs rfl); (case c2 => exact rfl); (case c3 => exact rfl); (case c4 => exact rfl); (case c5 => decide); intro dp un gd cn snm sig sic smo a9 ccd cl outer base L s g' L' h' tk' F' N' B' X' T' lt' hdp hun; (show (let A9 : Around := _; let Q9 : _ → _ → Prop := _; let E9 : _ → _ → Prop := _; wpAny _ A9 _ Q9 E9 _)); intro A9 Q9 E9; (try dsimp only at F' N'); (replace lt' := Keep9.mk lt'); (replace N' := letFront N'); k_extra "X M letApp"; (try k_fold))
  k_steps
  (try dsimp only)
  refine' Both.mk ?hg (End.sub ?pF ?pN (PBytes.mk _ _ ?pB) ?pS)
  (case pF => k_asm)
  (case pN => k_asm)
  (case pS => k_extra "X M pick")
  (case hg => exact ⟨by with_reducible assumption, by with_reducible assumption, by with_reducible assumption, by with_reducible assumption⟩)
  (case pB => unfold vecG; with_reducible assumption)
end
theorem kw_19 : True := by
  k_with "X M raise" => ((try (show wpAny _ _ _ _ _ _)))
  k_with "X call ref" => (((fail_if_success (fail_if_success (with_reducible show wpAny _ _ (PySem.call (Value.ref 178) _) _ _ _))); k_here; k_dflt (refine' CtrX.use (c_voct ?s0_q136) ?B_q136 ?F_q136 ?X_q136 ?N_q136 ?P_q136 ?S_q136 ?T_q136 ?hd_q136 ?hu_q136 ?_ ?_; (case B_q136 => k_asm); (case F_q136 => k_asm); (case X_q136 => k_asm); (case N_q136 => k_asm); (case P_q136 => k_extra "X M pick"); (case S_q136 => k_extra "X M sep"); (case T_q136 => k_asm); (case hd_q136 => first | exact rm1 (by with_reducible assumption) (by decide) | ((dsimp only [ktrTop]); exact rm1 (by with_reducible assumption) (by decide)) | ((dsimp only [ktrTop]); omega) | omega | ktr_room); (case hu_q136 => first | k_extra "X M hu" | ((dsimp only [ktrTop]); omega) | omega | ktr_units); (case s0_q136 => k_extra "X M side"); skip) <;> (intro g9; first | ((with_reducible have q9 : ¬ _ := g9); clear q9; intro e9 G9 h9 tk9 F9 R9 U9; (try dsimp only); k_extra "X M raise") | (intro h9 tk9 F9 G9 v9 n9 P9; ((first | refine P9.casesOn ?_ | refine P9.casesOn ?_ ?_) <;> (clear P9; intros; k_extra "X M letApp"; (try show wpAny _ _ _ _ _ _); (try k_sweep); (try dsimp only); (try k_fold)))))))
  k_with "X call ref" => (((fail_if_success (fail_if_success (with_reducible show wpAny _ _ (PySem.call (Value.ref 178) _) _ _ _))); k_here; k_dflt (refine' Ctr.useI1 (c_voct.1 ?s0_q137 ?s1_q137) ?B_q137 ?F_q137 ?X_q137 ?N_q137 ?P_q137 ?S_q137 ?T_q137 ?hd_q137 ?hu_q137 ?_; (case B_q137 => k_asm); (case F_q137 => k_asm); (case X_q137 => k_asm); (case N_q137 => k_asm); (case P_q137 => k_extra "X M pick"); (case S_q137 => k_extra "X M sep"); (case T_q137 => k_asm); (case hd_q137 => first | exact rm1 (by with_reducible assumption) (by decide) | ((dsimp only [ktrTop]); exact rm1 (by with_reducible assumption) (by decide)) | ((dsimp only [ktrTop]); omega) | omega | ktr_room); (case hu_q137 => first | k_extra "X M hu" | ((dsimp only [ktrTop]); omega) | omega | ktr_units); (case s0_q137 => k_extra "X M side"); (case s1_q137 => k_extra "X M side"); skip); intro h9 tk9 F9 G9 v9 n9 P9; ((first | refine P9.casesOn ?_ | refine P9.casesOn ?_ ?_) <;> (clear P9; intros; k_extra "X M letApp"; (try show wpAny _ _ _ _ _ _); (try k_sweep); (try dsimp only); (try k_fold)))))
  trivial
section
set_option maxRecDepth 100000 in
set_option maxHeartbeats 8000000 in
theorem c_ttold {w : World} {mean : ExcName → Option Value} {mg mb : Str → Option Value} {tm dt : Addr} {j1 j2 j3 j4 h1 h2 h3 h4 : Tok} {ag mx he de : Int} (hd : Keep9 (Apart [tm, dt])) :
    Ctr 4 w mean mg mb 88 [.ref tm] [(tm, instObj 98 dt), (dt, timesO w j1 j2 j3 j4 (.int ag h1) (.int mx h2) (.int he h3) (.int de h4))] (PNew [(tm, instObj 98 dt), (dt, timesO w j1 j2 j3 j4 (.int ag h1) (.int mx h2) (.int he h3) (.int de h4))] (tupO [.int ag h1, .int mx h2, .int he h3, .int de h4])) := by
  k_extra "X M fill"
  k_dflt (refine' ctr_mk (binds := [("self", .ref tm)]) ?k6 ?k7 ?k9 ?kB ?c2 ?c3 ?c4 ?c5 ?_; (case k6 => k_is); (case k7 => k_is); (case k9 => exact fun _ => BindsTo.of_eq rfl); (case kB => exact locs rfl); (case c2 => exact rfl); (case c3 => exact rfl); (case c4 => exact rfl); (case c5 => decide); intro dp un gd cn snm sig sic smo a9 ccd cl outer base L s g' L' h' tk' F' N' B' X' T' lt' hdp hun; (show (let A9 : Around := _; let Q9 : _ → _ → Prop := _; wpAny _ A9 _ Q9 _ _)); intro A9 Q9; (try dsimp only at F' N'); (replace lt' := Keep9.mk lt'); (replace N' := letFront N'); k_extra "X M letApp"; (try k_fold))
  k_steps
  (try dsimp only)
  refine' End.sub ?pF ?pN (PNew.mk _ ⟨?pA⟩) ?pS
  (case pF => k_asm)
  (case pN => k_asm)
  (case pS => k_extra "X M pick")
  (case pA => k_extra "X M sep")
end
theorem kw_20 : True := by
  k_with "X call ref" => (((fail_if_success (fail_if_success (with_reducible show wpAny _ _ (PySem.call (Value.ref 88) _) _ _ _))); k_here; k_dflt (refine' Ctr.useI1 (c_ttold ?s0_q138) ?B_q138 ?F_q138 ?X_q138 ?N_q138 ?P_q138 ?S_q138 ?T_q138 ?hd_q138 ?hu_q138 ?_; (case B_q138 => k_asm); (case F_q138 => k_asm); (case X_q138 => k_asm); (case N_q138 => k_asm); (case P_q138 => k_extra "X M pick"); (case S_q138 => k_extra "X M sep"); (case T_q138 => k_asm); (case hd_q138 => first | exact rm1 (by with_reducible assumption) (by decide) | ((dsimp only [ktrTop]); exact rm1 (by with_reducible assumption) (by decide)) | ((dsimp only [ktrTop]); omega) | omega | ktr_room); (case hu_q138 => first | k_extra "X M hu" | ((dsimp only [ktrTop]); omega) | omega | ktr_units); (case s0_q138 => k_extra "X M side"); skip); intro h9 tk9 F9 G9 v9 n9 P9; ((first | refine P9.casesOn ?_ | refine P9.casesOn ?_ ?_) <;> (clear P9; intros; ((with_reducible rename News _ _ _ _ => N9); (try simp only [List.cons_append, List.nil_append] at N9)); (try show wpAny _ _ _ _ _ _); (try k_sweep); (try dsimp only); (try k_fold)))))
  trivial
section
theorem kw_21 : True := by
  k_with "X M letCons" => (skip)
  k_with "X M letApp" => (((with_reducible rename News _ _ _ _ => nw9); (try simp only [List.cons_append, List.nil_append, List.append_nil] at nw9)))
  trivial
set_option maxRecDepth 100000 in
set_option maxHeartbeats 8000000 in
theorem c_toct {w : World} {mean : ExcName → Option Value} {mg mb : Str → Option Value} {tm dt : Addr} {j1 j2 j3 j4 h1 h2 h3 h4 : Tok} {ag mx he de : Int} (hd : Keep9 (Apart [tm, dt])) (ok : okT ag mx he de) :
    Ctr 8 w mean mg mb 185 [.ref tm] [(tm, instObj 98 dt), (dt, timesO w j1 j2 j3 j4 (.int ag h1) (.int mx h2) (.int he h3) (.int de h4))] (PBytes [(tm, instObj 98 dt), (dt, timesO w j1 j2 j3 j4 (.int ag h1) (.int mx h2) (.int he h3) (.int de h4))] (timO ag mx he de)) := by
  k_extra "X M fill"
  k_dflt (refine' ctr_mk (binds := [("times", .ref tm)]) ?k6 ?k7 ?k9 ?kB ?c2 ?c3 ?c4 ?c5 ?_; (case k6 => k_is); (case k7 => k_is); (case k9 => exact fun _ => BindsTo.of_eq rfl); (case kB => exact locs rfl); (case c2 => exact rfl); (case c3 => exact rfl); (case c4 => exact rfl); (case c5 => decide); intro dp un gd cn snm sig sic smo a9 ccd cl outer base L s g' L' h' tk' F' N' B' X' T' lt' hdp hun; (show (let A9 : Around := _; let Q9 : _ → _ → Prop := _; wpAny _ A9 _ Q9 _ _)); intro A9 Q9; (try dsimp only at F' N'); (replace lt' := Keep9.mk lt'); (replace N' := letFront N'); k_extra "X M letApp"; (try k_fold))
  obtain ⟨⟨a8, b8⟩, ⟨a9, b9⟩, ⟨a10, b10⟩, ⟨a11, b11⟩⟩ := ok
  k_steps
  (try dsimp only)
  refine' End.sub ?pF ?pN (PBytes.of ?pB ?pC) ?pS
  (case pF => k_asm)
  (case pN => k_asm)
  (case pS => k_extra "X M pick")
  (case pB => with_reducible assumption)
  (case pC => exact rfl)
end
theorem kw_22 : True := by
  k_with "X M letApp" => (((repeat ((with_reducible rename News _ _ _ _ => nw9); with_reducible refine letApp nw9 ?_; clear nw9; intro e9 nw9)); (try ((with_reducible rename News _ _ _ _ => nw9); with_reducible refine letNil nw9 ?_; clear nw9; intro n9 nw9))))
  k_with "X M letCons" => (((with_reducible rename News _ _ _ _ => nw9); with_reducible refine letCons nw9 ?_; clear nw9; intro e9 n9 nw9))
  k_with "X call ref" => (((fail_if_success (fail_if_success (with_reducible show wpAny _ _ (PySem.call (Value.ref 185) _) _ _ _))); k_here; k_dflt (refine' Ctr.useI1 (c_toct ?s0_q143 ?s1_q143) ?B_q143 ?F_q143 ?X_q143 ?N_q143 ?P_q143 ?S_q143 ?T_q143 ?hd_q143 ?hu_q143 ?_; (case B_q143 => k_asm); (case F_q143 => k_asm); (case X_q143 => k_asm); (case N_q143 => k_asm); (case P_q143 => k_extra "X M pick"); (case S_q143 => k_extra "X M sep"); (case T_q143 => k_asm); (case hd_q143 => first | exact rm1 (by with_reducible assumption) (by decide) | ((dsimp only [ktrTop]); exact rm1 (by with_reducible assumption) (by decide)) | ((dsimp only [ktrTop]); omega) | omega | ktr_room); (case hu_q143 => first | k_extra "X M hu" | ((dsimp only [ktrTop]); omega) | omega | ktr_units); (case s0_q143 => k_extra "X M side"); (case s1_q143 => k_extra "X M side"); skip); intro h9 tk9 F9 G9 v9 n9 P9; ((first | refine P9.casesOn ?_ | refine P9.casesOn ?_ ?_) <;> (clear P9; intros; k_extra "X M letApp"; (try show wpAny _ _ _ _ _ _); (try k_sweep); (try dsimp only); (try k_fold)))))
  trivial
section
set_option maxRecDepth 100000 in
set_option maxHeartbeats 8000000 in
theorem c_flags {w : World} {mean : ExcName → Option Value} {mg mb : Str → Option Value} {x dx xv tm : Addr} {k1 k2 k3 k4 k5 k6 k7 k8 k9 k10 k11 k12 tv tk tr tt : Tok} {kd : Str} {ver code : Int} {f0 f1 f2 f3 f4 f5 : Bool} {r : Nat} {tail : Array UInt8} {rest : List Int} (hd : Keep9 (Apart [x, dx])) (hk : KindOf kd ver code f2 f3 f4 f5 r tail rest) :
    Ctr 4 w mean mg mb 124 [.ref x] [(x, instObj 134 dx), (dx, bpduO w k1 k2 k3 k4 k5 k6 k7 k8 k9 k10 k11 k12 (.int ver tv) (.str kd tk) (.ref xv) (.ref tm) (.bool f0) (.bool f1) (.bool f2) (.bool f3) (.str (roleN r) tr) (.bool f4) (.bool f5) (.bytes tail tt))] (PInt [(x, instObj 134 dx), (dx, bpduO w k1 k2 k3 k4 k5 k6 k7 k8 k9 k10 k11 k12 (.int ver tv) (.str kd tk) (.ref xv) (.ref tm) (.bool f0) (.bool f1) (.bool f2) (.bool f3) (.str (roleN r) tr) (.bool f4) (.bool f5) (.bytes tail tt))] (flR f0 f1 f2 f3 f4 f5 r)) := by
  have hr := hk.r4
  k_extra "X M fill"
  k_dflt (refine' ctr_mk (binds := [("self", .ref x)]) ?k6 ?k7 ?k9 ?kB ?c2 ?c3 ?c4 ?c5 ?_; (case k6 => k_is); (case k7 => k_is); (case k9 => exact fun _ => BindsTo.of_eq rfl); (case kB => exact locs rfl); (case c2 => exact rfl); (case c3 => exact rfl); (case c4 => exact rfl); (case c5 => decide); intro dp un gd cn snm sig sic smo a9 ccd cl outer base L s g' L' h' tk' F' N' B' X' T' lt' hdp hun; (show (let A9 : Around := _; let Q9 : _ → _ → Prop := _; wpAny _ A9 _ Q9 _ _)); intro A9 Q9; (try dsimp only at F' N'); (replace lt' := Keep9.mk lt'); (replace N' := letFront N'); k_extra "X M letApp"; (try k_fold))
  repeat' ((fail_if_success (with_reducible show wpAny _ _ (compareOp CmpOp.NotEq (Value.str _ _) (Value.str _ _)) _ _ _)); (first | (k_unfold; (try dsimp only)) | walk1 | (dsimp only; walk1)); (all_goals (try k_fold)))
  k_dflt (refine ne_kd ?_ ?_) <;> intro hkd
  · k_steps
    (try dsimp only)
    refine' End.sub ?pF ?pN (PInt.mk _) ?pS
    (case pF => k_asm)
    (case pN => k_asm)
    (case pS => k_extra "X M pick")
  · k_steps
    (try dsimp only)
    refine' End.sub ?qF ?qN (PInt.of (hk.flC hkd) _) ?qS
    (case qF => k_asm)
    (case qN => k_asm)
    (case qS => k_extra "X M pick")
end
theorem kw_23 : True := by
  k_with "X call ref" => (((fail_if_success (fail_if_success (with_reducible show wpAny _ _ (PySem.call (Value.ref 124) _) _ _ _))); k_here; k_dflt (refine' Ctr.useI1 (c_flags ?s0_q144 ?s1_q144) ?B_q144 ?F_q144 ?X_q144 ?N_q144 ?P_q144 ?S_q144 ?T_q144 ?hd_q144 ?hu_q144 ?_; (case B_q144 => k_asm); (case F_q144 => k_asm); (case X_q144 => k_asm); (case N_q144 => k_asm); (case P_q144 => k_extra "X M pick"); (case S_q144 => k_extra "X M sep"); (case T_q144 => k_asm); (case hd_q144 => first | exact rm1 (by with_reducible assumption) (by decide) | ((dsimp only [ktrTop]); exact rm1 (by with_reducible assumption) (by decide)) | ((dsimp only [ktrTop]); omega) | omega | ktr_room); (case hu_q144 => first | k_extra "X M hu" | ((dsimp only [ktrTop]); omega) | omega | ktr_units); (case s0_q144 => k_extra "X M side"); (case s1_q144 => k_extra "X M side"); skip); intro h9 tk9 F9 G9 v9 n9 P9; ((first | refine P9.casesOn ?_ | refine P9.casesOn ?_ ?_) <;> (clear P9; intros; k_extra "X M letApp"; (try show wpAny _ _ _ _ _ _); (try k_sweep); (try dsimp only); (try k_fold)))))
  trivial
section
theorem kw_24 : True := by
  k_with "X binaryOp Add ref ref" => ((k_here; k_dflt (first | (refine' add_tup1 ?aF_q145 ?aN_q145 ?aa_q145 ?ab_q145 ?av_q145 ?az_q145 ?_; (case aF_q145 => k_asm); (case aN_q145 => k_asm); (case aa_q145 => k_extra "X M mem"); (case ab_q145 => k_extra "X M mem"); (case av_q145 => exact List.cons_ne_nil _ _); (case az_q145 => exact Nat.le_of_ble_eq_true rfl)) | (refine' add_tup ?aF_q145 ?aN_q145 ?aa_q145 ?ab_q145 ?av_q145 ?aw_q145 ?az_q145 ?ae_q145 ?_; (case aF_q145 => k_asm); (case aN_q145 => k_asm); (case aa_q145 => k_extra "X M mem"); (case ab_q145 => k_extra "X M mem"); (case av_q145 => exact List.cons_ne_nil _ _); (case aw_q145 => exact List.cons_ne_nil _ _); (case az_q145 => exact Nat.le_of_ble_eq_true rfl); (case ae_q145 => kl_lit); intro D' h' F' N' l1'; (try k_lt l1'); (try k_sweep); (try dsimp only)))))
  trivial
inductive PTold (ver : Int) (tv : Tok) (kd : Str) (tk : Tok) (xv : Addr) (ag mx he de : Int) (h1 h2 h3 h4 : Tok) (fl : Int) (tail : Array UInt8) (tt : Tok) (front : Led) : Value → Led → Prop
  | mk (y z : Addr) (t : Tok) : Keep9 (Apart [y, z]) → PTold ver tv kd tk xv ag mx he de h1 h2 h3 h4 fl tail tt front (.ref y) ((y, tupO [.int ver tv, .str kd tk, .ref xv, .ref z, .int fl t, .bytes tail tt]) :: (z, tupO [.int ag h1, .int mx h2, .int he h3, .int de h4]) :: front)
set_option maxRecDepth 100000 in
set_option maxHeartbeats 8000000 in
theorem c_toldA {w : World} {mean : ExcName → Option Value} {mg mb : Str → Option Value} {x dx : Addr} {k1 k2 k3 k4 k5 k6 k7 k8 k9 k10 k11 k12 tv tk tr tt : Tok} (hd : Keep9 (Apart [x, dx])) :
    Ctr 6 w mean mg mb 131 [.ref x] [(x, instObj 134 dx), (dx, bpduO w k1 k2 k3 k4 k5 k6 k7 k8 k9 k10 k11 k12 (.int 0 tv) (.str "change" tk) .none .none (.bool false) (.bool false) (.bool false) (.bool false) (.str "none" tr) (.bool false) (.bool false) (.bytes #[] tt))] (PNew [(x, instObj 134 dx), (dx, bpduO w k1 k2 k3 k4 k5 k6 k7 k8 k9 k10 k11 k12 (.int 0 tv) (.str "change" tk) .none .none (.bool false) (.bool false) (.bool false) (.bool false) (.str "none" tr) (.bool false) (.bool false) (.bytes #[] tt))] (tupO [.int 0 tv, .str "change" tk, .none, .none])) := by
  k_extra "X M fill"
  k_dflt (refine' ctr_mk (binds := [("self", .ref x)]) ?k6 ?k7 ?k9 ?kB ?c2 ?c3 ?c4 ?c5 ?_; (case k6 => k_is); (case k7 => k_is); (case k9 => exact fun _ => BindsTo.of_eq rfl); (case kB => exact locs rfl); (case c2 => exact rfl); (case c3 => exact rfl); (case c4 => exact rfl); (case c5 => decide); intro dp un gd cn snm sig sic smo a9 ccd cl outer base L s g' L' h' tk' F' N' B' X' T' lt' hdp hun; (show (let A9 : Around := _; let Q9 : _ → _ → Prop := _; wpAny _ A9 _ Q9 _ _)); intro A9 Q9; (try dsimp only at F' N'); (replace lt' := Keep9.mk lt'); (replace N' := letFront N'); k_extra "X M letApp"; (try k_fold))
  k_steps
  (try dsimp only)
  refine' End.sub ?pF ?pN (PNew.mk _ ⟨?pA⟩) ?pS
  (case pF => k_asm)
  (case pN => k_asm)
  (case pS => k_extra "X M pick")
  (case pA => k_extra "X M sep")
theorem kw_25 : True := by
  k_with "X compareOp NotEq str str" => ((k_here; k_dflt (refine ne_strs_ne (by with_reducible assumption) ?_)))
  trivial
set_option maxRecDepth 100000 in
set_option maxHeartbeats 8000000 in
theorem c_told {w : World} {mean : ExcName → Option Value} {mg mb : Str → Option Value} {x dx xv tm dt : Addr} {k1 k2 k3 k4 k5 k6 k7 k8 k9 k10 k11 k12 tv tk tr tt : Tok} {kd : Str} {ver code : Int} {f0 f1 f2 f3 f4 f5 : Bool} {r : Nat} {tail : Array UInt8} {rest : List Int} {j1 j2 j3 j4 h1 h2 h3 h4 : Tok} {ag mx he de : Int} (hd : Keep9 (Apart [x, dx, tm, dt])) (hk : KindOf kd ver code f2 f3 f4 f5 r tail rest) :
    Ctr 6 w mean mg mb 131 [.ref x] [(x, instObj 134 dx), (dx, bpduO w k1 k2 k3 k4 k5 k6 k7 k8 k9 k10 k11 k12 (.int ver tv) (.str kd tk) (.ref xv) (.ref tm) (.bool f0) (.bool f1) (.bool f2) (.bool f3) (.str (roleN r) tr) (.bool f4) (.bool f5) (.bytes tail tt)), (tm, instObj 98 dt), (dt, timesO w j1 j2 j3 j4 (.int ag h1) (.int mx h2) (.int he h3) (.int de h4))] (PTold ver tv kd tk xv ag mx he de h1 h2 h3 h4 (flR f0 f1 f2 f3 f4 f5 r) tail tt [(x, instObj 134 dx), (dx, bpduO w k1 k2 k3 k4 k5 k6 k7 k8 k9 k10 k11 k12 (.int ver tv) (.str kd tk) (.ref xv) (.ref tm) (.bool f0) (.bool f1) (.bool f2) (.bool f3) (.str (roleN r) tr) (.bool f4) (.bool f5) (.bytes tail tt)), (tm, instObj 98 dt), (dt, timesO w j1 j2 j3 j4 (.int ag h1) (.int mx h2) (.int he h3) (.int de h4))]) := by
  have hn := hk.nch
  k_extra "X M fill"
  k_dflt (refine' ctr_mk (binds := [("self", .ref x)]) ?k6 ?k7 ?k9 ?kB ?c2 ?c3 ?c4 ?c5 ?_; (case k6 => k_is); (case k7 => k_is); (case k9 => exact fun _ => BindsTo.of_eq rfl); (case kB => exact locs rfl); (case c2 => exact rfl); (case c3 => exact rfl); (case c4 => exact rfl); (case c5 => decide); intro dp un gd cn snm sig sic smo a9 ccd cl outer base L s g' L' h' tk' F' N' B' X' T' lt' hdp hun; (show (let A9 : Around := _; let Q9 : _ → _ → Prop := _; wpAny _ A9 _ Q9 _ _)); intro A9 Q9; (try dsimp only at F' N'); (replace lt' := Keep9.mk lt'); (replace N' := letFront N'); k_extra "X M letApp"; (try k_fold))
  k_steps
  (try dsimp only)
  refine' End.sub ?pF ?pN (PTold.mk _ _ _ ⟨?pA⟩) ?pS
  (case pF => k_asm)
  (case pN => k_asm)
  (case pS => k_extra "X M pick")
  (case pA => k_extra "X M sep")
end
theorem kw_26 : True := by
  k_with "X binaryOp Add ref ref" => (((fail_if_success (fail_if_success (with_reducible show wpAny _ _ (binaryOp Operator.Add (Value.ref _) (Value.ref _)) _ _ _))); k_here; k_dflt (refine' add_octs ?oF_q147 ?oN_q147 ?oa_q147 ?ob_q147 ?ox_q147 ?oy_q147 ?oz_q147 ?_; (case oF_q147 => k_asm); (case oN_q147 => k_asm); (case oa_q147 => k_extra "X M del"); (case ob_q147 => k_extra "X M del"); (case ox_q147 => k_extra "X M octs"); (case oy_q147 => k_extra "X M octs"); (case oz_q147 => k_extra "X M osz")); intro D' zs' h' F' N' l1' o9'; (try k_lt l1'); (try k_sweep); (try dsimp only); (try k_fold)))
  k_with "X call ref" => (((fail_if_success (fail_if_success (with_reducible show wpAny _ _ (PySem.call (Value.ref 131) _) _ _ _))); k_here; k_dflt (refine' Ctr.useI1 (c_toldA ?s0_q148) ?B_q148 ?F_q148 ?X_q148 ?N_q148 ?P_q148 ?S_q148 ?T_q148 ?hd_q148 ?hu_q148 ?_; (case B_q148 => k_asm); (case F_q148 => k_asm); (case X_q148 => k_asm); (case N_q148 => k_asm); (case P_q148 => k_extra "X M pick"); (case S_q148 => k_extra "X M sep"); (case T_q148 => k_asm); (case hd_q148 => first | exact rm1 (by with_reducible assumption) (by decide) | ((dsimp only [ktrTop]); exact rm1 (by with_reducible assumption) (by decide)) | ((dsimp only [ktrTop]); omega) | omega | ktr_room); (case hu_q148 => first | k_extra "X M hu" | ((dsimp only [ktrTop]); omega) | omega | ktr_units); (case s0_q148 => k_extra "X M side"); skip); intro h9 tk9 F9 G9 v9 n9 P9; ((first | refine P9.casesOn ?_ | refine P9.casesOn ?_ ?_) <;> (clear P9; intros; k_extra "X M letApp"; (try show wpAny _ _ _ _ _ _); (try k_sweep); (try dsimp only); (try k_fold)))))
  k_with "X call ref" => (((fail_if_success (fail_if_success (with_reducible show wpAny _ _ (PySem.call (Value.ref 131) _) _ _ _))); k_here; k_dflt (refine' Ctr.useI1 (c_told ?s0_q149 ?s1_q149) ?B_q149 ?F_q149 ?X_q149 ?N_q149 ?P_q149 ?S_q149 ?T_q149 ?hd_q149 ?hu_q149 ?_; (case B_q149 => k_asm); (case F_q149 => k_asm); (case X_q149 => k_asm); (case N_q149 => k_asm); (case P_q149 => k_extra "X M pick"); (case S_q149 => k_extra "X M sep"); (case T_q149 => k_asm); (case hd_q149 => first | exact rm1 (by with_reducible assumption) (by decide) | ((dsimp only [ktrTop]); exact rm1 (by with_reducible assumption) (by decide)) | ((dsimp only [ktrTop]); omega) | omega | ktr_room); (case hu_q149 => first | k_extra "X M hu" | ((dsimp only [ktrTop]); omega) | omega | ktr_units); (case s0_q149 => k_extra "X M side"); (case s1_q149 => k_extra "X M side"); skip); intro h9 tk9 F9 G9 v9 n9 P9; ((first | refine P9.casesOn ?_ | refine P9.casesOn ?_ ?_) <;> (clear P9; intros; k_extra "X M letApp"; (try show wpAny _ _ _ _ _ _); (try k_sweep); (try dsimp only); (try k_fold)))))
  trivial
section
theorem kw_27 : True := by
  k_with "X compareOp Eq str str" => ((k_here; k_dflt (first | refine eq_strs_ne (by with_reducible assumption) ?_ | refine eq_strs_same ?_)))
  trivial
set_option maxRecDepth 100000 in
set_option maxHeartbeats 8000000 in
theorem c_packA {w : World} {mean : ExcName → Option Value} {mg mb : Str → Option Value} {x dx : Addr} {k1 k2 k3 k4 k5 k6 k7 k8 k9 k10 k11 k12 tv tk tr tt : Tok} (hd : Keep9 (Apart [x, dx])) : Ctr 12 w mean mg mb 192 [.ref x] [(x, instObj 134 dx), (dx, bpduO w k1 k2 k3 k4 k5 k6 k7 k8 k9 k10 k11 k12 (.int 0 tv) (.str "change" tk) .none .none (.bool false) (.bool false) (.bool false) (.bool false) (.str "none" tr) (.bool false) (.bool false) (.bytes #[] tt))] (PBytes [(x, instObj 134 dx), (dx, bpduO w k1 k2 k3 k4 k5 k6 k7 k8 k9 k10 k11 k12 (.int 0 tv) (.str "change" tk) .none .none (.bool false) (.bool false) (.bool false) (.bool false) (.str "none" tr) (.bool false) (.bool false) (.bytes #[] tt))] [0, 0, 0, 128]) := by
  k_extra "X M fill"
  k_dflt (refine' ctr_mk (binds := [("bpdu", .ref x)]) ?k6 ?k7 ?k9 ?kB ?c2 ?c3 ?c4 ?c5 ?_; (case k6 => k_is); (case k7 => k_is); (case k9 => exact fun _ => BindsTo.of_eq rfl); (case kB => exact locs rfl); (case c2 => exact rfl); (case c3 => exact rfl); (case c4 => exact rfl); (case c5 => decide); intro dp un gd cn snm sig sic smo a9 ccd cl outer base L s g' L' h' tk' F' N' B' X' T' lt' hdp hun; (show (let A9 : Around := _; let Q9 : _ → _ → Prop := _; wpAny _ A9 _ Q9 _ _)); intro A9 Q9; (try dsimp only at F' N'); (replace lt' := Keep9.mk lt'); (replace N' := letFront N'); k_extra "X M letApp"; (try k_fold))
  k_steps
  (try dsimp only)
  refine' End.sub ?pF ?pN (PBytes.of ?pB packA_w) ?pS
  (case pF => k_asm)
  (case pN => k_asm)
  (case pS => k_extra "X M pick")
  (case pB => assumption)
set_option maxRecDepth 100000 in
set_option maxHeartbeats 8000000 in
theorem c_pack {w : World} {mean : ExcName → Option Value} {mg mb : Str → Option Value} {x dx xv xr xn xp tm dt : Addr} {k1 k2 k3 k4 k5 k6 k7 k8 k9 k10 k11 k12 j1 j2 j3 j4 i1 i2 i3 i4 i5 i6 i7 h1 h2 h3 h4 tv tk tr tt : Tok} {rp rm co np nm pp pn ag mx he de : Int} {kd : Str} {ver code : Int} {f0 f1 f2 f3 f4 f5 : Bool} {r : Nat} {tail : Array UInt8} {rest : List Int} (hd : Keep9 (Apart [x, dx, xv, xr, xn, xp, tm, dt])) (ok : okVec rp rm co np nm pp pn) (okt : okT ag mx he de) (hk : KindOf kd ver code f2 f3 f4 f5 r tail rest) :
    Ctr 12 w mean mg mb 192 [.ref x] [(x, instObj 134 dx), (dx, bpduO w k1 k2 k3 k4 k5 k6 k7 k8 k9 k10 k11 k12 (.int ver tv) (.str kd tk) (.ref xv) (.ref tm) (.bool f0) (.bool f1) (.bool f2) (.bool f3) (.str (roleN r) tr) (.bool f4) (.bool f5) (.bytes tail tt)), (xv, tupO [.ref xr, .int co i3, .ref xn, .ref xp]), (xr, tupO [.int rp i1, .int rm i2]), (xn, tupO [.int np i4, .int nm i5]), (xp, tupO [.int (16 * pp) i6, .int pn i7]), (tm, instObj 98 dt), (dt, timesO w j1 j2 j3 j4 (.int ag h1) (.int mx h2) (.int he h3) (.int de h4))] (PBytes [(x, instObj 134 dx), (dx, bpduO w k1 k2 k3 k4 k5 k6 k7 k8 k9 k10 k11 k12 (.int ver tv) (.str kd tk) (.ref xv) (.ref tm) (.bool f0) (.bool f1) (.bool f2) (.bool f3) (.str (roleN r) tr) (.bool f4) (.bool f5) (.bytes tail tt)), (xv, tupO [.ref xr, .int co i3, .ref xn, .ref xp]), (xr, tupO [.int rp i1, .int rm i2]), (xn, tupO [.int np i4, .int nm i5]), (xp, tupO [.int (16 * pp) i6, .int pn i7]), (tm, instObj 98 dt), (dt, timesO w j1 j2 j3 j4 (.int ag h1) (.int mx h2) (.int he h3) (.int de h4))] (wire ver code (flR f0 f1 f2 f3 f4 f5 r) (vecO rp rm co np nm pp pn) [ag, 0, mx, 0, he, 0, de, 0] rest)) := by
  have hn := hk.nch
  have hr := hk.r4
  have okg := ok.g
  obtain ⟨⟨hv0, hv1⟩, hc0, hc1⟩ := hk.bd
  obtain ⟨tl, htl, htl2⟩ := hk.tl
  k_extra "X M fill"
  k_dflt (refine' ctr_mk (binds := [("bpdu", .ref x)]) ?k6 ?k7 ?k9 ?kB ?c2 ?c3 ?c4 ?c5 ?_; (case k6 => k_is); (case k7 => k_is); (case k9 => exact fun _ => BindsTo.of_eq rfl); (case kB => exact locs rfl); (case c2 => exact rfl); (case c3 => exact rfl); (case c4 => exact rfl); (case c5 => decide); intro dp un gd cn snm sig sic smo a9 ccd cl outer base L s g' L' h' tk' F' N' B' X' T' lt' hdp hun; (show (let A9 : Around := _; let Q9 : _ → _ → Prop := _; wpAny _ A9 _ Q9 _ _)); intro A9 Q9; (try dsimp only at F' N'); (replace lt' := Keep9.mk lt'); (replace N' := letFront N'); k_extra "X M letApp"; (try k_fold))
  repeat' ((fail_if_success (with_reducible show wpAny _ _ (eval (Expr.Subscript (Expr.Name "KINDS" _) _ _) _) _ _ _)); (first | (k_unfold; (try dsimp only)) | walk1 | (dsimp only; walk1)); (all_goals (try k_fold)))
  k_dflt (refine' cut_int (c := code) ?kF1 ?kN1 ?k11 ?_)
  (case kF1 => k_asm)
  (case kN1 => k_asm)
  (case k11 => (intro cm9; (repeat' ((fail_if_success (with_reducible show wpAny _ _ (subscriptTail _ _ _ (Value.str _ _)) _ _ _)); (first | (k_unfold; (try dsimp only)) | walk1 | (dsimp only; walk1)); (all_goals (try k_fold)))); (rcases hk.cases2 with ⟨hkd, hco, _⟩ | ⟨hkd, hco, _⟩) <;> (rw [hkd]; (repeat' ((first | (k_unfold; (try dsimp only)) | walk1 | (dsimp only; walk1)); (all_goals (try k_fold)))); (try dsimp only); refine' CutInt.introE ?yE1 ?yF1 ?yN1 ?yS1; (case yE1 => exact hco.symm); (case yF1 => k_asm); (case yN1 => k_asm); (case yS1 => k_extra "X M pick"))))
  intro t9 h9 tk9 F9 N9
  (try k_sweep)
  (try dsimp only)
  (try k_fold)
  repeat' ((fail_if_success (with_reducible show wpAny _ _ (compareOp CmpOp.Eq (Value.str _ _) (Value.str _ _)) _ _ _)); (first | (k_unfold; (try dsimp only)) | walk1 | (dsimp only; walk1)); (all_goals (try k_fold)))
  (try k_unfold)
  (try dsimp only)
  k_dflt (refine eq_strs_ne hn ?_)
  (try dsimp only)
  (try k_fold)
  repeat' ((fail_if_success (with_reducible show wpAny _ _ (compareOp CmpOp.Eq (Value.str _ _) (Value.str _ _)) _ _ _)); (first | (k_unfold; (try dsimp only)) | walk1 | (dsimp only; walk1)); (all_goals (try k_fold)))
  (try k_unfold)
  (try dsimp only)
  k_dflt (refine eq_kd ?_ ?_) <;> intro hkd
  · k_steps
    (try dsimp only)
    refine' End.sub ?pF ?pN (PBytes.of ?pB (pack_c hk hkd okt)) ?pS
    (case pF => k_asm)
    (case pN => k_asm)
    (case pS => k_extra "X M pick")
    (case pB => with_reducible assumption)
  · k_steps
    · (try dsimp only)
      refine' End.sub ?qF ?qN (PBytes.of ?qB (pack_r2 hk hkd (by with_reducible assumption) okt)) ?qS
      (case qF => k_asm)
      (case qN => k_asm)
      (case qS => k_extra "X M pick")
      (case qB => with_reducible assumption)
    · (try dsimp only)
      refine' End.sub ?rF ?rN (PBytes.of ?rB (pack_r3 hk hkd (by with_reducible assumption) htl okt)) ?rS
      (case rF => k_asm)
      (case rN => k_asm)
      (case rS => k_extra "X M pick")
      (case rB => with_reducible assumption)
end
theorem kw_28 : True := by
  k_with "X call ref" => (((fail_if_success (fail_if_success (with_reducible show wpAny _ _ (PySem.call (Value.ref 192) _) _ _ _))); k_here; k_dflt (refine' Ctr.useI1 (c_packA ?s0_q151) ?B_q151 ?F_q151 ?X_q151 ?N_q151 ?P_q151 ?S_q151 ?T_q151 ?hd_q151 ?hu_q151 ?_; (case B_q151 => k_asm); (case F_q151 => k_asm); (case X_q151 => k_asm); (case N_q151 => k_asm); (case P_q151 => k_extra "X M pick"); (case S_q151 => k_extra "X M sep"); (case T_q151 => k_asm); (case hd_q151 => first | exact rm1 (by with_reducible assumption) (by decide) | ((dsimp only [ktrTop]); exact rm1 (by with_reducible assumption) (by decide)) | ((dsimp only [ktrTop]); omega) | omega | ktr_room); (case hu_q151 => first | k_extra "X M hu" | ((dsimp only [ktrTop]); omega) | omega | ktr_units); (case s0_q151 => k_extra "X M side"); skip); intro h9 tk9 F9 G9 v9 n9 P9; ((first | refine P9.casesOn ?_ | refine P9.casesOn ?_ ?_) <;> (clear P9; intros; k_extra "X M letApp"; (try show wpAny _ _ _ _ _ _); (try k_sweep); (try dsimp only); (try k_fold)))))
  k_with "X call ref" => (((fail_if_success (fail_if_success (with_reducible show wpAny _ _ (PySem.call (Value.ref 192) _) _ _ _))); k_here; k_dflt (refine' Ctr.useI1 (c_pack ?s0_q152 ?s1_q152 ?s2_q152 ?s3_q152) ?B_q152 ?F_q152 ?X_q152 ?N_q152 ?P_q152 ?S_q152 ?T_q152 ?hd_q152 ?hu_q152 ?_; (case B_q152 => k_asm); (case F_q152 => k_asm); (case X_q152 => k_asm); (case N_q152 => k_asm); (case P_q152 => k_extra "X M pick"); (case S_q152 => k_extra "X M sep"); (case T_q152 => k_asm); (case hd_q152 => first | exact rm1 (by with_reducible assumption) (by decide) | ((dsimp only [ktrTop]); exact rm1 (by with_reducible assumption) (by decide)) | ((dsimp only [ktrTop]); omega) | omega | ktr_room); (case hu_q152 => first | k_extra "X M hu" | ((dsimp only [ktrTop]); omega) | omega | ktr_units); (case s0_q152 => k_extra "X M side"); (case s1_q152 => k_extra "X M side"); (case s2_q152 => k_extra "X M side"); (case s3_q152 => k_extra "X M side"); skip); intro h9 tk9 F9 G9 v9 n9 P9; ((first | refine P9.casesOn ?_ | refine P9.casesOn ?_ ?_) <;> (clear P9; intros; k_extra "X M letApp"; (try show wpAny _ _ _ _ _ _); (try k_sweep); (try dsimp only); (try k_fold)))))
  trivial
section
set_option maxRecDepth 100000 in
set_option maxHeartbeats 2000000 in
theorem c_loct {w : World} {mean : ExcName → Option Value} {mg mb : Str → Option Value} {x size : Int} {t ts : Tok} (h0 : 0 ≤ x) (hs : 1 ≤ size) (hs' : size ≤ 8) :
    Ctr 4 w mean mg mb 265 [.int x t, .int size ts] [] (POcts [] (octs size.toNat x)) := by
  k_extra "X M fill"
  k_dflt (refine' ctr_mkC (binds := [("number", .int x t), ("size", .int size ts)]) ?k6 ?k7 ?k9 ?kB ?kD ?c2 ?c3 ?c4 ?_; (case k6 => k_is); (case k7 => k_is); (case k9 => exact fun _ => BindsTo.of_eq rfl); (case kB => exact rfl); (case kD => decide +kernel); (case c2 => exact rfl); (case c3 => exact rfl); (case c4 => exact rfl); intro dp un gd cn snm sig sic smo a9 ccd cl outer base L s g' L' h' tk' cells' F' N' Y' B' X' T' lt' hdp hun; (show (let A9 : Around := _; let Q9 : _ → _ → Prop := _; wpAny _ A9 _ Q9 _ _)); intro A9 Q9; (replace lt' := Keep9.mk lt'))
  obtain ⟨o0, o1, hE', d0, d1⟩ := CellsAre.two Y'
  subst hE'
  clear Y'
  replace d0 : o0.data = Data.cell (some (.int size ts)) := d0
  replace d1 : o1.data = Data.cell (some (.int x t)) := d1
  replace F' : Fr g' L' h' (fun _ => none) := F'
  simp only [List.cons_append, List.nil_append] at N'
  replace N' := letFront N'
  k_extra "X M letApp"
  (try k_fold)
  k_steps
  refine' WSrc.range (n := size.toNat) ?zhh ?zF ?zN ?zhr ?zsm ?zn ?zsz ?zrest
  (case zhh => rfl)
  (case zF => k_asm)
  (case zN => k_asm)
  (case zhr => assumption)
  (case zsm => exact up_small hs hs')
  (case zn => exact up_size hs hs')
  (case zsz => rw [sizeLine_eq]; omega)
  intro g
  refine' cr_same _ (fun i ys => OctsAre ys (octsTo size.toNat x i)) size.toNat trivial ?turn ?fin _ 0 [] (by omega) noct_start
  · intro i ys v I oI C oC D m₂ h tk E' hi hY hP hC hx F N off ne
    obtain ⟨t9', hv9'⟩ := hP
    subst hv9'
    replace off := Keep9.mk off
    obtain ⟨_, _, _⟩ := ne
    k_steps
    (try dsimp only)
    refine' TurnSame.intro ?yF ?yN ?yS ?yY
    (case yF => k_asm)
    (case yN => k_asm)
    (case yS => (try simp only [List.cons_append, List.nil_append]); k_extra "X M pick")
    (case yY => exact loct_turn hi hY)
  intro ys hks
  have hkl := octsTo_length size.toNat x size.toNat
  k_steps
  (try dsimp only)
  refine' End.sub ?pF ?pN (POcts.mk _ _ _ hks ⟨List.forall_mem_nil _⟩) ?pS
  (case pF => k_asm)
  (case pN => k_asm)
  (case pS => k_extra "X M pick")
end
theorem kw_29 : True := by
  k_with "X call ref" => (((fail_if_success (fail_if_success (with_reducible show wpAny _ _ (PySem.call (Value.ref 265) _) _ _ _))); k_here; k_dflt (refine' Ctr.useI1 (c_loct ?s0_q153 ?s1_q153 ?s2_q153) ?B_q153 ?F_q153 ?X_q153 ?N_q153 ?P_q153 ?S_q153 ?T_q153 ?hd_q153 ?hu_q153 ?_; (case B_q153 => k_asm); (case F_q153 => k_asm); (case X_q153 => k_asm); (case N_q153 => k_asm); (case P_q153 => k_extra "X M pick"); (case S_q153 => k_extra "X M sep"); (case T_q153 => k_asm); (case hd_q153 => first | exact rm1 (by with_reducible assumption) (by decide) | ((dsimp only [ktrTop]); exact rm1 (by with_reducible assumption) (by decide)) | ((dsimp only [ktrTop]); omega) | omega | ktr_room); (case hu_q153 => first | k_extra "X M hu" | ((dsimp only [ktrTop]); omega) | omega | ktr_units); (case s0_q153 => k_extra "X M side"); (case s1_q153 => k_extra "X M side"); (case s2_q153 => k_extra "X M side"); skip); intro h9 tk9 F9 G9 v9 n9 P9; ((first | refine P9.casesOn ?_ | refine P9.casesOn ?_ ?_) <;> (clear P9; intros; k_extra "X M letApp"; (try show wpAny _ _ _ _ _ _); (try k_sweep); (try dsimp only); (try k_fold)))))
  trivial
section
theorem kw_30 : True := by
  k_with "X eval ListComp" => (((fail_if_success (fail_if_success (with_reducible show wpAny _ _ (eval (Expr.ListComp _ [⟨Expr.Tuple [Expr.Name "place" _, Expr.Name "flag" _] _ _, _, [], 0⟩] _ _) _) _ _ _))); k_here; k_dflt (refine ListComp_E (F₀ := by k_asm) (by with_unfolding_all rfl) (by decide) (by rfl) (by decide) (by rfl) (by rfl) (by decide) ?_)))
  k_with "X M bl" => (first | exact BL.nil | (refine' BL.cons ?bl9_q155; (case bl9_q155 => k_extra "X M bl")))
  k_with "X M flag" => (((try dsimp only); refine' TurnSame.intro ?yF_q156 ?yN_q156 ?yS_q156 ?yY_q156; (case yF_q156 => k_asm); (case yN_q156 => k_asm); (case yS_q156 => (try simp only [List.cons_append, List.nil_append]); k_extra "X M pick"); (case yY_q156 => exact flag_turn (by assumption) (by assumption))))
  k_with "X call type:enumerate" => (((fail_if_success (fail_if_success (with_reducible show wpAny _ _ (PySem.call (Value.type "enumerate") [Value.ref _]) _ _ _))); k_here; k_dflt (refine' enum_flags ?eh_q157 ?eF_q157 ?eN_q157 ?em_q157 ?eb_q157 ?ez_q157 ?eS_q157 ?et_q157 ?_; (case eh_q157 => rfl); (case eF_q157 => k_asm); (case eN_q157 => k_asm); (case em_q157 => k_mem); (case eb_q157 => k_extra "X M bl"); (case ez_q157 => exact Nat.le_of_ble_eq_true rfl); (case eS_q157 => exact flag_sum _ _ _ _ _ _)); (case et_q157 => (intro e it off1 hei i ys x9 t oe oit C oC D m₂ h tk E' hx hi hY hC hma hmb F N off2 hCD; (try simp only [List.length_cons, List.length_nil] at hi); k_steps; k_extra "X M flag")); intro ys ks D h tk hY hS hl F N off; (try simp only [List.length_cons, List.length_nil] at hl); (replace off := Keep9.mk off); (try k_sweep); (try dsimp only); (try k_fold)))
  trivial
set_option maxRecDepth 100000 in
set_option maxHeartbeats 8000000 in
theorem c_writtenA {w : World} {mean : ExcName → Option Value} {mg mb : Str → Option Value} {x dx : Addr} {k1 k2 k3 k4 k5 k6 k7 k8 k9 k10 k11 k12 tv tk tr tt : Tok} (hd : Keep9 (Apart [x, dx])) : Ctr 12 w mean mg mb 284 [.ref x] [(x, instObj 134 dx), (dx, bpduO w k1 k2 k3 k4 k5 k6 k7 k8 k9 k10 k11 k12 (.int 0 tv) (.str "change" tk) .none .none (.bool false) (.bool false) (.bool false) (.bool false) (.str "none" tr) (.bool false) (.bool false) (.bytes #[] tt))] (POcts [(x, instObj 134 dx), (dx, bpduO w k1 k2 k3 k4 k5 k6 k7 k8 k9 k10 k11 k12 (.int 0 tv) (.str "change" tk) .none .none (.bool false) (.bool false) (.bool false) (.bool false) (.str "none" tr) (.bool false) (.bool false) (.bytes #[] tt))] [0, 0, 0, 128]) := by
  k_extra "X M fill"
  k_dflt (refine' ctr_mk (binds := [("told", .ref x)]) ?k6 ?k7 ?k9 ?kB ?c2 ?c3 ?c4 ?c5 ?_; (case k6 => k_is); (case k7 => k_is); (case k9 => exact fun _ => BindsTo.of_eq rfl); (case kB => exact locs rfl); (case c2 => exact rfl); (case c3 => exact rfl); (case c4 => exact rfl); (case c5 => decide); intro dp un gd cn snm sig sic smo a9 ccd cl outer base L s g' L' h' tk' F' N' B' X' T' lt' hdp hun; (show (let A9 : Around := _; let Q9 : _ → _ → Prop := _; wpAny _ A9 _ Q9 _ _)); intro A9 Q9; (try dsimp only at F' N'); (replace lt' := Keep9.mk lt'); (replace N' := letFront N'); k_extra "X M letApp"; (try k_fold))
  repeat' ((first | (k_unfold; (try dsimp only)) | ((fail_if_success (with_reducible show wpAny _ _ (eval (Expr.Subscript (Expr.Dict _ _ _) _ _) _) _ _ _)); walk1) | ((fail_if_success (with_reducible show wpAny _ _ (eval (Expr.Subscript (Expr.Dict _ _ _) _ _) _) _ _ _)); dsimp only; walk1)); (all_goals (try k_fold)))
  k_dflt (refine' cut_int (c := 128) ?kF7 ?kN7 ?k17 ?_)
  (case kF7 => k_asm)
  (case kN7 => k_asm)
  (case k17 => (intro cm9; (repeat' ((first | (k_unfold; (try dsimp only)) | walk1 | (dsimp only; walk1)); (all_goals (try k_fold)))); (try dsimp only); refine' CutInt.introE ?yE7 ?yF7 ?yN7 ?yS7; (case yE7 => rfl); (case yF7 => k_asm); (case yN7 => k_asm); (case yS7 => k_extra "X M pick")))
  intro t9 h9 tk9 F9 N9
  (try k_sweep)
  (try dsimp only)
  (try k_fold)
  repeat' ((first | (k_unfold; (try dsimp only)) | walk1 | (dsimp only; walk1)); (all_goals (try k_fold)))
  (try dsimp only)
  refine' End.sub ?FA ?NA (POcts.mk _ _ _ (packA_w ▸ octsA_ok) ⟨?AA⟩) ?SA
  (case FA => k_asm)
  (case NA => k_asm)
  (case SA => k_extra "X M pick")
  (case AA => k_extra "X M sep")
set_option maxRecDepth 100000 in
set_option maxHeartbeats 8000000 in
theorem c_written {w : World} {mean : ExcName → Option Value} {mg mb : Str → Option Value} {x dx xv xr xn xp tm dt : Addr} {k1 k2 k3 k4 k5 k6 k7 k8 k9 k10 k11 k12 j1 j2 j3 j4 i1 i2 i3 i4 i5 i6 i7 h1 h2 h3 h4 tv tk tr tt : Tok} {rp rm co np nm pp pn ag mx he de : Int} {kd : Str} {ver code : Int} {f0 f1 f2 f3 f4 f5 : Bool} {r : Nat} {tail : Array UInt8} {rest : List Int} (hd : Keep9 (Apart [x, dx, xv, xr, xn, xp, tm, dt])) (ok : okVec rp rm co np nm pp pn) (okt : okT ag mx he de) (hk : KindOf kd ver code f2 f3 f4 f5 r tail rest) :
    Ctr 12 w mean mg mb 284 [.ref x] [(x, instObj 134 dx), (dx, bpduO w k1 k2 k3 k4 k5 k6 k7 k8 k9 k10 k11 k12 (.int ver tv) (.str kd tk) (.ref xv) (.ref tm) (.bool f0) (.bool f1) (.bool f2) (.bool f3) (.str (roleN r) tr) (.bool f4) (.bool f5) (.bytes tail tt)), (xv, tupO [.ref xr, .int co i3, .ref xn, .ref xp]), (xr, tupO [.int rp i1, .int rm i2]), (xn, tupO [.int np i4, .int nm i5]), (xp, tupO [.int (16 * pp) i6, .int pn i7]), (tm, instObj 98 dt), (dt, timesO w j1 j2 j3 j4 (.int ag h1) (.int mx h2) (.int he h3) (.int de h4))] (POcts [(x, instObj 134 dx), (dx, bpduO w k1 k2 k3 k4 k5 k6 k7 k8 k9 k10 k11 k12 (.int ver tv) (.str kd tk) (.ref xv) (.ref tm) (.bool f0) (.bool f1) (.bool f2) (.bool f3) (.str (roleN r) tr) (.bool f4) (.bool f5) (.bytes tail tt)), (xv, tupO [.ref xr, .int co i3, .ref xn, .ref xp]), (xr, tupO [.int rp i1, .int rm i2]), (xn, tupO [.int np i4, .int nm i5]), (xp, tupO [.int (16 * pp) i6, .int pn i7]), (tm, instObj 98 dt), (dt, timesO w j1 j2 j3 j4 (.int ag h1) (.int mx h2) (.int he h3) (.int de h4))] (wire ver code (flR f0 f1 f2 f3 f4 f5 r) (vecO rp rm co np nm pp pn) [ag, 0, mx, 0, he, 0, de, 0] rest)) := by
  have hn := hk.nch
  have hr := hk.r4
  have okg := ok.g
  obtain ⟨⟨hv0, hv1⟩, hc0, hc1⟩ := hk.bd
  obtain ⟨tl, htl, htl2⟩ := hk.tl
  k_extra "X M fill"
  k_dflt (refine' ctr_mk (binds := [("told", .ref x)]) ?k6 ?k7 ?k9 ?kB ?c2 ?c3 ?c4 ?c5 ?_; (case k6 => k_is); (case k7 => k_is); (case k9 => exact fun _ => BindsTo.of_eq rfl); (case kB => exact locs rfl); (case c2 => exact rfl); (case c3 => exact rfl); (case c4 => exact rfl); (case c5 => decide); intro dp un gd cn snm sig sic smo a9 ccd cl outer base L s g' L' h' tk' F' N' B' X' T' lt' hdp hun; (show (let A9 : Around := _; let Q9 : _ → _ → Prop := _; wpAny _ A9 _ Q9 _ _)); intro A9 Q9; (try dsimp only at F' N'); (replace lt' := Keep9.mk lt'); (replace N' := letFront N'); k_extra "X M letApp"; (try k_fold))
  obtain ⟨⟨a8, b8⟩, ⟨a9, b9⟩, ⟨a10, b10⟩, ⟨a11, b11⟩⟩ := okt
  have okw := ok
  obtain ⟨⟨⟨a1, b1⟩, ⟨a2, b2⟩⟩, ⟨a3, b3⟩, ⟨⟨a4, b4⟩, ⟨a5, b5⟩⟩, ⟨a6, b6⟩, ⟨a7, b7⟩⟩ := ok
  repeat' ((first | (k_unfold; (try dsimp only)) | ((fail_if_success (with_reducible show wpAny _ _ (eval (Expr.Subscript (Expr.Dict _ _ _) _ _) _) _ _ _)); walk1) | ((fail_if_success (with_reducible show wpAny _ _ (eval (Expr.Subscript (Expr.Dict _ _ _) _ _) _) _ _ _)); dsimp only; walk1)); (all_goals (try k_fold)))
  k_dflt (refine' cut_int (c := code) ?kF1 ?kN1 ?k11 ?_)
  (case kF1 => k_asm)
  (case kN1 => k_asm)
  (case k11 => (intro cm9; (repeat' ((fail_if_success (with_reducible show wpAny _ _ (subscriptTail _ _ _ (Value.str _ _)) _ _ _)); (first | (k_unfold; (try dsimp only)) | walk1 | (dsimp only; walk1)); (all_goals (try k_fold)))); (rcases hk.cases2 with ⟨hkd, hco, _⟩ | ⟨hkd, hco, _⟩) <;> (rw [hkd]; (repeat' ((first | (k_unfold; (try dsimp only)) | walk1 | (dsimp only; walk1)); (all_goals (try k_fold)))); (try dsimp only); refine' CutInt.introE ?yE1 ?yF1 ?yN1 ?yS1; (case yE1 => exact hco.symm); (case yF1 => k_asm); (case yN1 => k_asm); (case yS1 => k_extra "X M pick"))))
  intro t9 h9 tk9 F9 N9
  (try k_sweep)
  (try dsimp only)
  (try k_fold)
  repeat' ((fail_if_success (with_reducible show wpAny _ _ (compareOp CmpOp.Eq (Value.str _ _) (Value.str _ _)) _ _ _)); (first | (k_unfold; (try dsimp only)) | walk1 | (dsimp only; walk1)); (all_goals (try k_fold)))
  (try k_unfold)
  (try dsimp only)
  k_dflt (refine eq_strs_ne hn ?_)
  (try dsimp only)
  (try k_fold)
  repeat' ((first | (k_unfold; (try dsimp only)) | ((fail_if_success (with_reducible show wpAny _ _ (eval (Expr.Call (Expr.Name "sum" _) _ _ _) _) _ _ _)); walk1) | ((fail_if_success (with_reducible show wpAny _ _ (eval (Expr.Call (Expr.Name "sum" _) _ _ _) _) _ _ _)); dsimp only; walk1)); (all_goals (try k_fold)))
  k_dflt (refine' cut_int1 (c := b2i f0 + 2 * b2i f2 + 16 * b2i f4 + 32 * b2i f5 + 64 * b2i f3 + 128 * b2i f1) ?kF2 ?kN2 ?k12 ?_)
  (case kF2 => k_asm)
  (case kN2 => k_asm)
  (case k12 => (intro cm9; (repeat' ((first | (k_unfold; (try dsimp only)) | walk1 | (dsimp only; walk1)); (all_goals (try k_fold)))); (try dsimp only); refine' CutInt.introE ?yE2 ?yF2 ?yN2 ?yS2; (case yE2 => with_reducible assumption); (case yF2 => k_asm); (case yN2 => k_asm); (case yS2 => k_extra "X M pick")))
  intro t9 h9 tk9 F9 N9
  (try k_sweep)
  (try dsimp only)
  (try k_fold)
  repeat' ((first | (k_unfold; (try dsimp only)) | ((fail_if_success (with_reducible show wpAny _ _ (eval (Expr.Call (Expr.Attribute (Expr.List _ _) "index" _) _ _ _) _) _ _ _)); walk1) | ((fail_if_success (with_reducible show wpAny _ _ (eval (Expr.Call (Expr.Attribute (Expr.List _ _) "index" _) _ _ _) _) _ _ _)); dsimp only; walk1)); (all_goals (try k_fold)))
  k_dflt (refine' cut_int (c := (r : Int)) ?kF3 ?kN3 ?k13 ?_)
  (case kF3 => k_asm)
  (case kN3 => k_asm)
  (case k13 => (intro cm9; (repeat' ((first | (k_unfold; (try dsimp only)) | walk1 | (dsimp only; walk1)); (all_goals (try k_fold)))); (try dsimp only); refine' CutInt.introE ?yE3 ?yF3 ?yN3 ?yS3; (case yE3 => rfl); (case yF3 => k_asm); (case yN3 => k_asm); (case yS3 => k_extra "X M pick")))
  intro t9 h9 tk9 F9 N9
  (try k_sweep)
  (try dsimp only)
  (try k_fold)
  repeat' ((fail_if_success (with_reducible show wpAny _ _ (compareOp CmpOp.Eq (Value.str _ _) (Value.str _ _)) _ _ _)); (first | (k_unfold; (try dsimp only)) | walk1 | (dsimp only; walk1)); (all_goals (try k_fold)))
  (try k_unfold)
  (try dsimp only)
  k_dflt (refine eq_kd ?_ ?_) <;> intro hkd
  · k_steps
    · (rename OctsAre _ (_ ++ (_ ++ tl)) => oz9)
      (try dsimp only)
      refine' End.sub ?FR ?NR (POcts.mk _ _ _ (written_r3 hk hkd (by with_reducible assumption) htl okw oz9) ⟨?AR⟩) ?SR
      (case FR => k_asm)
      (case NR => k_asm)
      (case SR => k_extra "X M pick")
      (case AR => k_extra "X M sep")
    · (rename OctsAre _ (_ ++ []) => oz9)
      (try dsimp only)
      refine' End.sub ?FT ?NT (POcts.mk _ _ _ (written_r2 hk hkd (by with_reducible assumption) okw oz9) ⟨?AT⟩) ?ST
      (case FT => k_asm)
      (case NT => k_asm)
      (case ST => k_extra "X M pick")
      (case AT => k_extra "X M sep")
  · have hv9 := hk.verC hkd
    repeat' ((fail_if_success (with_reducible show wpAny _ _ (compareOp CmpOp.Eq (Value.int _ _) (Value.int _ _)) _ _ _)); (first | (k_unfold; (try dsimp only)) | walk1 | (dsimp only; walk1)); (all_goals (try k_fold)))
    (try k_unfold)
    (try dsimp only)
    k_dflt (refine eq_ints_ne (by omega) ?_)
    (try dsimp only)
    (try k_fold)
    k_steps
    (rename OctsAre _ (_ ++ []) => oz9)
    (try dsimp only)
    refine' End.sub ?FC ?NC (POcts.mk _ _ _ (written_c hk hkd okw oz9) ⟨?AC⟩) ?SC
    (case FC => k_asm)
    (case NC => k_asm)
    (case SC => k_extra "X M pick")
    (case AC => k_extra "X M sep")
end
theorem kw_31 : True := by
  k_with "X eval ListComp" => (((fail_if_success (fail_if_success (with_reducible show wpAny _ _ (eval (Expr.ListComp _ [⟨Expr.Name "place" _, _, [], 0⟩] _ _) _) _ _ _))); k_here; k_dflt (refine ListComp_W (F₀ := by k_asm) (by with_unfolding_all rfl) (by decide) (by rfl) (by decide) (by rfl) ?_)))
  k_with "X eval ListComp" => (((fail_if_success (fail_if_success (with_reducible show wpAny _ _ (eval (Expr.ListComp _ [⟨Expr.Name "at" _, _, [], 0⟩] _ _) _) _ _ _))); k_here; k_dflt (refine ListComp_W (F₀ := by k_asm) (by with_unfolding_all rfl) (by decide) (by rfl) (by decide) (by rfl) ?_)))
  k_with "X call ref" => (((fail_if_success (fail_if_success (with_reducible show wpAny _ _ (PySem.call (Value.ref 284) _) _ _ _))); k_here; k_dflt (refine' Ctr.useI1 (c_writtenA ?s0_q160) ?B_q160 ?F_q160 ?X_q160 ?N_q160 ?P_q160 ?S_q160 ?T_q160 ?hd_q160 ?hu_q160 ?_; (case B_q160 => k_asm); (case F_q160 => k_asm); (case X_q160 => k_asm); (case N_q160 => k_asm); (case P_q160 => k_extra "X M pick"); (case S_q160 => k_extra "X M sep"); (case T_q160 => k_asm); (case hd_q160 => first | exact rm1 (by with_reducible assumption) (by decide) | ((dsimp only [ktrTop]); exact rm1 (by with_reducible assumption) (by decide)) | ((dsimp only [ktrTop]); omega) | omega | ktr_room); (case hu_q160 => first | k_extra "X M hu" | ((dsimp only [ktrTop]); omega) | omega | ktr_units); (case s0_q160 => k_extra "X M side"); skip); intro h9 tk9 F9 G9 v9 n9 P9; ((first | refine P9.casesOn ?_ | refine P9.casesOn ?_ ?_) <;> (clear P9; intros; k_extra "X M letApp"; (try show wpAny _ _ _ _ _ _); (try k_sweep); (try dsimp only); (try k_fold)))))
  k_with "X call ref" => (((fail_if_success (fail_if_success (with_reducible show wpAny _ _ (PySem.call (Value.ref 284) _) _ _ _))); k_here; k_dflt (refine' Ctr.useI1 (c_written ?s0_q161 ?s1_q161 ?s2_q161 ?s3_q161) ?B_q161 ?F_q161 ?X_q161 ?N_q161 ?P_q161 ?S_q161 ?T_q161 ?hd_q161 ?hu_q161 ?_; (case B_q161 => k_asm); (case F_q161 => k_asm); (case X_q161 => k_asm); (case N_q161 => k_asm); (case P_q161 => k_extra "X M pick"); (case S_q161 => k_extra "X M sep"); (case T_q161 => k_asm); (case hd_q161 => first | exact rm1 (by with_reducible assumption) (by decide) | ((dsimp only [ktrTop]); exact rm1 (by with_reducible assumption) (by decide)) | ((dsimp only [ktrTop]); omega) | omega | ktr_room); (case hu_q161 => first | k_extra "X M hu" | ((dsimp only [ktrTop]); omega) | omega | ktr_units); (case s0_q161 => k_extra "X M side"); (case s1_q161 => k_extra "X M side"); (case s2_q161 => k_extra "X M side"); (case s3_q161 => k_extra "X M side"); skip); intro h9 tk9 F9 G9 v9 n9 P9; ((first | refine P9.casesOn ?_ | refine P9.casesOn ?_ ?_) <;> (clear P9; intros; k_extra "X M letApp"; (try show wpAny _ _ _ _ _ _); (try k_sweep); (try dsimp only); (try k_fold)))))
  trivial
section
theorem kw_32 : True := by
  k_with "X M letF" => (skip)
  trivial
set_option maxRecDepth 100000 in
set_option maxHeartbeats 8000000 in
theorem c_onum {w : World} {mean : ExcName → Option Value} {mg mb : Str → Option Value} {b : Array UInt8} {t : Tok} {ks : List Int} (hb : KBw.bInts b = ks) (hl : ks.length ≤ 8) : Ctr 4 w mean mg mb 157 [.bytes b t] [] (PNum ks) := by
  k_extra "X M fill"
  k_dflt (refine' ctr_mk (binds := [("octets", .bytes b t)]) ?k6 ?k7 ?k9 ?kB ?c2 ?c3 ?c4 ?c5 ?_; (case k6 => k_is); (case k7 => k_is); (case k9 => exact fun _ => BindsTo.of_eq rfl); (case kB => exact locs rfl); (case c2 => exact rfl); (case c3 => exact rfl); (case c4 => exact rfl); (case c5 => decide); intro dp un gd cn snm sig sic smo a9 ccd cl outer base L s g' L' h' tk' F' N' B' X' T' lt' hdp hun; (show (let A9 : Around := _; let Q9 : _ → _ → Prop := _; wpAny _ A9 _ Q9 _ _)); intro A9 Q9; (try dsimp only at F' N'); (replace lt' := Keep9.mk lt'); (replace N' := letFront N'); k_extra "X M letApp"; (try k_fold))
  k_with "pyIter bytes" => k_state (fun pre found => found = num pre ∧ KBa.In pre ∧ 0 ≤ found ∧ found < 18446744073709551616) "found"
  k_with "state" => (first | exact onum_start | exact onum_turn (by assumption) (by assumption) (by assumption) (by assumption) (by assumption) (by omega))
  k_steps
  (rename _ = num ks => e9); subst e9
  (try dsimp only)
  refine' End.sub ?pF ?pN (PNum.mk _ _ rfl (by assumption) (by assumption)) Pick.nil
  (case pF => k_asm)
  (case pN => k_asm)
end
theorem kw_33 : True := by
  k_with "X M letF" => (((with_reducible rename Fr _ _ _ _ => fr9); refine letFr fr9 ?_; clear fr9; intro m9 fr9))
  k_with "X call ref" => (((fail_if_success (fail_if_success (with_reducible show wpAny _ _ (PySem.call (Value.ref 157) _) _ _ _))); k_here; k_dflt (refine' Ctr.useI0 (c_onum ?s0_q164 ?s1_q164) ?B_q164 ?F_q164 ?X_q164 ?N_q164 ?P_q164 ?S_q164 ?T_q164 ?hd_q164 ?hu_q164 ?_; (case B_q164 => k_asm); (case F_q164 => k_asm); (case X_q164 => k_asm); (case N_q164 => k_asm); (case P_q164 => k_extra "X M pick"); (case S_q164 => k_extra "X M sep"); (case T_q164 => k_asm); (case hd_q164 => first | exact rm1 (by with_reducible assumption) (by decide) | ((dsimp only [ktrTop]); exact rm1 (by with_reducible assumption) (by decide)) | ((dsimp only [ktrTop]); omega) | omega | ktr_room); (case hu_q164 => first | k_extra "X M hu" | ((dsimp only [ktrTop]); omega) | omega | ktr_units); (case s0_q164 => k_extra "X M side"); (case s1_q164 => k_extra "X M side"); skip); intro h9 tk9 F9 G9 v9 n9 P9; ((first | refine P9.casesOn ?_ | refine P9.casesOn ?_ ?_) <;> (clear P9; intros; k_extra "X M letApp"; (try show wpAny _ _ _ _ _ _); (try k_sweep); (try dsimp only); (try k_fold)))))
  trivial
section
set_option maxRecDepth 100000 in
set_option maxHeartbeats 8000000 in
theorem c_rbridge {w : World} {mean : ExcName → Option Value} {mg mb : Str → Option Value} {b : Array UInt8} {t : Tok} {ks : List Int} (hb : KBw.bInts b = ks) (hl : ks.length ≤ 200) : Ctr 6 w mean mg mb 199 [.bytes b t] [] (PRbr ks) := by
  k_extra "X M fill"
  k_dflt (refine' ctr_mk (binds := [("octets", .bytes b t)]) ?k6 ?k7 ?k9 ?kB ?c2 ?c3 ?c4 ?c5 ?_; (case k6 => k_is); (case k7 => k_is); (case k9 => exact fun _ => BindsTo.of_eq rfl); (case kB => exact locs rfl); (case c2 => exact rfl); (case c3 => exact rfl); (case c4 => exact rfl); (case c5 => decide); intro dp un gd cn snm sig sic smo a9 ccd cl outer base L s g' L' h' tk' F' N' B' X' T' lt' hdp hun; (show (let A9 : Around := _; let Q9 : _ → _ → Prop := _; wpAny _ A9 _ Q9 _ _)); intro A9 Q9; (try dsimp only at F' N'); (replace lt' := Keep9.mk lt'); (replace N' := letFront N'); k_extra "X M letApp"; (try k_fold))
  k_steps
  (try dsimp only)
  refine' End.sub ?pF ?pN (PRbr.mk _ _ _ _ _ ?h1 ?h2) ?pS
  (case pF => k_asm)
  (case pN => k_asm)
  (case pS => k_extra "X M pick")
  all_goals (with_reducible assumption)
end
theorem kw_34 : True := by
  k_with "X call ref" => (((fail_if_success (fail_if_success (with_reducible show wpAny _ _ (PySem.call (Value.ref 199) _) _ _ _))); k_here; k_dflt (refine' Ctr.useI1 (c_rbridge ?s0_q165 ?s1_q165) ?B_q165 ?F_q165 ?X_q165 ?N_q165 ?P_q165 ?S_q165 ?T_q165 ?hd_q165 ?hu_q165 ?_; (case B_q165 => k_asm); (case F_q165 => k_asm); (case X_q165 => k_asm); (case N_q165 => k_asm); (case P_q165 => k_extra "X M pick"); (case S_q165 => k_extra "X M sep"); (case T_q165 => k_asm); (case hd_q165 => first | exact rm1 (by with_reducible assumption) (by decide) | ((dsimp only [ktrTop]); exact rm1 (by with_reducible assumption) (by decide)) | ((dsimp only [ktrTop]); omega) | omega | ktr_room); (case hu_q165 => first | k_extra "X M hu" | ((dsimp only [ktrTop]); omega) | omega | ktr_units); (case s0_q165 => k_extra "X M side"); (case s1_q165 => k_extra "X M side"); skip); intro h9 tk9 F9 G9 v9 n9 P9; ((first | refine P9.casesOn ?_ | refine P9.casesOn ?_ ?_) <;> (clear P9; intros; k_extra "X M letApp"; (try show wpAny _ _ _ _ _ _); (try k_sweep); (try dsimp only); (try k_fold)))))
  trivial
section
theorem kw_35 : True := by
  k_with "X M letCons" => (skip)
  k_with "X M letApp" => (((with_reducible rename News _ _ _ _ => nw9); (try simp only [List.cons_append, List.nil_append, List.append_nil] at nw9)))
  trivial
set_option maxRecDepth 100000 in
set_option maxHeartbeats 8000000 in
theorem c_rport {w : World} {mean : ExcName → Option Value} {mg mb : Str → Option Value} {b : Array UInt8} {t : Tok} {ks : List Int} (hb : KBw.bInts b = ks) (hl : ks.length ≤ 200) : Ctr 6 w mean mg mb 206 [.bytes b t] [] (PRpo ks) := by
  k_extra "X M fill"
  k_dflt (refine' ctr_mk (binds := [("octets", .bytes b t)]) ?k6 ?k7 ?k9 ?kB ?c2 ?c3 ?c4 ?c5 ?_; (case k6 => k_is); (case k7 => k_is); (case k9 => exact fun _ => BindsTo.of_eq rfl); (case kB => exact locs rfl); (case c2 => exact rfl); (case c3 => exact rfl); (case c4 => exact rfl); (case c5 => decide); intro dp un gd cn snm sig sic smo a9 ccd cl outer base L s g' L' h' tk' F' N' B' X' T' lt' hdp hun; (show (let A9 : Around := _; let Q9 : _ → _ → Prop := _; wpAny _ A9 _ Q9 _ _)); intro A9 Q9; (try dsimp only at F' N'); (replace lt' := Keep9.mk lt'); (replace N' := letFront N'); k_extra "X M letApp"; (try k_fold))
  k_steps
  (rename num _ = _ => hn9)
  subst hn9
  (with_reducible rename News _ _ _ _ => N9)
  simp only [sh12, and4095] at N9
  (try dsimp only)
  refine' End.sub ?pF ?pN (PRpo.mk _ _ _ _ _ rfl rfl) ?pS
  (case pF => k_asm)
  (case pN => exact N9)
  (case pS => k_extra "X M pick")
end
theorem kw_36 : True := by
  k_with "X M letApp" => (((repeat ((with_reducible rename News _ _ _ _ => nw9); with_reducible refine letApp nw9 ?_; clear nw9; intro e9 nw9)); (try ((with_reducible rename News _ _ _ _ => nw9); with_reducible refine letNil nw9 ?_; clear nw9; intro n9 nw9))))
  k_with "X M letCons" => (((with_reducible rename News _ _ _ _ => nw9); with_reducible refine letCons nw9 ?_; clear nw9; intro e9 n9 nw9))
  k_with "X call ref" => (((fail_if_success (fail_if_success (with_reducible show wpAny _ _ (PySem.call (Value.ref 206) _) _ _ _))); k_here; k_dflt (refine' Ctr.useI1 (c_rport ?s0_q170 ?s1_q170) ?B_q170 ?F_q170 ?X_q170 ?N_q170 ?P_q170 ?S_q170 ?T_q170 ?hd_q170 ?hu_q170 ?_; (case B_q170 => k_asm); (case F_q170 => k_asm); (case X_q170 => k_asm); (case N_q170 => k_asm); (case P_q170 => k_extra "X M pick"); (case S_q170 => k_extra "X M sep"); (case T_q170 => k_asm); (case hd_q170 => first | exact rm1 (by with_reducible assumption) (by decide) | ((dsimp only [ktrTop]); exact rm1 (by with_reducible assumption) (by decide)) | ((dsimp only [ktrTop]); omega) | omega | ktr_room); (case hu_q170 => first | k_extra "X M hu" | ((dsimp only [ktrTop]); omega) | omega | ktr_units); (case s0_q170 => k_extra "X M side"); (case s1_q170 => k_extra "X M side"); skip); intro h9 tk9 F9 G9 v9 n9 P9; ((first | refine P9.casesOn ?_ | refine P9.casesOn ?_ ?_) <;> (clear P9; intros; k_extra "X M letApp"; (try show wpAny _ _ _ _ _ _); (try k_sweep); (try dsimp only); (try k_fold)))))
  trivial
section
set_option maxRecDepth 100000 in
set_option maxHeartbeats 8000000 in
theorem c_rvec {w : World} {mean : ExcName → Option Value} {mg mb : Str → Option Value} {b : Array UInt8} {t : Tok} {ks : List Int} (hb : KBw.bInts b = ks) (hl : ks.length ≤ 200) : Ctr 8 w mean mg mb 213 [.bytes b t] [] (PRvec ks) := by
  k_extra "X M fill"
  k_dflt (refine' ctr_mk (binds := [("octets", .bytes b t)]) ?k6 ?k7 ?k9 ?kB ?c2 ?c3 ?c4 ?c5 ?_; (case k6 => k_is); (case k7 => k_is); (case k9 => exact fun _ => BindsTo.of_eq rfl); (case kB => exact locs rfl); (case c2 => exact rfl); (case c3 => exact rfl); (case c4 => exact rfl); (case c5 => decide); intro dp un gd cn snm sig sic smo a9 ccd cl outer base L s g' L' h' tk' F' N' B' X' T' lt' hdp hun; (show (let A9 : Around := _; let Q9 : _ → _ → Prop := _; wpAny _ A9 _ Q9 _ _)); intro A9 Q9; (try dsimp only at F' N'); (replace lt' := Keep9.mk lt'); (replace N' := letFront N'); k_extra "X M letApp"; (try k_fold))
  k_steps
  (try dsimp only)
  refine' End.sub ?pF ?pN (PRvec.mk _ _ _ _ _ _ _ _ _ _ _ _ _ _ _ _ _ _ ⟨?h1, ?h2, ?h3, ?h4, ?h5, ?h6, ?h7⟩ ⟨?pA⟩) ?pS
  (case pF => k_asm)
  (case pN => k_asm)
  (case pS => k_extra "X M pick")
  (case pA => k_extra "X M sep")
  all_goals (with_reducible assumption)
end
theorem kw_37 : True := by
  k_with "X call ref" => (((fail_if_success (fail_if_success (with_reducible show wpAny _ _ (PySem.call (Value.ref 213) _) _ _ _))); k_here; k_dflt (refine' Ctr.useI1 (c_rvec ?s0_q171 ?s1_q171) ?B_q171 ?F_q171 ?X_q171 ?N_q171 ?P_q171 ?S_q171 ?T_q171 ?hd_q171 ?hu_q171 ?_; (case B_q171 => k_asm); (case F_q171 => k_asm); (case X_q171 => k_asm); (case N_q171 => k_asm); (case P_q171 => k_extra "X M pick"); (case S_q171 => k_extra "X M sep"); (case T_q171 => k_asm); (case hd_q171 => first | exact rm1 (by with_reducible assumption) (by decide) | ((dsimp only [ktrTop]); exact rm1 (by with_reducible assumption) (by decide)) | ((dsimp only [ktrTop]); omega) | omega | ktr_room); (case hu_q171 => first | k_extra "X M hu" | ((dsimp only [ktrTop]); omega) | omega | ktr_units); (case s0_q171 => k_extra "X M side"); (case s1_q171 => k_extra "X M side"); skip); intro h9 tk9 F9 G9 v9 n9 P9; ((first | refine P9.casesOn ?_ | refine P9.casesOn ?_ ?_) <;> (clear P9; intros; k_extra "X M letApp"; (try show wpAny _ _ _ _ _ _); (try k_sweep); (try dsimp only); (try k_fold)))))
  trivial
section
def TimY (ks : List Int) (i : Nat) (ys : List Value) : Prop := ys.length = i ∧ ∀ j, j < i → ∃ t, ys[j]? = some (.int (num ((ks.drop (2 * j)).take 2) / 256) t)
theorem tim_at {i : Nat} {v : Value} {a b c d : Tok} (hi : i < 4) (h : #[Value.int 0 a, Value.int 2 b, Value.int 4 c, Value.int 6 d][i]? = some v) : ∃ t, v = .int ((2 * i : Nat) : Int) t := by
  match i, hi with
  | 0, _ => exact ⟨a, (Option.some.inj h).symm⟩
  | 1, _ => exact ⟨b, (Option.some.inj h).symm⟩
  | 2, _ => exact ⟨c, (Option.some.inj h).symm⟩
  | 3, _ => exact ⟨d, (Option.some.inj h).symm⟩
theorem seg2 {ks : List Int} {i : Nat} : (ks.drop (min (2 * i) ks.length)).take (clipAt ks.length (((2 * i : Nat) : Int) + 2) - min (2 * i) ks.length) = (ks.drop (2 * i)).take 2 := by
  rw [show (((2 * i : Nat) : Int) + 2) = ((2 * i + 2 : Nat) : Int) from rfl, clipAt_nat]
  by_cases h : 2 * i ≤ ks.length
  · rw [Nat.min_eq_left h]
    by_cases h2 : 2 * i + 2 ≤ ks.length
    · rw [Nat.min_eq_left h2, Nat.add_sub_cancel_left]
    · rw [Nat.min_eq_right (by omega), List.take_of_length_le (by rw [List.length_drop]; omega), List.take_of_length_le (by rw [List.length_drop]; omega)]
  · rw [List.drop_of_length_le (i := 2 * i) (by omega), List.drop_of_length_le (i := min (2 * i) ks.length) (by omega), List.take_nil, List.take_nil]
theorem tim_turn {ks : List Int} {i : Nat} {ys : List Value} {n : Int} {t : Tok} (h : TimY ks i ys) (e : num ((ks.drop (2 * i)).take 2) = n) : TimY ks (i + 1) (ys ++ [.int (n.fdiv (2 ^ Int.toNat 8)) t]) := by
  refine ⟨by rw [List.length_append, h.1]; rfl, fun j hj => ?_⟩
  by_cases q : j < i
  · obtain ⟨t', ht⟩ := h.2 j q
    exact ⟨t', by rw [List.getElem?_append_left (by rw [h.1]; exact q)]; exact ht⟩
  · obtain rfl : j = i := by omega
    refine ⟨t, ?_⟩
    rw [List.getElem?_append_right (by rw [h.1]; exact Nat.le_refl _), h.1, Nat.sub_self, sh8, e]
    rfl
theorem list4 {α : Type} {l : List α} (h : l.length = 4) : ∃ a b c d, l = [a, b, c, d] := by
  match l, h with
  | [a, b, c, d], _ => exact ⟨a, b, c, d, rfl⟩
theorem tim_four {ks : List Int} {ys : List Value} (h : TimY ks 4 ys) : ∃ t1 t2 t3 t4, ys = [.int (num (ks.take 2) / 256) t1, .int (num ((ks.drop 2).take 2) / 256) t2, .int (num ((ks.drop 4).take 2) / 256) t3, .int (num ((ks.drop 6).take 2) / 256) t4] := by
  obtain ⟨hl, h⟩ := h
  obtain ⟨t1, h1⟩ := h 0 (by decide)
  obtain ⟨t2, h2⟩ := h 1 (by decide)
  obtain ⟨t3, h3⟩ := h 2 (by decide)
  obtain ⟨t4, h4⟩ := h 3 (by decide)
  obtain ⟨a, b, c, d, rfl⟩ := list4 hl
  obtain rfl := Option.some.inj h1
  obtain rfl := Option.some.inj h2
  obtain rfl := Option.some.inj h3
  obtain rfl := Option.some.inj h4
  exact ⟨t1, t2, t3, t4, rfl⟩
inductive PRtim (w : World) (ks : List Int) : Value → Led → Prop
  | mk (x dx : Addr) (ag mx he de : Int) (t1 t2 t3 t4 k1 k2 k3 k4 : Tok) : RdU ks ag mx he de → Keep9 (Apart [x, dx]) →
    PRtim w ks (.ref x) [(x, instObj 98 dx), (dx, timesO w k1 k2 k3 k4 (.int ag t1) (.int mx t2) (.int he t3) (.int de t4))]
theorem kw_38 : True := by
  k_with "X M letCons" => (skip)
  k_with "X M letCons2" => (skip)
  k_with "X M letApp" => (((with_reducible rename News _ _ _ _ => nw9); (try simp only [List.cons_append, List.nil_append, List.append_nil] at nw9)))
  trivial
local macro_rules | `(tactic| lcg_src) => `(tactic| k_mem)
set_option maxRecDepth 100000 in
set_option maxHeartbeats 8000000 in
theorem c_rtimes {w : World} {mean : ExcName → Option Value} {mg mb : Str → Option Value} {b : Array UInt8} {t : Tok} {ks : List Int} (hb : KBw.bInts b = ks) (hl : ks.length ≤ 200) : Ctr 8 w mean mg mb 218 [.bytes b t] [] (PRtim w ks) := by
  k_extra "X M fill"
  k_dflt (refine' ctr_mkC (binds := [("octets", .bytes b t)]) ?k6 ?k7 ?k9 ?kB ?kD ?c2 ?c3 ?c4 ?_; (case k6 => k_is); (case k7 => k_is); (case k9 => exact fun _ => BindsTo.of_eq rfl); (case kB => exact rfl); (case kD => decide +kernel); (case c2 => exact rfl); (case c3 => exact rfl); (case c4 => exact rfl); intro dp un gd cn snm sig sic smo a9 ccd cl outer base L s g' L' h' tk' cells' F' N' Y' B' X' T' lt' hdp hun; (show (let A9 : Around := _; let Q9 : _ → _ → Prop := _; wpAny _ A9 _ Q9 _ _)); intro A9 Q9; (replace lt' := Keep9.mk lt'))
  obtain ⟨o0, hE', d0⟩ := CellsAre.one Y'
  subst hE'
  clear Y'
  replace d0 : o0.data = Data.cell (some (.bytes b t)) := d0
  replace F' : Fr g' L' h' (fun _ => none) := F'
  simp only [List.cons_append, List.nil_append] at N'
  replace N' := letFront N'
  k_extra "X M letApp"
  (try k_fold)
  repeat' ((first | (k_unfold; (try dsimp only)) | ((fail_if_success (with_reducible show wpAny _ _ (exec (Stmt.Assign [Expr.Tuple _ _ _] _ _) _) _ _ _)); walk1) | ((fail_if_success (with_reducible show wpAny _ _ (exec (Stmt.Assign [Expr.Tuple _ _ _] _ _) _) _ _ _)); dsimp only; walk1)); (all_goals (try k_fold)))
  refine Assign_Tuple ?_
  repeat' ((first | (k_unfold; (try dsimp only)) | walk1 | (dsimp only; walk1)); (all_goals (try k_fold)))
  (rename News _ _ _ _ => N9)
  refine' WSrc.tuple ?zhh ?zF N9 ?zm ?zsz ?zrest
  (case zhh => rfl)
  (case zF => k_asm)
  (case zm => k_mem)
  (case zsz => exact Nat.le_of_ble_eq_true rfl)
  intro g
  refine' cr_same _ (fun i ys => TimY ks i ys) 4 ?hS ?turn ?fin 4 0 [] rfl ⟨rfl, fun j hj => absurd hj (Nat.not_lt_zero j)⟩
  (case hS => k_mem)
  (case turn =>
    intro i ys v I oI C oC D m₂ h tk E' hi hY hP hC hx F N off ne
    obtain ⟨t9', hv9'⟩ := tim_at hi hP
    subst hv9'
    replace off := Keep9.mk off
    obtain ⟨_, _, _⟩ := ne
    repeat' ((fail_if_success (with_reducible show wpAny _ _ (PySem.call (Value.ref 157) _) _ _ _)); (first | (k_unfold; (try dsimp only)) | walk1 | (dsimp only; walk1)); (all_goals (try k_fold)))
    (with_reducible rename KBw.bInts (KBy.picked b _ _) = _ => hk9)
    replace hk9 := hk9.trans seg2
    k_steps
    (try dsimp only)
    (rename num _ = _ => hn9)
    refine' TurnSame.intro ?yF ?yN ?yS (tim_turn hY hn9)
    (case yF => k_asm)
    (case yN => k_asm)
    (case yS => (try simp only [List.cons_append, List.nil_append]); k_extra "X M pick"))
  intro ys hY
  obtain ⟨t1, t2, t3, t4, hys⟩ := tim_four hY
  subst hys
  repeat' ((first | (k_unfold; (try dsimp only)) | walk1 | (dsimp only; walk1)); (all_goals (try k_fold)))
  (try dsimp only)
  refine' End.sub ?pF ?pN (PRtim.mk _ _ _ _ _ _ _ _ _ _ _ _ _ _ ⟨rfl, rfl, rfl, rfl⟩ ⟨?pA⟩) ?pS
  (case pF => k_asm)
  (case pN => k_asm)
  (case pS => k_extra "X M pick")
  (case pA => k_extra "X M sep")
end
theorem kw_39 : True := by
  k_with "X M letApp" => (((repeat ((with_reducible rename News _ _ _ _ => nw9); with_reducible refine letApp nw9 ?_; clear nw9; intro e9 nw9)); (try ((with_reducible rename News _ _ _ _ => nw9); with_reducible refine letNil nw9 ?_; clear nw9; intro n9 nw9))))
  k_with "X M letCons" => (((with_reducible rename News _ _ _ _ => nw9); with_reducible refine letCons nw9 ?_; clear nw9; intro e9 n9 nw9))
  k_with "X M letCons2" => (((with_reducible rename News _ _ _ _ => nw9); with_reducible refine letCons2 nw9 ?_; clear nw9; intro d9 e9 n9 nw9))
  k_with "X call ref" => (((fail_if_success (fail_if_success (with_reducible show wpAny _ _ (PySem.call (Value.ref 218) _) _ _ _))); k_here; k_dflt (refine' Ctr.useI1 (c_rtimes ?s0_q178 ?s1_q178) ?B_q178 ?F_q178 ?X_q178 ?N_q178 ?P_q178 ?S_q178 ?T_q178 ?hd_q178 ?hu_q178 ?_; (case B_q178 => k_asm); (case F_q178 => k_asm); (case X_q178 => k_asm); (case N_q178 => k_asm); (case P_q178 => k_extra "X M pick"); (case S_q178 => k_extra "X M sep"); (case T_q178 => k_asm); (case hd_q178 => first | exact rm1 (by with_reducible assumption) (by decide) | ((dsimp only [ktrTop]); exact rm1 (by with_reducible assumption) (by decide)) | ((dsimp only [ktrTop]); omega) | omega | ktr_room); (case hu_q178 => first | k_extra "X M hu" | ((dsimp only [ktrTop]); omega) | omega | ktr_units); (case s0_q178 => k_extra "X M side"); (case s1_q178 => k_extra "X M side"); skip); intro h9 tk9 F9 G9 v9 n9 P9; ((first | refine P9.casesOn ?_ | refine P9.casesOn ?_ ?_) <;> (clear P9; intros; k_extra "X M letApp"; (try show wpAny _ _ _ _ _ _); (try k_sweep); (try dsimp only); (try k_fold)))))
  trivial
section
local macro_rules | `(tactic| passes_own) => `(tactic| (refine PassesOwn.both ?_; with_unfolding_all passes_own))
theorem kw_40 : True := by
  k_with "X M raise" => (first | (refine' Both.mk ?bad9_q179 ?_; (case bad9_q179 => k_extra "X M bad"); show wpAny _ _ _ _ _ _) | (try show wpAny _ _ _ _ _ _))
  k_with "X M bad" => (k_dflt (intro hz; omega))
  trivial
set_option maxRecDepth 100000 in
set_option maxHeartbeats 8000000 in
theorem c_kind {w : World} {mean : ExcName → Option Value} {mg mb : Str → Option Value} {k : Int} {t : Tok} : CtrX 5 w mean mg mb 232 [.int k t] [] (k = 0 ∨ k = 2 ∨ k = 128) (PKind k) 51 := by
  k_extra "X M fill"
  k_dflt (refine' ctrX_mk (binds := [("code", .int k t)]) ?k6 ?k7 ?k9 ?kB ?c2 ?c3 ?c4 ?c5 ?_; (case k6 => k_is); (case k7 => k_is); (case k9 => exact fun _ => BindsTo.of_eq rfl); (case kB => exact locs rfl); (case c2 => exact rfl); (case c3 => exact rfl); (case c4 => exact rfl); (case c5 => decide); intro dp un gd cn snm sig sic smo a9 ccd cl outer base L s g' L' h' tk' F' N' B' X' T' lt' hdp hun; (show (let A9 : Around := _; let Q9 : _ → _ → Prop := _; let E9 : _ → _ → Prop := _; wpAny _ A9 _ Q9 E9 _)); intro A9 Q9 E9; (try dsimp only at F' N'); (replace lt' := Keep9.mk lt'); (replace N' := letFront N'); k_extra "X M letApp"; (try k_fold))
  k_steps
  all_goals (try dsimp only)
  · have hk9 : k = 0 := by omega
    refine' Both.mk ?ag (End.sub ?aF ?aN (PKind.mk _ _ ?ap) Pick.nil)
    (case aF => k_asm)
    (case aN => k_asm)
    (case ag => exact .inl hk9)
    (case ap => exact .inl ⟨rfl, hk9⟩)
  · have hk9 : k = 2 := by omega
    refine' Both.mk ?bg (End.sub ?bF ?bN (PKind.mk _ _ ?bp) Pick.nil)
    (case bF => k_asm)
    (case bN => k_asm)
    (case bg => exact .inr (.inl hk9))
    (case bp => exact .inr (.inl ⟨rfl, hk9⟩))
  · have hk9 : k = 128 := by omega
    refine' Both.mk ?cg (End.sub ?cF ?cN (PKind.mk _ _ ?cp) Pick.nil)
    (case cF => k_asm)
    (case cN => k_asm)
    (case cg => exact .inr (.inr hk9))
    (case cp => exact .inr (.inr ⟨rfl, hk9⟩))
end
theorem kw_41 : True := by
  k_with "X M raise" => ((try (show wpAny _ _ _ _ _ _)))
  k_with "X call ref" => (((fail_if_success (fail_if_success (with_reducible show wpAny _ _ (PySem.call (Value.ref 232) _) _ _ _))); k_here; k_dflt (refine' CtrX.use (c_kind ) ?B_q182 ?F_q182 ?X_q182 ?N_q182 ?P_q182 ?S_q182 ?T_q182 ?hd_q182 ?hu_q182 ?_ ?_; (case B_q182 => k_asm); (case F_q182 => k_asm); (case X_q182 => k_asm); (case N_q182 => k_asm); (case P_q182 => k_extra "X M pick"); (case S_q182 => k_extra "X M sep"); (case T_q182 => k_asm); (case hd_q182 => first | exact rm1 (by with_reducible assumption) (by decide) | ((dsimp only [ktrTop]); exact rm1 (by with_reducible assumption) (by decide)) | ((dsimp only [ktrTop]); omega) | omega | ktr_room); (case hu_q182 => first | k_extra "X M hu" | ((dsimp only [ktrTop]); omega) | omega | ktr_units);  skip) <;> (intro g9; first | ((with_reducible have q9 : ¬ _ := g9); clear q9; intro e9 G9 h9 tk9 F9 R9 U9; (try dsimp only); k_extra "X M raise") | (intro h9 tk9 F9 G9 v9 n9 P9; ((first | refine P9.casesOn ?_ | refine P9.casesOn ?_ ?_) <;> (clear P9; intros; k_extra "X M letApp"; (try show wpAny _ _ _ _ _ _); (try k_sweep); (try dsimp only); (try k_fold)))))))
  trivial
section
set_option maxRecDepth 100000 in
set_option maxHeartbeats 8000000 in
theorem c_tail {w : World} {mean : ExcName → Option Value} {mg mb : Str → Option Value} {b : Array UInt8} {t : Tok} {ks : List Int} (hb : KBw.bInts b = ks) (hl : ks.length ≤ 200) : Ctr 6 w mean mg mb 225 [.bytes b t] [] (PTail ks) := by
  k_extra "X M fill"
  k_dflt (refine' ctr_mk (binds := [("octets", .bytes b t)]) ?k6 ?k7 ?k9 ?kB ?c2 ?c3 ?c4 ?c5 ?_; (case k6 => k_is); (case k7 => k_is); (case k9 => exact fun _ => BindsTo.of_eq rfl); (case kB => exact locs rfl); (case c2 => exact rfl); (case c3 => exact rfl); (case c4 => exact rfl); (case c5 => decide); intro dp un gd cn snm sig sic smo a9 ccd cl outer base L s g' L' h' tk' F' N' B' X' T' lt' hdp hun; (show (let A9 : Around := _; let Q9 : _ → _ → Prop := _; wpAny _ A9 _ Q9 _ _)); intro A9 Q9; (try dsimp only at F' N'); (replace lt' := Keep9.mk lt'); (replace N' := letFront N'); k_extra "X M letApp"; (try k_fold))
  repeat' ((fail_if_success (with_reducible show wpAny _ _ (exec (Stmt.Assign [Expr.Name "found" _] _ _) _) _ _ _)); (first | (k_unfold; (try dsimp only)) | walk1 | (dsimp only; walk1)); (all_goals (try k_fold)))
  all_goals (try dsimp only)
  · refine' End.sub ?aF ?aN (PTail.short (.inl (by omega))) Pick.nil
    (case aF => k_asm)
    (case aN => k_asm)
  · (rename num _ = _ => hn9)
    obtain ⟨m, hm, hm2⟩ := num_nat hb hn9
    subst hm
    k_steps
    all_goals (try dsimp only)
    · (with_reducible rename KBw.bInts (KBy.picked b (some (36 + 2)) _) = _ => hk9)
      refine' End.sub ?bF ?bN (PTail.whole _ _ (tail_whole (by omega) hl hn9 hk9 ?bL)) Pick.nil
      (case bF => k_asm)
      (case bN => k_asm)
      (case bL => rw [hk9, List.length_take, List.length_drop]; with_reducible assumption)
    · (with_reducible rename KBw.bInts (KBy.picked b (some (36 + 2)) _) = _ => hk9)
      refine' End.sub ?cF ?cN (PTail.short (tail_shortN (by omega) hn9 hk9 ?cL)) Pick.nil
      (case cF => k_asm)
      (case cN => k_asm)
      (case cL => rw [hk9, List.length_take, List.length_drop]; with_reducible assumption)
end
theorem kw_42 : True := by
  k_with "X call ref" => (((fail_if_success (fail_if_success (with_reducible show wpAny _ _ (PySem.call (Value.ref 225) _) _ _ _))); k_here; k_dflt (refine' Ctr.useI0 (c_tail ?s0_q183 ?s1_q183) ?B_q183 ?F_q183 ?X_q183 ?N_q183 ?P_q183 ?S_q183 ?T_q183 ?hd_q183 ?hu_q183 ?_; (case B_q183 => k_asm); (case F_q183 => k_asm); (case X_q183 => k_asm); (case N_q183 => k_asm); (case P_q183 => k_extra "X M pick"); (case S_q183 => k_extra "X M sep"); (case T_q183 => k_asm); (case hd_q183 => first | exact rm1 (by with_reducible assumption) (by decide) | ((dsimp only [ktrTop]); exact rm1 (by with_reducible assumption) (by decide)) | ((dsimp only [ktrTop]); omega) | omega | ktr_room); (case hu_q183 => first | k_extra "X M hu" | ((dsimp only [ktrTop]); omega) | omega | ktr_units); (case s0_q183 => k_extra "X M side"); (case s1_q183 => k_extra "X M side"); skip); intro h9 tk9 F9 G9 v9 n9 P9; ((first | refine P9.casesOn ?_ | refine P9.casesOn ?_ ?_) <;> (clear P9; intros; k_extra "X M letApp"; (try show wpAny _ _ _ _ _ _); (try k_sweep); (try dsimp only); (try k_fold)))))
  trivial
section
inductive PUn (w : World) (mean : ExcName → Option Value) (mg mb : Str → Option Value) (ks : List Int) : Value → Led → Prop
  | mk (x dx : Addr) (T : Led) (k1 k2 k3 k4 k5 k6 k7 k8 k9 k10 k11 k12 : Tok) (v1 v2 v3 v4 v5 v6 v7 v8 v9 v10 v11 v12 : Value) : Ctr 6 w mean mg mb 131 [.ref x] ((x, instObj 134 dx) :: (dx, bpduO w k1 k2 k3 k4 k5 k6 k7 k8 k9 k10 k11 k12 v1 v2 v3 v4 v5 v6 v7 v8 v9 v10 v11 v12) :: T) (PTells ks) → PUn w mean mg mb ks (.ref x) ((x, instObj 134 dx) :: (dx, bpduO w k1 k2 k3 k4 k5 k6 k7 k8 k9 k10 k11 k12 v1 v2 v3 v4 v5 v6 v7 v8 v9 v10 v11 v12) :: T)
theorem mem_told {y z a b c d e f g h : Addr × Obj} : ∀ q ∈ [y, z, c, d, e, f], q ∈ (y :: z :: [a, b, g, h]) ++ [c, d, e, f] := by simp
theorem un_v {w : World} {mean : ExcName → Option Value} {mg mb : Str → Option Value} {x dx xv xr xn xp tm dt : Addr} {k1 k2 k3 k4 k5 k6 k7 k8 k9 k10 k11 k12 j1 j2 j3 j4 i1 i2 i3 i4 i5 i6 i7 h1 h2 h3 h4 tv tk tr tt : Tok} {rp rm co np nm pp pn ag mx he de ver : Int} {kd : Str} {f0 f1 f2 f3 f4 f5 : Bool} {r : Nat} {tail : Array UInt8} {ks : List Int} (hap : Keep9 (Apart [x, dx, xv, xr, xn, xp, tm, dt])) (hK : KindRd ks kd ver f0 f1 f2 f3 f4 f5 r tail) (hv : RdV ks rp rm co np nm pp pn) (ht : RdT ks ag mx he de) :
    Ctr 6 w mean mg mb 131 [.ref x] [(x, instObj 134 dx), (dx, bpduO w k1 k2 k3 k4 k5 k6 k7 k8 k9 k10 k11 k12 (.int ver tv) (.str kd tk) (.ref xv) (.ref tm) (.bool f0) (.bool f1) (.bool f2) (.bool f3) (.str (roleN r) tr) (.bool f4) (.bool f5) (.bytes tail tt)), (xv, tupO [.ref xr, .int co i3, .ref xn, .ref xp]), (xr, tupO [.int rp i1, .int rm i2]), (xn, tupO [.int np i4, .int nm i5]), (xp, tupO [.int (16 * pp) i6, .int pn i7]), (tm, instObj 98 dt), (dt, timesO w j1 j2 j3 j4 (.int ag h1) (.int mx h2) (.int he h3) (.int de h4))] (PTells ks) := by
  obtain ⟨code, rest, hk⟩ := hK.of
  refine Ctr.frame (c_told (h1 := h1) (h2 := h2) (h3 := h3) (h4 := h4) ⟨apartT hap.out⟩ hk) tm1 tm2 (sepT8 hap.out) fun v n P => ?_
  cases P with
  | mk y z t _ => exact ⟨_, .mk y ver tv _ _ (.v kd ver f0 f1 f2 f3 f4 f5 r tail z xv xr xn xp rp rm co np nm pp pn ag mx he de tk t tt h1 h2 h3 h4 i1 i2 i3 i4 i5 i6 i7 hK hv ht), mem_told⟩
theorem un_a {w : World} {mean : ExcName → Option Value} {mg mb : Str → Option Value} {x dx : Addr} {k1 k2 k3 k4 k5 k6 k7 k8 k9 k10 k11 k12 tv tk tr tt : Tok} {ks : List Int} (hap : Keep9 (Apart [x, dx])) (h : ks.getD (Int.toNat 3) 0 = 128) :
    Ctr 6 w mean mg mb 131 [.ref x] [(x, instObj 134 dx), (dx, bpduO w k1 k2 k3 k4 k5 k6 k7 k8 k9 k10 k11 k12 (.int 0 tv) (.str "change" tk) .none .none (.bool false) (.bool false) (.bool false) (.bool false) (.str "none" tr) (.bool false) (.bool false) (.bytes #[] tt))] (PTells ks) := by
  have c : ∀ n : Led, ∀ v, PNew [(x, instObj 134 dx), (dx, bpduO w k1 k2 k3 k4 k5 k6 k7 k8 k9 k10 k11 k12 (.int 0 tv) (.str "change" tk) .none .none (.bool false) (.bool false) (.bool false) (.bool false) (.str "none" tr) (.bool false) (.bool false) (.bytes #[] tt))] (tupO [.int 0 tv, .str "change" tk, .none, .none]) v n → ∃ n', PTells ks v n' ∧ ∀ q ∈ n', q ∈ n ++ [] := fun n v P => by
    cases P with
    | mk y _ => exact ⟨_, .mk y 0 tv _ _ (.a tk h), by simp⟩
  exact Ctr.frame (R := []) (c_toldA hap) (fun _ h => h) (List.forall_mem_nil _) (Sep.of fun _ _ _ h => absurd h List.not_mem_nil) fun v n P => c n v P
theorem KindNo.ch {kd : Str} {k : Int} (h : KindNo kd k) (e : kd = Str.ofString "change") : k = 128 := by
  rcases h with ⟨z, _⟩ | ⟨z, _⟩ | ⟨_, z⟩
  · rw [e] at z; exact absurd z (by decide +kernel)
  · rw [e] at z; exact absurd z (by decide +kernel)
  · exact z
def Lst (kd : Str) (z c : Int) : Prop := (kd = Str.ofString "config" ∧ z = 0 ∧ c = 35) ∨ (kd = Str.ofString "rapid" ∧ z = 2 ∧ c = 36)
theorem KindNo.lst {kd : Str} {k : Int} (h : KindNo kd k) (e : kd ≠ Str.ofString "change") : ∃ c, Lst kd k c := by
  rcases h with ⟨z, y⟩ | ⟨z, y⟩ | ⟨z, _⟩
  · exact ⟨35, .inl ⟨z, y, rfl⟩⟩
  · exact ⟨36, .inr ⟨z, y, rfl⟩⟩
  · exact absurd z e
theorem Lst.c {kd : Str} {z c : Int} (h : Lst kd z c) (e : kd = Str.ofString "config") : 35 = c := by
  rcases h with ⟨_, _, h⟩ | ⟨y, _, _⟩
  · exact h.symm
  · rw [e] at y; exact absurd y (by decide +kernel)
theorem Lst.r {kd : Str} {z c : Int} (h : Lst kd z c) (e : kd ≠ Str.ofString "config") : 36 = c := by
  rcases h with ⟨y, _, _⟩ | ⟨_, _, h⟩
  · exact absurd y e
  · exact h.symm
theorem Lst.ge {kd : Str} {z c : Int} {ks : List Int} (h : Lst kd z c) (g : ¬ ((ks.length : Nat) : Int) < c) : 35 ≤ ks.length := by
  rcases h with ⟨_, _, h⟩ | ⟨_, _, h⟩ <;> omega
theorem Lst.ge36 {kd : Str} {z c : Int} {ks : List Int} (h : Lst kd z c) (e : kd ≠ Str.ofString "config") (g : ¬ ((ks.length : Nat) : Int) < c) : 36 ≤ ks.length := by
  have := h.r e
  omega
theorem KindRd.c' {ks : List Int} {kd : Str} {z : Int} (e : kd = Str.ofString "config") (h : ks.getD (Int.toNat 3) 0 = 0) (h4 : ks.getD (Int.toNat 4) 0 = z) : KindRd ks kd 0 (Builtin.bitAnd z 1 == 1) (Builtin.bitAnd z 128 == 128) false false false false 0 #[] := e ▸ .c z h h4
theorem KindRd.r' {ks : List Int} {kd : Str} {z ver : Int} {r : Nat} {tail : Array UInt8} (e : kd = Str.ofString "rapid") (h : ks.getD (Int.toNat 3) 0 = 2) (h4 : ks.getD (Int.toNat 4) 0 = z) (h5 : Keep9 (Builtin.bitAnd (z.fdiv (2 ^ Int.toNat 2)) 3 = (r : Nat))) (h6 : r < 4) (h7 : TailRd ks ver tail) :
    KindRd ks kd ver (Builtin.bitAnd z 1 == 1) (Builtin.bitAnd z 128 == 128) (Builtin.bitAnd z 2 == 2) (Builtin.bitAnd z 64 == 64) (Builtin.bitAnd z 16 == 16) (Builtin.bitAnd z 32 == 32) r tail := e ▸ .r z ver r tail h h4 h5 h6 h7
theorem v2_of {ks : List Int} {z v : Int} (e : ks.getD (Int.toNat 2) 0 = z) (h : (if 3 < z then 3 else z) = v) : V2 ks = v := by
  unfold V2
  rw [e]
  exact h
theorem tv_short {ks : List Int} {v : Int} (h : V2 ks = v) (e : v = 3) (s : Short ks) : TailV ks .none := ⟨2, #[], .short (h.trans e) s, .inl ⟨rfl, rfl, rfl⟩⟩
theorem tv_whole {ks : List Int} {v : Int} {b : Array UInt8} {t : Tok} (h : V2 ks = v) (e : v = 3) (s : Whole ks (KBw.bInts b)) : TailV ks (.bytes b t) := ⟨3, b, .whole b (h.trans e) s, .inr ⟨t, rfl, rfl⟩⟩
theorem tv_two {ks : List Int} {v : Int} (h : V2 ks = v) (e : ¬ v = 3) (e2 : ¬ v < 2) : TailV ks .none := ⟨2, #[], .two (by have : V2 ks ≤ 3 := (by unfold V2; split <;> omega); omega), .inl ⟨rfl, rfl, rfl⟩⟩
theorem bad1 {ks : List Int} (h : ((ks.length : Nat) : Int) < 4) : Bad ks := .inl (by omega)
theorem bad2 {ks : List Int} {n : Int} (h0 : ¬ ((ks.length : Nat) : Int) < 4) (e : num (ks.take 2) = n) (h : n ≠ 0) : Bad ks := .inr (.inl ⟨by omega, by rw [e]; exact h⟩)
theorem bad3 {ks : List Int} {n z : Int} (h0 : ¬ ((ks.length : Nat) : Int) < 4) (e : num (ks.take 2) = n) (hn : n = 0) (e3 : ks.getD (Int.toNat 3) 0 = z) (h : ¬ (z = 0 ∨ z = 2 ∨ z = 128)) : Bad ks :=
  .inr (.inr (.inl ⟨by omega, by rw [e]; exact hn, by rw [e3]; omega, by rw [e3]; omega, by rw [e3]; omega⟩))
theorem bad45 {ks : List Int} {n z c : Int} {kd : Str} (h0 : ¬ ((ks.length : Nat) : Int) < 4) (e : num (ks.take 2) = n) (hn : n = 0) (e3 : ks.getD (Int.toNat 3) 0 = z) (hk : Lst kd z c) (h : ((ks.length : Nat) : Int) < c) : Bad ks := by
  rcases hk with ⟨_, hz, hc⟩ | ⟨_, hz, hc⟩
  · exact .inr (.inr (.inr (.inl ⟨by omega, by rw [e]; exact hn, by rw [e3]; exact hz, by omega⟩)))
  · exact .inr (.inr (.inr (.inr (.inl ⟨by omega, by rw [e]; exact hn, by rw [e3]; exact hz, by omega⟩))))
theorem bad6 {ks : List Int} {n z c v : Int} {kd : Str} (e : num (ks.take 2) = n) (hn : n = 0) (e3 : ks.getD (Int.toNat 3) 0 = z) (hk : Lst kd z c) (hne : kd ≠ Str.ofString "config") (h : ¬ ((ks.length : Nat) : Int) < c) (hv : V2 ks = v) (h2 : v < 2) : Bad ks := by
  rcases hk with ⟨z1, _, _⟩ | ⟨_, hz, hc⟩
  · exact absurd z1 hne
  · exact .inr (.inr (.inr (.inr (.inr (.inl ⟨by omega, by rw [e]; exact hn, by rw [e3]; exact hz, by rw [show (if 3 < ks.getD (Int.toNat 2) 0 then 3 else ks.getD (Int.toNat 2) 0) = v from hv]; exact h2⟩)))))
theorem bad7 {ks : List Int} {n z c v y : Int} {kd : Str} (e : num (ks.take 2) = n) (hn : n = 0) (e3 : ks.getD (Int.toNat 3) 0 = z) (hk : Lst kd z c) (hne : kd ≠ Str.ofString "config") (h : ¬ ((ks.length : Nat) : Int) < c) (hv : V2 ks = v) (h2 : ¬ v < 2) (e35 : ks.getD (Int.toNat 35) 0 = y) (hy : y ≠ 0) : Bad ks := by
  rcases hk with ⟨z1, _, _⟩ | ⟨_, hz, hc⟩
  · exact absurd z1 hne
  · exact .inr (.inr (.inr (.inr (.inr (.inr ⟨by omega, by rw [e]; exact hn, by rw [e3]; exact hz, by rw [show (if 3 < ks.getD (Int.toNat 2) 0 then 3 else ks.getD (Int.toNat 2) 0) = v from hv]; omega, by rw [e35]; exact hy⟩)))))
theorem good_a {ks : List Int} {n z : Int} (h0 : ¬ ((ks.length : Nat) : Int) < 4) (e : num (ks.take 2) = n) (hn : n = 0) (e3 : ks.getD (Int.toNat 3) 0 = z) (hz : z = 128) : ¬ Bad ks := by
  subst e e3
  rintro (h | ⟨_, h⟩ | ⟨_, _, _, _, h⟩ | ⟨_, _, h, _⟩ | ⟨_, _, h, _⟩ | ⟨_, _, h, _⟩ | ⟨_, _, h, _⟩) <;> omega
theorem good_c {ks : List Int} {n z c : Int} {kd : Str} (h0 : ¬ ((ks.length : Nat) : Int) < 4) (e : num (ks.take 2) = n) (hn : n = 0) (e3 : ks.getD (Int.toNat 3) 0 = z) (hk : Lst kd z c) (hkd : kd = Str.ofString "config") (h : ¬ ((ks.length : Nat) : Int) < c) : ¬ Bad ks ∧ ks.getD (Int.toNat 3) 0 = 0 := by
  subst e e3
  rcases hk with ⟨_, hz, hc⟩ | ⟨z1, _, _⟩
  · refine ⟨?_, hz⟩
    rintro (h | ⟨_, h⟩ | ⟨_, _, h, _⟩ | ⟨_, _, _, h⟩ | ⟨_, _, h, _⟩ | ⟨_, _, h, _⟩ | ⟨_, _, h, _⟩) <;> omega
  · rw [hkd] at z1; exact absurd z1 (by decide +kernel)
theorem good_r {ks : List Int} {n z c v y : Int} {kd : Str} (e : num (ks.take 2) = n) (hn : n = 0) (e3 : ks.getD (Int.toNat 3) 0 = z) (hk : Lst kd z c) (hne : kd ≠ Str.ofString "config") (h : ¬ ((ks.length : Nat) : Int) < c) (hv : V2 ks = v) (h2 : ¬ v < 2) (e35 : ks.getD (Int.toNat 35) 0 = y) (hy : y = 0) : ¬ Bad ks ∧ ks.getD (Int.toNat 3) 0 = 2 ∧ kd = Str.ofString "rapid" := by
  rcases hk with ⟨z1, _, _⟩ | ⟨hr, hz, hc⟩
  · exact absurd z1 hne
  · refine ⟨?_, e3.trans hz, hr⟩
    have hv' : (if 3 < ks.getD (Int.toNat 2) 0 then 3 else ks.getD (Int.toNat 2) 0) = v := hv
    subst e e3 e35
    rintro (h | ⟨_, h⟩ | ⟨_, _, _, h, _⟩ | ⟨_, _, h, _⟩ | ⟨_, _, _, h⟩ | ⟨_, _, _, h⟩ | ⟨_, _, _, _, h⟩)
    · omega
    · omega
    · omega
    · omega
    · omega
    · rw [hv'] at h; omega
    · exact h hy
theorem kw_43 : True := by
  k_with "X M raise" => (first | (refine' Both.mk ?bad9_q184 ?_; (case bad9_q184 => k_extra "X M bad"); show wpAny _ _ _ _ _ _) | (try show wpAny _ _ _ _ _ _))
  k_with "X M bad" => (k_dflt (first | exact fun hz => hz (bad1 (by with_reducible assumption)) | exact fun hz => hz (bad2 (by with_reducible assumption) (by with_reducible assumption) (by with_reducible assumption)) | exact fun hz => hz (bad3 (by with_reducible assumption) (by with_reducible assumption) (by with_reducible assumption) (by with_reducible assumption) (by with_reducible assumption)) | exact fun hz => hz (bad45 (by with_reducible assumption) (by with_reducible assumption) (by with_reducible assumption) (by with_reducible assumption) (by with_reducible assumption) (by with_reducible assumption)) | exact fun hz => hz (bad6 (by with_reducible assumption) (by with_reducible assumption) (by with_reducible assumption) (by with_reducible assumption) (by with_reducible assumption) (by with_reducible assumption) (by with_reducible assumption) (by with_reducible assumption)) | exact fun hz => hz (bad7 (by with_reducible assumption) (by with_reducible assumption) (by with_reducible assumption) (by with_reducible assumption) (by with_reducible assumption) (by with_reducible assumption) (by with_reducible assumption) (by with_reducible assumption) (by with_reducible assumption) (by with_reducible assumption))))
  trivial
set_option maxRecDepth 100000 in
set_option maxHeartbeats 8000000 in
theorem c_un {w : World} {mean : ExcName → Option Value} {mg mb : Str → Option Value} {b : Array UInt8} {t : Tok} {ks : List Int} (hb : KBw.bInts b = ks) (hl : ks.length ≤ 200) : CtrX 12 w mean mg mb 239 [.bytes b t] [] (¬ Bad ks) (PUn w mean mg mb ks) 51 := by
  k_extra "X M fill"
  k_dflt (refine' ctrX_mk (binds := [("octets", .bytes b t)]) ?k6 ?k7 ?k9 ?kB ?c2 ?c3 ?c4 ?c5 ?_; (case k6 => k_is); (case k7 => k_is); (case k9 => exact fun _ => BindsTo.of_eq rfl); (case kB => exact locs rfl); (case c2 => exact rfl); (case c3 => exact rfl); (case c4 => exact rfl); (case c5 => decide); intro dp un gd cn snm sig sic smo a9 ccd cl outer base L s g' L' h' tk' F' N' B' X' T' lt' hdp hun; (show (let A9 : Around := _; let Q9 : _ → _ → Prop := _; let E9 : _ → _ → Prop := _; wpAny _ A9 _ Q9 E9 _)); intro A9 Q9 E9; (try dsimp only at F' N'); (replace lt' := Keep9.mk lt'); (replace N' := letFront N'); k_extra "X M letApp"; (try k_fold))
  repeat' ((fail_if_success (with_reducible show wpAny _ _ (compareOp CmpOp.Eq (Value.str _ _) (Value.str _ _)) _ _ _)); (first | (k_unfold; (try dsimp only)) | walk1 | (dsimp only; walk1)); (all_goals (try k_fold)))
  (try k_unfold)
  (try dsimp only)
  (rename KindNo _ _ => hkn)
  (rename ks.getD (Int.toNat 3) 0 = _ => he3)
  (rename num (ks.take 2) = _ => hen)
  (with_reducible rename _ = (0 : Int) => hn0)
  (rename ks.getD (Int.toNat 2) 0 = _ => he2)
  (rename (if 3 < _ then 3 else _) = _ => hvv)
  have hV := v2_of he2 hvv
  k_dflt (refine eq_kd ?_ ?_) <;> intro hkd
  · k_steps
    all_goals (try dsimp only)
    refine' Both.mk ?ga (End.sub ?Fa ?Na (PUn.mk _ _ _ _ _ _ _ _ _ _ _ _ _ _ _ _ _ _ _ _ _ _ _ _ _ _ _ (un_a ⟨?pa⟩ ?p3)) ?Sa)
    (case Fa => k_asm)
    (case Na => k_asm)
    (case Sa => k_extra "X M pick")
    (case pa => k_extra "X M sep")
    (case p3 => exact he3.trans (hkn.ch hkd))
    (case ga => exact good_a (by with_reducible assumption) hen hn0 he3 (hkn.ch hkd))
  · obtain ⟨least, hK⟩ := hkn.lst hkd
    repeat' ((fail_if_success (with_reducible show wpAny _ _ (eval (Expr.IfExp _ _ _ _) _) _ _ _)); (first | (k_unfold; (try dsimp only)) | walk1 | (dsimp only; walk1)); (all_goals (try k_fold)))
    k_dflt (refine' cut_int (c := least) ?kF1 ?kN1 ?k11 ?_)
    (case kF1 => k_asm)
    (case kN1 => k_asm)
    (case k11 => (intro cm9; (repeat' ((fail_if_success (with_reducible show wpAny _ _ (compareOp CmpOp.Eq (Value.str _ _) (Value.str _ _)) _ _ _)); (first | (k_unfold; (try dsimp only)) | walk1 | (dsimp only; walk1)); (all_goals (try k_fold)))); (try k_unfold); (try dsimp only); k_dflt (refine eq_kd ?_ ?_) <;> (intro hq; (repeat' ((first | (k_unfold; (try dsimp only)) | walk1 | (dsimp only; walk1)); (all_goals (try k_fold)))); (try dsimp only); refine' CutInt.introE ?yE1 ?yF1 ?yN1 ?yS1; (case yE1 => first | exact hK.c hq | exact hK.r hq); (case yF1 => k_asm); (case yN1 => k_asm); (case yS1 => k_extra "X M pick"))))
    intro t9 h9 tk9 F9 N9
    (try k_sweep)
    (try dsimp only)
    (try k_fold)
    repeat' ((fail_if_success (with_reducible show wpAny _ _ (exec (Stmt.Assign [Expr.Tuple _ _ _] _ _) _) _ _ _)); (first | (k_unfold; (try dsimp only)) | walk1 | (dsimp only; walk1)); (all_goals (try k_fold)))
    have h35 := hK.ge (ks := ks) (by with_reducible assumption)
    repeat' ((fail_if_success (with_reducible show wpAny _ _ (compareOp CmpOp.Eq (Value.str _ _) (Value.str _ _)) _ _ _)); (first | (k_unfold; (try dsimp only)) | walk1 | (dsimp only; walk1)); (all_goals (try k_fold)))
    (try k_unfold)
    (try dsimp only)
    k_dflt (refine eq_kd ?_ ?_) <;> intro hq
    · k_steps
      have hg9 := good_c (ks := ks) (by with_reducible assumption) hen hn0 he3 hK hq (by with_reducible assumption)
      all_goals (try dsimp only)
      refine' Both.mk ?gc (End.sub ?Fc ?Nc (PUn.mk _ _ _ _ _ _ _ _ _ _ _ _ _ _ _ _ _ _ _ _ _ _ _ _ _ _ _ (un_v ⟨?pc⟩ ?kc ?qc ?rc)) ?Sc)
      (case kc => exact KindRd.c' hq hg9.2 (by with_reducible assumption))
      (case Fc => k_asm)
      (case Nc => k_asm)
      (case Sc => k_extra "X M pick")
      (case pc => k_extra "X M sep")
      (case qc => first | with_reducible assumption | (rename RdW _ _ _ _ _ _ _ _ => hw9; exact hw9))
      (case rc => first | with_reducible assumption | (rename RdU _ _ _ _ _ => hu9; exact hu9))
      (case gc => exact hg9.1)
    · have h36 := hK.ge36 (ks := ks) hq (by with_reducible assumption)
      repeat' ((fail_if_success (with_reducible show wpAny _ _ (eval (Expr.IfExp _ _ _ _) _) _ _ _)); (first | (k_unfold; (try dsimp only)) | walk1 | (dsimp only; walk1)); (all_goals (try k_fold)))
      have hg9 := good_r (ks := ks) hen hn0 he3 hK hq (by with_reducible assumption) hV (by with_reducible assumption) (by with_reducible assumption) (by with_reducible assumption)
      k_dflt (refine' cut_val (TailV ks) ?kF2 ?kN2 ?k12 ?_)
      (case kF2 => k_asm)
      (case kN2 => k_asm)
      (case k12 => (intro cm9; (repeat' ((first | (k_unfold; (try dsimp only)) | walk1 | (dsimp only; walk1)); (all_goals (try k_fold)))); all_goals ((try dsimp only); refine' CutV.intro ?yP2 ?yF2 ?yN2 ?yS2; (case yF2 => k_asm); (case yN2 => k_asm); (case yS2 => k_extra "X M pick"); (case yP2 => first | exact tv_short hV (by with_reducible assumption) (by with_reducible assumption) | exact tv_whole hV (by with_reducible assumption) (by with_reducible assumption) | exact tv_two hV (by with_reducible assumption) (by with_reducible assumption)))))
      intro v9 h9 tk9 hT9 F9 N9
      obtain ⟨ver, tail, hT, hTv⟩ := hT9
      (try k_sweep)
      (try dsimp only)
      (try k_fold)
      repeat' ((fail_if_success (with_reducible show wpAny _ _ (eval (Expr.IfExp _ _ _ _) _) _ _ _)); (first | (k_unfold; (try dsimp only)) | walk1 | (dsimp only; walk1)); (all_goals (try k_fold)))
      k_dflt (refine' cut_int (c := ver) ?kF3 ?kN3 ?k13 ?_)
      (case kF3 => k_asm)
      (case kN3 => k_asm)
      (case k13 => (intro cm9; (rcases hTv with ⟨hv9, hw9, _⟩ | ⟨tr, hv9, hw9⟩) <;> (subst hv9; (repeat' ((first | (k_unfold; (try dsimp only)) | walk1 | (dsimp only; walk1)); (all_goals (try k_fold)))); (try dsimp only); refine' CutInt.introE ?yE3 ?yF3 ?yN3 ?yS3; (case yE3 => exact hw9.symm); (case yF3 => k_asm); (case yN3 => k_asm); (case yS3 => k_extra "X M pick"))))
      intro t9 h9 tk9 F9 N9
      (try k_sweep)
      (try dsimp only)
      (try k_fold)
      repeat' ((fail_if_success (with_reducible show wpAny _ _ (eval (Expr.IfExp _ _ _ _) _) _ _ _)); (first | (k_unfold; (try dsimp only)) | walk1 | (dsimp only; walk1)); (all_goals (try k_fold)))
      k_dflt (refine' cut_val (fun v => ∃ tt, v = .bytes tail tt) ?kF4 ?kN4 ?k14 ?_)
      (case kF4 => k_asm)
      (case kN4 => k_asm)
      (case k14 => (intro cm9; (rcases hTv with ⟨hv9, _, hw9⟩ | ⟨tr, hv9, hw9⟩) <;> (subst hv9; (repeat' ((first | (k_unfold; (try dsimp only)) | walk1 | (dsimp only; walk1)); (all_goals (try k_fold)))); (try dsimp only); refine' CutV.intro ?yP4 ?yF4 ?yN4 ?yS4; (case yP4 => first | exact ⟨_, rfl⟩ | exact ⟨_, by rw [hw9]⟩); (case yF4 => k_asm); (case yN4 => k_asm); (case yS4 => k_extra "X M pick"))))
      intro v9 h9 tk9 hT9 F9 N9
      obtain ⟨tt, hv9⟩ := hT9
      subst hv9
      (try k_sweep)
      (try dsimp only)
      (try k_fold)
      k_steps
      all_goals (try dsimp only)
      refine' Both.mk ?gr (End.sub ?Fr ?Nr (PUn.mk _ _ _ _ _ _ _ _ _ _ _ _ _ _ _ _ _ _ _ _ _ _ _ _ _ _ _ (un_v ⟨?pr⟩ ?kr ?qr ?rr)) ?Sr)
      (case kr => exact KindRd.r' hg9.2.2 hg9.2.1 (by with_reducible assumption) (by with_reducible assumption) (by with_reducible assumption) hT)
      (case Fr => k_asm)
      (case Nr => k_asm)
      (case Sr => k_extra "X M pick")
      (case pr => k_extra "X M sep")
      (case qr => first | with_reducible assumption | (rename RdW _ _ _ _ _ _ _ _ => hw9; exact hw9))
      (case rr => first | with_reducible assumption | (rename RdU _ _ _ _ _ => hu9; exact hu9))
      (case gr => exact hg9.1)
end
theorem kw_44 : True := by
  k_with "X M raise" => ((try (show wpAny _ _ _ _ _ _)))
  k_with "X call ref" => (((fail_if_success (fail_if_success (with_reducible show wpAny _ _ (PySem.call (Value.ref 239) _) _ _ _))); k_here; k_dflt (refine' CtrX.use (c_un ?s0_q187 ?s1_q187) ?B_q187 ?F_q187 ?X_q187 ?N_q187 ?P_q187 ?S_q187 ?T_q187 ?hd_q187 ?hu_q187 ?_ ?_; (case B_q187 => k_asm); (case F_q187 => k_asm); (case X_q187 => k_asm); (case N_q187 => k_asm); (case P_q187 => k_extra "X M pick"); (case S_q187 => k_extra "X M sep"); (case T_q187 => k_asm); (case hd_q187 => first | exact rm1 (by with_reducible assumption) (by decide) | ((dsimp only [ktrTop]); exact rm1 (by with_reducible assumption) (by decide)) | ((dsimp only [ktrTop]); omega) | omega | ktr_room); (case hu_q187 => first | k_extra "X M hu" | ((dsimp only [ktrTop]); omega) | omega | ktr_units); (case s0_q187 => k_extra "X M side"); (case s1_q187 => k_extra "X M side"); skip) <;> (intro g9; first | ((with_reducible have q9 : ¬ _ := g9); clear q9; intro e9 G9 h9 tk9 F9 R9 U9; (try dsimp only); k_extra "X M raise") | (intro h9 tk9 F9 G9 v9 n9 P9; ((first | refine P9.casesOn ?_ | refine P9.casesOn ?_ ?_) <;> (clear P9; intros; k_extra "X M letApp"; (try show wpAny _ _ _ _ _ _); (try k_sweep); (try dsimp only); (try k_fold)))))))
  trivial
section
theorem pool_nonneg {a : Int} : 0 ≤ if -1 - a > a then -1 - a else a := by split <;> omega
theorem pool_mul {x : Int} {c : Prop} [Decidable c] (h : 0 ≤ x) : 0 ≤ x * (if c then 1 else 0) := by split <;> omega
set_option maxRecDepth 100000 in
set_option maxHeartbeats 8000000 in
theorem c_pool {w : World} {mean : ExcName → Option Value} {mg mb : Str → Option Value} {a₀ : Addr} {vs : List Value} {ns : List Int}
    {dp un : Nat} {gd : Option (List Code)} {cn : Str} {snm : List (Str × NameKind)} {sig sic : Bool} {smo : List (Str × Const)} {a : Addr} {ccd : Value} {cl : List (Str × Addr)} {outer : List Env} {A₀ : Around} {base h₀ : Heap} {L : Addr} {m : Str → Option Value} {s : Shared} {Q E : Value → Shared → Prop}
    (B : Below A₀ base outer h₀) (F : Fr h₀ L s.heap m) (X : (Mine.wr.heap_1 w.params).In h₀) (N : News h₀ L s.heap []) (T : Top Mine.vq (looseW Mine.vq [Str.ofString "KINDS", Str.ofString "Bpdu"]) mean mg mb h₀)
    (hL : h₀.IsList a₀ vs.toArray) (hI : IntsAre vs ns) (hns : ns.length ≤ 63)
    (hdp : dp + 4 < recursionLimit) (hun : un + 10 * 4 + 100 < cLine)
    (hret : ∀ l o h' tk', Fr h₀ L h' m → News h₀ L h' [(l, o)] → SrcO o → Q (.ref l) { s with heap := h', toks := tk' }) :
    wpAny (model PySem.Challenge.rw_pb0549_01.row.prog w) (ktrTop dp un gd cn (fscope snm sig sic smo) L a ccd cl outer) (call (.ref 246) [.ref a₀]) Q E s := by
  k_extra "X M fill"
  refine wpAny_call ?_
  k_dflt (refine' code_def ?k1 ?k2 ?k3 ?k4 ?k5 ?kA ?kF ?kK ?k6 ?k7 ?k8 ?k9 ?kB ?_ ?c2 ?c3 ?c4 ?c5; (case kA => exact rfl); (case kF => exact rfl); (case kK => exact rfl); (case k1 => exact B); (case k2 => exact F); (case k3 => exact X); (case k4 => exact N); (case k5 => exact T); (case k6 => k_is); (case k7 => k_is); (case k8 => ktr_room); (case k9 => exact BindsTo.of_eq rfl); (case kB => exact locs rfl); (case c2 => exact rfl); (case c3 => exact rfl); (case c4 => exact rfl); (case c5 => decide); k_whole; intro g' L' h' FG' F' N' B' X' T'; (try dsimp only); (try k_lift B'); (try k_fold))
  have hL' : g'.IsList a₀ vs.toArray := let ⟨o, ho, r⟩ := hL; ⟨o, FG'.keep _ _ ho, r⟩
  k_steps
  · refine' hret _ _ _ _ ?FA ?NA ⟨_, _, _, _, _, rfl, ?aA, ?bA, ?cA⟩
    (case FA => k_asm)
    (case NA => k_asm)
    (case aA => exact pool_mul pool_nonneg)
    (case bA => exact fm_lo (by decide))
    (case cA => exact fm_hi (by decide))
  · refine' hret _ _ _ _ ?FB ?NB ⟨_, _, _, _, _, rfl, ?aB, ?bB, ?cB⟩
    (case FB => k_asm)
    (case NB => k_asm)
    (case aB => exact pool_mul pool_nonneg)
    (case bB => exact fm_lo (by decide))
    (case cB => exact fm_hi (by decide))
end
theorem kw_45 : True := by
  k_with_none
  k_with "X M fill" => (((have hX : (fun w : World => wr.heap_1 w.params) = (fun w : World => wr.heap_1 w.params) ∧ PySem.Challenge.rw_pb0549_01 = PySem.Challenge.rw_pb0549_01 := ⟨rfl, rfl⟩); revert hX; k_fill; intro hX; clear hX))
  k_with "X M enter" => ((refine' ctr_mk ?k6_q189 ?k7_q189 ?k9_q189 ?kB_q189 ?c2_q189 ?c3_q189 ?c4_q189 ?c5_q189 ?_; (case k6_q189 => k_is); (case k7_q189 => k_is); (case k9_q189 => exact fun _ => BindsTo.of_eq rfl); (case kB_q189 => exact locs rfl); (case c2_q189 => exact rfl); (case c3_q189 => exact rfl); (case c4_q189 => exact rfl); (case c5_q189 => decide); intro dp un gd cn snm sig sic smo a ccd cl outer base L s g' L' h' tk' F' N' B' X' T' lt' hdp hun; (try dsimp only); (try k_lt lt'); (try k_fold)))
  k_with "X M enterC" => ((refine' ctr_mkC ?k6_q190 ?k7_q190 ?k9_q190 ?kB_q190 ?kD_q190 ?c2_q190 ?c3_q190 ?c4_q190 ?_; (case k6_q190 => k_is); (case k7_q190 => k_is); (case k9_q190 => exact fun _ => BindsTo.of_eq rfl); (case kB_q190 => exact rfl); (case kD_q190 => decide +kernel); (case c2_q190 => exact rfl); (case c3_q190 => exact rfl); (case c4_q190 => exact rfl); intro dp un gd cn snm sig sic smo a ccd cl outer base L s g' L' h' tk' cells' F' N' Y' B' X' T' lt' hdp hun; (try k_lt lt'); k_cells Y'; (try simp only [List.cons_append, List.nil_append] at N'); (try dsimp only); (try k_fold)))
  k_with "X M del" => (first | exact Del.head | (refine' Del.tail ?dt9_q191; (case dt9_q191 => k_extra "X M del")))
  k_with "X M pick" => (first | exact Pick.nil | (refine' Pick.cons ?pd9_q192 ?pr9_q192; (case pd9_q192 => k_extra "X M del"); (case pr9_q192 => k_extra "X M pick")))
  k_with "X M ne" => ((refine neN ?_; (try dsimp only); first | with_reducible assumption | exact Ne.symm (by with_reducible assumption) | exact Nat.ne_of_lt (by with_reducible assumption) | exact Nat.ne_of_gt (by with_reducible assumption) | omega))
  k_with "X M sep" => (repeat' (first | with_reducible exact True.intro | with_reducible exact List.forall_mem_nil _ | with_reducible refine And.intro ?_ ?_ | with_reducible refine List.forall_mem_cons.mpr ⟨?_, ?_⟩ | ((with_reducible show Sep _ _); refine And.intro ?_ ?_) | ((with_reducible show Apart (_ :: _)); refine And.intro ?_ ?_) | ((with_reducible show Sep [] _); exact True.intro) | ((with_reducible show Apart []); exact True.intro) | k_extra "X M ne"))
  k_with "X M back" => (((try dsimp only); repeat (first | (with_reducible refine Bk.ex ?_; intro x9) | with_reducible refine Bk.and ?_ | with_reducible refine Bk.or ?_ ?_ | with_reducible refine Bk.ap_cons ?_ | with_reducible refine Bk.ap_nil ?_ | (with_reducible refine Bk.na_cons ?_; intro e9) | with_reducible refine Bk.na_nil ?_ | with_reducible refine Bk.sep_cons ?_ | with_reducible refine Bk.sep_nil ?_ | (with_reducible refine Bk.ne_cons ?_; intro e9) | with_reducible refine Bk.ne_nil ?_ | (with_reducible refine Bk.fact ?_; intro e9; first | subst e9 | skip))))
  k_with "X M room" => (((try simp only [depth_under_make, depth_under_kw, depth_in1, depth_deeper, depth_caller] at *); (try dsimp only [ktrTop] at *); omega))
  k_with "X M end" => (((try dsimp only); refine' End.intro ?F_q197 ?N_q197 ?_; (case F_q197 => k_asm); (case N_q197 => k_asm)))
  k_with "X M post" => (repeat' (first | exact rfl | refine' Exists.intro _ ?_ | refine' And.intro ?_ ?_))
  k_with "X M fin" => (((try dsimp only); refine' End.sub ?F_q199 ?N_q199 ?P_q199 ?S_q199; (case F_q199 => k_asm); (case N_q199 => k_asm); (case' P_q199 => ((try dsimp only); k_extra "X M post")); (case S_q199 => k_extra "X M pick"); all_goals (first | done | with_reducible assumption | with_reducible exact List.forall_mem_nil _ | ((with_reducible refine List.forall_mem_cons.mpr ⟨?_, ?_⟩); k_extra "X M sep"; done) | ((with_reducible show Apart []); exact True.intro) | ((with_reducible show Apart (_ :: _)); k_extra "X M sep"; done) | with_reducible exact fun _ => rfl | with_reducible exact Nat.zero_le _ | ((with_reducible show Array.size _ ≤ _); simp only [byteArr_size]; omega) | omega | skip)))
  k_with "X M finA" => (((try dsimp only); refine' End.sub ?F_q200 ?N_q200 (Or.inl ?P_q200) ?S_q200; (case F_q200 => k_asm); (case N_q200 => k_asm); (case' P_q200 => ((try dsimp only); k_extra "X M post")); (case S_q200 => k_extra "X M pick"); all_goals (first | done | with_reducible assumption | with_reducible exact List.forall_mem_nil _ | ((with_reducible refine List.forall_mem_cons.mpr ⟨?_, ?_⟩); k_extra "X M sep"; done) | ((with_reducible show Apart []); exact True.intro) | ((with_reducible show Apart (_ :: _)); k_extra "X M sep"; done) | with_reducible exact fun _ => rfl | with_reducible exact Nat.zero_le _ | ((with_reducible show Array.size _ ≤ _); simp only [byteArr_size]; omega) | omega | skip)))
  k_with "X M finB" => (((try dsimp only); refine' End.sub ?F_q201 ?N_q201 (Or.inr (Or.inl ?P_q201)) ?S_q201; (case F_q201 => k_asm); (case N_q201 => k_asm); (case' P_q201 => ((try dsimp only); k_extra "X M post")); (case S_q201 => k_extra "X M pick"); all_goals (first | done | with_reducible assumption | with_reducible exact List.forall_mem_nil _ | ((with_reducible refine List.forall_mem_cons.mpr ⟨?_, ?_⟩); k_extra "X M sep"; done) | ((with_reducible show Apart []); exact True.intro) | ((with_reducible show Apart (_ :: _)); k_extra "X M sep"; done) | with_reducible exact fun _ => rfl | with_reducible exact Nat.zero_le _ | ((with_reducible show Array.size _ ≤ _); simp only [byteArr_size]; omega) | omega | skip)))
  k_with "X M finC" => (((try dsimp only); refine' End.sub ?F_q202 ?N_q202 (Or.inr (Or.inr ?P_q202)) ?S_q202; (case F_q202 => k_asm); (case N_q202 => k_asm); (case' P_q202 => ((try dsimp only); k_extra "X M post")); (case S_q202 => k_extra "X M pick"); all_goals (first | done | with_reducible assumption | with_reducible exact List.forall_mem_nil _ | ((with_reducible refine List.forall_mem_cons.mpr ⟨?_, ?_⟩); k_extra "X M sep"; done) | ((with_reducible show Apart []); exact True.intro) | ((with_reducible show Apart (_ :: _)); k_extra "X M sep"; done) | with_reducible exact fun _ => rfl | with_reducible exact Nat.zero_le _ | ((with_reducible show Array.size _ ≤ _); simp only [byteArr_size]; omega) | omega | skip)))
  k_with "X setItem ref int" => (((fail_if_success (fail_if_success (with_reducible show wpAny _ _ (setItem (Value.ref _) (Value.int 0 _) _) _ _ _))); k_here; k_dflt (refine' set2_0 ?k1_q203 ?k2_q203 ?k3_q203 ?_; (case k1_q203 => k_asm); (case k2_q203 => k_asm); (case k3_q203 => k_upd); k_whole); intro h' F' N'; (try dsimp only at N'); (try dsimp only); (try k_sweep)))
  k_with "X setItem ref int" => (((fail_if_success (fail_if_success (with_reducible show wpAny _ _ (setItem (Value.ref _) (Value.int 1 _) _) _ _ _))); k_here; k_dflt (refine' set2_1g ?b1_q204 ?b2_q204 ?k1_q204 ?k2_q204 ?k3_q204 ?_; (case k1_q204 => k_asm); (case k2_q204 => k_asm); (case k3_q204 => intro c; k_upd); (case b1_q204 => exact fm_lo (by decide)); (case b2_q204 => exact fm_hi (by decide)); k_whole); intro c' h' hc1' hc2' F' N'; (try dsimp only at N'); (try dsimp only); (try k_sweep)))
  k_with "X subscriptTail Name Constant ref int" => (((fail_if_success (fail_if_success (with_reducible show wpAny _ _ (subscriptTail _ _ (Value.ref _) (Value.int _ _)) _ _ _))); k_here; k_dflt (refine' kim_list ?N_q205 ?hm_q205 ?hc_q205 ?hd_q205 ?h0_q205 ?hf_q205 ?hx_q205 ?_; (case N_q205 => k_asm); (case hm_q205 => k_mem); (case hc_q205 => rfl); (case hd_q205 => rfl); (case h0_q205 => decide); (case hf_q205 => decide); (case hx_q205 => rfl); k_whole)))
  k_with "X M side" => (first | with_reducible assumption | ((with_reducible show List.length _ ≤ _); simp only [List.length_take, List.length_drop]; omega) | omega | exact Nat.le_of_ble_eq_true rfl | exact rfl | trivial)
  k_with "X CompSrc Compare" => ((k_here; k_dflt (refine' cs_src (fun i ys => ∃ bs : List Bool, BoolsAre ys bs ∧ bs.length = i) ?hh_q207 ?F_q207 ?N_q207 ?S_q207 ?hr_q207 ?he_q207 ?he'_q207 ?h1_q207 ?hY_q207 ?turn_q207 ?fin_q207; (case hh_q207 => exact rfl); (case F_q207 => k_asm); (case N_q207 => k_asm); (case h1_q207 => with_reducible assumption); (case S_q207 => k_extra "X M pick"); (case hr_q207 => with_reducible assumption); (case he_q207 => first | decide | omega); (case he'_q207 => first | decide | omega); (case hY_q207 => exact ⟨[], rfl, rfl⟩); (case turn_q207 => (intro i ys o9 v I oI C oC D m₂ h tk E' hi hY h1 hP hC hx F N off ne; (obtain ⟨t9', hv9'⟩ := hP); subst hv9'; (replace off := Keep9.mk off); (obtain ⟨_, _, _⟩ := ne); k_steps; (try dsimp only); refine' TurnEnd.intro ?F_q207 ?N_q207 ?S_q207 ?h1_q207 ?hY_q207; (case F_q207 => k_asm); (case N_q207 => k_asm); (case S_q207 => (try simp only [List.cons_append, List.nil_append]); k_extra "X M pick"); (case h1_q207 => with_reducible assumption);  (case hY_q207 => (obtain ⟨bs, hb1, hb2⟩ := hY; exact ⟨bs ++ [_], bools_snoc hb1, by simp [hb2]⟩))))); intro g ys o9 hY h1; (obtain ⟨b0, b1, b2, b3, b4, b5, hys⟩ := bools6 hY); subst hys))
  k_with "X CompSrc Call" => ((k_here; k_dflt (refine' cs_src (fun i ys => ∃ ks : List Int, OctsAre ys ks ∧ ks.length = i) ?hh_q208 ?F_q208 ?N_q208 ?S_q208 ?hr_q208 ?he_q208 ?he'_q208 ?h1_q208 ?hY_q208 ?turn_q208 ?fin_q208; (case hh_q208 => exact rfl); (case F_q208 => k_asm); (case N_q208 => k_asm); (case h1_q208 => with_reducible assumption); (case S_q208 => k_extra "X M pick"); (case hr_q208 => with_reducible assumption); (case he_q208 => first | decide | omega); (case he'_q208 => first | decide | omega); (case hY_q208 => exact ⟨[], ⟨.nil, by simp⟩, rfl⟩); (case turn_q208 => (intro i ys o9 v I oI C oC D m₂ h tk E' hi hY h1 hP hC hx F N off ne; (obtain ⟨t9', hv9'⟩ := hP); subst hv9'; (replace off := Keep9.mk off); (obtain ⟨_, _, _⟩ := ne); k_steps; (try dsimp only); refine' TurnEnd.intro ?F_q208 ?N_q208 ?S_q208 ?h1_q208 ?hY_q208; (case F_q208 => k_asm); (case N_q208 => k_asm); (case S_q208 => (try simp only [List.cons_append, List.nil_append]); k_extra "X M pick"); (case h1_q208 => with_reducible assumption);  (case hY_q208 => (obtain ⟨bs, hb1, hb2⟩ := hY; exact ⟨bs ++ [_], octs_snoc hb1 (by with_reducible assumption) (by with_reducible assumption), by simp [hb2]⟩))))); intro g ys o9 hY h1; (obtain ⟨ks, hks, hkl⟩ := hY)))
  k_with "X call type:bytes" => (((fail_if_success (fail_if_success (with_reducible show wpAny _ _ (PySem.call (Value.type "bytes") [Value.ref _]) _ _ _))); k_here; k_dflt (refine' KBa.make_K ?F_q209 ?N_q209 ?h_q209 ?l_q209 ?i_q209 ?r_q209 ?n_q209 ?_; (case F_q209 => k_asm); (case N_q209 => k_asm); (case h_q209 => exact rfl); (case l_q209 => exact News.isList (by k_asm) (by k_mem)); (case i_q209 => exact OctsAre.ints (by with_reducible assumption)); (case r_q209 => exact OctsAre.inB (by with_reducible assumption)); (case n_q209 => exact OctsAre.short (by with_reducible assumption) (by with_reducible assumption) (by omega))); intro h9 t9 k9 F9 N9 e9; (try k_sweep); (try dsimp only); (try k_fold)))
  k_with "X FinE" => (((unfold LCg.FinE); intro D' h' tk' F' N' o1'; (try simp only [LCg.Off1, and_true] at o1'); (repeat ((have _ := And.left o1'); (replace o1' := And.right o1'))); (try simp only [List.nil_append, List.cons_append] at N'); (try dsimp only)))
  k_with "X FinA" => (((unfold LCg.FinA); intro D' h' tk' F' N' o1'; (try simp only [LCg.Off1, and_true] at o1'); (repeat ((have _ := And.left o1'); (replace o1' := And.right o1'))); (try simp only [List.nil_append, List.cons_append] at N'); (try dsimp only)))
  k_with "X subscriptTail" => (((fail_if_success (fail_if_success (with_reducible show wpAny _ _ (subscriptTail _ (Expr.Slice _ _ none _) (Value.bytes _ _) (Value.ref _)) _ _ _))); k_here; (with_reducible rename Fr _ _ _ _ => F'); (with_reducible rename News _ _ _ _ => N'); (refine KBc.slice_K (s := ⟨_, _, _, _, _⟩) F' N' (by kba_ints) (by constructor) (by constructor) (by kba_size) ?_); intro _ _ _ _ _ kbcK; (try simp only [Option.elim, clipA0, clipA2, clipA4, clipA6, clip0, clip1, clip2, clip3, clip4, clip5, clip6, clip8, clip12, clip20, clip22, clip25, clip27, clip28, clip29, clip34, clip35, clip36, clip38, clipB2, clipT, clipAt_nat, sl_mid, sl_to, sl_from, List.drop_zero, Nat.sub_zero, Nat.reduceSub] at kbcK)))
  k_with "X binaryOp Add bytes bytes" => (((fail_if_success (fail_if_success (with_reducible show wpAny _ _ (binaryOp Operator.Add (Value.bytes _ _) (Value.bytes _ _)) _ _ _))); k_here; (refine KBa.add_K (by first | exact bInts_nil | kba_ints) (by first | exact bInts_nil | kba_ints) (by simp only [List.length_append, octsTo_length, vecO_length, vecG_length, timO_length, List.length_cons, List.length_nil]; omega) ?_); intro _ _ kbaApp; (try simp only [List.nil_append] at kbaApp)))
  k_with "X exec For Name Call cons nil" => (((fail_if_success (fail_if_success (with_reducible show wpAny _ _ (exec (Stmt.For (Expr.Name "worth" _) _ _ _ _) _) _ _ _))); k_here; (rename Fr _ _ _ _ => lF'); (with_unfolding_all refine' For_turns lF' ?_; k_whole)))
  k_with "X getMethod ref" => (((fail_if_success (fail_if_success (with_reducible show wpAny _ _ (getMethod (Value.ref 67) _ _) _ _ _))); k_here; (with_reducible rename Fr _ _ _ _ => F9); (with_reducible rename Frag.In _ _ => X9); k_dflt (refine' getMethod_tuple ?tho_q215 ?thc_q215 ?thd_q215 ?_; (case tho_q215 => exact (X9.keeps F9.keep) _ _ (by k_is)); (case thc_q215 => exact rfl); (case thd_q215 => exact rfl))))
  k_with "X call builtin:tuple.index" => (((fail_if_success (fail_if_success (with_reducible show wpAny _ _ (PySem.call (Value.builtin "tuple.index") [Value.ref 67, Value.str (roleN _) _]) _ _ _))); k_here; (with_reducible rename Fr _ _ _ _ => F9); (with_reducible rename Frag.In _ _ => X9); k_dflt (refine' tuple_index_role ?tho_q216 ?thc_q216 ?thd_q216 ?thr_q216 ?_; (case tho_q216 => exact (X9.keeps F9.keep) _ _ (by k_is)); (case thc_q216 => exact rfl); (case thd_q216 => exact rfl); (case thr_q216 => assumption))))
  k_with "X call builtin:list.index" => (((fail_if_success (fail_if_success (with_reducible show wpAny _ _ (PySem.call (Value.builtin "list.index") ([Value.ref _] ++ [Value.str "none" _])) _ _ _))); k_here; k_dflt (refine' list_index_role (r := 0) ?tN_q217 ?tm_q217 ?thr_q217 ?_; (case tN_q217 => k_asm); (case tm_q217 => k_mem); (case thr_q217 => decide))))
  k_with "X call builtin:list.index" => (((fail_if_success (fail_if_success (with_reducible show wpAny _ _ (PySem.call (Value.builtin "list.index") ([Value.ref _] ++ [Value.str (roleN _) _])) _ _ _))); k_here; k_dflt (refine' list_index_role ?tN_q218 ?tm_q218 ?thr_q218 ?_; (case tN_q218 => k_asm); (case tm_q218 => k_mem); (case thr_q218 => with_reducible assumption))))
  k_with "X call type:bytes" => (((fail_if_success (fail_if_success (with_reducible show wpAny _ _ (PySem.call (Value.type "bytes") [Value.ref _]) _ _ _))); k_here; k_dflt (refine' bytes1 ?bF_q219 ?bN_q219 ?bh_q219 ?bm_q219 ?b0_q219 ?b1_q219 ?_; (case bF_q219 => k_asm); (case bN_q219 => k_asm); (case bh_q219 => exact rfl); (case bm_q219 => k_mem); (case b0_q219 => k_extra "X M oct"); (case b1_q219 => k_extra "X M oct")); intro h9 t9 k9 F9 N9 e9; (try k_sweep); (try dsimp only); (try k_fold)))
  k_with "X call type:bytes" => (((fail_if_success (fail_if_success (with_reducible show wpAny _ _ (PySem.call (Value.type "bytes") [Value.ref _]) _ _ _))); k_here; k_dflt (refine' bytes2 ?bF_q220 ?bN_q220 ?bh_q220 ?bm_q220 ?b0_q220 ?b1_q220 ?b2_q220 ?b3_q220 ?_; (case bF_q220 => k_asm); (case bN_q220 => k_asm); (case bh_q220 => exact rfl); (case bm_q220 => k_mem); (case b0_q220 => k_extra "X M oct"); (case b1_q220 => k_extra "X M oct"); (case b2_q220 => k_extra "X M oct"); (case b3_q220 => k_extra "X M oct")); intro h9 t9 k9 F9 N9 e9; (try k_sweep); (try dsimp only); (try k_fold)))
  k_with "X M oct" => (first | with_reducible assumption | with_reducible exact (flN_bd _ _ _ _ _ _ (by first | with_reducible assumption | decide)).1 | with_reducible exact (flN_bd _ _ _ _ _ _ (by first | with_reducible assumption | decide)).2 | with_reducible exact fm256_lo | with_reducible exact fm256_hi | with_reducible exact pw_lo (by with_reducible assumption) (by with_reducible assumption) | with_reducible exact pw_hi (by with_reducible assumption) (by with_reducible assumption) | with_reducible exact (flW_bd (by with_reducible assumption) (by first | with_reducible assumption | decide)).1 | with_reducible exact (flW_bd (by with_reducible assumption) (by first | with_reducible assumption | decide)).2 | with_reducible exact (flC_bd _ _).1 | with_reducible exact (flC_bd _ _).2 | with_reducible exact (flR_bd _ _ _ _ _ _ (by with_reducible assumption)).1 | with_reducible exact (flR_bd _ _ _ _ _ _ (by with_reducible assumption)).2 | omega)
  k_with "X call type:bytes" => (((fail_if_success (fail_if_success (with_reducible show wpAny _ _ (PySem.call (Value.type "bytes") [Value.int 1 _]) _ _ _))); k_here; k_dflt (refine bytes_one ?_); intro _ _ kbaOne))
  k_with "X eval ListComp" => (((fail_if_success (fail_if_success (with_reducible show wpAny _ _ (eval (Expr.ListComp _ [⟨Expr.Name "place" _, _, [], 0⟩] _ _) _) _ _ _))); k_here; k_dflt (refine ListComp_W (F₀ := by k_asm) (by with_unfolding_all rfl) (by decide) (by rfl) (by decide) (by rfl) ?_)))
  k_with "X binaryOp FloorDiv int int" => (((fail_if_success (fail_if_success (with_reducible show wpAny _ _ (binaryOp Operator.FloorDiv (Value.int _ _) (Value.int (256 ^ _) _)) _ _ _))); k_here; k_dflt (refine floordiv_int (pow256_ne _) ?_ (Or.inl (PyProof.noPylong_of_log2 (pow256_log (by omega)))))))
  k_with "X M octs" => (first | with_reducible assumption | exact OctsAre.nil | (refine' OctsAre.cons ?oc1_q225 ?oc2_q225 ?oc3_q225; (case oc1_q225 => k_extra "X M oct"); (case oc2_q225 => k_extra "X M oct"); (case oc3_q225 => k_extra "X M octs")))
  k_with "X M len" => (first | with_reducible exact lenB_octs | with_reducible exact lenB_nil | ((with_reducible apply lenB_cons) <;> k_extra "X M len") | ((with_reducible apply lenB_app) <;> k_extra "X M len") | ((with_reducible apply lenB_take) <;> k_extra "X M len") | ((with_reducible apply lenB_drop) <;> k_extra "X M len") | with_reducible assumption)
  k_with "X M lensz" => (first | ((with_reducible show List.length _ + List.length _ ≤ _); (with_reducible apply lenB_two) <;> first | decide | k_extra "X M len") | ((with_reducible show List.length _ ≤ _); (with_reducible apply lenB_one) <;> first | decide | k_extra "X M len"))
  k_with "X M hu" => (((try dsimp only [ktrTop]); first | exact rmK (by with_reducible assumption) 3 (by decide) | exact rmK (by with_reducible assumption) 4 (by decide) | exact rmK (by with_reducible assumption) 6 (by decide) | exact rmK (by with_reducible assumption) 5 (by decide) | exact rmK (by with_reducible assumption) 8 (by decide) | exact rmK (by with_reducible assumption) 10 (by decide) | exact rmK (by with_reducible assumption) 12 (by decide) | exact rmK (by with_reducible assumption) 7 (by decide) | exact rmK (by with_reducible assumption) 9 (by decide) | exact rmK (by with_reducible assumption) 18 (by decide) | exact rmK (by with_reducible assumption) 13 (by decide) | exact rmK (by with_reducible assumption) 24 (by decide)))
  k_with "X M osz" => (first | k_extra "X M lensz" | (simp only [List.length_append, octsTo_length, vecO_length, timO_length, List.length_cons, List.length_nil, List.length_take, List.length_drop]; omega))
  k_with "X binaryOp Add ref ref" => (((fail_if_success (fail_if_success (with_reducible show wpAny _ _ (binaryOp Operator.Add (Value.ref _) (Value.ref _)) _ _ _))); k_here; k_dflt (refine' add_octs ?oF_q230 ?oN_q230 ?oa_q230 ?ob_q230 ?ox_q230 ?oy_q230 ?oz_q230 ?_; (case oF_q230 => k_asm); (case oN_q230 => k_asm); (case oa_q230 => k_extra "X M del"); (case ob_q230 => k_extra "X M del"); (case ox_q230 => k_extra "X M octs"); (case oy_q230 => k_extra "X M octs"); (case oz_q230 => k_extra "X M osz")); intro D' zs' h' F' N' l1' o9'; (try k_lt l1'); (try k_sweep); (try dsimp only); (try k_fold)))
  k_with "X eval ListComp" => (((fail_if_success (fail_if_success (with_reducible show wpAny _ _ (eval (Expr.ListComp _ [⟨Expr.Name "at" _, _, [], 0⟩] _ _) _) _ _ _))); k_here; k_dflt (refine ListComp_W (F₀ := by k_asm) (by with_unfolding_all rfl) (by decide) (by rfl) (by decide) (by rfl) ?_)))
  k_with "X callWith ref" => (((fail_if_success (fail_if_success (with_reducible show wpAny _ _ (callWith _ (Value.ref _) _ (backTo _ (starEach [] _)) []) _ _ _))); k_here; (with_reducible rename Fr _ _ _ _ => F9); (with_reducible rename Frag.In _ _ => X9); k_dflt (refine' callWith_K0 ?k1_q232 ?k2_q232 ?_; (case k1_q232 => exact Frag.In.keeps X9 (Fr.keep F9)); (case k2_q232 => k_is); k_whole)))
  k_with "X call builtin:Exception.__init__" => (((fail_if_success (fail_if_success (with_reducible show wpAny _ _ (PySem.call (Value.builtin "Exception.__init__") [Value.ref _, _]) _ _ _))); k_here; k_dflt (refine' exc_initK ?eF_q233 ?eX_q233 ?eN_q233 ?eH_q233 ?eC_q233 ?_; (case eF_q233 => k_asm); (case eX_q233 => k_asm); (case eN_q233 => k_asm); (case eH_q233 => k_asm); (case eC_q233 => k_is)); intro t1 h1 tk1 F1 N1; (try dsimp only)))
  k_with "X setAttr ref" => (((fail_if_success (fail_if_success (with_reducible show wpAny _ _ (setAttr (Value.ref _) "message" _) _ _ _))); k_here; k_dflt (refine' exc_set ?eF_q234 ?eX_q234 ?eN_q234 ?eH_q234 ?eC_q234 ?es_q234 ?en_q234 ?_; (case eF_q234 => k_asm); (case eX_q234 => k_asm); (case eN_q234 => k_asm); (case eH_q234 => k_asm); (case eC_q234 => k_is); (case es_q234 => k_is); (case en_q234 => k_is)); intro d1 h1 tk1 F1 N1; (try dsimp only)))
  k_with "X exec Raise some none" => (((fail_if_success (fail_if_success (with_reducible show wpAny _ _ (exec (Stmt.Raise (some (Expr.Call (Expr.Name "FormError" _) _ _ _)) none _) _) _ _ _))); k_here; k_dflt (refine' raise_K (C := 51) ?eX_q235 ?eC_q235 ?eh_q235 ?_; (case eX_q235 => k_asm); (case eC_q235 => k_is); (case eh_q235 => exact rfl))))
  k_with "X exec Raise some none" => (((fail_if_success (fail_if_success (with_reducible show wpAny _ _ (exec (Stmt.Raise (some (Expr.Call (Expr.Name "SizeError" _) _ _ _)) none _) _) _ _ _))); k_here; k_dflt (refine' raise_K (C := 63) ?eX_q236 ?eC_q236 ?eh_q236 ?_; (case eX_q236 => k_asm); (case eC_q236 => k_is); (case eh_q236 => exact rfl))))
  k_with "X RaiseEnd" => ((k_dflt (refine' RaiseEnd.intro ?eF_q237 ?eN_q237 ?em_q237 ?_; (case eF_q237 => k_asm); (case eN_q237 => k_asm); (case em_q237 => exact List.Mem.head _)); (try dsimp only); k_extra "X M raise"))
  k_with "X leaving ref" => ((k_here; first | (k_dflt (refine' leave_first ?eK_q238 ?eF_q238 ?eN_q238 ?em_q238 ?ec_q238 ?ed_q238 ?ef_q238 ?ek_q238 ?_; (case eK_q238 => with_reducible assumption); (case eF_q238 => k_asm); (case eN_q238 => k_asm); (case em_q238 => exact List.Mem.head _); (case ec_q238 => exact rfl); (case ed_q238 => exact rfl); (case ef_q238 => exact rfl); (case ek_q238 => exact rfl)); intro h1 R1 U1; exact EndE.intro R1 U1) | (k_dflt ((with_reducible rename RaisedSN _ _ _ _ _ _ _ => rS9); refine' leave_next ?eK_q238 ?eF_q238 ?eR_q238 ?eU_q238 ?ef_q238 ?_; (case eR_q238 => exact rS9); (case eU_q238 => assumption); (case eF_q238 => with_reducible assumption); (case eK_q238 => with_reducible assumption); (case ef_q238 => exact rfl)); intro h1 R1 U1; exact EndE.intro R1 U1)))
  k_with "X getMethod type:Exception" => ((k_here; refine' method_type ?F_q239 ?X_q239 ?m_q239 (by decide +kernel) ?e_q239 ?h_q239 ?_; (case F_q239 => k_asm); (case X_q239 => k_asm); (case m_q239 => exact meta_Exc); (case e_q239 => k_dflt k_is); (case h_q239 => k_handed)))
  k_with "X exec For Name Name" => (((fail_if_success (fail_if_success (with_reducible show wpAny _ _ (exec (Stmt.For (Expr.Name "kind" _) _ _ _ _) _) _ _ _))); k_here; (rename Fr _ _ _ _ => lF'); (with_unfolding_all refine' For_turns lF' ?_; k_whole)))
  k_with "X pyIter ref" => (((fail_if_success (fail_if_success (with_reducible show wpAny _ _ (pyIter (Value.ref 66)) _ _ _))); k_here; (with_unfolding_all refine' iter_kinds ?h_q241 ?F_q241 ?N_q241 ?X_q241 ?k_q241 ?d_q241 ?l_q241 ?_; (case h_q241 => with_unfolding_all rfl); (case F_q241 => k_asm); (case N_q241 => k_asm); (case X_q241 => k_asm); (case k_q241 => k_is); (case d_q241 => exact kinds_dict (by decide) (by decide) (by decide)); (case l_q241 => decide); k_whole); intro i' l1; (try k_lt l1)))
  k_with "X M eqv" => (first | with_reducible exact PySem.SeqAt.EqAt.same _ | with_reducible exact eqAt_int _ _ _ | with_reducible exact eqAt_str _ _ _ | with_reducible exact eqAt_bytes _ _ _ | (refine' eqAt_tup ?qN_q242 ?qa_q242 ?qb_q242 ?qu_q242 ?qh_q242; (case qN_q242 => k_asm); (case qa_q242 => k_mem); (case qb_q242 => k_mem); (case qu_q242 => ((simp only [units_in1]); ktr_units)); (case qh_q242 => k_extra "X M eqvs")))
  k_with "X M eqvs" => (first | exact AllEq.nil | (refine' AllEq.cons ?qe_q243 ?qr_q243; (case qe_q243 => k_extra "X M eqv"); (case qr_q243 => k_extra "X M eqvs")))
  k_with "X compareOp Eq ref ref" => (((fail_if_success (fail_if_success (with_reducible show wpAny _ _ (compareOp CmpOp.Eq (Value.ref _) (Value.ref _)) _ _ _))); k_here; k_dflt (refine' eq_tups ?qN_q244 ?qa_q244 ?qb_q244 ?qu_q244 ?qh_q244 ?_; (case qN_q244 => k_asm); (case qa_q244 => k_mem); (case qb_q244 => k_mem); (case qu_q244 => ktr_units); (case qh_q244 => k_extra "X M eqvs"))))
  k_with "X compareOp NotEq ref ref" => (((fail_if_success (fail_if_success (with_reducible show wpAny _ _ (compareOp CmpOp.NotEq (Value.ref _) (Value.ref _)) _ _ _))); k_here; k_dflt (refine' ne_tups ?qN_q245 ?qa_q245 ?qb_q245 ?qu_q245 ?qh_q245 ?_; (case qN_q245 => k_asm); (case qa_q245 => k_mem); (case qb_q245 => k_mem); (case qu_q245 => ktr_units); (case qh_q245 => k_extra "X M eqvs"))))
  k_with "X M hide" => (iterate 48 (try ((with_reducible rename @Ne Nat _ _ => hd9); (have hk9 := Keep9.mk hd9); clear hd9)))
  k_with "X M show" => (iterate 48 (try ((with_reducible rename Keep9 _ => hd9); (have hk9 := Keep9.out hd9); clear hd9)))
  k_with "X call builtin:min" => (((fail_if_success (fail_if_success (with_reducible show wpAny _ _ (PySem.call (Value.builtin "min") [Value.int _ _, Value.int _ _]) _ _ _))); k_here; k_dflt (refine' min_ii ?hh_q248 ?F_q248 ?N_q248 ?_; (case hh_q248 => exact rfl); (case F_q248 => k_asm); (case N_q248 => k_asm)); intro h9 tk9 tr9 F9 N9; (try k_sweep); (try dsimp only)))
  k_with "X subscriptTail" => (((fail_if_success (fail_if_success (with_reducible show wpAny _ _ (subscriptTail _ (Expr.Constant _ _ _) (Value.bytes _ _) (Value.int _ _)) _ _ _))); k_here; (refine oct_at (by with_reducible assumption) (by with_reducible assumption) (by with_reducible assumption) (by decide) (by decide) ?_); intro _ _ kbaLo kbaHi; (try dsimp only)))
  k_with "X subscriptTail" => (((fail_if_success (fail_if_success (with_reducible show wpAny _ _ (subscriptTail _ _ (Value.ref 67) (Value.int _ _)) _ _ _))); k_here; (with_reducible rename Fr _ _ _ _ => F9); (with_reducible rename Frag.In _ _ => X9); k_dflt (refine' role_at ?tho_q250 ?thc_q250 ?thd_q250 ?thx_q250 ?thr_q250 ?_ ?ths_q250 ?thg_q250; (case ths_q250 => exact fun _ _ => subscripted_binop); (case thg_q250 => (intro _; with_unfolding_all rfl)); (case tho_q250 => exact (X9.keeps F9.keep) _ _ (by k_is)); (case thc_q250 => exact rfl); (case thd_q250 => exact rfl); (case thx_q250 => exact Keep9.out (by with_reducible assumption)); (case thr_q250 => with_reducible assumption)); intro tr9; (try dsimp only)))
  k_with "X call type:list" => (((fail_if_success (fail_if_success (with_reducible show wpAny _ _ (PySem.call (Value.type "list") [Value.bytes _ _]) _ _ _))); k_here; k_dflt (refine' list_bytes ?hh_q251 ?F_q251 ?N_q251 ?hk_q251 ?hn_q251 ?_; (case hh_q251 => exact rfl); (case F_q251 => k_asm); (case N_q251 => k_asm); (case hk_q251 => with_reducible assumption); (case hn_q251 => first | exact Nat.le_trans (by with_reducible assumption) (by decide) | k_extra "X M osz")); intro l9 vals9 n9 h9 tk9 F9 N9 lt9 ok9; (try k_lt lt9); (try k_sweep); (try dsimp only); (try k_fold)))
  k_with "X M mem" => (first | with_reducible exact List.mem_cons_self | (with_reducible refine List.mem_cons_of_mem _ ?_; k_extra "X M mem") | (with_reducible refine List.mem_append_right _ ?_; k_extra "X M mem"))
  k_with "X M amem" => (first | with_reducible exact List.mem_cons_self | (with_reducible refine List.mem_cons_of_mem _ ?_; k_extra "X M amem"))
  k_with "X M bef" => (first | (with_reducible refine Bef.here ?_; k_extra "X M amem") | (with_reducible refine Bef.next ?_; k_extra "X M bef"))
  k_with "X M nesep" => (first | (refine' sepK (by with_reducible assumption) ?ma9_q255 ?mb9_q255; (case ma9_q255 => k_extra "X M mem"); (case mb9_q255 => k_extra "X M mem")) | (refine' sepK' (by with_reducible assumption) ?ma9_q255 ?mb9_q255; (case ma9_q255 => k_extra "X M mem"); (case mb9_q255 => k_extra "X M mem")) | (((with_reducible rename Keep9 (Sep _ _) => zz9); clear zz9); k_extra "X M nesep"))
  k_with "X M neap" => (first | (refine' apK (by with_reducible assumption) ?ma9_q256; (case ma9_q256 => k_extra "X M bef")) | (refine' apK' (by with_reducible assumption) ?ma9_q256; (case ma9_q256 => k_extra "X M bef")) | (((with_reducible rename Keep9 (Apart _) => zz9); clear zz9); k_extra "X M neap"))
  k_with "X M ne" => ((refine neN ?_; (try dsimp only); first | with_reducible assumption | exact Ne.symm (by with_reducible assumption) | exact Keep9.out (by with_reducible assumption) | exact Ne.symm (Keep9.out (by with_reducible assumption)) | (refine' gtK (by with_reducible assumption) ?ma9_q257; (case ma9_q257 => k_extra "X M mem")) | (refine' ltK (by with_reducible assumption) ?ma9_q257; (case ma9_q257 => k_extra "X M mem")) | k_extra "X M neap" | k_extra "X M nesep" | (refine' offK (by with_reducible assumption) ?ma9_q257; (case ma9_q257 => k_extra "X M mem")) | (refine' offK' (by with_reducible assumption) ?ma9_q257; (case ma9_q257 => k_extra "X M mem")) | (refine' ltK1 (by with_reducible assumption) ?ma9_q257; (case ma9_q257 => k_extra "X M mem")) | (refine' gtK1 (by with_reducible assumption) ?ma9_q257; (case ma9_q257 => k_extra "X M mem")) | k_extra "X M neoff" | exact Nat.ne_of_lt (by with_reducible assumption) | exact Nat.ne_of_gt (by with_reducible assumption) | omega))
  k_with "X M back" => (((try dsimp only); repeat (first | (with_reducible refine Bk.ex ?_; intro x9) | with_reducible refine Bk.and ?_ | with_reducible refine Bk.or ?_ ?_ | with_reducible refine Bk.ap_nil ?_ | with_reducible refine Bk.sep_nil ?_ | ((with_reducible show Bk (Apart _) _); refine Bk.fact ?_; intro e9; (replace e9 := Keep9.mk e9)) | ((with_reducible show Bk (Sep _ _) _); refine Bk.fact ?_; intro e9; (replace e9 := Keep9.mk e9)) | with_reducible refine Bk.na_nil ?_ | with_reducible refine Bk.ne_nil ?_ | (with_reducible refine Bk.fact ?_; intro e9; first | subst e9 | skip))))
  k_with "X M letF" => (((with_reducible rename Fr _ _ _ _ => fr9); refine letFr fr9 ?_; clear fr9; intro m9 fr9))
  k_with "X M letN" => (((with_reducible rename News _ _ _ _ => nw9); refine letNw nw9 ?_; clear nw9; intro n9 nw9))
  k_with "X storeName" => ((k_here; k_dflt (refine' storeX_L ?F_q261 ?N_q261 ?_ ?a_q261 ?b_q261; (case F_q261 => k_asm); (case N_q261 => k_asm); (case a_q261 => rfl); (case b_q261 => rfl); k_whole; intro h' F' N'; (try k_sweep)); (try k_extra "X M letF")))
  k_with "X M side" => (((with_reducible show _ ≠ _); k_extra "X M ne"))
  k_with "X M neoff" => (first | (refine' o3a (by with_reducible assumption) ?ma9_q263; (case ma9_q263 => k_extra "X M mem")) | (refine' o3b (by with_reducible assumption) ?ma9_q263; (case ma9_q263 => k_extra "X M mem")) | (refine' o3c (by with_reducible assumption) ?ma9_q263; (case ma9_q263 => k_extra "X M mem")) | (refine' o3a' (by with_reducible assumption) ?ma9_q263; (case ma9_q263 => k_extra "X M mem")) | (refine' o3b' (by with_reducible assumption) ?ma9_q263; (case ma9_q263 => k_extra "X M mem")) | (refine' o3c' (by with_reducible assumption) ?ma9_q263; (case ma9_q263 => k_extra "X M mem")) | (refine' offS (by with_reducible assumption) ?ma9_q263; (case ma9_q263 => k_extra "X M mem")) | (refine' offS' (by with_reducible assumption) ?ma9_q263; (case ma9_q263 => k_extra "X M mem")) | (refine' offL (by with_reducible assumption) ?ma9_q263; (case ma9_q263 => k_extra "X M mem")) | (refine' offL' (by with_reducible assumption) ?ma9_q263; (case ma9_q263 => k_extra "X M mem")))
  k_with "X FinE" => (((unfold LCg.FinE); intro D' h' tk' F' N' o1'; (replace o1' := Keep9.mk o1'); (try simp only [List.nil_append, List.cons_append] at N'); (try dsimp only)))
  k_with "X FinA" => (((unfold LCg.FinA); intro D' h' tk' F' N' o1'; (replace o1' := Keep9.mk o1'); (try simp only [List.nil_append, List.cons_append] at N'); (try dsimp only)))
  k_with "X M hide" => (skip)
  k_with "X M show" => (skip)
  k_with "X M side" => ((refine' ltSide (by with_reducible assumption) ?ma9_q268; (case ma9_q268 => k_extra "X M mem")))
  k_with "X M side" => (first | exact Keep9.out (by with_reducible assumption) | ((with_reducible show Apart _); k_extra "X M sep"; done))
  k_with "X M letApp" => (((repeat ((with_reducible rename News _ _ _ _ => nw9); with_reducible refine letApp nw9 ?_; clear nw9; intro e9 nw9)); (try ((with_reducible rename News _ _ _ _ => nw9); with_reducible refine letNil nw9 ?_; clear nw9; intro n9 nw9))))
  k_with "X M letCons" => (((with_reducible rename News _ _ _ _ => nw9); with_reducible refine letCons nw9 ?_; clear nw9; intro e9 n9 nw9))
  k_with "X M letCons2" => (((with_reducible rename News _ _ _ _ => nw9); with_reducible refine letCons2 nw9 ?_; clear nw9; intro d9 e9 n9 nw9))
  k_with "X M raise" => ((try (show wpAny _ _ _ _ _ _)))
  k_with "X M side" => (((with_reducible refine Keep9.mk ?_); first | ((with_reducible show Apart _); k_extra "X M sep"; done) | ((with_reducible show @Ne Nat _ _); k_extra "X M ne")))
  k_with "X subscriptTail" => (((fail_if_success (fail_if_success (with_reducible show wpAny _ _ (subscriptTail _ (Expr.Constant _ _ _) (Value.bytes _ _) (Value.int _ _)) _ _ _))); k_here; (refine oct_atG (by with_reducible assumption) (by with_reducible assumption) (by decide) (by omega) ?_); intro z9 _ _ _ kbaLo kbaHi; (try dsimp only)))
  k_with "X subscriptTail" => (((fail_if_success (fail_if_success (with_reducible show wpAny _ _ (subscriptTail _ _ (Value.ref 67) (Value.int _ _)) _ _ _))); k_here; (with_reducible rename Fr _ _ _ _ => F9); (with_reducible rename Frag.In _ _ => X9); k_dflt (refine' role_atG ?tho_q276 ?thc_q276 ?thd_q276 ?th0_q276 ?th1_q276 ?_ ?ths_q276 ?thg_q276; (case ths_q276 => exact fun _ _ => subscripted_binop); (case thg_q276 => (intro _; with_unfolding_all rfl)); (case tho_q276 => exact (X9.keeps F9.keep) _ _ (by k_is)); (case thc_q276 => exact rfl); (case thd_q276 => exact rfl); (case th0_q276 => with_reducible assumption); (case th1_q276 => with_reducible assumption)); intro r9 tr9 _ _; (try dsimp only)))
  k_with "X call builtin:min" => (((fail_if_success (fail_if_success (with_reducible show wpAny _ _ (PySem.call (Value.builtin "min") [Value.int _ _, Value.int _ _]) _ _ _))); k_here; k_dflt (refine' min_iiG ?hh_q277 ?F_q277 ?N_q277 ?_; (case hh_q277 => exact rfl); (case F_q277 => k_asm); (case N_q277 => k_asm)); intro v9 h9 tk9 tr9 _ F9 N9; (try k_sweep); (try dsimp only)))
  k_with "X call ref" => (((fail_if_success (fail_if_success (with_reducible show wpAny _ _ (PySem.call (Value.ref 253) _) _ _ _))); k_here; k_dflt (refine' Ctr.useI0 (c_take ?s0_q278 ?s1_q278 ?s2_q278) ?B_q278 ?F_q278 ?X_q278 ?N_q278 ?P_q278 ?S_q278 ?T_q278 ?hd_q278 ?hu_q278 ?_; (case B_q278 => k_asm); (case F_q278 => k_asm); (case X_q278 => k_asm); (case N_q278 => k_asm); (case P_q278 => k_extra "X M pick"); (case S_q278 => k_extra "X M sep"); (case T_q278 => k_asm); (case hd_q278 => first | exact rm1 (by with_reducible assumption) (by decide) | ((dsimp only [ktrTop]); exact rm1 (by with_reducible assumption) (by decide)) | ((dsimp only [ktrTop]); omega) | omega | ktr_room); (case hu_q278 => first | k_extra "X M hu" | ((dsimp only [ktrTop]); omega) | omega | ktr_units); (case s0_q278 => k_extra "X M side"); (case s1_q278 => k_extra "X M side"); (case s2_q278 => k_extra "X M side"); skip); intro h9 tk9 F9 G9 v9 n9 P9; ((first | refine P9.casesOn ?_ | refine P9.casesOn ?_ ?_) <;> (clear P9; intros; k_extra "X M letApp"; (try show wpAny _ _ _ _ _ _); (try k_sweep); (try dsimp only); (try k_fold)))))
  k_with "X call ref" => (((fail_if_success (fail_if_success (with_reducible show wpAny _ _ (PySem.call (Value.ref 260) _) _ _ _))); k_here; k_dflt (refine' Ctr.useI0 (c_one ?s0_q279 ?s1_q279 ?s2_q279 ?s3_q279) ?B_q279 ?F_q279 ?X_q279 ?N_q279 ?P_q279 ?S_q279 ?T_q279 ?hd_q279 ?hu_q279 ?_; (case B_q279 => k_asm); (case F_q279 => k_asm); (case X_q279 => k_asm); (case N_q279 => k_asm); (case P_q279 => k_extra "X M pick"); (case S_q279 => k_extra "X M sep"); (case T_q279 => k_asm); (case hd_q279 => first | exact rm1 (by with_reducible assumption) (by decide) | ((dsimp only [ktrTop]); exact rm1 (by with_reducible assumption) (by decide)) | ((dsimp only [ktrTop]); omega) | omega | ktr_room); (case hu_q279 => first | k_extra "X M hu" | ((dsimp only [ktrTop]); omega) | omega | ktr_units); (case s0_q279 => k_extra "X M side"); (case s1_q279 => k_extra "X M side"); (case s2_q279 => k_extra "X M side"); (case s3_q279 => k_extra "X M side"); skip); intro h9 tk9 F9 G9 v9 n9 P9; ((first | refine P9.casesOn ?_ | refine P9.casesOn ?_ ?_) <;> (clear P9; intros; k_extra "X M letApp"; (try show wpAny _ _ _ _ _ _); (try k_sweep); (try dsimp only); (try k_fold)))))
  k_with "X call ref" => (((fail_if_success (fail_if_success (with_reducible show wpAny _ _ (PySem.call (Value.ref 272) _) _ _ _))); k_here; k_dflt (refine' Ctr.useI1 (c_lbridge ?s0_q280) ?B_q280 ?F_q280 ?X_q280 ?N_q280 ?P_q280 ?S_q280 ?T_q280 ?hd_q280 ?hu_q280 ?_; (case B_q280 => k_asm); (case F_q280 => k_asm); (case X_q280 => k_asm); (case N_q280 => k_asm); (case P_q280 => k_extra "X M pick"); (case S_q280 => k_extra "X M sep"); (case T_q280 => k_asm); (case hd_q280 => first | exact rm1 (by with_reducible assumption) (by decide) | ((dsimp only [ktrTop]); exact rm1 (by with_reducible assumption) (by decide)) | ((dsimp only [ktrTop]); omega) | omega | ktr_room); (case hu_q280 => first | k_extra "X M hu" | ((dsimp only [ktrTop]); omega) | omega | ktr_units); (case s0_q280 => k_extra "X M side"); skip); intro h9 tk9 F9 G9 v9 n9 P9; ((first | refine P9.casesOn ?_ | refine P9.casesOn ?_ ?_) <;> (clear P9; intros; k_extra "X M letApp"; (try show wpAny _ _ _ _ _ _); (try k_sweep); (try dsimp only); (try k_fold)))))
  k_with "X call ref" => (((fail_if_success (fail_if_success (with_reducible show wpAny _ _ (PySem.call (Value.ref 279) _) _ _ _))); k_here; k_dflt (refine' Ctr.useI1 (c_lvector ?s0_q281) ?B_q281 ?F_q281 ?X_q281 ?N_q281 ?P_q281 ?S_q281 ?T_q281 ?hd_q281 ?hu_q281 ?_; (case B_q281 => k_asm); (case F_q281 => k_asm); (case X_q281 => k_asm); (case N_q281 => k_asm); (case P_q281 => k_extra "X M pick"); (case S_q281 => k_extra "X M sep"); (case T_q281 => k_asm); (case hd_q281 => first | exact rm1 (by with_reducible assumption) (by decide) | ((dsimp only [ktrTop]); exact rm1 (by with_reducible assumption) (by decide)) | ((dsimp only [ktrTop]); omega) | omega | ktr_room); (case hu_q281 => first | k_extra "X M hu" | ((dsimp only [ktrTop]); omega) | omega | ktr_units); (case s0_q281 => k_extra "X M side"); skip); intro h9 tk9 F9 G9 v9 n9 P9; ((first | refine P9.casesOn ?_ | refine P9.casesOn ?_ ?_) <;> (clear P9; intros; k_extra "X M letApp"; (try show wpAny _ _ _ _ _ _); (try k_sweep); (try dsimp only); (try k_fold)))))
  k_with "X call ref" => (((fail_if_success (fail_if_success (with_reducible show wpAny _ _ (PySem.call (Value.ref 134) [_, _, _, _] [_]) _ _ _))); k_here; k_dflt (refine' new_bpdu ?hb_q282 ?B_q282 ?F_q282 ?X_q282 ?N_q282 ?T_q282 ?hd_q282 ?hu_q282 ?_; (case hb_q282 => exact fun s x X => bind4r s x X); (case B_q282 => k_asm); (case F_q282 => k_asm); (case X_q282 => k_asm); (case N_q282 => k_asm); (case T_q282 => k_asm); (case hd_q282 => first | ((dsimp only [ktrTop]); omega) | omega | ktr_room); (case hu_q282 => first | k_extra "X M hu" | ((dsimp only [ktrTop]); omega) | omega | ktr_units)); intro x' d' t1 t2 t3 t4 t5 t6 t7 t8 t9 t10 t11 t12 h' tk' F' N' l1 l2; (have l3 := lt_all l1 l2); (replace l1 := Keep9.mk l1); (replace l3 := Keep9.mk l3); (try k_extra "X M letCons2"); (try k_sweep); (try dsimp only); (try k_fold)))
  k_with "X call ref" => (((fail_if_success (fail_if_success (with_reducible show wpAny _ _ (PySem.call (Value.ref 134) [_, _, _, _] []) _ _ _))); k_here; k_dflt (refine' new_bpdu ?hb_q283 ?B_q283 ?F_q283 ?X_q283 ?N_q283 ?T_q283 ?hd_q283 ?hu_q283 ?_; (case hb_q283 => exact fun s x X => bind4 s x X); (case B_q283 => k_asm); (case F_q283 => k_asm); (case X_q283 => k_asm); (case N_q283 => k_asm); (case T_q283 => k_asm); (case hd_q283 => first | ((dsimp only [ktrTop]); omega) | omega | ktr_room); (case hu_q283 => first | k_extra "X M hu" | ((dsimp only [ktrTop]); omega) | omega | ktr_units)); intro x' d' t1 t2 t3 t4 t5 t6 t7 t8 t9 t10 t11 t12 h' tk' F' N' l1 l2; (have l3 := lt_all l1 l2); (replace l1 := Keep9.mk l1); (replace l3 := Keep9.mk l3); (try k_extra "X M letCons2"); (try k_sweep); (try dsimp only); (try k_fold)))
  k_with "X call ref" => (((fail_if_success (fail_if_success (with_reducible show wpAny _ _ (PySem.call (Value.ref 134) [_, _, _, _, _, _, _, _, _, _, _, _] []) _ _ _))); k_here; k_dflt (refine' new_bpdu ?hb_q284 ?B_q284 ?F_q284 ?X_q284 ?N_q284 ?T_q284 ?hd_q284 ?hu_q284 ?_; (case hb_q284 => exact fun s x X => bind12 s x X); (case B_q284 => k_asm); (case F_q284 => k_asm); (case X_q284 => k_asm); (case N_q284 => k_asm); (case T_q284 => k_asm); (case hd_q284 => first | ((dsimp only [ktrTop]); omega) | omega | ktr_room); (case hu_q284 => first | k_extra "X M hu" | ((dsimp only [ktrTop]); omega) | omega | ktr_units)); intro x' d' t1 t2 t3 t4 t5 t6 t7 t8 t9 t10 t11 t12 h' tk' F' N' l1 l2; (have l3 := lt_all l1 l2); (replace l1 := Keep9.mk l1); (replace l3 := Keep9.mk l3); (try k_extra "X M letCons2"); (try k_sweep); (try dsimp only); (try k_fold)))
  k_with "X call ref" => (((fail_if_success (fail_if_success (with_reducible show wpAny _ _ (PySem.call (Value.ref 134) [_, _, _, _, _, _] []) _ _ _))); k_here; k_dflt (refine' new_bpdu ?hb_q285 ?B_q285 ?F_q285 ?X_q285 ?N_q285 ?T_q285 ?hd_q285 ?hu_q285 ?_; (case hb_q285 => exact fun s x X => bind6 s x X); (case B_q285 => k_asm); (case F_q285 => k_asm); (case X_q285 => k_asm); (case N_q285 => k_asm); (case T_q285 => k_asm); (case hd_q285 => first | ((dsimp only [ktrTop]); omega) | omega | ktr_room); (case hu_q285 => first | k_extra "X M hu" | ((dsimp only [ktrTop]); omega) | omega | ktr_units)); intro x' d' t1 t2 t3 t4 t5 t6 t7 t8 t9 t10 t11 t12 h' tk' F' N' l1 l2; (have l3 := lt_all l1 l2); (replace l1 := Keep9.mk l1); (replace l3 := Keep9.mk l3); (try k_extra "X M letCons2"); (try k_sweep); (try dsimp only); (try k_fold)))
  k_with "X call ref" => (((fail_if_success (fail_if_success (with_reducible show wpAny _ _ (PySem.call (Value.ref 134) [_, _] []) _ _ _))); k_here; k_dflt (refine' new_bpdu ?hb_q286 ?B_q286 ?F_q286 ?X_q286 ?N_q286 ?T_q286 ?hd_q286 ?hu_q286 ?_; (case hb_q286 => exact fun s x X => bind2 s x X); (case B_q286 => k_asm); (case F_q286 => k_asm); (case X_q286 => k_asm); (case N_q286 => k_asm); (case T_q286 => k_asm); (case hd_q286 => first | ((dsimp only [ktrTop]); omega) | omega | ktr_room); (case hu_q286 => first | k_extra "X M hu" | ((dsimp only [ktrTop]); omega) | omega | ktr_units)); intro x' d' t1 t2 t3 t4 t5 t6 t7 t8 t9 t10 t11 t12 h' tk' F' N' l1 l2; (have l3 := lt_all l1 l2); (replace l1 := Keep9.mk l1); (replace l3 := Keep9.mk l3); (try k_extra "X M letCons2"); (try k_sweep); (try dsimp only); (try k_fold)))
  k_with "X call ref" => (((fail_if_success (fail_if_success (with_reducible show wpAny _ _ (PySem.call (Value.ref 98) _ _) _ _ _))); k_here; k_dflt (refine' new_times ?B_q287 ?F_q287 ?X_q287 ?N_q287 ?T_q287 ?hd_q287 ?hu_q287 ?_; (case B_q287 => k_asm); (case F_q287 => k_asm); (case X_q287 => k_asm); (case N_q287 => k_asm); (case T_q287 => k_asm); (case hd_q287 => first | ((dsimp only [ktrTop]); omega) | omega | ktr_room); (case hu_q287 => first | k_extra "X M hu" | ((dsimp only [ktrTop]); omega) | omega | ktr_units)); intro x' d' t1 t2 t3 t4 h' tk' F' N' l1 l2; (have l3 := lt_all l1 l2); (replace l1 := Keep9.mk l1); (replace l3 := Keep9.mk l3); (try k_extra "X M letCons2"); (try k_sweep); (try dsimp only); (try k_fold)))
  k_with "X call ref" => (((fail_if_success (fail_if_success (with_reducible show wpAny _ _ (PySem.call (Value.ref 145) _) _ _ _))); k_here; k_dflt (refine' Ctr.useI1 (c_notice ) ?B_q288 ?F_q288 ?X_q288 ?N_q288 ?P_q288 ?S_q288 ?T_q288 ?hd_q288 ?hu_q288 ?_; (case B_q288 => k_asm); (case F_q288 => k_asm); (case X_q288 => k_asm); (case N_q288 => k_asm); (case P_q288 => k_extra "X M pick"); (case S_q288 => k_extra "X M sep"); (case T_q288 => k_asm); (case hd_q288 => first | exact rm1 (by with_reducible assumption) (by decide) | ((dsimp only [ktrTop]); exact rm1 (by with_reducible assumption) (by decide)) | ((dsimp only [ktrTop]); omega) | omega | ktr_room); (case hu_q288 => first | k_extra "X M hu" | ((dsimp only [ktrTop]); omega) | omega | ktr_units);  skip); intro h9 tk9 F9 G9 v9 n9 P9; ((first | refine P9.casesOn ?_ | refine P9.casesOn ?_ ?_) <;> (clear P9; intros; k_extra "X M letApp"; (try show wpAny _ _ _ _ _ _); (try k_sweep); (try dsimp only); (try k_fold)))))
  k_with "X call ref" => (((fail_if_success (fail_if_success (with_reducible show wpAny _ _ (PySem.call (Value.ref 51) [_]) _ _ _))); k_here; k_dflt (refine' new_exc51 ?B_q289 ?F_q289 ?X_q289 ?N_q289 ?T_q289 ?hd_q289 ?hu_q289 ?_; (case B_q289 => k_asm); (case F_q289 => k_asm); (case X_q289 => k_asm); (case N_q289 => k_asm); (case T_q289 => k_asm); (case hd_q289 => first | exact rm1 (by with_reducible assumption) (by decide) | ((dsimp only [ktrTop]); exact rm1 (by with_reducible assumption) (by decide)) | ((dsimp only [ktrTop]); omega) | omega | ktr_room); (case hu_q289 => first | k_extra "X M hu" | ((dsimp only [ktrTop]); omega) | omega | ktr_units)); intro x1 t1 d1 h1 tk1 F1 N1; (try dsimp only)))
  k_with "X call ref" => (((fail_if_success (fail_if_success (with_reducible show wpAny _ _ (PySem.call (Value.ref 63) [_]) _ _ _))); k_here; k_dflt (refine' new_exc63 ?B_q290 ?F_q290 ?X_q290 ?N_q290 ?T_q290 ?hd_q290 ?hu_q290 ?_; (case B_q290 => k_asm); (case F_q290 => k_asm); (case X_q290 => k_asm); (case N_q290 => k_asm); (case T_q290 => k_asm); (case hd_q290 => first | exact rm1 (by with_reducible assumption) (by decide) | ((dsimp only [ktrTop]); exact rm1 (by with_reducible assumption) (by decide)) | ((dsimp only [ktrTop]); omega) | omega | ktr_room); (case hu_q290 => first | k_extra "X M hu" | ((dsimp only [ktrTop]); omega) | omega | ktr_units)); intro x1 t1 d1 h1 tk1 F1 N1; (try dsimp only)))
  k_with "X call ref" => (((fail_if_success (fail_if_success (with_reducible show wpAny _ _ (PySem.call (Value.ref 150) _) _ _ _))); k_here; k_dflt (refine' CtrX.use (c_noct2 ) ?B_q291 ?F_q291 ?X_q291 ?N_q291 ?P_q291 ?S_q291 ?T_q291 ?hd_q291 ?hu_q291 ?_ ?_; (case B_q291 => k_asm); (case F_q291 => k_asm); (case X_q291 => k_asm); (case N_q291 => k_asm); (case P_q291 => k_extra "X M pick"); (case S_q291 => k_extra "X M sep"); (case T_q291 => k_asm); (case hd_q291 => first | exact rm1 (by with_reducible assumption) (by decide) | ((dsimp only [ktrTop]); exact rm1 (by with_reducible assumption) (by decide)) | ((dsimp only [ktrTop]); omega) | omega | ktr_room); (case hu_q291 => first | k_extra "X M hu" | ((dsimp only [ktrTop]); omega) | omega | ktr_units);  skip) <;> (intro g9; first | ((with_reducible have q9 : ¬ _ := g9); clear q9; intro e9 G9 h9 tk9 F9 R9 U9; (try dsimp only); k_extra "X M raise") | (intro h9 tk9 F9 G9 v9 n9 P9; ((first | refine P9.casesOn ?_ | refine P9.casesOn ?_ ?_) <;> (clear P9; intros; k_extra "X M letApp"; (try show wpAny _ _ _ _ _ _); (try k_sweep); (try dsimp only); (try k_fold)))))))
  k_with "X call ref" => (((fail_if_success (fail_if_success (with_reducible show wpAny _ _ (PySem.call (Value.ref 150) _) _ _ _))); k_here; k_dflt (refine' CtrX.use (c_noct4 ) ?B_q292 ?F_q292 ?X_q292 ?N_q292 ?P_q292 ?S_q292 ?T_q292 ?hd_q292 ?hu_q292 ?_ ?_; (case B_q292 => k_asm); (case F_q292 => k_asm); (case X_q292 => k_asm); (case N_q292 => k_asm); (case P_q292 => k_extra "X M pick"); (case S_q292 => k_extra "X M sep"); (case T_q292 => k_asm); (case hd_q292 => first | exact rm1 (by with_reducible assumption) (by decide) | ((dsimp only [ktrTop]); exact rm1 (by with_reducible assumption) (by decide)) | ((dsimp only [ktrTop]); omega) | omega | ktr_room); (case hu_q292 => first | k_extra "X M hu" | ((dsimp only [ktrTop]); omega) | omega | ktr_units);  skip) <;> (intro g9; first | ((with_reducible have q9 : ¬ _ := g9); clear q9; intro e9 G9 h9 tk9 F9 R9 U9; (try dsimp only); k_extra "X M raise") | (intro h9 tk9 F9 G9 v9 n9 P9; ((first | refine P9.casesOn ?_ | refine P9.casesOn ?_ ?_) <;> (clear P9; intros; k_extra "X M letApp"; (try show wpAny _ _ _ _ _ _); (try k_sweep); (try dsimp only); (try k_fold)))))))
  k_with "X call ref" => (((fail_if_success (fail_if_success (with_reducible show wpAny _ _ (PySem.call (Value.ref 150) _) _ _ _))); k_here; k_dflt (refine' CtrX.use (c_noct6 ) ?B_q293 ?F_q293 ?X_q293 ?N_q293 ?P_q293 ?S_q293 ?T_q293 ?hd_q293 ?hu_q293 ?_ ?_; (case B_q293 => k_asm); (case F_q293 => k_asm); (case X_q293 => k_asm); (case N_q293 => k_asm); (case P_q293 => k_extra "X M pick"); (case S_q293 => k_extra "X M sep"); (case T_q293 => k_asm); (case hd_q293 => first | exact rm1 (by with_reducible assumption) (by decide) | ((dsimp only [ktrTop]); exact rm1 (by with_reducible assumption) (by decide)) | ((dsimp only [ktrTop]); omega) | omega | ktr_room); (case hu_q293 => first | k_extra "X M hu" | ((dsimp only [ktrTop]); omega) | omega | ktr_units);  skip) <;> (intro g9; first | ((with_reducible have q9 : ¬ _ := g9); clear q9; intro e9 G9 h9 tk9 F9 R9 U9; (try dsimp only); k_extra "X M raise") | (intro h9 tk9 F9 G9 v9 n9 P9; ((first | refine P9.casesOn ?_ | refine P9.casesOn ?_ ?_) <;> (clear P9; intros; k_extra "X M letApp"; (try show wpAny _ _ _ _ _ _); (try k_sweep); (try dsimp only); (try k_fold)))))))
  k_with "X M side" => ((with_reducible refine And.intro ?sa9_q294 ?sb9_q294; (case sa9_q294 => k_extra "X M side"); (case sb9_q294 => k_extra "X M side")))
  k_with "X call ref" => (((fail_if_success (fail_if_success (with_reducible show wpAny _ _ (PySem.call (Value.ref 150) _) _ _ _))); k_here; k_dflt (refine' Ctr.useI1 (c_noct2.1 ?s0_q295) ?B_q295 ?F_q295 ?X_q295 ?N_q295 ?P_q295 ?S_q295 ?T_q295 ?hd_q295 ?hu_q295 ?_; (case B_q295 => k_asm); (case F_q295 => k_asm); (case X_q295 => k_asm); (case N_q295 => k_asm); (case P_q295 => k_extra "X M pick"); (case S_q295 => k_extra "X M sep"); (case T_q295 => k_asm); (case hd_q295 => first | exact rm1 (by with_reducible assumption) (by decide) | ((dsimp only [ktrTop]); exact rm1 (by with_reducible assumption) (by decide)) | ((dsimp only [ktrTop]); omega) | omega | ktr_room); (case hu_q295 => first | k_extra "X M hu" | ((dsimp only [ktrTop]); omega) | omega | ktr_units); (case s0_q295 => k_extra "X M side"); skip); intro h9 tk9 F9 G9 v9 n9 P9; ((first | refine P9.casesOn ?_ | refine P9.casesOn ?_ ?_) <;> (clear P9; intros; k_extra "X M letApp"; (try show wpAny _ _ _ _ _ _); (try k_sweep); (try dsimp only); (try k_fold)))))
  k_with "X call ref" => (((fail_if_success (fail_if_success (with_reducible show wpAny _ _ (PySem.call (Value.ref 150) _) _ _ _))); k_here; k_dflt (refine' Ctr.useI1 (c_noct4.1 ?s0_q296) ?B_q296 ?F_q296 ?X_q296 ?N_q296 ?P_q296 ?S_q296 ?T_q296 ?hd_q296 ?hu_q296 ?_; (case B_q296 => k_asm); (case F_q296 => k_asm); (case X_q296 => k_asm); (case N_q296 => k_asm); (case P_q296 => k_extra "X M pick"); (case S_q296 => k_extra "X M sep"); (case T_q296 => k_asm); (case hd_q296 => first | exact rm1 (by with_reducible assumption) (by decide) | ((dsimp only [ktrTop]); exact rm1 (by with_reducible assumption) (by decide)) | ((dsimp only [ktrTop]); omega) | omega | ktr_room); (case hu_q296 => first | k_extra "X M hu" | ((dsimp only [ktrTop]); omega) | omega | ktr_units); (case s0_q296 => k_extra "X M side"); skip); intro h9 tk9 F9 G9 v9 n9 P9; ((first | refine P9.casesOn ?_ | refine P9.casesOn ?_ ?_) <;> (clear P9; intros; k_extra "X M letApp"; (try show wpAny _ _ _ _ _ _); (try k_sweep); (try dsimp only); (try k_fold)))))
  k_with "X call ref" => (((fail_if_success (fail_if_success (with_reducible show wpAny _ _ (PySem.call (Value.ref 150) _) _ _ _))); k_here; k_dflt (refine' Ctr.useI1 (c_noct6.1 ?s0_q297) ?B_q297 ?F_q297 ?X_q297 ?N_q297 ?P_q297 ?S_q297 ?T_q297 ?hd_q297 ?hu_q297 ?_; (case B_q297 => k_asm); (case F_q297 => k_asm); (case X_q297 => k_asm); (case N_q297 => k_asm); (case P_q297 => k_extra "X M pick"); (case S_q297 => k_extra "X M sep"); (case T_q297 => k_asm); (case hd_q297 => first | exact rm1 (by with_reducible assumption) (by decide) | ((dsimp only [ktrTop]); exact rm1 (by with_reducible assumption) (by decide)) | ((dsimp only [ktrTop]); omega) | omega | ktr_room); (case hu_q297 => first | k_extra "X M hu" | ((dsimp only [ktrTop]); omega) | omega | ktr_units); (case s0_q297 => k_extra "X M side"); skip); intro h9 tk9 F9 G9 v9 n9 P9; ((first | refine P9.casesOn ?_ | refine P9.casesOn ?_ ?_) <;> (clear P9; intros; k_extra "X M letApp"; (try show wpAny _ _ _ _ _ _); (try k_sweep); (try dsimp only); (try k_fold)))))
  k_with "X call ref" => (((fail_if_success (fail_if_success (with_reducible show wpAny _ _ (PySem.call (Value.ref 164) _) _ _ _))); k_here; k_dflt (refine' CtrX.use (c_boct ) ?B_q298 ?F_q298 ?X_q298 ?N_q298 ?P_q298 ?S_q298 ?T_q298 ?hd_q298 ?hu_q298 ?_ ?_; (case B_q298 => k_asm); (case F_q298 => k_asm); (case X_q298 => k_asm); (case N_q298 => k_asm); (case P_q298 => k_extra "X M pick"); (case S_q298 => k_extra "X M sep"); (case T_q298 => k_asm); (case hd_q298 => first | exact rm1 (by with_reducible assumption) (by decide) | ((dsimp only [ktrTop]); exact rm1 (by with_reducible assumption) (by decide)) | ((dsimp only [ktrTop]); omega) | omega | ktr_room); (case hu_q298 => first | k_extra "X M hu" | ((dsimp only [ktrTop]); omega) | omega | ktr_units);  skip) <;> (intro g9; first | ((with_reducible have q9 : ¬ _ := g9); clear q9; intro e9 G9 h9 tk9 F9 R9 U9; (try dsimp only); k_extra "X M raise") | (intro h9 tk9 F9 G9 v9 n9 P9; ((first | refine P9.casesOn ?_ | refine P9.casesOn ?_ ?_) <;> (clear P9; intros; k_extra "X M letApp"; (try show wpAny _ _ _ _ _ _); (try k_sweep); (try dsimp only); (try k_fold)))))))
  k_with "X call ref" => (((fail_if_success (fail_if_success (with_reducible show wpAny _ _ (PySem.call (Value.ref 164) _) _ _ _))); k_here; k_dflt (refine' Ctr.useI1 (c_boct.1 ?s0_q299) ?B_q299 ?F_q299 ?X_q299 ?N_q299 ?P_q299 ?S_q299 ?T_q299 ?hd_q299 ?hu_q299 ?_; (case B_q299 => k_asm); (case F_q299 => k_asm); (case X_q299 => k_asm); (case N_q299 => k_asm); (case P_q299 => k_extra "X M pick"); (case S_q299 => k_extra "X M sep"); (case T_q299 => k_asm); (case hd_q299 => first | exact rm1 (by with_reducible assumption) (by decide) | ((dsimp only [ktrTop]); exact rm1 (by with_reducible assumption) (by decide)) | ((dsimp only [ktrTop]); omega) | omega | ktr_room); (case hu_q299 => first | k_extra "X M hu" | ((dsimp only [ktrTop]); omega) | omega | ktr_units); (case s0_q299 => k_extra "X M side"); skip); intro h9 tk9 F9 G9 v9 n9 P9; ((first | refine P9.casesOn ?_ | refine P9.casesOn ?_ ?_) <;> (clear P9; intros; k_extra "X M letApp"; (try show wpAny _ _ _ _ _ _); (try k_sweep); (try dsimp only); (try k_fold)))))
  k_with "X call ref" => (((fail_if_success (fail_if_success (with_reducible show wpAny _ _ (PySem.call (Value.ref 171) _) _ _ _))); k_here; k_dflt (refine' CtrX.use (c_poct ) ?B_q300 ?F_q300 ?X_q300 ?N_q300 ?P_q300 ?S_q300 ?T_q300 ?hd_q300 ?hu_q300 ?_ ?_; (case B_q300 => k_asm); (case F_q300 => k_asm); (case X_q300 => k_asm); (case N_q300 => k_asm); (case P_q300 => k_extra "X M pick"); (case S_q300 => k_extra "X M sep"); (case T_q300 => k_asm); (case hd_q300 => first | exact rm1 (by with_reducible assumption) (by decide) | ((dsimp only [ktrTop]); exact rm1 (by with_reducible assumption) (by decide)) | ((dsimp only [ktrTop]); omega) | omega | ktr_room); (case hu_q300 => first | k_extra "X M hu" | ((dsimp only [ktrTop]); omega) | omega | ktr_units);  skip) <;> (intro g9; first | ((with_reducible have q9 : ¬ _ := g9); clear q9; intro e9 G9 h9 tk9 F9 R9 U9; (try dsimp only); k_extra "X M raise") | (intro h9 tk9 F9 G9 v9 n9 P9; ((first | refine P9.casesOn ?_ | refine P9.casesOn ?_ ?_) <;> (clear P9; intros; k_extra "X M letApp"; (try show wpAny _ _ _ _ _ _); (try k_sweep); (try dsimp only); (try k_fold)))))))
  k_with "X call ref" => (((fail_if_success (fail_if_success (with_reducible show wpAny _ _ (PySem.call (Value.ref 171) _) _ _ _))); k_here; k_dflt (refine' Ctr.useI1 (c_poct.1 ?s0_q301) ?B_q301 ?F_q301 ?X_q301 ?N_q301 ?P_q301 ?S_q301 ?T_q301 ?hd_q301 ?hu_q301 ?_; (case B_q301 => k_asm); (case F_q301 => k_asm); (case X_q301 => k_asm); (case N_q301 => k_asm); (case P_q301 => k_extra "X M pick"); (case S_q301 => k_extra "X M sep"); (case T_q301 => k_asm); (case hd_q301 => first | exact rm1 (by with_reducible assumption) (by decide) | ((dsimp only [ktrTop]); exact rm1 (by with_reducible assumption) (by decide)) | ((dsimp only [ktrTop]); omega) | omega | ktr_room); (case hu_q301 => first | k_extra "X M hu" | ((dsimp only [ktrTop]); omega) | omega | ktr_units); (case s0_q301 => k_extra "X M side"); skip); intro h9 tk9 F9 G9 v9 n9 P9; ((first | refine P9.casesOn ?_ | refine P9.casesOn ?_ ?_) <;> (clear P9; intros; k_extra "X M letApp"; (try show wpAny _ _ _ _ _ _); (try k_sweep); (try dsimp only); (try k_fold)))))
  k_with "X call ref" => (((fail_if_success (fail_if_success (with_reducible show wpAny _ _ (PySem.call (Value.ref 178) _) _ _ _))); k_here; k_dflt (refine' CtrX.use (c_voct ?s0_q302) ?B_q302 ?F_q302 ?X_q302 ?N_q302 ?P_q302 ?S_q302 ?T_q302 ?hd_q302 ?hu_q302 ?_ ?_; (case B_q302 => k_asm); (case F_q302 => k_asm); (case X_q302 => k_asm); (case N_q302 => k_asm); (case P_q302 => k_extra "X M pick"); (case S_q302 => k_extra "X M sep"); (case T_q302 => k_asm); (case hd_q302 => first | exact rm1 (by with_reducible assumption) (by decide) | ((dsimp only [ktrTop]); exact rm1 (by with_reducible assumption) (by decide)) | ((dsimp only [ktrTop]); omega) | omega | ktr_room); (case hu_q302 => first | k_extra "X M hu" | ((dsimp only [ktrTop]); omega) | omega | ktr_units); (case s0_q302 => k_extra "X M side"); skip) <;> (intro g9; first | ((with_reducible have q9 : ¬ _ := g9); clear q9; intro e9 G9 h9 tk9 F9 R9 U9; (try dsimp only); k_extra "X M raise") | (intro h9 tk9 F9 G9 v9 n9 P9; ((first | refine P9.casesOn ?_ | refine P9.casesOn ?_ ?_) <;> (clear P9; intros; k_extra "X M letApp"; (try show wpAny _ _ _ _ _ _); (try k_sweep); (try dsimp only); (try k_fold)))))))
  k_with "X call ref" => (((fail_if_success (fail_if_success (with_reducible show wpAny _ _ (PySem.call (Value.ref 178) _) _ _ _))); k_here; k_dflt (refine' Ctr.useI1 (c_voct.1 ?s0_q303 ?s1_q303) ?B_q303 ?F_q303 ?X_q303 ?N_q303 ?P_q303 ?S_q303 ?T_q303 ?hd_q303 ?hu_q303 ?_; (case B_q303 => k_asm); (case F_q303 => k_asm); (case X_q303 => k_asm); (case N_q303 => k_asm); (case P_q303 => k_extra "X M pick"); (case S_q303 => k_extra "X M sep"); (case T_q303 => k_asm); (case hd_q303 => first | exact rm1 (by with_reducible assumption) (by decide) | ((dsimp only [ktrTop]); exact rm1 (by with_reducible assumption) (by decide)) | ((dsimp only [ktrTop]); omega) | omega | ktr_room); (case hu_q303 => first | k_extra "X M hu" | ((dsimp only [ktrTop]); omega) | omega | ktr_units); (case s0_q303 => k_extra "X M side"); (case s1_q303 => k_extra "X M side"); skip); intro h9 tk9 F9 G9 v9 n9 P9; ((first | refine P9.casesOn ?_ | refine P9.casesOn ?_ ?_) <;> (clear P9; intros; k_extra "X M letApp"; (try show wpAny _ _ _ _ _ _); (try k_sweep); (try dsimp only); (try k_fold)))))
  k_with "X call ref" => (((fail_if_success (fail_if_success (with_reducible show wpAny _ _ (PySem.call (Value.ref 88) _) _ _ _))); k_here; k_dflt (refine' Ctr.useI1 (c_ttold ?s0_q304) ?B_q304 ?F_q304 ?X_q304 ?N_q304 ?P_q304 ?S_q304 ?T_q304 ?hd_q304 ?hu_q304 ?_; (case B_q304 => k_asm); (case F_q304 => k_asm); (case X_q304 => k_asm); (case N_q304 => k_asm); (case P_q304 => k_extra "X M pick"); (case S_q304 => k_extra "X M sep"); (case T_q304 => k_asm); (case hd_q304 => first | exact rm1 (by with_reducible assumption) (by decide) | ((dsimp only [ktrTop]); exact rm1 (by with_reducible assumption) (by decide)) | ((dsimp only [ktrTop]); omega) | omega | ktr_room); (case hu_q304 => first | k_extra "X M hu" | ((dsimp only [ktrTop]); omega) | omega | ktr_units); (case s0_q304 => k_extra "X M side"); skip); intro h9 tk9 F9 G9 v9 n9 P9; ((first | refine P9.casesOn ?_ | refine P9.casesOn ?_ ?_) <;> (clear P9; intros; ((with_reducible rename News _ _ _ _ => N9); (try simp only [List.cons_append, List.nil_append] at N9)); (try show wpAny _ _ _ _ _ _); (try k_sweep); (try dsimp only); (try k_fold)))))
  k_with "X call ref" => (((fail_if_success (fail_if_success (with_reducible show wpAny _ _ (PySem.call (Value.ref 185) _) _ _ _))); k_here; k_dflt (refine' Ctr.useI1 (c_toct ?s0_q305 ?s1_q305) ?B_q305 ?F_q305 ?X_q305 ?N_q305 ?P_q305 ?S_q305 ?T_q305 ?hd_q305 ?hu_q305 ?_; (case B_q305 => k_asm); (case F_q305 => k_asm); (case X_q305 => k_asm); (case N_q305 => k_asm); (case P_q305 => k_extra "X M pick"); (case S_q305 => k_extra "X M sep"); (case T_q305 => k_asm); (case hd_q305 => first | exact rm1 (by with_reducible assumption) (by decide) | ((dsimp only [ktrTop]); exact rm1 (by with_reducible assumption) (by decide)) | ((dsimp only [ktrTop]); omega) | omega | ktr_room); (case hu_q305 => first | k_extra "X M hu" | ((dsimp only [ktrTop]); omega) | omega | ktr_units); (case s0_q305 => k_extra "X M side"); (case s1_q305 => k_extra "X M side"); skip); intro h9 tk9 F9 G9 v9 n9 P9; ((first | refine P9.casesOn ?_ | refine P9.casesOn ?_ ?_) <;> (clear P9; intros; k_extra "X M letApp"; (try show wpAny _ _ _ _ _ _); (try k_sweep); (try dsimp only); (try k_fold)))))
  k_with "X call ref" => (((fail_if_success (fail_if_success (with_reducible show wpAny _ _ (PySem.call (Value.ref 124) _) _ _ _))); k_here; k_dflt (refine' Ctr.useI1 (c_flags ?s0_q306 ?s1_q306) ?B_q306 ?F_q306 ?X_q306 ?N_q306 ?P_q306 ?S_q306 ?T_q306 ?hd_q306 ?hu_q306 ?_; (case B_q306 => k_asm); (case F_q306 => k_asm); (case X_q306 => k_asm); (case N_q306 => k_asm); (case P_q306 => k_extra "X M pick"); (case S_q306 => k_extra "X M sep"); (case T_q306 => k_asm); (case hd_q306 => first | exact rm1 (by with_reducible assumption) (by decide) | ((dsimp only [ktrTop]); exact rm1 (by with_reducible assumption) (by decide)) | ((dsimp only [ktrTop]); omega) | omega | ktr_room); (case hu_q306 => first | k_extra "X M hu" | ((dsimp only [ktrTop]); omega) | omega | ktr_units); (case s0_q306 => k_extra "X M side"); (case s1_q306 => k_extra "X M side"); skip); intro h9 tk9 F9 G9 v9 n9 P9; ((first | refine P9.casesOn ?_ | refine P9.casesOn ?_ ?_) <;> (clear P9; intros; k_extra "X M letApp"; (try show wpAny _ _ _ _ _ _); (try k_sweep); (try dsimp only); (try k_fold)))))
  k_with "X call ref" => (((fail_if_success (fail_if_success (with_reducible show wpAny _ _ (PySem.call (Value.ref 131) _) _ _ _))); k_here; k_dflt (refine' Ctr.useI1 (c_toldA ?s0_q307) ?B_q307 ?F_q307 ?X_q307 ?N_q307 ?P_q307 ?S_q307 ?T_q307 ?hd_q307 ?hu_q307 ?_; (case B_q307 => k_asm); (case F_q307 => k_asm); (case X_q307 => k_asm); (case N_q307 => k_asm); (case P_q307 => k_extra "X M pick"); (case S_q307 => k_extra "X M sep"); (case T_q307 => k_asm); (case hd_q307 => first | exact rm1 (by with_reducible assumption) (by decide) | ((dsimp only [ktrTop]); exact rm1 (by with_reducible assumption) (by decide)) | ((dsimp only [ktrTop]); omega) | omega | ktr_room); (case hu_q307 => first | k_extra "X M hu" | ((dsimp only [ktrTop]); omega) | omega | ktr_units); (case s0_q307 => k_extra "X M side"); skip); intro h9 tk9 F9 G9 v9 n9 P9; ((first | refine P9.casesOn ?_ | refine P9.casesOn ?_ ?_) <;> (clear P9; intros; k_extra "X M letApp"; (try show wpAny _ _ _ _ _ _); (try k_sweep); (try dsimp only); (try k_fold)))))
  k_with "X call ref" => (((fail_if_success (fail_if_success (with_reducible show wpAny _ _ (PySem.call (Value.ref 131) _) _ _ _))); k_here; k_dflt (refine' Ctr.useI1 (c_told ?s0_q308 ?s1_q308) ?B_q308 ?F_q308 ?X_q308 ?N_q308 ?P_q308 ?S_q308 ?T_q308 ?hd_q308 ?hu_q308 ?_; (case B_q308 => k_asm); (case F_q308 => k_asm); (case X_q308 => k_asm); (case N_q308 => k_asm); (case P_q308 => k_extra "X M pick"); (case S_q308 => k_extra "X M sep"); (case T_q308 => k_asm); (case hd_q308 => first | exact rm1 (by with_reducible assumption) (by decide) | ((dsimp only [ktrTop]); exact rm1 (by with_reducible assumption) (by decide)) | ((dsimp only [ktrTop]); omega) | omega | ktr_room); (case hu_q308 => first | k_extra "X M hu" | ((dsimp only [ktrTop]); omega) | omega | ktr_units); (case s0_q308 => k_extra "X M side"); (case s1_q308 => k_extra "X M side"); skip); intro h9 tk9 F9 G9 v9 n9 P9; ((first | refine P9.casesOn ?_ | refine P9.casesOn ?_ ?_) <;> (clear P9; intros; k_extra "X M letApp"; (try show wpAny _ _ _ _ _ _); (try k_sweep); (try dsimp only); (try k_fold)))))
  k_with "X call ref" => (((fail_if_success (fail_if_success (with_reducible show wpAny _ _ (PySem.call (Value.ref 192) _) _ _ _))); k_here; k_dflt (refine' Ctr.useI1 (c_packA ?s0_q309) ?B_q309 ?F_q309 ?X_q309 ?N_q309 ?P_q309 ?S_q309 ?T_q309 ?hd_q309 ?hu_q309 ?_; (case B_q309 => k_asm); (case F_q309 => k_asm); (case X_q309 => k_asm); (case N_q309 => k_asm); (case P_q309 => k_extra "X M pick"); (case S_q309 => k_extra "X M sep"); (case T_q309 => k_asm); (case hd_q309 => first | exact rm1 (by with_reducible assumption) (by decide) | ((dsimp only [ktrTop]); exact rm1 (by with_reducible assumption) (by decide)) | ((dsimp only [ktrTop]); omega) | omega | ktr_room); (case hu_q309 => first | k_extra "X M hu" | ((dsimp only [ktrTop]); omega) | omega | ktr_units); (case s0_q309 => k_extra "X M side"); skip); intro h9 tk9 F9 G9 v9 n9 P9; ((first | refine P9.casesOn ?_ | refine P9.casesOn ?_ ?_) <;> (clear P9; intros; k_extra "X M letApp"; (try show wpAny _ _ _ _ _ _); (try k_sweep); (try dsimp only); (try k_fold)))))
  k_with "X call ref" => (((fail_if_success (fail_if_success (with_reducible show wpAny _ _ (PySem.call (Value.ref 192) _) _ _ _))); k_here; k_dflt (refine' Ctr.useI1 (c_pack ?s0_q310 ?s1_q310 ?s2_q310 ?s3_q310) ?B_q310 ?F_q310 ?X_q310 ?N_q310 ?P_q310 ?S_q310 ?T_q310 ?hd_q310 ?hu_q310 ?_; (case B_q310 => k_asm); (case F_q310 => k_asm); (case X_q310 => k_asm); (case N_q310 => k_asm); (case P_q310 => k_extra "X M pick"); (case S_q310 => k_extra "X M sep"); (case T_q310 => k_asm); (case hd_q310 => first | exact rm1 (by with_reducible assumption) (by decide) | ((dsimp only [ktrTop]); exact rm1 (by with_reducible assumption) (by decide)) | ((dsimp only [ktrTop]); omega) | omega | ktr_room); (case hu_q310 => first | k_extra "X M hu" | ((dsimp only [ktrTop]); omega) | omega | ktr_units); (case s0_q310 => k_extra "X M side"); (case s1_q310 => k_extra "X M side"); (case s2_q310 => k_extra "X M side"); (case s3_q310 => k_extra "X M side"); skip); intro h9 tk9 F9 G9 v9 n9 P9; ((first | refine P9.casesOn ?_ | refine P9.casesOn ?_ ?_) <;> (clear P9; intros; k_extra "X M letApp"; (try show wpAny _ _ _ _ _ _); (try k_sweep); (try dsimp only); (try k_fold)))))
  k_with "X call ref" => (((fail_if_success (fail_if_success (with_reducible show wpAny _ _ (PySem.call (Value.ref 265) _) _ _ _))); k_here; k_dflt (refine' Ctr.useI1 (c_loct ?s0_q311 ?s1_q311 ?s2_q311) ?B_q311 ?F_q311 ?X_q311 ?N_q311 ?P_q311 ?S_q311 ?T_q311 ?hd_q311 ?hu_q311 ?_; (case B_q311 => k_asm); (case F_q311 => k_asm); (case X_q311 => k_asm); (case N_q311 => k_asm); (case P_q311 => k_extra "X M pick"); (case S_q311 => k_extra "X M sep"); (case T_q311 => k_asm); (case hd_q311 => first | exact rm1 (by with_reducible assumption) (by decide) | ((dsimp only [ktrTop]); exact rm1 (by with_reducible assumption) (by decide)) | ((dsimp only [ktrTop]); omega) | omega | ktr_room); (case hu_q311 => first | k_extra "X M hu" | ((dsimp only [ktrTop]); omega) | omega | ktr_units); (case s0_q311 => k_extra "X M side"); (case s1_q311 => k_extra "X M side"); (case s2_q311 => k_extra "X M side"); skip); intro h9 tk9 F9 G9 v9 n9 P9; ((first | refine P9.casesOn ?_ | refine P9.casesOn ?_ ?_) <;> (clear P9; intros; k_extra "X M letApp"; (try show wpAny _ _ _ _ _ _); (try k_sweep); (try dsimp only); (try k_fold)))))
  k_with "X call ref" => (((fail_if_success (fail_if_success (with_reducible show wpAny _ _ (PySem.call (Value.ref 284) _) _ _ _))); k_here; k_dflt (refine' Ctr.useI1 (c_writtenA ?s0_q312) ?B_q312 ?F_q312 ?X_q312 ?N_q312 ?P_q312 ?S_q312 ?T_q312 ?hd_q312 ?hu_q312 ?_; (case B_q312 => k_asm); (case F_q312 => k_asm); (case X_q312 => k_asm); (case N_q312 => k_asm); (case P_q312 => k_extra "X M pick"); (case S_q312 => k_extra "X M sep"); (case T_q312 => k_asm); (case hd_q312 => first | exact rm1 (by with_reducible assumption) (by decide) | ((dsimp only [ktrTop]); exact rm1 (by with_reducible assumption) (by decide)) | ((dsimp only [ktrTop]); omega) | omega | ktr_room); (case hu_q312 => first | k_extra "X M hu" | ((dsimp only [ktrTop]); omega) | omega | ktr_units); (case s0_q312 => k_extra "X M side"); skip); intro h9 tk9 F9 G9 v9 n9 P9; ((first | refine P9.casesOn ?_ | refine P9.casesOn ?_ ?_) <;> (clear P9; intros; k_extra "X M letApp"; (try show wpAny _ _ _ _ _ _); (try k_sweep); (try dsimp only); (try k_fold)))))
  k_with "X call ref" => (((fail_if_success (fail_if_success (with_reducible show wpAny _ _ (PySem.call (Value.ref 284) _) _ _ _))); k_here; k_dflt (refine' Ctr.useI1 (c_written ?s0_q313 ?s1_q313 ?s2_q313 ?s3_q313) ?B_q313 ?F_q313 ?X_q313 ?N_q313 ?P_q313 ?S_q313 ?T_q313 ?hd_q313 ?hu_q313 ?_; (case B_q313 => k_asm); (case F_q313 => k_asm); (case X_q313 => k_asm); (case N_q313 => k_asm); (case P_q313 => k_extra "X M pick"); (case S_q313 => k_extra "X M sep"); (case T_q313 => k_asm); (case hd_q313 => first | exact rm1 (by with_reducible assumption) (by decide) | ((dsimp only [ktrTop]); exact rm1 (by with_reducible assumption) (by decide)) | ((dsimp only [ktrTop]); omega) | omega | ktr_room); (case hu_q313 => first | k_extra "X M hu" | ((dsimp only [ktrTop]); omega) | omega | ktr_units); (case s0_q313 => k_extra "X M side"); (case s1_q313 => k_extra "X M side"); (case s2_q313 => k_extra "X M side"); (case s3_q313 => k_extra "X M side"); skip); intro h9 tk9 F9 G9 v9 n9 P9; ((first | refine P9.casesOn ?_ | refine P9.casesOn ?_ ?_) <;> (clear P9; intros; k_extra "X M letApp"; (try show wpAny _ _ _ _ _ _); (try k_sweep); (try dsimp only); (try k_fold)))))
  k_with "X call ref" => (((fail_if_success (fail_if_success (with_reducible show wpAny _ _ (PySem.call (Value.ref 157) _) _ _ _))); k_here; k_dflt (refine' Ctr.useI0 (c_onum ?s0_q314 ?s1_q314) ?B_q314 ?F_q314 ?X_q314 ?N_q314 ?P_q314 ?S_q314 ?T_q314 ?hd_q314 ?hu_q314 ?_; (case B_q314 => k_asm); (case F_q314 => k_asm); (case X_q314 => k_asm); (case N_q314 => k_asm); (case P_q314 => k_extra "X M pick"); (case S_q314 => k_extra "X M sep"); (case T_q314 => k_asm); (case hd_q314 => first | exact rm1 (by with_reducible assumption) (by decide) | ((dsimp only [ktrTop]); exact rm1 (by with_reducible assumption) (by decide)) | ((dsimp only [ktrTop]); omega) | omega | ktr_room); (case hu_q314 => first | k_extra "X M hu" | ((dsimp only [ktrTop]); omega) | omega | ktr_units); (case s0_q314 => k_extra "X M side"); (case s1_q314 => k_extra "X M side"); skip); intro h9 tk9 F9 G9 v9 n9 P9; ((first | refine P9.casesOn ?_ | refine P9.casesOn ?_ ?_) <;> (clear P9; intros; k_extra "X M letApp"; (try show wpAny _ _ _ _ _ _); (try k_sweep); (try dsimp only); (try k_fold)))))
  k_with "X call ref" => (((fail_if_success (fail_if_success (with_reducible show wpAny _ _ (PySem.call (Value.ref 199) _) _ _ _))); k_here; k_dflt (refine' Ctr.useI1 (c_rbridge ?s0_q315 ?s1_q315) ?B_q315 ?F_q315 ?X_q315 ?N_q315 ?P_q315 ?S_q315 ?T_q315 ?hd_q315 ?hu_q315 ?_; (case B_q315 => k_asm); (case F_q315 => k_asm); (case X_q315 => k_asm); (case N_q315 => k_asm); (case P_q315 => k_extra "X M pick"); (case S_q315 => k_extra "X M sep"); (case T_q315 => k_asm); (case hd_q315 => first | exact rm1 (by with_reducible assumption) (by decide) | ((dsimp only [ktrTop]); exact rm1 (by with_reducible assumption) (by decide)) | ((dsimp only [ktrTop]); omega) | omega | ktr_room); (case hu_q315 => first | k_extra "X M hu" | ((dsimp only [ktrTop]); omega) | omega | ktr_units); (case s0_q315 => k_extra "X M side"); (case s1_q315 => k_extra "X M side"); skip); intro h9 tk9 F9 G9 v9 n9 P9; ((first | refine P9.casesOn ?_ | refine P9.casesOn ?_ ?_) <;> (clear P9; intros; k_extra "X M letApp"; (try show wpAny _ _ _ _ _ _); (try k_sweep); (try dsimp only); (try k_fold)))))
  k_with "X call ref" => (((fail_if_success (fail_if_success (with_reducible show wpAny _ _ (PySem.call (Value.ref 206) _) _ _ _))); k_here; k_dflt (refine' Ctr.useI1 (c_rport ?s0_q316 ?s1_q316) ?B_q316 ?F_q316 ?X_q316 ?N_q316 ?P_q316 ?S_q316 ?T_q316 ?hd_q316 ?hu_q316 ?_; (case B_q316 => k_asm); (case F_q316 => k_asm); (case X_q316 => k_asm); (case N_q316 => k_asm); (case P_q316 => k_extra "X M pick"); (case S_q316 => k_extra "X M sep"); (case T_q316 => k_asm); (case hd_q316 => first | exact rm1 (by with_reducible assumption) (by decide) | ((dsimp only [ktrTop]); exact rm1 (by with_reducible assumption) (by decide)) | ((dsimp only [ktrTop]); omega) | omega | ktr_room); (case hu_q316 => first | k_extra "X M hu" | ((dsimp only [ktrTop]); omega) | omega | ktr_units); (case s0_q316 => k_extra "X M side"); (case s1_q316 => k_extra "X M side"); skip); intro h9 tk9 F9 G9 v9 n9 P9; ((first | refine P9.casesOn ?_ | refine P9.casesOn ?_ ?_) <;> (clear P9; intros; k_extra "X M letApp"; (try show wpAny _ _ _ _ _ _); (try k_sweep); (try dsimp only); (try k_fold)))))
  k_with "X call ref" => (((fail_if_success (fail_if_success (with_reducible show wpAny _ _ (PySem.call (Value.ref 213) _) _ _ _))); k_here; k_dflt (refine' Ctr.useI1 (c_rvec ?s0_q317 ?s1_q317) ?B_q317 ?F_q317 ?X_q317 ?N_q317 ?P_q317 ?S_q317 ?T_q317 ?hd_q317 ?hu_q317 ?_; (case B_q317 => k_asm); (case F_q317 => k_asm); (case X_q317 => k_asm); (case N_q317 => k_asm); (case P_q317 => k_extra "X M pick"); (case S_q317 => k_extra "X M sep"); (case T_q317 => k_asm); (case hd_q317 => first | exact rm1 (by with_reducible assumption) (by decide) | ((dsimp only [ktrTop]); exact rm1 (by with_reducible assumption) (by decide)) | ((dsimp only [ktrTop]); omega) | omega | ktr_room); (case hu_q317 => first | k_extra "X M hu" | ((dsimp only [ktrTop]); omega) | omega | ktr_units); (case s0_q317 => k_extra "X M side"); (case s1_q317 => k_extra "X M side"); skip); intro h9 tk9 F9 G9 v9 n9 P9; ((first | refine P9.casesOn ?_ | refine P9.casesOn ?_ ?_) <;> (clear P9; intros; k_extra "X M letApp"; (try show wpAny _ _ _ _ _ _); (try k_sweep); (try dsimp only); (try k_fold)))))
  k_with "X call ref" => (((fail_if_success (fail_if_success (with_reducible show wpAny _ _ (PySem.call (Value.ref 218) _) _ _ _))); k_here; k_dflt (refine' Ctr.useI1 (c_rtimes ?s0_q318 ?s1_q318) ?B_q318 ?F_q318 ?X_q318 ?N_q318 ?P_q318 ?S_q318 ?T_q318 ?hd_q318 ?hu_q318 ?_; (case B_q318 => k_asm); (case F_q318 => k_asm); (case X_q318 => k_asm); (case N_q318 => k_asm); (case P_q318 => k_extra "X M pick"); (case S_q318 => k_extra "X M sep"); (case T_q318 => k_asm); (case hd_q318 => first | exact rm1 (by with_reducible assumption) (by decide) | ((dsimp only [ktrTop]); exact rm1 (by with_reducible assumption) (by decide)) | ((dsimp only [ktrTop]); omega) | omega | ktr_room); (case hu_q318 => first | k_extra "X M hu" | ((dsimp only [ktrTop]); omega) | omega | ktr_units); (case s0_q318 => k_extra "X M side"); (case s1_q318 => k_extra "X M side"); skip); intro h9 tk9 F9 G9 v9 n9 P9; ((first | refine P9.casesOn ?_ | refine P9.casesOn ?_ ?_) <;> (clear P9; intros; k_extra "X M letApp"; (try show wpAny _ _ _ _ _ _); (try k_sweep); (try dsimp only); (try k_fold)))))
  k_with "X call ref" => (((fail_if_success (fail_if_success (with_reducible show wpAny _ _ (PySem.call (Value.ref 232) _) _ _ _))); k_here; k_dflt (refine' CtrX.use (c_kind ) ?B_q319 ?F_q319 ?X_q319 ?N_q319 ?P_q319 ?S_q319 ?T_q319 ?hd_q319 ?hu_q319 ?_ ?_; (case B_q319 => k_asm); (case F_q319 => k_asm); (case X_q319 => k_asm); (case N_q319 => k_asm); (case P_q319 => k_extra "X M pick"); (case S_q319 => k_extra "X M sep"); (case T_q319 => k_asm); (case hd_q319 => first | exact rm1 (by with_reducible assumption) (by decide) | ((dsimp only [ktrTop]); exact rm1 (by with_reducible assumption) (by decide)) | ((dsimp only [ktrTop]); omega) | omega | ktr_room); (case hu_q319 => first | k_extra "X M hu" | ((dsimp only [ktrTop]); omega) | omega | ktr_units);  skip) <;> (intro g9; first | ((with_reducible have q9 : ¬ _ := g9); clear q9; intro e9 G9 h9 tk9 F9 R9 U9; (try dsimp only); k_extra "X M raise") | (intro h9 tk9 F9 G9 v9 n9 P9; ((first | refine P9.casesOn ?_ | refine P9.casesOn ?_ ?_) <;> (clear P9; intros; k_extra "X M letApp"; (try show wpAny _ _ _ _ _ _); (try k_sweep); (try dsimp only); (try k_fold)))))))
  k_with "X call ref" => (((fail_if_success (fail_if_success (with_reducible show wpAny _ _ (PySem.call (Value.ref 225) _) _ _ _))); k_here; k_dflt (refine' Ctr.useI0 (c_tail ?s0_q320 ?s1_q320) ?B_q320 ?F_q320 ?X_q320 ?N_q320 ?P_q320 ?S_q320 ?T_q320 ?hd_q320 ?hu_q320 ?_; (case B_q320 => k_asm); (case F_q320 => k_asm); (case X_q320 => k_asm); (case N_q320 => k_asm); (case P_q320 => k_extra "X M pick"); (case S_q320 => k_extra "X M sep"); (case T_q320 => k_asm); (case hd_q320 => first | exact rm1 (by with_reducible assumption) (by decide) | ((dsimp only [ktrTop]); exact rm1 (by with_reducible assumption) (by decide)) | ((dsimp only [ktrTop]); omega) | omega | ktr_room); (case hu_q320 => first | k_extra "X M hu" | ((dsimp only [ktrTop]); omega) | omega | ktr_units); (case s0_q320 => k_extra "X M side"); (case s1_q320 => k_extra "X M side"); skip); intro h9 tk9 F9 G9 v9 n9 P9; ((first | refine P9.casesOn ?_ | refine P9.casesOn ?_ ?_) <;> (clear P9; intros; k_extra "X M letApp"; (try show wpAny _ _ _ _ _ _); (try k_sweep); (try dsimp only); (try k_fold)))))
  k_with "X call ref" => (((fail_if_success (fail_if_success (with_reducible show wpAny _ _ (PySem.call (Value.ref 239) _) _ _ _))); k_here; k_dflt (refine' CtrX.use (c_un ?s0_q321 ?s1_q321) ?B_q321 ?F_q321 ?X_q321 ?N_q321 ?P_q321 ?S_q321 ?T_q321 ?hd_q321 ?hu_q321 ?_ ?_; (case B_q321 => k_asm); (case F_q321 => k_asm); (case X_q321 => k_asm); (case N_q321 => k_asm); (case P_q321 => k_extra "X M pick"); (case S_q321 => k_extra "X M sep"); (case T_q321 => k_asm); (case hd_q321 => first | exact rm1 (by with_reducible assumption) (by decide) | ((dsimp only [ktrTop]); exact rm1 (by with_reducible assumption) (by decide)) | ((dsimp only [ktrTop]); omega) | omega | ktr_room); (case hu_q321 => first | k_extra "X M hu" | ((dsimp only [ktrTop]); omega) | omega | ktr_units); (case s0_q321 => k_extra "X M side"); (case s1_q321 => k_extra "X M side"); skip) <;> (intro g9; first | ((with_reducible have q9 : ¬ _ := g9); clear q9; intro e9 G9 h9 tk9 F9 R9 U9; (try dsimp only); k_extra "X M raise") | (intro h9 tk9 F9 G9 v9 n9 P9; ((first | refine P9.casesOn ?_ | refine P9.casesOn ?_ ?_) <;> (clear P9; intros; k_extra "X M letApp"; (try show wpAny _ _ _ _ _ _); (try k_sweep); (try dsimp only); (try k_fold)))))))
  trivial
section
set_option maxRecDepth 100000 in
set_option maxHeartbeats 8000000 in
theorem c_packE {w : World} {mean : ExcName → Option Value} {mg mb : Str → Option Value} {x dx tm dt xv xr xn xp : Addr} {i1 i2 i3 i4 i5 i6 i7 : Tok} {rp rm co np nm pr pn : Int} {k1 k2 k3 k4 k5 k6 k7 k8 k9 k10 k11 k12 tv tk tr tt j1 j2 j3 j4 : Tok} {va vb vc vd : Value} (hd : Keep9 (Apart [x, dx, tm, dt, xv, xr, xn, xp]))
    (hb : ¬ okVecG rp rm co np nm pr pn) :
    CtrE 13 w mean mg mb 192 [.ref x] ((x, instObj 134 dx) :: (dx, bpduO w k1 k2 k3 k4 k5 k6 k7 k8 k9 k10 k11 k12 (.int 0 tv) (.str "config" tk) (.ref xv) (.ref tm) (.bool false) (.bool false) (.bool false) (.bool false) (.str (roleN 0) tr) (.bool false) (.bool false) (.bytes #[] tt)) :: (tm, instObj 98 dt) :: (dt, timesO w j1 j2 j3 j4 va vb vc vd) :: [(xv, tupO [.ref xr, .int co i3, .ref xn, .ref xp]), (xr, tupO [.int rp i1, .int rm i2]), (xn, tupO [.int np i4, .int nm i5]), (xp, tupO [.int pr i6, .int pn i7])]) 63 := by
  have hk9 := KindOf.c
  have hr9 : (0 : Nat) < 4 := by decide
  k_extra "X M fill"
  k_dflt (refine' ctrE_mk (binds := [("bpdu", .ref x)]) ?k6 ?k7 ?k9 ?kB ?c2 ?c3 ?c4 ?c5 ?_; (case k6 => k_is); (case k7 => k_is); (case k9 => exact fun _ => BindsTo.of_eq rfl); (case kB => exact locs rfl); (case c2 => exact rfl); (case c3 => exact rfl); (case c4 => exact rfl); (case c5 => decide); intro dp un gd cn snm sig sic smo a9 ccd cl outer base L s g' L' h' tk' F' N' B' X' T' lt' hdp hun; (show (let A9 : Around := _; let Q9 : _ → _ → Prop := _; wpAny _ A9 _ _ Q9 _)); intro A9 Q9; (try dsimp only at F' N'); (replace lt' := Keep9.mk lt'); (replace N' := letFront N'); k_extra "X M letApp"; (try k_fold))
  repeat' ((fail_if_success (with_reducible show wpAny _ _ (PySem.call (Value.ref 178) _) _ _ _)); (first | (k_unfold; (try dsimp only)) | walk1 | (dsimp only; walk1)); (all_goals (try k_fold)))
  k_dflt (refine' CtrE.use ((c_voct ?sV).2 hb) ?B ?F ?X ?N ?P ?S ?T ?hd ?hu ?_; (case B => k_asm); (case F => k_asm); (case X => k_asm); (case N => k_asm); (case P => k_extra "X M pick"); (case S => k_extra "X M sep"); (case T => k_asm); (case sV => k_extra "X M side"); (case hd => first | exact rm1 (by with_reducible assumption) (by decide) | omega); (case hu => first | k_extra "X M hu" | omega | ktr_units))
  intro e9 G9 h9 tk9 F9 R9 U9
  (try dsimp only)
  k_extra "X M raise"
  k_steps
end
section
inductive PTrue : Value → Led → Prop
  | mk : PTrue (.bool true) []
set_option maxRecDepth 100000 in
set_option maxHeartbeats 8000000 in
theorem c_too {w : World} {mean : ExcName → Option Value} {mg mb : Str → Option Value} {xv xr xn xp : Addr} {i1 i2 i3 i4 i5 i6 i7 : Tok} {rp rm co np nm pr pn : Int} (hd : Keep9 (Apart [xv, xr, xn, xp]))
    (hb : ¬ okVecG rp rm co np nm pr pn) :
    CtrS 18 w mean mg mb 308 [.ref xv] [(xv, tupO [.ref xr, .int co i3, .ref xn, .ref xp]), (xr, tupO [.int rp i1, .int rm i2]), (xn, tupO [.int np i4, .int nm i5]), (xp, tupO [.int pr i6, .int pn i7])] PTrue := by
  k_extra "X M fill"
  k_dflt (refine' ctrS_mk (binds := [("vector", .ref xv)]) ?k6 ?k7 ?k9 ?kB ?c2 ?c3 ?c4 ?c5 ?_; (case k6 => k_is); (case k7 => k_is); (case k9 => exact fun _ => BindsTo.of_eq rfl); (case kB => exact locs rfl); (case c2 => exact rfl); (case c3 => exact rfl); (case c4 => exact rfl); (case c5 => decide); intro dp un gd cn snm sig sic smo a9 ccd cl outer base L s g' L' h' tk' F' N' B' X' T' lt' hdp hun XB' TB' D'; (show (let A9 : Around := _; let Q9 : _ → _ → Prop := _; wpAny _ A9 _ Q9 _ _)); intro A9 Q9; (try dsimp only at F' N'); (replace lt' := Keep9.mk lt'); (replace N' := letFront N'); k_extra "X M letApp"; (try k_fold))
  repeat' ((fail_if_success (with_reducible show wpAny _ _ (PySem.call (Value.ref 192) _) _ _ _)); (first | (k_unfold; (try dsimp only)) | walk1 | (dsimp only; walk1)); (all_goals (try k_fold)))
  k_dflt (refine' CtrE.use (c_packE ?sA hb) ?B ?F ?X ?N ?P ?S ?T ?hd ?hu ?_; (case B => k_asm); (case F => k_asm); (case X => k_asm); (case N => k_asm); (case P => k_extra "X M pick"); (case S => k_extra "X M sep"); (case sA => k_extra "X M side"); (case T => k_asm); (case hd => first | exact rm1 (by with_reducible assumption) (by decide) | omega); (case hu => first | k_extra "X M hu" | omega | ktr_units))
  intro e9 G9 h9 tk9 F9 R9 U9
  (try dsimp only)
  k_dflt (refine' caught_own (C := 63) ?cR ?cF ?cK ?cU ?cX ?cT ?cD ?ce ?cq ?_; (case cR => exact R9); (case cF => k_asm); (case cK => k_asm); (case cU => exact U9); (case cX => exact XB'); (case cT => exact TB'); (case cD => exact D'); (case ce => k_is); (case cq => kts_isx))
  intro h10 g10 T10 F10 N10 K10 X10 P10 D10
  (try k_lift K10)
  (try dsimp only)
  k_steps
  (try dsimp only)
  refine' EndS.sub ?pK ?pF ?pN PTrue.mk Pick.nil
  (case pK => exact T10)
  (case pF => k_asm)
  (case pN => k_asm)
end
section
set_option maxRecDepth 100000 in
set_option maxHeartbeats 8000000 in
theorem c_rd {w : World} {mean : ExcName → Option Value} {mg mb : Str → Option Value} {row : Addr} {vals : List Value} {n : Nat} {ks : List Int} (hk : OctsAre vals ks) (hl : ks.length ≤ 200) (hg : ¬ Bad ks) :
    Ctr 18 w mean mg mb 296 [.ref row] [(row, listOf vals.toArray n)] (PRd ks row (listOf vals.toArray n)) := by
  k_extra "X M fill"
  k_dflt (refine' ctr_mk (binds := [("row", .ref row)]) ?k6 ?k7 ?k9 ?kB ?c2 ?c3 ?c4 ?c5 ?_; (case k6 => k_is); (case k7 => k_is); (case k9 => exact fun _ => BindsTo.of_eq rfl); (case kB => exact locs rfl); (case c2 => exact rfl); (case c3 => exact rfl); (case c4 => exact rfl); (case c5 => decide); intro dp un gd cn snm sig sic smo a9 ccd cl outer base L s g' L' h' tk' F' N' B' X' T' lt' hdp hun; (show (let A9 : Around := _; let Q9 : _ → _ → Prop := _; wpAny _ A9 _ Q9 _ _)); intro A9 Q9; (try dsimp only at F' N'); (replace lt' := Keep9.mk lt'); (replace N' := letFront N'); k_extra "X M letApp"; (try k_fold))
  repeat' ((fail_if_success (with_reducible show wpAny _ _ (PySem.call (Value.type "bytes") _) _ _ _)); (first | (k_unfold; (try dsimp only)) | walk1 | (dsimp only; walk1)); (all_goals (try k_fold)))
  k_dflt (refine' KBa.make_K ?mF ?mN ?mh ?ml ?mi ?mr ?mn ?_; (case mF => k_asm); (case mN => k_asm); (case mh => exact rfl); (case ml => exact News.isList (by k_asm) (by k_mem)); (case mi => exact hk.ints); (case mr => exact hk.inB); (case mn => omega))
  intro h8 t8 k8 F8 N8 e8
  clear e8
  (try k_sweep)
  (try dsimp only)
  repeat' ((fail_if_success (with_reducible show wpAny _ _ (PySem.call (Value.ref 239) _) _ _ _)); (first | (k_unfold; (try dsimp only)) | walk1 | (dsimp only; walk1)); (all_goals (try k_fold)))
  k_dflt (refine' Ctr.useI1 ((c_un (KBa.ints_make hk.inB) hl).1 hg) ?B ?F ?X ?N ?P ?S ?T ?hd ?hu ?_; (case B => k_asm); (case F => k_asm); (case X => k_asm); (case N => k_asm); (case P => k_extra "X M pick"); (case S => k_extra "X M sep"); (case T => k_asm); (case hd => first | exact rm1 (by with_reducible assumption) (by decide) | omega); (case hu => first | k_extra "X M hu" | omega | ktr_units))
  intro h9 tk9 F9 G9 v9 n9 P9
  refine P9.casesOn ?_
  clear P9
  intro x dx T9 k1 k2 k3 k4 k5 k6 k7 k8 k9 k10 k11 k12 v1 v2 v3 v4 v5 v6 v7 v8 v9 v10 v11 v12 C9 N9 S9
  simp only [List.cons_append] at N9
  show wpAny _ _ _ _ _ _
  (try k_sweep)
  (try dsimp only)
  (try k_fold)
  repeat' ((fail_if_success (with_reducible show wpAny _ _ (PySem.call (Value.ref 131) _) _ _ _)); (first | (k_unfold; (try dsimp only)) | walk1 | (dsimp only; walk1)); (all_goals (try k_fold)))
  k_dflt (refine' Ctr.useI1 C9 ?B ?F ?X ?N Pick.app (Keep9.out S9) ?T ?hd ?hu ?_; (case B => k_asm); (case F => k_asm); (case X => k_asm); (case N => k_asm); (case T => k_asm); (case hd => first | exact rm1 (by with_reducible assumption) (by decide) | omega); (case hu => first | k_extra "X M hu" | omega | ktr_units))
  intro h7 tk7 F7 G7 v7 n7 P7
  refine P7.casesOn ?_
  clear P7
  intro y ver t R D hT N7 S7
  (try k_sweep)
  repeat' (first | (show wpAny _ _ _ _ _ _; walk1) | walk1 | (dsimp only; walk1) | (k_unfold; (try dsimp only)))
  (try dsimp only)
  refine' End.intro ?pF ?pN (PRd.mk _ _ _ _ _ hT)
  (case pF => k_asm)
  (case pN => exact N7)
set_option maxRecDepth 100000 in
set_option maxHeartbeats 8000000 in
theorem c_rdE {w : World} {mean : ExcName → Option Value} {mg mb : Str → Option Value} {row : Addr} {vals : List Value} {n : Nat} {ks : List Int} (hk : OctsAre vals ks) (hl : ks.length ≤ 200) (hg : Bad ks) :
    CtrS 18 w mean mg mb 296 [.ref row] [(row, listOf vals.toArray n)] (PForm [(row, listOf vals.toArray n)]) := by
  k_extra "X M fill"
  k_dflt (refine' ctrS_mk (binds := [("row", .ref row)]) ?k6 ?k7 ?k9 ?kB ?c2 ?c3 ?c4 ?c5 ?_; (case k6 => k_is); (case k7 => k_is); (case k9 => exact fun _ => BindsTo.of_eq rfl); (case kB => exact locs rfl); (case c2 => exact rfl); (case c3 => exact rfl); (case c4 => exact rfl); (case c5 => decide); intro dp un gd cn snm sig sic smo a9 ccd cl outer base L s g' L' h' tk' F' N' B' X' T' lt' hdp hun XB' TB' D'; (show (let A9 : Around := _; let Q9 : _ → _ → Prop := _; wpAny _ A9 _ Q9 _ _)); intro A9 Q9; (try dsimp only at F' N'); (replace lt' := Keep9.mk lt'); (replace N' := letFront N'); k_extra "X M letApp"; (try k_fold))
  repeat' ((fail_if_success (with_reducible show wpAny _ _ (PySem.call (Value.type "bytes") _) _ _ _)); (first | (k_unfold; (try dsimp only)) | walk1 | (dsimp only; walk1)); (all_goals (try k_fold)))
  k_dflt (refine' KBa.make_K ?mF ?mN ?mh ?ml ?mi ?mr ?mn ?_; (case mF => k_asm); (case mN => k_asm); (case mh => exact rfl); (case ml => exact News.isList (by k_asm) (by k_mem)); (case mi => exact hk.ints); (case mr => exact hk.inB); (case mn => omega))
  intro h8 t8 k8 F8 N8 e8
  clear e8
  (try k_sweep)
  (try dsimp only)
  repeat' ((fail_if_success (with_reducible show wpAny _ _ (PySem.call (Value.ref 239) _) _ _ _)); (first | (k_unfold; (try dsimp only)) | walk1 | (dsimp only; walk1)); (all_goals (try k_fold)))
  k_dflt (refine' CtrE.use ((c_un (mean := mean) (mg := mg) (mb := mb) (KBa.ints_make hk.inB) hl).2 (fun h => h hg)) ?B ?F ?X ?N ?P ?S ?T ?hd ?hu ?_; (case B => k_asm); (case F => k_asm); (case X => k_asm); (case N => k_asm); (case P => k_extra "X M pick"); (case S => k_extra "X M sep"); (case T => k_asm); (case hd => first | exact rm1 (by with_reducible assumption) (by decide) | omega); (case hu => first | k_extra "X M hu" | omega | ktr_units))
  intro e9 G9 h9 tk9 F9 R9 U9
  (try dsimp only)
  k_dflt (refine' caught_own (C := 51) ?cR ?cF ?cK ?cU ?cX ?cT ?cD ?ce ?cq ?_; (case cR => exact R9); (case cF => k_asm); (case cK => k_asm); (case cU => exact U9); (case cX => exact XB'); (case cT => exact TB'); (case cD => exact D'); (case ce => k_is); (case cq => kts_isx))
  intro h10 g10 T10 F10 N10 K10 X10 P10 D10
  (try k_lift K10)
  (try dsimp only)
  k_steps
  (try dsimp only)
  refine' EndS.sub ?pK ?pF ?pN (PForm.mk _) ?pS
  (case pK => exact T10)
  (case pF => k_asm)
  (case pN => k_asm)
  (case pS => k_extra "X M pick")
end
section

end
theorem kw_46 : True := by
  k_with "X subscriptTail Name Slice ref ref" => (((fail_if_success (fail_if_success (with_reducible show wpAny _ _ (subscriptTail _ (Expr.Slice none (some (Expr.UnaryOp _ _ _)) none _) (Value.ref _) (Value.ref _)) _ _ _))); k_here; k_dflt (refine' slice_octs (s := ⟨_, _, _, _, _⟩) ?sF_q322 ?sN_q322 ?sm_q322 ?sk_q322 ?sp_q322 ?sq_q322 (slo_neg ?s0_q322) mem_take' ?sz_q322 ?_ (hs := ?ss_q322) (ht := ?st_q322); (case ss_q322 => with_unfolding_all rfl); (case st_q322 => (intro _; with_unfolding_all rfl)); (case sF_q322 => k_asm); (case sN_q322 => k_asm); (case sm_q322 => k_mem); (case sk_q322 => with_reducible assumption); (case sp_q322 => constructor); (case sq_q322 => constructor); (case s0_q322 => decide); (case sz_q322 => k_extra "X M osz")); intro D' zs' h' F' N' l1' o9'; (try k_lt l1'); (try k_sweep); (try dsimp only)))
  k_with "X subscriptTail Name Slice ref ref" => (((fail_if_success (fail_if_success (with_reducible show wpAny _ _ (subscriptTail _ (Expr.Slice none (some _) none _) (Value.ref _) (Value.ref _)) _ _ _))); k_here; k_dflt (refine' slice_octs (s := ⟨_, _, _, _, _⟩) ?sF_q323 ?sN_q323 ?sm_q323 ?sk_q323 ?sp_q323 ?sq_q323 (slo_to ?s0_q323) mem_take' ?sz_q323 ?_ (hs := ?ss_q323) (ht := ?st_q323); (case ss_q323 => with_unfolding_all rfl); (case st_q323 => (intro _; with_unfolding_all rfl)); (case sF_q323 => k_asm); (case sN_q323 => k_asm); (case sm_q323 => k_mem); (case sk_q323 => with_reducible assumption); (case sp_q323 => constructor); (case sq_q323 => constructor); (case s0_q323 => first | with_reducible assumption | decide); (case sz_q323 => k_extra "X M osz")); intro D' zs' h' F' N' l1' o9'; (try k_lt l1'); (try k_sweep); (try dsimp only)))
  k_with "X subscriptTail Name Slice ref ref" => (((fail_if_success (fail_if_success (with_reducible show wpAny _ _ (subscriptTail _ (Expr.Slice (some _) none none _) (Value.ref _) (Value.ref _)) _ _ _))); k_here; k_dflt (refine' slice_octs (s := ⟨_, _, _, _, _⟩) ?sF_q324 ?sN_q324 ?sm_q324 ?sk_q324 ?sp_q324 ?sq_q324 (slo_fr ?s0_q324) mem_drop' ?sz_q324 ?_ (hs := ?ss_q324) (ht := ?st_q324); (case ss_q324 => with_unfolding_all rfl); (case st_q324 => (intro _; with_unfolding_all rfl)); (case sF_q324 => k_asm); (case sN_q324 => k_asm); (case sm_q324 => k_mem); (case sk_q324 => with_reducible assumption); (case sp_q324 => constructor); (case sq_q324 => constructor); (case s0_q324 => first | with_reducible assumption | decide); (case sz_q324 => k_extra "X M osz")); intro D' zs' h' F' N' l1' o9'; (try k_lt l1'); (try k_sweep); (try dsimp only)))
  k_with "X subscriptTail Name Slice ref ref" => (((fail_if_success (fail_if_success (with_reducible show wpAny _ _ (subscriptTail _ (Expr.Slice (some _) (some _) none _) (Value.ref _) (Value.ref _)) _ _ _))); k_here; k_dflt (refine' slice_octs (s := ⟨_, _, _, _, _⟩) ?sF_q325 ?sN_q325 ?sm_q325 ?sk_q325 ?sp_q325 ?sq_q325 (slo_run ?s0_q325 ?s1_q325 ?s2_q325) mem_run' ?sz_q325 ?_ (hs := ?ss_q325) (ht := ?st_q325); (case ss_q325 => with_unfolding_all rfl); (case st_q325 => (intro _; with_unfolding_all rfl)); (case sF_q325 => k_asm); (case sN_q325 => k_asm); (case sm_q325 => k_mem); (case sk_q325 => with_reducible assumption); (case sp_q325 => constructor); (case sq_q325 => constructor); (case s0_q325 => decide); (case s1_q325 => decide); (case s2_q325 => k_extra "X M osz"); (case sz_q325 => k_extra "X M osz")); intro D' zs' h' F' N' l1' o9'; (try k_lt l1'); (try k_sweep); (try dsimp only)))
  k_with "X M sltup" => ((k_dflt (first | (refine' slice_tup (s := ⟨_, _, _, _, _⟩) 1 4 3 ?sF_q326 ?sN_q326 ?sm_q326 ?sp_q326 ?sq_q326 ?sa_q326 ?sn_q326 ?so_q326 ?se_q326 ?sz_q326 ?_ (hs := ?ss_q326) (hg := ?st_q326); (case ss_q326 => with_unfolding_all rfl); (case st_q326 => (intro _; with_unfolding_all rfl)); (case sF_q326 => k_asm); (case sN_q326 => k_asm); (case sm_q326 => k_mem); (case sp_q326 => constructor); (case sq_q326 => constructor); (case sa_q326 => exact rfl); (case sn_q326 => exact rfl); (case so_q326 => exact rfl); (case se_q326 => kl_lit); (case sz_q326 => exact Nat.le_of_ble_eq_true rfl)) | (refine' slice_tup (s := ⟨_, _, _, _, _⟩) 1 6 5 ?sF_q326 ?sN_q326 ?sm_q326 ?sp_q326 ?sq_q326 ?sa_q326 ?sn_q326 ?so_q326 ?se_q326 ?sz_q326 ?_ (hs := ?ss_q326) (hg := ?st_q326); (case ss_q326 => with_unfolding_all rfl); (case st_q326 => (intro _; with_unfolding_all rfl)); (case sF_q326 => k_asm); (case sN_q326 => k_asm); (case sm_q326 => k_mem); (case sp_q326 => constructor); (case sq_q326 => constructor); (case sa_q326 => exact rfl); (case sn_q326 => exact rfl); (case so_q326 => exact rfl); (case se_q326 => kl_lit); (case sz_q326 => exact Nat.le_of_ble_eq_true rfl)) | (refine' slice_tup (s := ⟨_, _, _, _, _⟩) 1 5 4 ?sF_q326 ?sN_q326 ?sm_q326 ?sp_q326 ?sq_q326 ?sa_q326 ?sn_q326 ?so_q326 ?se_q326 ?sz_q326 ?_ (hs := ?ss_q326) (hg := ?st_q326); (case ss_q326 => with_unfolding_all rfl); (case st_q326 => (intro _; with_unfolding_all rfl)); (case sF_q326 => k_asm); (case sN_q326 => k_asm); (case sm_q326 => k_mem); (case sp_q326 => constructor); (case sq_q326 => constructor); (case sa_q326 => exact rfl); (case sn_q326 => exact rfl); (case so_q326 => exact rfl); (case se_q326 => kl_lit); (case sz_q326 => exact Nat.le_of_ble_eq_true rfl))); intro D' h' F' N' l1'; (try k_lt l1'); (try k_sweep); (try dsimp only)))
  k_with "X M slnear" => ((k_dflt (first | (refine' slice_tup (s := ⟨_, _, _, _, _⟩) 0 1 1 ?sF_q327 ?sN_q327 ?sm_q327 ?sp_q327 ?sq_q327 ?sa_q327 ?sn_q327 ?so_q327 ?se_q327 ?sz_q327 ?_ (hs := ?ss_q327) (hg := ?st_q327); (case ss_q327 => with_unfolding_all rfl); (case st_q327 => (intro _; with_unfolding_all rfl)); (case sF_q327 => k_asm); (case sN_q327 => k_asm); (case sm_q327 => k_mem); (case sp_q327 => constructor); (case sq_q327 => constructor); (case sa_q327 => exact rfl); (case sn_q327 => exact rfl); (case so_q327 => exact rfl); (case se_q327 => kl_lit); (case sz_q327 => exact Nat.le_of_ble_eq_true rfl)) | (refine' slice_tup (s := ⟨_, _, _, _, _⟩) 2 4 2 ?sF_q327 ?sN_q327 ?sm_q327 ?sp_q327 ?sq_q327 ?sa_q327 ?sn_q327 ?so_q327 ?se_q327 ?sz_q327 ?_ (hs := ?ss_q327) (hg := ?st_q327); (case ss_q327 => with_unfolding_all rfl); (case st_q327 => (intro _; with_unfolding_all rfl)); (case sF_q327 => k_asm); (case sN_q327 => k_asm); (case sm_q327 => k_mem); (case sp_q327 => constructor); (case sq_q327 => constructor); (case sa_q327 => exact rfl); (case sn_q327 => exact rfl); (case so_q327 => exact rfl); (case se_q327 => kl_lit); (case sz_q327 => exact Nat.le_of_ble_eq_true rfl)) | (refine' slice_tup (s := ⟨_, _, _, _, _⟩) 1 4 3 ?sF_q327 ?sN_q327 ?sm_q327 ?sp_q327 ?sq_q327 ?sa_q327 ?sn_q327 ?so_q327 ?se_q327 ?sz_q327 ?_ (hs := ?ss_q327) (hg := ?st_q327); (case ss_q327 => with_unfolding_all rfl); (case st_q327 => (intro _; with_unfolding_all rfl)); (case sF_q327 => k_asm); (case sN_q327 => k_asm); (case sm_q327 => k_mem); (case sp_q327 => constructor); (case sq_q327 => constructor); (case sa_q327 => exact rfl); (case sn_q327 => exact rfl); (case so_q327 => exact rfl); (case se_q327 => kl_lit); (case sz_q327 => exact Nat.le_of_ble_eq_true rfl)) | (refine' slice_tup (s := ⟨_, _, _, _, _⟩) 0 2 2 ?sF_q327 ?sN_q327 ?sm_q327 ?sp_q327 ?sq_q327 ?sa_q327 ?sn_q327 ?so_q327 ?se_q327 ?sz_q327 ?_ (hs := ?ss_q327) (hg := ?st_q327); (case ss_q327 => with_unfolding_all rfl); (case st_q327 => (intro _; with_unfolding_all rfl)); (case sF_q327 => k_asm); (case sN_q327 => k_asm); (case sm_q327 => k_mem); (case sp_q327 => constructor); (case sq_q327 => constructor); (case sa_q327 => exact rfl); (case sn_q327 => exact rfl); (case so_q327 => exact rfl); (case se_q327 => kl_lit); (case sz_q327 => exact Nat.le_of_ble_eq_true rfl)) | (refine' slice_tup (s := ⟨_, _, _, _, _⟩) 0 3 3 ?sF_q327 ?sN_q327 ?sm_q327 ?sp_q327 ?sq_q327 ?sa_q327 ?sn_q327 ?so_q327 ?se_q327 ?sz_q327 ?_ (hs := ?ss_q327) (hg := ?st_q327); (case ss_q327 => with_unfolding_all rfl); (case st_q327 => (intro _; with_unfolding_all rfl)); (case sF_q327 => k_asm); (case sN_q327 => k_asm); (case sm_q327 => k_mem); (case sp_q327 => constructor); (case sq_q327 => constructor); (case sa_q327 => exact rfl); (case sn_q327 => exact rfl); (case so_q327 => exact rfl); (case se_q327 => kl_lit); (case sz_q327 => exact Nat.le_of_ble_eq_true rfl))); intro D' h' F' N' l1'; (try k_lt l1'); (try k_sweep); (try dsimp only)))
  k_with "X subscriptTail Name Slice ref ref" => (((fail_if_success (fail_if_success (with_reducible show wpAny _ _ (subscriptTail (Expr.Name "due" _) (Expr.Slice _ _ none _) (Value.ref _) (Value.ref _)) _ _ _))); k_here; k_extra "X M sltup"))
  k_with "X subscriptTail Name Slice ref ref" => (((fail_if_success (fail_if_success (with_reducible show wpAny _ _ (subscriptTail (Expr.Name "near" _) (Expr.Slice _ _ none _) (Value.ref _) (Value.ref _)) _ _ _))); k_here; k_extra "X M slnear"))
  k_with "X subscriptTail" => (((fail_if_success (fail_if_success (with_reducible show wpAny _ _ (subscriptTail (Expr.Call _ _ _ _) (Expr.Slice _ _ none _) (Value.ref _) (Value.ref _)) _ _ _))); k_here; k_dflt (refine kba_turn (value' := Expr.Name (Str.ofString "_") ⟨0, 0, 0, 0⟩) (fun _ => rfl) ?_); k_extra "X M sltup"))
  k_with "X ite" => ((k_here; first | with_reducible refine ite_ft ?_ | with_reducible refine ite_tt9 ?_))
  k_with "X M osz" => (first | k_extra "X M lensz" | ((try simp only [wire_lenV, List.length_append, octsTo_length, vecO_length, timO_length, List.length_cons, List.length_nil, List.length_take, List.length_drop]); omega))
  k_with "X M sep" => (repeat' (first | with_reducible exact True.intro | with_reducible exact List.forall_mem_nil _ | with_reducible refine And.intro ?_ ?_ | with_reducible refine List.forall_mem_cons.mpr ⟨?_, ?_⟩ | ((with_reducible show ∀ q ∈ _, @Ne Nat _ _); k_extra "X M sepT") | ((with_reducible show Sep _ _); refine And.intro ?_ ?_) | ((with_reducible show Apart (_ :: _)); refine And.intro ?_ ?_) | ((with_reducible show Sep [] _); exact True.intro) | ((with_reducible show Apart []); exact True.intro) | k_extra "X M ne"))
  k_with "X M sub" => (first | with_reducible exact List.forall_mem_nil _ | exact fun _ h => h | (refine sub_cons ?sc1_q334 ?sc2_q334; (case sc1_q334 => k_extra "X M mem"); (case sc2_q334 => k_extra "X M sub")) | (refine sub_skip ?_; k_extra "X M sub") | (refine sub_app ?_; k_extra "X M sub") | (refine sub_appL ?_; k_extra "X M sub") | with_reducible assumption)
  k_with "X M pick" => (first | exact Pick.nil | exact Pick.self _ | (refine' Pick.cons ?pd9_q335 ?pr9_q335; (case pd9_q335 => k_extra "X M del"); (case pr9_q335 => k_extra "X M pick")) | (refine' Pick.skip ?pr8_q335; (case pr8_q335 => k_extra "X M pick")))
  k_with "X M mem" => (first | with_reducible exact List.mem_cons_self | (with_reducible refine List.mem_cons_of_mem _ ?_; k_extra "X M mem") | (with_reducible refine List.mem_append_right _ ?_; k_extra "X M mem"))
  k_with "X M sepT" => (first | exact Keep9.out (by with_reducible assumption) | (refine' ltT (by with_reducible assumption) ?mt9_q337; (case mt9_q337 => k_extra "X M sub")) | (refine' offT (by with_reducible assumption) ?mt9_q337; (case mt9_q337 => k_extra "X M sub")) | (refine' ltT1 (by with_reducible assumption) ?mt9_q337; (case mt9_q337 => k_extra "X M sub")) | (refine' sepT1 (by with_reducible assumption) ?mt8_q337 ?mt9_q337; (case mt8_q337 => k_extra "X M mem"); (case mt9_q337 => k_extra "X M sub")) | (refine' sepT2 (by with_reducible assumption) ?mt8_q337 ?mt9_q337; (case mt8_q337 => k_extra "X M mem"); (case mt9_q337 => k_extra "X M sub")) | (((with_reducible rename Keep9 (Sep _ _) => zz9); clear zz9); k_extra "X M sepT"))
  trivial
section
theorem let5 {G : Prop} {g : Heap} {L : Addr} {h : Heap} {a b c d e : Addr × Obj} {l : Led} (N : News g L h (a :: b :: c :: d :: e :: l)) (k : let e1 := a; let e2 := b; let e3 := c; let e4 := d; let e5 := e; News g L h (e1 :: e2 :: e3 :: e4 :: e5 :: l) → G) : G := k N
theorem let3 {G : Prop} {g : Heap} {L : Addr} {h : Heap} {a b c : Addr × Obj} {l : Led} (N : News g L h (a :: b :: c :: l)) (k : let e1 := a; let e2 := b; let e3 := c; News g L h (e1 :: e2 :: e3 :: l) → G) : G := k N
theorem or4_bd {x a b c d : Int} (h : x = a ∨ x = b ∨ x = c ∨ x = d) (ha : 0 ≤ a ∧ a < 256 := by decide) (hb : 0 ≤ b ∧ b < 256 := by decide) (hc : 0 ≤ c ∧ c < 256 := by decide) (hd : 0 ≤ d ∧ d < 256 := by decide) : 0 ≤ x ∧ x < 256 := by
  rcases h with rfl | rfl | rfl | rfl <;> assumption
theorem len_cut {ks : List Int} {i j : Nat} {z : Int} (h : ks.length ≤ 60) : (ks.take i ++ [z] ++ ks.drop j).length ≤ 200 := by
  simp only [List.length_append, List.length_take, List.length_drop, List.length_cons, List.length_nil]
  omega
theorem len_first {ks : List Int} {i : Nat} {a b : Int} (h : ks.length ≤ 60) : ([a, b] ++ ks.drop i).length ≤ 200 := by
  simp only [List.length_append, List.length_drop, List.length_cons, List.length_nil]
  omega
theorem len_take9 {ks : List Int} {i : Nat} (h : ks.length ≤ 60) : (ks.take i).length ≤ 200 := by
  rw [List.length_take]
  omega
theorem len_more {ys : List Int} {r : Int} (h : ys.length = r.toNat) (h9 : r < 9) : ys.length ≤ 9 := by omega
theorem let2 {G : Prop} {g : Heap} {L : Addr} {h : Heap} {a : Addr × Obj} {l : Led} (N : News g L h (a :: l)) (k : let e1 := a; News g L h (e1 :: l) → G) : G := k N
theorem kw_47 : True := by
  k_with "X M letApp" => (((with_reducible rename News _ _ _ _ => nw9); (try simp only [List.cons_append, List.nil_append, List.append_nil] at nw9)))
  trivial
set_option maxRecDepth 100000 in
set_option maxHeartbeats 8000000 in
theorem c_or {w : World} {mean : ExcName → Option Value} {mg mb : Str → Option Value} {src x dx row : Addr} {T : Led} {vals : List Value} {ks : List Int} {n nR : Nat} {o : Obj} {k1 k2 k3 k4 k5 k6 k7 k8 k9 k10 k11 k12 tv tk tt : Tok} {ver least : Int} {kind : Str} {v3 v4 v5 v6 v7 v8 v9 v10 v11 : Value} {tail : Array UInt8} {PD PR : List Value → Led → Prop}
    (hd : Apart [src, x, dx, row]) (hT : ∀ q ∈ T, @Ne Nat q.1 src ∧ @Ne Nat q.1 row) (hk : OctsAre vals ks) (hl : ks.length ≤ 60) (h4 : 4 ≤ ks.length)
    (told : Ctr 6 w mean mg mb 131 [.ref x] ((x, instObj 134 dx) :: (dx, bpduO w k1 k2 k3 k4 k5 k6 k7 k8 k9 k10 k11 k12 (.int ver tv) (.str kind tk) v3 v4 v5 v6 v7 v8 v9 v10 v11 (.bytes tail tt)) :: T) (PostTold x dx (instObj 134 dx) (bpduO w k1 k2 k3 k4 k5 k6 k7 k8 k9 k10 k11 k12 (.int ver tv) (.str kind tk) v3 v4 v5 v6 v7 v8 v9 v10 v11 (.bytes tail tt)) T ver PD))
    (hR : ∀ R D, PD R D → R.length = nR ∧ nR ≤ 8) (hR' : ∀ R D, PR R D → R.length = nR) (eq : Equal9 PD PR T)
    (hkind : (kind = Str.ofString "change" ∧ least = 4) ∨ (kind ≠ Str.ofString "change" ∧ (∀ z1 z2 : Int, 0 ≤ z1 → z1 < 256 → 0 ≤ z2 → z2 < 256 → Reads9 w mean mg mb (· = ver) PR (ks.take 28 ++ [z1] ++ (ks.drop 29).take 5 ++ [z2] ++ ks.drop 35)) ∧ 35 ≤ ks.length ∧
      ((kind = Str.ofString "config" ∧ least = 35 ∧ (∀ z : Int, (z = 1 ∨ z = 2 ∨ z = 3 ∨ z = 200) → Reads9 w mean mg mb (· = ver) PR (ks.take 2 ++ [z] ++ ks.drop 3))) ∨
       (kind = Str.ofString "rapid" ∧ least = 36 ∧ 36 ≤ ks.length ∧ (∀ z : Int, 0 ≤ z → z < 2 → Bad (ks.take 2 ++ [z] ++ ks.drop 3)) ∧ (∀ z : Int, 0 ≤ z → Bad (ks.take 35 ++ [1 + z] ++ ks.drop 36)) ∧
        (ver = 2 ∨ (ver = 3 ∧ (tail ≠ #[] → ∃ PR5 : List Value → Led → Prop, Reads9 w mean mg mb (· = 2) PR5 (ks.take (ks.length - 1)) ∧ (∀ R D, PD R D → ∃ r1 r2 r3 r4 r5 : Value, R = [r1, r2, r3, r4, r5]) ∧ Equal9 (fun Q D => ∃ r1 r2 r3 r4 r5 : Value, ∃ t : Tok, PD [r1, r2, r3, r4, r5] D ∧ Q = [r1, r2, r3, r4, .bytes #[] t]) PR5 T)))))))
    (g1 : ∀ more : List Int, (∀ z ∈ more, 0 ≤ z ∧ z < 256) → more.length ≤ 9 → Reads9 w mean mg mb (· = ver) PR (ks ++ more))
    (g2 : Reads9 w mean mg mb (fun _ => True) PR (ks.take 2 ++ [9] ++ ks.drop 3 ++ [0, 0]))
    (b1 : ∀ c : Int, 0 ≤ c → c < least → Bad (ks.take c.toNat))
    (b2 : ∀ z : Int, 0 ≤ z → Bad ([z + 1, 0] ++ ks.drop 2))
    (b3 : ∀ z : Int, (z = 1 ∨ z = 3 ∨ z = 127 ∨ z = 129) → Bad (ks.take 3 ++ [z] ++ ks.drop 4))
    (ho : SrcO o) :
    CtrS 24 w mean mg mb 301 [.ref src, .ref x, .ref row] ((src, o) :: (row, listOf vals.toArray n) :: (x, instObj 134 dx) :: (dx, bpduO w k1 k2 k3 k4 k5 k6 k7 k8 k9 k10 k11 k12 (.int ver tv) (.str kind tk) v3 v4 v5 v6 v7 v8 v9 v10 v11 (.bytes tail tt)) :: T) (POr src) := by
  k_extra "X M fill"
  k_dflt (refine' ctrS_mkC (binds := [("source", .ref src), ("told", .ref x), ("row", .ref row)]) ?k6 ?k7 ?k9 ?kB ?kD ?c2 ?c3 ?c4 ?_; (case k6 => k_is); (case k7 => k_is); (case k9 => exact fun _ => BindsTo.of_eq rfl); (case kB => exact rfl); (case kD => decide +kernel); (case c2 => exact rfl); (case c3 => exact rfl); (case c4 => exact rfl); intro dp un gd cn snm sig sic smo a9 ccd cl outer base L s g' L' h' tk' cells' F' N' Y' B' X' T' lt' hdp hun XB' TB' D'; (replace XB' := Keep9.mk XB'); (replace TB' := Keep9.mk TB'); (show (let A9 : Around := _; let Q9 : _ → _ → Prop := _; wpAny _ A9 _ Q9 _ _)); intro A9 Q9; (replace lt' := Keep9.mk lt'))
  obtain ⟨o0, hE', d0⟩ := CellsAre.one Y'
  subst hE'
  clear Y'
  replace d0 : o0.data = Data.cell (some (.ref src)) := d0
  replace F' : Fr g' L' h' (fun y => if y = "row" then some (.ref row) else if y = "told" then some (.ref x) else none) := F'
  simp only [List.cons_append, List.nil_append] at N'
  replace N' := letFront N'
  k_extra "X M letApp"
  (try k_fold)
  (with_reducible rename News _ _ _ _ => N5)
  refine let5 N5 ?_
  clear N5
  intro e1 e2 e3 e4 e5 N5
  (replace hd := Keep9.mk hd)
  have KK : KtsTurn (frs (envX cn (fscope snm sig sic smo) L a9 ccd cl :: outer)) g' g' := KtsTurn.refl
  have hsT := Keep9.mk (fun q hq => Ne.symm (hT q hq).1 : ∀ q ∈ T, @Ne Nat src q.1)
  have hrT := Keep9.mk (fun q hq => Ne.symm (hT q hq).2 : ∀ q ∈ T, @Ne Nat row q.1)
  repeat' ((fail_if_success (with_reducible show wpAny _ _ (PySem.call (Value.ref 131) _) _ _ _)); (first | (k_unfold; (try dsimp only)) | walk1 | (dsimp only; walk1)); (all_goals (try k_fold)))
  (with_reducible rename OctsAre _ _ => hm)
  (with_reducible rename List.length _ = _ => hml)
  have hml9 := len_more hml (by with_reducible assumption)
  k_dflt (refine' Ctr.useMI told ?B ?F ?X ?N ?P1 told_P2 ?S ?T ?hd ?hu ?_; (case B => k_asm); (case F => k_asm); (case X => k_asm); (case N => k_asm); (case P1 => k_extra "X M sub"); (case S => (refine ⟨?_, ?_, ?_⟩; (k_extra "X M sep"); (k_extra "X M sep"); (refine Sep.symm ?_; k_extra "X M sep"))); (case T => k_asm); (case hd => first | exact rm1 (by with_reducible assumption) (by decide) | ((dsimp only [ktrTop]); exact rm1 (by with_reducible assumption) (by decide)) | ((dsimp only [ktrTop]); omega)); (case hu => first | k_extra "X M hu" | ((dsimp only [ktrTop]); omega)))
  intro h9 tk9 F9 G9 v9 n9 P9
  refine P9.casesOn ?_
  clear P9
  intro y D t9 R hPD N9 S9
  show wpAny _ _ _ _ _ _
  replace S9 := Keep9.out S9
  have hoff := Sep.off S9 (q := (src, _)) (.tail _ (.tail _ (.head _)))
  obtain ⟨TT, hDD, hTD, hDT, N9⟩ := News.told N9
  have hsy : Keep9 (src ≠ y) := ⟨hoff _ (.head _)⟩
  have hsTT : Keep9 (∀ q ∈ TT, @Ne Nat src q.1) := ⟨fun q hq => (hDT q hq).elim (fun h => hoff _ (.tail _ (List.mem_append_left _ h))) (fun h => hoff _ (.tail _ (List.mem_append_right _ (.tail _ (.tail _ h)))))⟩
  clear S9 hoff hDT hsT
  simp only [List.cons_append, List.nil_append] at N9
  refine let3 N9 ?_
  clear N9
  intro e6 e7 e8 N9
  (try k_sweep)
  (try dsimp only)
  (try k_fold)
  repeat' ((fail_if_success (with_reducible show wpAny _ _ (PySem.isTrue (Expr.Compare _ _ _ _) _ _) _ _ _)); (first | (k_unfold; (try dsimp only)) | walk1 | (dsimp only; walk1)); (all_goals (try k_fold)))
  (with_reducible rename Fr _ _ _ _ => F9)
  (with_reducible rename News _ _ _ _ => N9)
  refine cut_test (b := false) F9 N9 (fun _ => ?test1) ?_
  case test1 =>
    repeat' ((fail_if_success (with_reducible show wpAny _ _ (binaryOp Operator.Add (Value.ref _) (Value.ref _)) _ _ _)); (first | (k_unfold; (try dsimp only)) | walk1 | (dsimp only; walk1)); (all_goals (try k_fold)))
    k_dflt (refine' add_octs2 ?oF ?oN ?oa ?ob ?ox ?oy ?oz ?_; (case oF => k_asm); (case oN => k_asm); (case oa => k_mem); (case ob => k_mem); (case ox => exact hk); (case oy => exact hm); (case oz => omega))
    intro D1 zs1 h1 F1 N1 l1 o1
    (try k_lt l1)
    (try k_sweep)
    (try dsimp only)
    (try k_fold)
    repeat' ((fail_if_success (with_reducible show wpAny _ _ (PySem.call (Value.ref 296) _) _ _ _)); (first | (k_unfold; (try dsimp only)) | walk1 | (dsimp only; walk1)); (all_goals (try k_fold)))
    k_dflt (refine' Ctr.useMI (g1 _ (fun z hz => hm.2 z hz) hml9 D1 zs1 0 o1) ?B ?F ?X ?N ?P1 ?P2 ?S ?T ?hd ?hu ?_; (case B => k_asm); (case F => k_asm); (case X => k_asm); (case N => k_asm); (case P1 => k_extra "X M sub"); (case P2 => exact sub_skip fun _ h => h); (case S => k_extra "X M sep"); (case T => k_asm); (case hd => first | exact rm1 (by with_reducible assumption) (by decide) | ((dsimp only [ktrTop]); exact rm1 (by with_reducible assumption) (by decide)) | ((dsimp only [ktrTop]); omega)); (case hu => first | k_extra "X M hu" | ((dsimp only [ktrTop]); omega)))
    intro h9 tk9 F9 G9 v9 n9 P9
    refine P9.casesOn ?_
    clear P9
    intro y1 D2 k9 t9 R9 hkv hPR N9 S9
    show wpAny _ _ _ _ _ _
    subst hkv
    clear S9
    replace N9 := News.turn (l1 := D2) N9
    (try k_sweep)
    (try dsimp only)
    (try k_fold)
    repeat' ((fail_if_success (with_reducible show wpAny _ _ (compareOp CmpOp.NotEq (Value.ref _) (Value.ref _)) _ _ _)); (first | (k_unfold; (try dsimp only)) | walk1 | (dsimp only; walk1)); (all_goals (try k_fold)))
    k_dflt (refine' ne_tups ?qN ?qa ?qb ?qu ?qh ?_; (case qN => k_asm); (case qa => k_extra "X M mem"); (case qb => k_extra "X M mem"); (case qu => (first | ((simp only [A9, units_in1, units_deeper]); (try dsimp only [ktrTop]); omega) | ((simp only [units_in1, units_deeper]); omega) | ((simp only [units_in1, units_deeper]); (dsimp only [ktrTop]); omega) | ktr_units)); (case qh => exact AllEq.cons (eqAt_int _ _ _) (eq _ _ _ _ hPD hPR _ _ _ _ _ (by k_asm) (by k_extra "X M sub") (by exact sub_more (by k_extra "X M sub") hDD) (by exact sub_more (by k_extra "X M sub") hTD) (by (first | ((simp only [A9, units_in1, units_deeper]); (try dsimp only [ktrTop]); omega) | ((simp only [units_in1, units_deeper]); omega) | ((simp only [units_in1, units_deeper]); (dsimp only [ktrTop]); omega) | ktr_units)))))
    (try dsimp only)
    (try k_fold)
    repeat' ((fail_if_success (with_reducible show wpAny _ _ (compareOp CmpOp.NotEq (Value.ref _) (Value.ref _)) _ _ _)); (first | (k_unfold; (try dsimp only)) | walk1 | (dsimp only; walk1)); (all_goals (try k_fold)))
    (try k_unfold)
    (try dsimp only)
    refine' CutB.sub ?eF ?eN ?eS
    (case eF => k_asm)
    (case eN => k_asm)
    (case eS => k_extra "X M sub")
  intro h8 tk8 F8 N8
  clear F9 N9
  (try dsimp only)
  (try k_fold)
  repeat' ((fail_if_success (with_reducible show wpAny _ _ (PySem.isTrue (Expr.Compare _ _ _ _) _ _) _ _ _)); (first | (k_unfold; (try dsimp only)) | walk1 | (dsimp only; walk1)); (all_goals (try k_fold)))
  (with_reducible rename Fr _ _ _ _ => F9)
  (with_reducible rename News _ _ _ _ => N9)
  refine cut_test (b := false) F9 N9 (fun _ => ?test2) ?_
  case test2 =>
    repeat' ((fail_if_success (with_reducible show wpAny _ _ (PySem.call (Value.ref 296) _) _ _ _)); (first | (k_unfold; (try dsimp only)) | walk1 | (dsimp only; walk1)); (all_goals (try k_fold)))
    (with_reducible rename OctsAre _ _ => o2)
    k_dflt (refine' Ctr.useMI (g2 _ _ 0 o2) ?B ?F ?X ?N ?P1 ?P2 ?S ?T ?hd ?hu ?_; (case B => k_asm); (case F => k_asm); (case X => k_asm); (case N => k_asm); (case P1 => k_extra "X M sub"); (case P2 => exact sub_skip fun _ h => h); (case S => k_extra "X M sep"); (case T => k_asm); (case hd => first | exact rm1 (by with_reducible assumption) (by decide) | ((dsimp only [ktrTop]); exact rm1 (by with_reducible assumption) (by decide)) | ((dsimp only [ktrTop]); omega)); (case hu => first | k_extra "X M hu" | ((dsimp only [ktrTop]); omega)))
    intro h9 tk9 F9 G9 v9 n9 P9
    refine P9.casesOn ?_
    clear P9
    intro y1 D2 k9 t9 R9 hkv hPR N9 S9
    show wpAny _ _ _ _ _ _
    clear S9
    replace N9 := News.turn (l1 := D2) N9
    (try k_sweep)
    (try dsimp only)
    (try k_fold)
    repeat' ((fail_if_success (with_reducible show wpAny _ _ (subscriptTail _ _ (Value.ref _) (Value.ref _)) _ _ _)); (first | (k_unfold; (try dsimp only)) | walk1 | (dsimp only; walk1)); (all_goals (try k_fold)))
    (try k_unfold)
    (try dsimp only)
    k_dflt (refine kba_turn (value' := Expr.Name (Str.ofString "_") ⟨0, 0, 0, 0⟩) (fun _ => rfl) ?_)
    k_dflt (refine' slice_tail (s := ⟨_, _, _, _, _⟩) ?sF ?sN ?sm ?sl ?_ (hs := ?ss) (hg := ?st); (case ss => with_unfolding_all rfl); (case st => (intro _; with_unfolding_all rfl)); (case sF => k_asm); (case sN => k_asm); (case sm => k_extra "X M mem"); (case sl => (rw [hR' _ _ hPR]; exact Nat.le_trans (hR _ _ hPD).2 (by decide))))
    intro D' h' F' N' l1'
    (try k_lt l1')
    (try k_sweep)
    (try dsimp only)
    (try k_fold)
    repeat' ((fail_if_success (with_reducible show wpAny _ _ (subscriptTail _ _ (Value.ref _) (Value.ref _)) _ _ _)); (first | (k_unfold; (try dsimp only)) | walk1 | (dsimp only; walk1)); (all_goals (try k_fold)))
    (try k_unfold)
    (try dsimp only)
    k_dflt (refine' slice_tail (s := ⟨_, _, _, _, _⟩) ?sF ?sN ?sm ?sl ?_ (hs := ?ss) (hg := ?st); (case ss => with_unfolding_all rfl); (case st => (intro _; with_unfolding_all rfl)); (case sF => k_asm); (case sN => k_asm); (case sm => k_extra "X M mem"); (case sl => (rw [(hR _ _ hPD).1]; exact Nat.le_trans (hR _ _ hPD).2 (by decide))))
    intro D' h' F' N' l1'
    (try k_lt l1')
    (try k_sweep)
    (try dsimp only)
    (try k_fold)
    repeat' ((fail_if_success (with_reducible show wpAny _ _ (compareOp CmpOp.NotEq (Value.ref _) (Value.ref _)) _ _ _)); (first | (k_unfold; (try dsimp only)) | walk1 | (dsimp only; walk1)); (all_goals (try k_fold)))
    k_dflt (refine' ne_tups ?qN ?qa ?qb ?qu ?qh ?_; (case qN => k_asm); (case qa => k_extra "X M mem"); (case qb => k_extra "X M mem"); (case qu => (first | ((simp only [A9, units_in1, units_deeper]); (try dsimp only [ktrTop]); omega) | ((simp only [units_in1, units_deeper]); omega) | ((simp only [units_in1, units_deeper]); (dsimp only [ktrTop]); omega) | ktr_units)); (case qh => exact eq _ _ _ _ hPD hPR _ _ _ _ _ (by k_asm) (by k_extra "X M sub") (by exact sub_more (by k_extra "X M sub") hDD) (by exact sub_more (by k_extra "X M sub") hTD) (by (first | ((simp only [A9, units_in1, units_deeper]); (try dsimp only [ktrTop]); omega) | ((simp only [units_in1, units_deeper]); omega) | ((simp only [units_in1, units_deeper]); (dsimp only [ktrTop]); omega) | ktr_units))))
    (try dsimp only)
    (try k_fold)
    repeat' ((fail_if_success (with_reducible show wpAny _ _ (compareOp CmpOp.NotEq (Value.ref _) (Value.ref _)) _ _ _)); (first | (k_unfold; (try dsimp only)) | walk1 | (dsimp only; walk1)); (all_goals (try k_fold)))
    (try k_unfold)
    (try dsimp only)
    refine' CutB.sub ?eF ?eN ?eS
    (case eF => k_asm)
    (case eN => k_asm)
    (case eS => k_extra "X M sub")
  intro h8 tk8 F8 N8
  clear F9 N9
  (try dsimp only)
  (try k_fold)
  repeat' ((fail_if_success (with_reducible show wpAny _ _ (PySem.eval (Expr.Subscript (Expr.Dict _ _ _) _ _) _) _ _ _)); (first | (k_unfold; (try dsimp only)) | walk1 | (dsimp only; walk1)); (all_goals (try k_fold)))
  (try k_unfold)
  (try dsimp only)
  (with_reducible rename Fr _ _ _ _ => F9)
  (with_reducible rename News _ _ _ _ => N9)
  k_dflt (refine' cut_int (c := least) ?kF8 ?kN8 (fun _ => ?dict) ?_; (case kF8 => exact F9); (case kN8 => exact N9); case' dict => skip)
  case dict =>
    rcases hkind with ⟨rfl, rfl⟩ | ⟨_, _, _, ⟨rfl, rfl, _⟩ | ⟨rfl, rfl, _⟩⟩
    · repeat' ((first | (k_unfold; (try dsimp only)) | walk1 | (dsimp only; walk1)); (all_goals (try k_fold)))
      (try dsimp only)
      refine' CutInt.intro ?aF ?aN ?aS
      (case aF => k_asm)
      (case aN => k_asm)
      (case aS => k_extra "X M pick")
    · repeat' ((first | (k_unfold; (try dsimp only)) | walk1 | (dsimp only; walk1)); (all_goals (try k_fold)))
      (try dsimp only)
      refine' CutInt.intro ?bF ?bN ?bS
      (case bF => k_asm)
      (case bN => k_asm)
      (case bS => k_extra "X M pick")
    · repeat' ((first | (k_unfold; (try dsimp only)) | walk1 | (dsimp only; walk1)); (all_goals (try k_fold)))
      (try dsimp only)
      refine' CutInt.intro ?cF ?cN ?cS
      (case cF => k_asm)
      (case cN => k_asm)
      (case cS => k_extra "X M pick")
  have hle : 4 ≤ least ∧ least ≤ 36 := by rcases hkind with ⟨_, rfl⟩ | ⟨_, _, _, ⟨_, rfl, _⟩ | ⟨_, rfl, _⟩⟩ <;> decide
  obtain ⟨hle1, hle2⟩ := hle
  intro t8 h8 tk8 F8 N8
  clear F9 N9
  (try dsimp only)
  (try k_fold)
  repeat' ((fail_if_success (with_reducible show wpAny _ _ (PySem.call (Value.ref 296) _) _ _ _)); (first | (k_unfold; (try dsimp only)) | walk1 | (dsimp only; walk1)); (all_goals (try k_fold)))
  (with_reducible rename OctsAre _ _ => o3)
  (with_reducible rename Fr _ _ _ _ => oF)
  (with_reducible rename News _ _ _ _ => oN)
  (with_reducible rename Below _ _ _ _ => oB)
  (with_reducible rename Frag.In _ _ => oX)
  (with_reducible rename Top _ _ _ _ _ _ => oT)
  (with_reducible rename KtsDicts _ _ => oD)
  (with_reducible rename KtsTurn _ _ _ => oK)
  k_dflt (refine' CtrS.useI (c_rdE ?s1_0 ?s1_1 ?s1_2) ?B ?F ?X ?N ?P ?S ?T ?XB ?TB ?D ?hd ?hu ?_; (case XB => exact Keep9.out XB'); (case TB => exact Keep9.out TB'); (case D => exact oD); (case B => k_asm); (case F => k_asm); (case X => k_asm); (case N => k_asm); (case P => k_extra "X M pick"); (case S => k_extra "X M sep"); (case T => k_asm); (case hd => first | exact rm1 (by with_reducible assumption) (by decide) | ((dsimp only [ktrTop]); exact rm1 (by with_reducible assumption) (by decide)) | ((dsimp only [ktrTop]); omega)); (case hu => first | k_extra "X M hu" | ((dsimp only [ktrTop]); omega)); (case s1_0 => exact o3); (case s1_1 => exact len_take9 hl); (case s1_2 => exact b1 _ (by with_reducible assumption) (by with_reducible assumption)))
  intro g9 h9 tk9 K9 B9 X9 T9 D9 F9 G9 v9 n9 P9
  refine P9.casesOn ?_
  clear P9
  intros
  (with_reducible rename News g9 _ _ _ => N9)
  (try simp only [List.cons_append, List.nil_append] at N9)
  (try show wpAny _ _ _ _ _ _)
  replace K9 := KtsTurn.trans oK K9
  clear oF oN oB oX oT oD oK
  (try dsimp only)
  (try k_fold)
  (with_reducible rename News _ _ _ _ => cN)
  replace cN := News.cut 1 cN
  dsimp only [List.drop] at cN
  repeat' ((fail_if_success (with_reducible show wpAny _ _ (PySem.call (Value.ref 296) _) _ _ _)); (first | (k_unfold; (try dsimp only)) | walk1 | (dsimp only; walk1)); (all_goals (try k_fold)))
  (with_reducible rename OctsAre _ _ => o4)
  (with_reducible rename Fr _ _ _ _ => oF)
  (with_reducible rename News _ _ _ _ => oN)
  (with_reducible rename Below _ _ _ _ => oB)
  (with_reducible rename Frag.In _ _ => oX)
  (with_reducible rename Top _ _ _ _ _ _ => oT)
  (with_reducible rename KtsDicts _ _ => oD)
  (with_reducible rename KtsTurn _ _ _ => oK)
  k_dflt (refine' CtrS.useI (c_rdE ?s2_0 ?s2_1 ?s2_2) ?B ?F ?X ?N ?P ?S ?T ?XB ?TB ?D ?hd ?hu ?_; (case XB => exact Keep9.out XB'); (case TB => exact Keep9.out TB'); (case D => exact oD); (case B => k_asm); (case F => k_asm); (case X => k_asm); (case N => k_asm); (case P => k_extra "X M pick"); (case S => k_extra "X M sep"); (case T => k_asm); (case hd => first | exact rm1 (by with_reducible assumption) (by decide) | ((dsimp only [ktrTop]); exact rm1 (by with_reducible assumption) (by decide)) | ((dsimp only [ktrTop]); omega)); (case hu => first | k_extra "X M hu" | ((dsimp only [ktrTop]); omega)); (case s2_0 => exact o4); (case s2_1 => first | exact len_cut hl | exact len_first hl | (simp only [List.length_append, List.length_cons, List.length_nil, List.length_take, List.length_drop]; omega)); (case s2_2 => exact b2 _ (by with_reducible assumption)))
  intro g9 h9 tk9 K9 B9 X9 T9 D9 F9 G9 v9 n9 P9
  refine P9.casesOn ?_
  clear P9
  intros
  (with_reducible rename News g9 _ _ _ => N9)
  (try simp only [List.cons_append, List.nil_append] at N9)
  (try show wpAny _ _ _ _ _ _)
  replace K9 := KtsTurn.trans oK K9
  clear oF oN oB oX oT oD oK
  (try dsimp only)
  (try k_fold)
  (with_reducible rename News _ _ _ _ => cN)
  replace cN := News.cut 1 cN
  dsimp only [List.drop] at cN
  repeat' ((fail_if_success (with_reducible show wpAny _ _ (PySem.call (Value.ref 260) _) _ _ _)); (first | (k_unfold; (try dsimp only)) | walk1 | (dsimp only; walk1)); (all_goals (try k_fold)))
  k_dflt (refine' Ctr.useI0 (c_one ?s3_0 ?s3_1 ?s3_2 ?s3_3) ?B ?F ?X ?N ?P ?S ?T ?hd ?hu ?_; (case B => k_asm); (case F => k_asm); (case X => k_asm); (case N => k_asm); (case P => k_extra "X M pick"); (case S => k_extra "X M sep"); (case T => k_asm); (case hd => first | exact rm1 (by with_reducible assumption) (by decide) | ((dsimp only [ktrTop]); exact rm1 (by with_reducible assumption) (by decide)) | ((dsimp only [ktrTop]); omega)); (case hu => first | k_extra "X M hu" | ((dsimp only [ktrTop]); omega)); (case s3_0 => with_reducible assumption); (case s3_1 => exact Nat.le_of_ble_eq_true rfl); (case s3_2 => exact Nat.le_of_ble_eq_true rfl); (case s3_3 => k_extra "X M side"))
  intro h9 tk9 F9 G9 v9 n9 P9
  refine P9.casesOn ?_
  clear P9
  intros
  k_extra "X M letApp"
  (try show wpAny _ _ _ _ _ _)
  (try k_sweep)
  (try dsimp only)
  (try k_fold)
  obtain ⟨kx, tx, rfl, hx⟩ := mem4 (by with_reducible assumption)
  obtain ⟨hx0, hx1⟩ := or4_bd hx
  repeat' ((fail_if_success (with_reducible show wpAny _ _ (PySem.call (Value.ref 296) _) _ _ _)); (first | (k_unfold; (try dsimp only)) | walk1 | (dsimp only; walk1)); (all_goals (try k_fold)))
  (with_reducible rename OctsAre _ _ => o5)
  (with_reducible rename Fr _ _ _ _ => oF)
  (with_reducible rename News _ _ _ _ => oN)
  (with_reducible rename Below _ _ _ _ => oB)
  (with_reducible rename Frag.In _ _ => oX)
  (with_reducible rename Top _ _ _ _ _ _ => oT)
  (with_reducible rename KtsDicts _ _ => oD)
  (with_reducible rename KtsTurn _ _ _ => oK)
  k_dflt (refine' CtrS.useI (c_rdE ?s4_0 ?s4_1 ?s4_2) ?B ?F ?X ?N ?P ?S ?T ?XB ?TB ?D ?hd ?hu ?_; (case XB => exact Keep9.out XB'); (case TB => exact Keep9.out TB'); (case D => exact oD); (case B => k_asm); (case F => k_asm); (case X => k_asm); (case N => k_asm); (case P => k_extra "X M pick"); (case S => k_extra "X M sep"); (case T => k_asm); (case hd => first | exact rm1 (by with_reducible assumption) (by decide) | ((dsimp only [ktrTop]); exact rm1 (by with_reducible assumption) (by decide)) | ((dsimp only [ktrTop]); omega)); (case hu => first | k_extra "X M hu" | ((dsimp only [ktrTop]); omega)); (case s4_0 => exact o5); (case s4_1 => first | exact len_cut hl | exact len_first hl | (simp only [List.length_append, List.length_cons, List.length_nil, List.length_take, List.length_drop]; omega)); (case s4_2 => exact b3 _ hx))
  intro g9 h9 tk9 K9 B9 X9 T9 D9 F9 G9 v9 n9 P9
  refine P9.casesOn ?_
  clear P9
  intros
  (with_reducible rename News g9 _ _ _ => N9)
  (try simp only [List.cons_append, List.nil_append] at N9)
  (try show wpAny _ _ _ _ _ _)
  replace K9 := KtsTurn.trans oK K9
  clear oF oN oB oX oT oD oK
  (try dsimp only)
  (try k_fold)
  (with_reducible rename News _ _ _ _ => cN)
  replace cN := News.cut 1 cN
  dsimp only [List.drop] at cN
  clear hx hx0 hx1
  repeat' ((fail_if_success (with_reducible show wpAny _ _ (compareOp CmpOp.Eq (Value.str _ _) (Value.str _ _)) _ _ _)); (first | (k_unfold; (try dsimp only)) | walk1 | (dsimp only; walk1)); (all_goals (try k_fold)))
  (try k_unfold)
  (try dsimp only)
  rcases hkind with ⟨rfl, rfl⟩ | ⟨hnc, g3, h35, hkind⟩
  · refine eq_strs_same ?_
    (try dsimp only)
    (try k_fold)
    repeat' ((fail_if_success (with_reducible show wpAny _ _ (PySem.call (Value.ref 301) _) _ _ _)); (first | (k_unfold; (try dsimp only)) | walk1 | (dsimp only; walk1)); (all_goals (try k_fold)))
    (try dsimp only)
    refine' EndS.sub ?chK ?chF ?chN (POr.mk _ ?ch1) ?chS
    (case chK => with_reducible assumption)
    (case chF => k_asm)
    (case chN => k_asm)
    (case chS => k_extra "X M pick")
    all_goals (with_reducible assumption)
  · refine eq_strs_ne hnc ?_
    (try dsimp only)
    (try k_fold)
    repeat' ((fail_if_success (with_reducible show wpAny _ _ (PySem.isTrue (Expr.Compare _ _ _ _) _ _) _ _ _)); (first | (k_unfold; (try dsimp only)) | walk1 | (dsimp only; walk1)); (all_goals (try k_fold)))
    (with_reducible rename OctsAre _ _ => o6)
    (with_reducible rename Fr _ _ _ _ => F9)
    (with_reducible rename News _ _ _ _ => N9)
    refine cut_test1 (b := false) F9 N9 (fun _ => ?test6) ?_
    case test6 =>
      repeat' ((fail_if_success (with_reducible show wpAny _ _ (PySem.call (Value.ref 296) _) _ _ _)); (first | (k_unfold; (try dsimp only)) | walk1 | (dsimp only; walk1)); (all_goals (try k_fold)))
      k_dflt (refine' Ctr.useMI (use_parts g3 o6 (by with_reducible assumption) (by with_reducible assumption) (by with_reducible assumption) (by with_reducible assumption)) ?B ?F ?X ?N ?P1 ?P2 ?S ?T ?hd ?hu ?_; (case B => k_asm); (case F => k_asm); (case X => k_asm); (case N => k_asm); (case P1 => k_extra "X M sub"); (case P2 => exact sub_skip fun _ h => h); (case S => k_extra "X M sep"); (case T => k_asm); (case hd => first | exact rm1 (by with_reducible assumption) (by decide) | ((dsimp only [ktrTop]); exact rm1 (by with_reducible assumption) (by decide)) | ((dsimp only [ktrTop]); omega)); (case hu => first | k_extra "X M hu" | ((dsimp only [ktrTop]); omega)))
      intro h9 tk9 F9 G9 v9 n9 P9
      refine P9.casesOn ?_
      clear P9
      intro y1 D2 k9 t9 R9 hkv hPR N9 S9
      show wpAny _ _ _ _ _ _
      subst hkv
      clear S9
      replace N9 := News.turn (l1 := D2) N9
      (try k_sweep)
      (try dsimp only)
      (try k_fold)
      repeat' ((fail_if_success (with_reducible show wpAny _ _ (compareOp CmpOp.NotEq (Value.ref _) (Value.ref _)) _ _ _)); (first | (k_unfold; (try dsimp only)) | walk1 | (dsimp only; walk1)); (all_goals (try k_fold)))
      k_dflt (refine' ne_tups ?qN ?qa ?qb ?qu ?qh ?_; (case qN => k_asm); (case qa => k_extra "X M mem"); (case qb => k_extra "X M mem"); (case qu => (first | ((simp only [A9, units_in1, units_deeper]); (try dsimp only [ktrTop]); omega) | ((simp only [units_in1, units_deeper]); omega) | ((simp only [units_in1, units_deeper]); (dsimp only [ktrTop]); omega) | ktr_units)); (case qh => exact AllEq.cons (eqAt_int _ _ _) (eq _ _ _ _ hPD hPR _ _ _ _ _ (by k_asm) (by k_extra "X M sub") (by exact sub_more (by k_extra "X M sub") hDD) (by exact sub_more (by k_extra "X M sub") hTD) (by (first | ((simp only [A9, units_in1, units_deeper]); (try dsimp only [ktrTop]); omega) | ((simp only [units_in1, units_deeper]); omega) | ((simp only [units_in1, units_deeper]); (dsimp only [ktrTop]); omega) | ktr_units)))))
      (try dsimp only)
      (try k_fold)
      repeat' ((fail_if_success (with_reducible show wpAny _ _ (compareOp CmpOp.NotEq (Value.ref _) (Value.ref _)) _ _ _)); (first | (k_unfold; (try dsimp only)) | walk1 | (dsimp only; walk1)); (all_goals (try k_fold)))
      (try k_unfold)
      (try dsimp only)
      refine' CutB.sub ?eF ?eN ?eS
      (case eF => k_asm)
      (case eN => k_asm)
      (case eS => k_extra "X M sub")
    intro h8 tk8 F8 N8
    clear F9 N9
    (try dsimp only)
    (try k_fold)
    repeat' ((fail_if_success (with_reducible show wpAny _ _ (compareOp CmpOp.Eq (Value.str _ _) (Value.str _ _)) _ _ _)); (first | (k_unfold; (try dsimp only)) | walk1 | (dsimp only; walk1)); (all_goals (try k_fold)))
    (try k_unfold)
    (try dsimp only)
    rcases hkind with ⟨rfl, rfl, g4⟩ | ⟨rfl, rfl, h36, b4, b5, hver⟩
    · refine eq_strs_same ?_
      (try dsimp only)
      (try k_fold)
      repeat' ((fail_if_success (with_reducible show wpAny _ _ (PySem.call (Value.ref 260) _) _ _ _)); (first | (k_unfold; (try dsimp only)) | walk1 | (dsimp only; walk1)); (all_goals (try k_fold)))
      k_dflt (refine' Ctr.useI0 (c_one ?s3_0 ?s3_1 ?s3_2 ?s3_3) ?B ?F ?X ?N ?P ?S ?T ?hd ?hu ?_; (case B => k_asm); (case F => k_asm); (case X => k_asm); (case N => k_asm); (case P => k_extra "X M pick"); (case S => k_extra "X M sep"); (case T => k_asm); (case hd => first | exact rm1 (by with_reducible assumption) (by decide) | ((dsimp only [ktrTop]); exact rm1 (by with_reducible assumption) (by decide)) | ((dsimp only [ktrTop]); omega)); (case hu => first | k_extra "X M hu" | ((dsimp only [ktrTop]); omega)); (case s3_0 => with_reducible assumption); (case s3_1 => exact Nat.le_of_ble_eq_true rfl); (case s3_2 => exact Nat.le_of_ble_eq_true rfl); (case s3_3 => k_extra "X M side"))
      intro h9 tk9 F9 G9 v9 n9 P9
      refine P9.casesOn ?_
      clear P9
      intros
      k_extra "X M letApp"
      (try show wpAny _ _ _ _ _ _)
      (try k_sweep)
      (try dsimp only)
      (try k_fold)
      obtain ⟨kx, tx, rfl, hx⟩ := mem4 (by with_reducible assumption)
      obtain ⟨hx0, hx1⟩ := or4_bd hx
      repeat' ((fail_if_success (with_reducible show wpAny _ _ (PySem.call (Value.ref 296) _) _ _ _)); (first | (k_unfold; (try dsimp only)) | walk1 | (dsimp only; walk1)); (all_goals (try k_fold)))
      (with_reducible rename OctsAre _ _ => o7)
      k_dflt (refine' Ctr.useMI (use_ver g4 o7 hx) ?B ?F ?X ?N ?P1 ?P2 ?S ?T ?hd ?hu ?_; (case B => k_asm); (case F => k_asm); (case X => k_asm); (case N => k_asm); (case P1 => k_extra "X M sub"); (case P2 => exact sub_skip fun _ h => h); (case S => k_extra "X M sep"); (case T => k_asm); (case hd => first | exact rm1 (by with_reducible assumption) (by decide) | ((dsimp only [ktrTop]); exact rm1 (by with_reducible assumption) (by decide)) | ((dsimp only [ktrTop]); omega)); (case hu => first | k_extra "X M hu" | ((dsimp only [ktrTop]); omega)))
      intro h9 tk9 F9 G9 v9 n9 P9
      refine P9.casesOn ?_
      clear P9
      intro y1 D2 k9 t9 R9 hkv hPR N9 S9
      show wpAny _ _ _ _ _ _
      subst hkv
      clear S9
      simp only [List.cons_append] at N9
      (try k_sweep)
      (try dsimp only)
      (try k_fold)
      repeat' ((fail_if_success (with_reducible show wpAny _ _ (compareOp CmpOp.Eq (Value.ref _) (Value.ref _)) _ _ _)); (first | (k_unfold; (try dsimp only)) | walk1 | (dsimp only; walk1)); (all_goals (try k_fold)))
      (try k_unfold)
      (try dsimp only)
      k_dflt (refine' eq_tups ?qN ?qa ?qb ?qu ?qh ?_; (case qN => k_asm); (case qa => k_extra "X M mem"); (case qb => k_extra "X M mem"); (case qu => (first | ((simp only [A9, units_in1, units_deeper]); (try dsimp only [ktrTop]); omega) | ((simp only [units_in1, units_deeper]); omega) | ((simp only [units_in1, units_deeper]); (dsimp only [ktrTop]); omega) | ktr_units)); (case qh => exact AllEq.cons (eqAt_int _ _ _) (eq _ _ _ _ hPD hPR _ _ _ _ _ (by k_asm) (by k_extra "X M sub") (by exact sub_more (by k_extra "X M sub") hDD) (by exact sub_more (by k_extra "X M sub") hTD) (by (first | ((simp only [A9, units_in1, units_deeper]); (try dsimp only [ktrTop]); omega) | ((simp only [units_in1, units_deeper]); omega) | ((simp only [units_in1, units_deeper]); (dsimp only [ktrTop]); omega) | ktr_units)))))
      (try dsimp only)
      (try k_fold)
      repeat' ((fail_if_success (with_reducible show wpAny _ _ (compareOp CmpOp.Eq (Value.ref _) (Value.ref _)) _ _ _)); (first | (k_unfold; (try dsimp only)) | walk1 | (dsimp only; walk1)); (all_goals (try k_fold)))
      (try k_unfold)
      (try dsimp only)
      refine' EndS.subM ?cK ?cF ?cN (POr.mk _ ?c1) ?cS
      (case cK => with_reducible assumption)
      (case cF => k_asm)
      (case cN => k_asm)
      (case cS => k_extra "X M sub")
      all_goals (with_reducible assumption)
    · refine eq_strs_ne rapid_ne ?_
      (try dsimp only)
      (try k_fold)
      repeat' ((fail_if_success (with_reducible show wpAny _ _ (PySem.call (Value.ref 296) _) _ _ _)); (first | (k_unfold; (try dsimp only)) | walk1 | (dsimp only; walk1)); (all_goals (try k_fold)))
      (with_reducible rename OctsAre _ _ => o7)
      (with_reducible rename Fr _ _ _ _ => oF)
      (with_reducible rename News _ _ _ _ => oN)
      (with_reducible rename Below _ _ _ _ => oB)
      (with_reducible rename Frag.In _ _ => oX)
      (with_reducible rename Top _ _ _ _ _ _ => oT)
      (with_reducible rename KtsDicts _ _ => oD)
      (with_reducible rename KtsTurn _ _ _ => oK)
      k_dflt (refine' CtrS.useI (c_rdE ?s5_0 ?s5_1 ?s5_2) ?B ?F ?X ?N ?P ?S ?T ?XB ?TB ?D ?hd ?hu ?_; (case XB => exact Keep9.out XB'); (case TB => exact Keep9.out TB'); (case D => exact oD); (case B => k_asm); (case F => k_asm); (case X => k_asm); (case N => k_asm); (case P => k_extra "X M pick"); (case S => k_extra "X M sep"); (case T => k_asm); (case hd => first | exact rm1 (by with_reducible assumption) (by decide) | ((dsimp only [ktrTop]); exact rm1 (by with_reducible assumption) (by decide)) | ((dsimp only [ktrTop]); omega)); (case hu => first | k_extra "X M hu" | ((dsimp only [ktrTop]); omega)); (case s5_0 => exact o7); (case s5_1 => first | exact len_cut hl | exact len_first hl | (simp only [List.length_append, List.length_cons, List.length_nil, List.length_take, List.length_drop]; omega)); (case s5_2 => exact b4 _ (by with_reducible assumption) (by with_reducible assumption)))
      intro g9 h9 tk9 K9 B9 X9 T9 D9 F9 G9 v9 n9 P9
      refine P9.casesOn ?_
      clear P9
      intros
      (with_reducible rename News g9 _ _ _ => N9)
      (try simp only [List.cons_append, List.nil_append] at N9)
      (try show wpAny _ _ _ _ _ _)
      replace K9 := KtsTurn.trans oK K9
      clear oF oN oB oX oT oD oK
      (try dsimp only)
      (try k_fold)
      (with_reducible rename News _ _ _ _ => cN)
      replace cN := News.cut 1 cN
      dsimp only [List.drop] at cN
      repeat' ((fail_if_success (with_reducible show wpAny _ _ (PySem.call (Value.ref 296) _) _ _ _)); (first | (k_unfold; (try dsimp only)) | walk1 | (dsimp only; walk1)); (all_goals (try k_fold)))
      (with_reducible rename OctsAre _ _ => o8)
      (with_reducible rename Fr _ _ _ _ => oF)
      (with_reducible rename News _ _ _ _ => oN)
      (with_reducible rename Below _ _ _ _ => oB)
      (with_reducible rename Frag.In _ _ => oX)
      (with_reducible rename Top _ _ _ _ _ _ => oT)
      (with_reducible rename KtsDicts _ _ => oD)
      (with_reducible rename KtsTurn _ _ _ => oK)
      k_dflt (refine' CtrS.useI (c_rdE ?s6_0 ?s6_1 ?s6_2) ?B ?F ?X ?N ?P ?S ?T ?XB ?TB ?D ?hd ?hu ?_; (case XB => exact Keep9.out XB'); (case TB => exact Keep9.out TB'); (case D => exact oD); (case B => k_asm); (case F => k_asm); (case X => k_asm); (case N => k_asm); (case P => k_extra "X M pick"); (case S => k_extra "X M sep"); (case T => k_asm); (case hd => first | exact rm1 (by with_reducible assumption) (by decide) | ((dsimp only [ktrTop]); exact rm1 (by with_reducible assumption) (by decide)) | ((dsimp only [ktrTop]); omega)); (case hu => first | k_extra "X M hu" | ((dsimp only [ktrTop]); omega)); (case s6_0 => exact o8); (case s6_1 => first | exact len_cut hl | exact len_first hl | (simp only [List.length_append, List.length_cons, List.length_nil, List.length_take, List.length_drop]; omega)); (case s6_2 => exact b5 _ (by with_reducible assumption)))
      intro g9 h9 tk9 K9 B9 X9 T9 D9 F9 G9 v9 n9 P9
      refine P9.casesOn ?_
      clear P9
      intros
      (with_reducible rename News g9 _ _ _ => N9)
      (try simp only [List.cons_append, List.nil_append] at N9)
      (try show wpAny _ _ _ _ _ _)
      replace K9 := KtsTurn.trans oK K9
      clear oF oN oB oX oT oD oK
      (try dsimp only)
      (try k_fold)
      (with_reducible rename News _ _ _ _ => cN)
      replace cN := News.cut 1 cN
      dsimp only [List.drop] at cN
      rcases hver with rfl | ⟨rfl, h5⟩
      · repeat' ((fail_if_success (with_reducible show wpAny _ _ (compareOp CmpOp.Eq (Value.bytes _ _) (Value.bytes _ _)) _ _ _)); (first | (k_unfold; (try dsimp only)) | walk1 | (dsimp only; walk1)); (all_goals (try k_fold)))
        (try k_unfold)
        (try dsimp only)
        refine' EndS.subM ?rK ?rF ?rN (POr.mk _ ?r1) ?rS
        (case rK => with_reducible assumption)
        (case rF => k_asm)
        (case rN => k_asm)
        (case rS => k_extra "X M sub")
        all_goals (with_reducible assumption)
      · repeat' ((fail_if_success (with_reducible show wpAny _ _ (compareOp CmpOp.Eq (Value.bytes _ _) (Value.bytes _ _)) _ _ _)); (first | (k_unfold; (try dsimp only)) | walk1 | (dsimp only; walk1)); (all_goals (try k_fold)))
        (try k_unfold)
        (try dsimp only)
        k_dflt (refine' eq_bytes_cases ?_ ?_) <;> intro h0
        · (try dsimp only)
          (try k_fold)
          repeat' ((fail_if_success (with_reducible show wpAny _ _ (compareOp CmpOp.Eq (Value.ref _) (Value.ref _)) _ _ _)); (first | (k_unfold; (try dsimp only)) | walk1 | (dsimp only; walk1)); (all_goals (try k_fold)))
          (try k_unfold)
          (try dsimp only)
          refine' EndS.subM ?sK ?sF ?sN (POr.mk _ ?s1) ?sS
          (case sK => with_reducible assumption)
          (case sF => k_asm)
          (case sN => k_asm)
          (case sS => k_extra "X M sub")
          all_goals (with_reducible assumption)
        · obtain ⟨PR5, g5, hR5, eq5⟩ := h5 h0
          obtain ⟨r1, r2, r3, r4, r5, rfl⟩ := hR5 _ _ hPD
          (try dsimp only)
          (try k_fold)
          repeat' ((fail_if_success (with_reducible show wpAny _ _ (PySem.call (Value.ref 296) _) _ _ _)); (first | (k_unfold; (try dsimp only)) | walk1 | (dsimp only; walk1)); (all_goals (try k_fold)))
          (with_reducible rename OctsAre _ _ => o9)
          k_dflt (refine' Ctr.useMI (g5 _ _ 0 (o9.cast ks_neg)) ?B ?F ?X ?N ?P1 ?P2 ?S ?T ?hd ?hu ?_; (case B => k_asm); (case F => k_asm); (case X => k_asm); (case N => k_asm); (case P1 => k_extra "X M sub"); (case P2 => exact sub_skip fun _ h => h); (case S => k_extra "X M sep"); (case T => k_asm); (case hd => first | exact rm1 (by with_reducible assumption) (by decide) | ((dsimp only [ktrTop]); exact rm1 (by with_reducible assumption) (by decide)) | ((dsimp only [ktrTop]); omega)); (case hu => first | k_extra "X M hu" | ((dsimp only [ktrTop]); omega)))
          intro h9 tk9 F9 G9 v9 n9 P9
          refine P9.casesOn ?_
          clear P9
          intro y1 D2 k9 t9 R9 hkv hPR N9 S9
          show wpAny _ _ _ _ _ _
          subst hkv
          clear S9
          obtain ⟨T2, hT1, hT2, N9⟩ := News.all N9
          replace N9 := News.dup (p := (src, _)) N9 (hT2 _ (by k_extra "X M mem"))
          replace N9 := News.dup (p := (y, _)) N9 (List.mem_cons_of_mem _ (hT2 _ (by k_extra "X M mem")))
          have hT3 := sub_more hT2 (by k_extra "X M sub" : ∀ p ∈ TT, p ∈ _)
          (try k_sweep)
          (try dsimp only)
          (try k_fold)
          repeat' ((fail_if_success (with_reducible show wpAny _ _ (subscriptTail _ _ (Value.ref _) (Value.ref _)) _ _ _)); (first | (k_unfold; (try dsimp only)) | walk1 | (dsimp only; walk1)); (all_goals (try k_fold)))
          (try k_unfold)
          (try dsimp only)
          k_dflt (refine' slice_tup (s := ⟨_, _, _, _, _⟩) 1 5 4 ?sF ?sN ?sm ?sp ?sq ?sa ?sn ?so ?se ?sz ?_ (hs := ?ss) (hg := ?st); (case ss => with_unfolding_all rfl); (case st => (intro _; with_unfolding_all rfl)); (case sF => k_asm); (case sN => k_asm); (case sm => k_extra "X M mem"); (case sp => constructor); (case sq => constructor); (case sa => exact rfl); (case sn => exact rfl); (case so => exact rfl); (case se => kl_lit); (case sz => exact Nat.le_of_ble_eq_true rfl))
          intro D' h' F' N' l1'
          (try k_lt l1')
          (try k_sweep)
          (try dsimp only)
          (try k_fold)
          repeat' ((fail_if_success (with_reducible show wpAny _ _ (binaryOp Operator.Add (Value.ref _) (Value.ref _)) _ _ _)); (first | (k_unfold; (try dsimp only)) | walk1 | (dsimp only; walk1)); (all_goals (try k_fold)))
          (try k_unfold)
          (try dsimp only)
          k_dflt (refine' add_tup ?aF ?aN ?aa ?ab ?av ?aw ?az ?ae ?_; (case aF => k_asm); (case aN => k_asm); (case aa => k_extra "X M mem"); (case ab => k_extra "X M mem"); (case av => exact List.cons_ne_nil _ _); (case aw => exact List.cons_ne_nil _ _); (case az => exact Nat.le_of_ble_eq_true rfl); (case ae => kl_lit))
          intro D' h' F' N' l1'
          (try k_lt l1')
          (try k_sweep)
          (try dsimp only)
          (try k_fold)
          repeat' ((fail_if_success (with_reducible show wpAny _ _ (binaryOp Operator.Add (Value.ref _) (Value.ref _)) _ _ _)); (first | (k_unfold; (try dsimp only)) | walk1 | (dsimp only; walk1)); (all_goals (try k_fold)))
          (try k_unfold)
          (try dsimp only)
          k_dflt (refine' add_tup ?aF ?aN ?aa ?ab ?av ?aw ?az ?ae ?_; (case aF => k_asm); (case aN => k_asm); (case aa => k_extra "X M mem"); (case ab => k_extra "X M mem"); (case av => exact List.cons_ne_nil _ _); (case aw => exact List.cons_ne_nil _ _); (case az => exact Nat.le_of_ble_eq_true rfl); (case ae => kl_lit))
          intro D' h' F' N' l1'
          (try k_lt l1')
          (try k_sweep)
          (try dsimp only)
          (try k_fold)
          repeat' ((fail_if_success (with_reducible show wpAny _ _ (compareOp CmpOp.Eq (Value.ref _) (Value.ref _)) _ _ _)); (first | (k_unfold; (try dsimp only)) | walk1 | (dsimp only; walk1)); (all_goals (try k_fold)))
          (try k_unfold)
          (try dsimp only)
          k_dflt (refine' eq_tups ?qN ?qa ?qb ?qu ?qh ?_; (case qN => k_asm); (case qa => k_extra "X M mem"); (case qb => k_extra "X M mem"); (case qu => (first | ((simp only [A9, units_in1, units_deeper]); (try dsimp only [ktrTop]); omega) | ((simp only [units_in1, units_deeper]); omega) | ((simp only [units_in1, units_deeper]); (dsimp only [ktrTop]); omega) | ktr_units)); (case qh => exact AllEq.cons (eqAt_int _ _ _) (eq5 _ _ _ _ ⟨_, _, _, _, _, _, hPD, rfl⟩ hPR _ _ _ _ _ (by k_asm) (by exact sub_more (by k_extra "X M sub") hT1) (by exact sub_more (sub_more (by k_extra "X M sub") hT3) hDD) (by exact sub_more (sub_more (by k_extra "X M sub") hT3) hTD) (by (first | ((simp only [A9, units_in1, units_deeper]); (try dsimp only [ktrTop]); omega) | ((simp only [units_in1, units_deeper]); omega) | ((simp only [units_in1, units_deeper]); (dsimp only [ktrTop]); omega) | ktr_units)))))
          (try dsimp only)
          (try k_fold)
          repeat' ((fail_if_success (with_reducible show wpAny _ _ (compareOp CmpOp.Eq (Value.ref _) (Value.ref _)) _ _ _)); (first | (k_unfold; (try dsimp only)) | walk1 | (dsimp only; walk1)); (all_goals (try k_fold)))
          (try k_unfold)
          (try dsimp only)
          refine' EndS.subM ?uK ?uF ?uN (POr.mk _ ?u1) ?uS
          (case uK => with_reducible assumption)
          (case uF => k_asm)
          (case uN => k_asm)
          (case uS => k_extra "X M sub")
          all_goals (with_reducible assumption)
end
theorem kw_48 : True := by
  k_with "X M letApp" => (((repeat ((with_reducible rename News _ _ _ _ => nw9); with_reducible refine letApp nw9 ?_; clear nw9; intro e9 nw9)); (try ((with_reducible rename News _ _ _ _ => nw9); with_reducible refine letNil nw9 ?_; clear nw9; intro n9 nw9))))
  trivial
section
set_option maxRecDepth 100000
theorem Ctr.mono {kd : Nat} {w : World} {mean : ExcName → Option Value} {mg mb : Str → Option Value} {f : Addr} {vs : List Value} {front : Led} {Post Post' : Value → Led → Prop} (C : Ctr kd w mean mg mb f vs front Post) (h : ∀ v n, Post v n → Post' v n) : Ctr kd w mean mg mb f vs front Post' :=
  fun _ _ _ _ _ _ _ _ _ _ _ _ _ _ _ _ _ _ _ _ _ B F X N NR S T hd hu hret => C _ _ _ _ _ _ _ _ _ _ _ _ _ _ _ _ _ _ _ _ _ B F X N NR S T hd hu fun v n h' t F N S P => hret v n h' t F N S (h v n P)
theorem bInts_inj {b c : Array UInt8} (h : KBw.bInts b = KBw.bInts c) : b = c := by
  have z : ∀ {l m : List UInt8}, l.map (fun x => (x.toNat : Int)) = m.map (fun x => (x.toNat : Int)) → l = m := by
    intro l
    induction l with
    | nil => intro m e; cases m with | nil => rfl | cons _ _ => cases e
    | cons x r ih =>
      intro m e
      cases m with
      | nil => cases e
      | cons y t =>
        simp only [List.map_cons, List.cons.injEq] at e
        rw [ih e.2, UInt8.toNat_inj.mp (Int.ofNat.inj e.1)]
  exact Array.toList_inj.mp (z h)
theorem CtrS.mono {kd : Nat} {w : World} {mean : ExcName → Option Value} {mg mb : Str → Option Value} {f : Addr} {vs : List Value} {front : Led} {Post Post' : Value → Led → Prop} (C : CtrS kd w mean mg mb f vs front Post) (hp : ∀ v n, Post v n → Post' v n) : CtrS kd w mean mg mb f vs front Post' :=
  fun _ _ _ _ _ _ _ _ _ _ _ _ _ _ _ _ _ _ _ _ _ B F X N NR S T XB TB D hd hu hret => C _ _ _ _ _ _ _ _ _ _ _ _ _ _ _ _ _ _ _ _ _ B F X N NR S T XB TB D hd hu fun v n g h t K B X T D F N S P => hret v n g h t K B X T D F N S (hp v n P)
inductive PRdK (PV : Int → Prop) (PR : List Value → Led → Prop) (row : Addr) (o : Obj) : Value → Led → Prop
  | mk (y : Addr) (D : Led) (k : Int) (t : Tok) (R : List Value) : PV k → PR R D → (row, o) ∈ D → PRdK PV PR row o (.ref y) ((y, tupO (.int k t :: R)) :: D)
def ReadsK (w : World) (mean : ExcName → Option Value) (mg mb : Str → Option Value) (PV : Int → Prop) (PR : List Value → Led → Prop) (ks : List Int) : Prop :=
  ∀ (row : Addr) (vals : List Value) (n : Nat), OctsAre vals ks → Ctr 18 w mean mg mb 296 [.ref row] [(row, listOf vals.toArray n)] (PRdK PV PR row (listOf vals.toArray n))
theorem ReadsK.weak {w : World} {mean : ExcName → Option Value} {mg mb : Str → Option Value} {PV PV' : Int → Prop} {PR : List Value → Led → Prop} {ks : List Int} (h : ReadsK w mean mg mb PV PR ks) (hv : ∀ k, PV k → PV' k) : Reads9 w mean mg mb PV' PR ks := fun row vals n hk => (h row vals n hk).mono fun _ _ p => by
  cases p with
  | mk y D k t R a b _ => exact .mk y D k t R (hv _ a) b
theorem reads_of {w : World} {mean : ExcName → Option Value} {mg mb : Str → Option Value} {PV : Int → Prop} {PR : List Value → Led → Prop} {ks : List Int} (hl : ks.length ≤ 200) (hg : ¬ Bad ks) (h : ∀ k R D E, Tells ks k R D → PV k ∧ PR R (D ++ E)) : ReadsK w mean mg mb PV PR ks := fun row vals n hk =>
  (c_rd hk hl hg).mono fun v n' p => by
    cases p with
    | mk y ver t R D hT => exact .mk y _ ver t R (h _ _ _ [(row, listOf vals.toArray n)] hT).1 (h _ _ _ _ hT).2 (List.mem_append_right _ (.head _))
structure Pkg (w : World) (mean : ExcName → Option Value) (mg mb : Str → Option Value) (x dx : Addr) (od : Obj) (T : Led) (ks : List Int) (ver : Int) (PD PR : List Value → Led → Prop) : Prop where
  written : Ctr 12 w mean mg mb 284 [.ref x] ((x, instObj 134 dx) :: (dx, od) :: T) (POcts ((x, instObj 134 dx) :: (dx, od) :: T) ks)
  pack : Ctr 12 w mean mg mb 192 [.ref x] ((x, instObj 134 dx) :: (dx, od) :: T) (PBytes ((x, instObj 134 dx) :: (dx, od) :: T) ks)
  told : Ctr 6 w mean mg mb 131 [.ref x] ((x, instObj 134 dx) :: (dx, od) :: T) (PostTold x dx (instObj 134 dx) od T ver PD)
  reads : ReadsK w mean mg mb (· = ver) PR ks
  eq : Equal9 PD PR T
  others : ∀ (src row : Addr) (vals : List Value) (n : Nat) (o : Obj), Apart [src, x, dx, row] → (∀ q ∈ T, @Ne Nat q.1 src ∧ @Ne Nat q.1 row) → OctsAre vals ks → SrcO o →
    CtrS 24 w mean mg mb 301 [.ref src, .ref x, .ref row] ((src, o) :: (row, listOf vals.toArray n) :: (x, instObj 134 dx) :: (dx, od) :: T) (POr src)
  len : ks.length ≤ 60
theorem pkgA {w : World} {mean : ExcName → Option Value} {mg mb : Str → Option Value} {x dx : Addr} {k1 k2 k3 k4 k5 k6 k7 k8 k9 k10 k11 k12 tv tk tr tt : Tok} (hd : Keep9 (Apart [x, dx])) :
    Pkg w mean mg mb x dx (bpduO w k1 k2 k3 k4 k5 k6 k7 k8 k9 k10 k11 k12 (.int 0 tv) (.str "change" tk) .none .none (.bool false) (.bool false) (.bool false) (.bool false) (.str "none" tr) (.bool false) (.bool false) (.bytes #[] tt)) [] [0, 0, 0, 128] 0 PA PA := by
  have told : Ctr 6 w mean mg mb 131 [.ref x] ((x, instObj 134 dx) :: (dx, (bpduO w k1 k2 k3 k4 k5 k6 k7 k8 k9 k10 k11 k12 (.int 0 tv) (.str "change" tk) .none .none (.bool false) (.bool false) (.bool false) (.bool false) (.str "none" tr) (.bool false) (.bool false) (.bytes #[] tt))) :: []) (PostTold x dx (instObj 134 dx) (bpduO w k1 k2 k3 k4 k5 k6 k7 k8 k9 k10 k11 k12 (.int 0 tv) (.str "change" tk) .none .none (.bool false) (.bool false) (.bool false) (.bool false) (.str "none" tr) (.bool false) (.bool false) (.bytes #[] tt)) [] 0 PA) :=
    (c_toldA hd).mono fun v n' p => by
      cases p with
      | mk y _ => exact .mk y [] tv _ (.mk tk [])
  have rd : ∀ (v2 : Int) (rest : List Int), rest.length ≤ 190 → ReadsK w mean mg mb (· = 0) PA (0 :: 0 :: v2 :: 128 :: rest) := fun v2 rest hl => reads_of (by simp only [List.length_cons]; omega) good_a4 fun k R D E hT => by
    cases hT with
    | a tk => exact ⟨rfl, .mk tk _⟩
    | v _ _ _ _ _ _ _ _ _ _ _ _ _ _ _ _ _ _ _ _ _ _ _ _ _ _ _ _ _ _ _ _ _ _ _ _ _ _ _ _ hK =>
      cases hK with
      | c z h3 => exact absurd h3 (by decide : ¬ ((128 : Int) = 0))
      | r z _ _ _ h3 => exact absurd h3 (by decide : ¬ ((128 : Int) = 2))
  have eq : Equal9 PA PA ([] : Led) := fun R D R' D' q1 q2 h₀ L s A news _ _ _ _ _ => by
    cases q1
    cases q2
    exact .cons (eqAt_str _ _ _) (.cons (PySem.SeqAt.EqAt.same _) (.cons (PySem.SeqAt.EqAt.same _) .nil))
  refine ⟨c_writtenA hd, c_packA hd, told, rd 0 [] (by decide), eq, ?_, by decide⟩
  intro src row vals n o ha hT hk ho
  refine c_or (nR := 3) (least := 4) (PR := PA) ha hT hk (by decide) (by decide) told (fun R D q => by cases q; exact ⟨rfl, by decide⟩) (fun R D q => by cases q; rfl) eq (.inl ⟨rfl, rfl⟩) (fun more hm hl => (rd 0 more (by omega)).weak fun _ h => h) ?_ ?_ ?_ ?_ ho
  · exact (rd 9 [0, 0] (by decide)).weak fun _ _ => True.intro
  · exact fun c h h' => bad_short (by omega)
  · exact fun z h => bad_first h (by decide)
  · exact fun z h => bad_kind (ks := []) (by omega) (by omega) (by omega)
theorem eqV {kind : Str} {tk tt : Tok} {xv xr xn xp : Addr} {fl : Int} {tail : Array UInt8} {rp rm co np nm pp pn ag mx he de : Int} {h1 h2 h3 h4 i1 i2 i3 i4 i5 i6 i7 : Tok} {T : Led} :
    Equal9 (PDv kind tk xv fl tail tt ag mx he de h1 h2 h3 h4) (PRv kind fl tail rp rm co np nm pp pn ag mx he de) ((xv, tupO [.ref xr, .int co i3, .ref xn, .ref xp]) :: (xr, tupO [.int rp i1, .int rm i2]) :: (xn, tupO [.int np i4, .int nm i5]) :: (xp, tupO [.int (16 * pp) i6, .int pn i7]) :: T) := by
  intro R D R' D' q1 q2 h₀ L s A news N sR sD sT hu
  cases q1 with
  | mk z t =>
  cases q2 with
  | mk z' xv' xr' xn' xp' tk' tf' tt' a1 a2 a3 a4 b1 b2 b3 b4 b5 b6 b7 E =>
  have u1 : A.units < cLine := by omega
  have u2 : A.in1.units < cLine := by show A.units + 1 < cLine; omega
  have q0 := sR _ (.head _)
  have q1 := sR _ (.tail _ (.head _))
  have q2 := sR _ (.tail _ (.tail _ (.head _)))
  have q3 := sR _ (.tail _ (.tail _ (.tail _ (.head _))))
  have q4 := sR _ (.tail _ (.tail _ (.tail _ (.tail _ (.head _)))))
  have p0 := sD _ (.head _)
  have p1 := sT _ (.head _)
  have p2 := sT _ (.tail _ (.head _))
  have p3 := sT _ (.tail _ (.tail _ (.head _)))
  have p4 := sT _ (.tail _ (.tail _ (.tail _ (.head _))))
  refine .cons (eqAt_str _ _ _) (.cons ?_ (.cons ?_ (.cons (eqAt_int _ _ _) (.cons (eqAt_bytes _ _ _) .nil))))
  · refine eqAt_tup N q1 p1 u1 (.cons ?_ (.cons (eqAt_int _ _ _) (.cons ?_ (.cons ?_ .nil))))
    · exact eqAt_tup N q2 p2 u2 (.cons (eqAt_int _ _ _) (.cons (eqAt_int _ _ _) .nil))
    · exact eqAt_tup N q3 p3 u2 (.cons (eqAt_int _ _ _) (.cons (eqAt_int _ _ _) .nil))
    · exact eqAt_tup N q4 p4 u2 (.cons (eqAt_int _ _ _) (.cons (eqAt_int _ _ _) .nil))
  · exact eqAt_tup N q0 p0 u1 (.cons (eqAt_int _ _ _) (.cons (eqAt_int _ _ _) (.cons (eqAt_int _ _ _) (.cons (eqAt_int _ _ _) .nil))))
theorem wire9_len {m : Int} {tl : List Int} : (0 :: (octs 2 m ++ tl).append [0, 0]).length = 5 + tl.length := by
  show (0 :: ((octs 2 m ++ tl) ++ [0, 0])).length = 5 + tl.length
  simp only [List.length_cons, List.length_append, show (octs 2 m).length = 2 from octsTo_length .., List.length_nil]
  omega
set_option maxHeartbeats 4000000 in
theorem pkgV {w : World} {mean : ExcName → Option Value} {mg mb : Str → Option Value} {x dx xv xr xn xp tm dt : Addr} {k1 k2 k3 k4 k5 k6 k7 k8 k9 k10 k11 k12 j1 j2 j3 j4 i1 i2 i3 i4 i5 i6 i7 h1 h2 h3 h4 tv tk tr tt : Tok} {rp rm co np nm pp pn ag mx he de : Int} {kd : Str} {ver code : Int} {f0 f1 f2 f3 f4 f5 : Bool} {r : Nat} {tail : Array UInt8} {rest : List Int} (hd : Keep9 (Apart [x, dx, xv, xr, xn, xp, tm, dt])) (ok : okVec rp rm co np nm pp pn) (okt : okT ag mx he de) (hk : KindOf kd ver code f2 f3 f4 f5 r tail rest) (h9 : tail.size ≤ 9) :
    Pkg w mean mg mb x dx (bpduO w k1 k2 k3 k4 k5 k6 k7 k8 k9 k10 k11 k12 (.int ver tv) (.str kd tk) (.ref xv) (.ref tm) (.bool f0) (.bool f1) (.bool f2) (.bool f3) (.str (roleN r) tr) (.bool f4) (.bool f5) (.bytes tail tt)) [(xv, tupO [.ref xr, .int co i3, .ref xn, .ref xp]), (xr, tupO [.int rp i1, .int rm i2]), (xn, tupO [.int np i4, .int nm i5]), (xp, tupO [.int (16 * pp) i6, .int pn i7]), (tm, instObj 98 dt), (dt, timesO w j1 j2 j3 j4 (.int ag h1) (.int mx h2) (.int he h3) (.int de h4))] (wire ver code (flR f0 f1 f2 f3 f4 f5 r) (vecO rp rm co np nm pp pn) [ag, 0, mx, 0, he, 0, de, 0] rest) ver (PDv kd tk xv (flR f0 f1 f2 f3 f4 f5 r) tail tt ag mx he de h1 h2 h3 h4) (PRv kd (flR f0 f1 f2 f3 f4 f5 r) tail rp rm co np nm pp pn ag mx he de) := by
  have okv := okV.of ok okt
  have hv : (vecO rp rm co np nm pp pn).length = 22 := vecO_length ..
  have lo : ∀ n : Int, (octs 2 n).length = 2 := fun n => octsTo_length ..
  have hb9 : (KBw.bInts tail).length ≤ 9 := by unfold KBw.bInts; simpa using h9
  have lr : rest.length ≤ 12 := by
    rcases hk.cases2 with ⟨_, _, _, z⟩ | ⟨_, _, ⟨_, z⟩ | ⟨_, _, z⟩⟩
    · rw [z]; decide
    · rw [z]; decide
    · rw [z]; simp only [List.length_cons, List.length_append, lo]; omega
  have ln : ∀ (v2 l1 l2 : Int) (more : List Int), (wire v2 code (flR f0 f1 f2 f3 f4 f5 r) (vecO rp rm co np nm pp pn) [ag, l1, mx, 0, he, 0, de, l2] more).length = 35 + more.length := fun v2 l1 l2 more => wire_lenV
  have rd : ∀ (v2 l1 l2 : Int) (more : List Int), 0 ≤ l1 → l1 < 256 → 0 ≤ l2 → l2 < 256 → more.length ≤ 100 → (kd = Str.ofString "config" ∨ v2 = ver) → ReadsK w mean mg mb (· = ver) (PRv kd (flR f0 f1 f2 f3 f4 f5 r) tail rp rm co np nm pp pn ag mx he de) (wire v2 code (flR f0 f1 f2 f3 f4 f5 r) (vecO rp rm co np nm pp pn) [ag, l1, mx, 0, he, 0, de, l2] (rest ++ more)) := by
    intro v2 l1 l2 more a1 b1 a2 b2 hm hver
    refine reads_of (by rw [ln, List.length_append]; omega) ?_ fun k R D E hT => ?_
    · cases hk with
      | c => exact good_wireC hv rfl
      | r2 =>
        rcases hver with h | h
        · exact absurd h (by decide +kernel)
        · exact good_wireR hv rfl (by omega)
      | r3 =>
        rcases hver with h | h
        · exact absurd h (by decide +kernel)
        · exact good_wireR hv rfl (by omega)
    · obtain ⟨tail', h1, h2⟩ := tells_wire (E := E) hk okv a1 b1 a2 b2 hT
      have e : k = ver ∧ tail' = tail := by
        cases hk with
        | c =>
          rcases h1 with ⟨_, h1, h3⟩ | ⟨h1, _⟩
          · exact ⟨h1, h3⟩
          · exact absurd h1 (by decide)
        | r2 =>
          rcases hver with h | h
          · exact absurd h (by decide +kernel)
          · exact tail_two h h1
        | r3 =>
          rcases hver with h | h
          · exact absurd h (by decide +kernel)
          · have h1 : TailOf 2 (wire v2 2 (flR f0 f1 f2 f3 f4 f5 r) (vecO rp rm co np nm pp pn) [ag, l1, mx, 0, he, 0, de, l2] (0 :: (octs 2 ((KBw.bInts tail).length : Nat) ++ (KBw.bInts tail ++ more)))) k tail' := by
              rw [← wire_tail]; exact h1
            obtain ⟨e1, e2⟩ := tail_of hv rfl (by omega) (by rw [List.length_append]; omega) (by subst h; rfl) h1
            rw [List.take_left' rfl] at e2
            exact ⟨e1, bInts_inj e2⟩
      obtain ⟨rfl, rfl⟩ := e
      exact ⟨rfl, h2⟩
  have told : Ctr 6 w mean mg mb 131 [.ref x] ((x, instObj 134 dx) :: (dx, (bpduO w k1 k2 k3 k4 k5 k6 k7 k8 k9 k10 k11 k12 (.int ver tv) (.str kd tk) (.ref xv) (.ref tm) (.bool f0) (.bool f1) (.bool f2) (.bool f3) (.str (roleN r) tr) (.bool f4) (.bool f5) (.bytes tail tt))) :: [(xv, tupO [.ref xr, .int co i3, .ref xn, .ref xp]), (xr, tupO [.int rp i1, .int rm i2]), (xn, tupO [.int np i4, .int nm i5]), (xp, tupO [.int (16 * pp) i6, .int pn i7]), (tm, instObj 98 dt), (dt, timesO w j1 j2 j3 j4 (.int ag h1) (.int mx h2) (.int he h3) (.int de h4))]) (PostTold x dx (instObj 134 dx) (bpduO w k1 k2 k3 k4 k5 k6 k7 k8 k9 k10 k11 k12 (.int ver tv) (.str kd tk) (.ref xv) (.ref tm) (.bool f0) (.bool f1) (.bool f2) (.bool f3) (.str (roleN r) tr) (.bool f4) (.bool f5) (.bytes tail tt)) [(xv, tupO [.ref xr, .int co i3, .ref xn, .ref xp]), (xr, tupO [.int rp i1, .int rm i2]), (xn, tupO [.int np i4, .int nm i5]), (xp, tupO [.int (16 * pp) i6, .int pn i7]), (tm, instObj 98 dt), (dt, timesO w j1 j2 j3 j4 (.int ag h1) (.int mx h2) (.int he h3) (.int de h4))] ver (PDv kd tk xv (flR f0 f1 f2 f3 f4 f5 r) tail tt ag mx he de h1 h2 h3 h4)) := by
    refine Ctr.frame (c_told (h1 := h1) (h2 := h2) (h3 := h3) (h4 := h4) ⟨apartT hd.out⟩ hk) tm1 tm2 (sepT8 hd.out) fun v n p => ?_
    cases p with
    | mk y z t _ => exact ⟨_, .mk y [(z, tupO [.int ag h1, .int mx h2, .int he h3, .int de h4])] tv _ (.mk z t), tm3⟩
  have dl : 2 ≤ ((wire ver code (flR f0 f1 f2 f3 f4 f5 r) (vecO rp rm co np nm pp pn) [ag, 0, mx, 0, he, 0, de, 0] rest).drop 2).length := by rw [List.length_drop, ln]; omega
  have rd0 : ∀ (v2 l1 l2 : Int), 0 ≤ l1 → l1 < 256 → 0 ≤ l2 → l2 < 256 → (kd = Str.ofString "config" ∨ v2 = ver) → ReadsK w mean mg mb (· = ver) (PRv kd (flR f0 f1 f2 f3 f4 f5 r) tail rp rm co np nm pp pn ag mx he de) (wire v2 code (flR f0 f1 f2 f3 f4 f5 r) (vecO rp rm co np nm pp pn) [ag, l1, mx, 0, he, 0, de, l2] rest) := fun v2 l1 l2 a1 b1 a2 b2 h => by
    have := rd v2 l1 l2 [] a1 b1 a2 b2 (by decide) h
    rwa [List.append_nil] at this
  refine ⟨c_written hd ok okt hk, c_pack hd ok okt hk, told, rd0 ver 0 0 (by decide) (by decide) (by decide) (by decide) (.inr rfl), eqV, ?_, by rw [ln]; omega⟩
  intro src row vals n o ha hT hkk ho
  have hl35 : 35 ≤ (wire ver code (flR f0 f1 f2 f3 f4 f5 r) (vecO rp rm co np nm pp pn) [ag, 0, mx, 0, he, 0, de, 0] rest).length := by rw [ln]; omega
  have hcode : (kd = Str.ofString "config" ∧ code = 0) ∨ (kd = Str.ofString "rapid" ∧ code = 2) := hk.cases2.imp (fun h => ⟨h.1, h.2.1⟩) fun h => ⟨h.1, h.2.1⟩
  refine c_or (nR := 5) (least := if code = 0 then 35 else 36) (PR := (PRv kd (flR f0 f1 f2 f3 f4 f5 r) tail rp rm co np nm pp pn ag mx he de)) ha hT hkk (by rw [ln]; omega) (by omega) told (fun R D q => by cases q; exact ⟨rfl, by decide⟩) (fun R D q => by cases q; rfl) eqV (.inr ⟨hk.nch, ?_, hl35, ?_⟩) ?_ ?_ ?_ ?_ ?_ ho
  · intro z1 z2 a1 a2 a3 a4
    rw [wire_parts hv]
    exact (rd0 ver z1 z2 a1 a2 a3 a4 (.inr rfl)).weak fun _ h => h
  · rcases hk.cases2 with ⟨e1, e2, e3, e4⟩ | ⟨e1, e2, e3⟩
    · refine .inl ⟨e1, by rw [if_pos e2], fun z _ => ?_⟩
      rw [wire_ver]
      exact (rd0 z 0 0 (by decide) (by decide) (by decide) (by decide) (.inl e1)).weak fun _ h => h
    · have h36 : ∃ z, rest = 0 :: z := by
        rcases e3 with ⟨_, e⟩ | ⟨_, _, e⟩
        · exact ⟨_, e⟩
        · exact ⟨_, e⟩
      obtain ⟨zr, hzr⟩ := h36
      have hr1 : 1 ≤ rest.length := by rw [hzr, List.length_cons]; omega
      have h2v : 2 ≤ ver := by rcases e3 with ⟨e, _⟩ | ⟨e, _⟩ <;> omega
      refine .inr ⟨e1, by rw [if_neg (by omega)], by rw [ln, hzr, List.length_cons]; omega, ?_, ?_, ?_⟩
      · intro z h0 h2
        rw [wire_ver, e2]
        exact bad_old h2 (by simp only [List.length_append, hv, List.length_cons, List.length_nil]; omega)
      · intro z h0
        rw [hzr, e2, wire_36x hv rfl]
        exact bad_wire35 hv rfl h2v h0
      · rcases e3 with ⟨e, _⟩ | ⟨e, _, er⟩
        · exact .inl e
        · refine .inr ⟨e, fun hne => ⟨PRv kd (flR f0 f1 f2 f3 f4 f5 r) #[] rp rm co np nm pp pn ag mx he de, ?_, ?_, ?_⟩⟩
          · have ne : KBw.bInts tail ≠ [] := fun z => hne (bInts_inj (z.trans rfl))
            have hlt : (KBw.bInts tail).dropLast.length < (KBw.bInts tail).length := by rw [List.length_dropLast]; have := List.length_pos_iff.mpr ne; omega
            rw [er, e2, e, wire_cut rfl hv rfl ne]
            refine (reads_of (PV := fun k => k = 2) (by rw [wire_lenV]; simp only [List.length_cons, List.length_append, lo]; omega) (good_wireR hv rfl (by decide)) fun k R D E hT => ?_).weak fun _ h => h
            obtain ⟨tail', q1, q2⟩ := tells_wire (E := E) (by rw [e, e2] at hk; exact hk) okv (by decide) (by decide) (by decide) (by decide) hT
            obtain ⟨rfl, rfl⟩ := tail_cut9 hv rfl (by omega) hlt rfl q1
            exact ⟨rfl, q2⟩
          · intro R D q
            cases q
            exact ⟨_, _, _, _, _, rfl⟩
          · intro Q D R' D' q1 q2
            obtain ⟨r1, r2, r3, r4, r5, t, q, e3⟩ := q1
            subst e3
            cases q with
            | mk z t' => exact eqV _ _ _ _ (.mk z t') q2
  · intro more hm hl
    rw [wire_more]
    exact (rd ver 0 0 more (by decide) (by decide) (by decide) (by decide) (by omega) (.inr rfl)).weak fun _ h => h
  · rw [wire_verM]
    cases hk with
    | c => exact (rd 9 0 0 [0, 0] (by decide) (by decide) (by decide) (by decide) (by decide) (.inl rfl)).weak fun _ _ => True.intro
    | r2 _ _ _ _ _ hr =>
      refine (reads_of (PV := fun _ => True) (by rw [ln]; decide) (good_wireR hv rfl (by decide)) fun k R D E hT => ⟨True.intro, ?_⟩).weak fun _ h => h
      obtain ⟨tail', q1, q2⟩ := tells_wire (E := E) (KindOf.r2 _ _ _ _ _ hr) okv (by decide) (by decide) (by decide) (by decide) hT
      have e0 : (0 :: [].append [0, 0] : List Int) = 0 :: (octs 2 ((0 : Nat) : Int) ++ []) := by rw [show octs 2 ((0 : Nat) : Int) = [0, 0] from octs2_0]; rfl
      rw [e0] at q1
      obtain ⟨_, e2⟩ := tail_of (m := 0) (more := []) hv rfl (by decide) (Nat.le_refl _) rfl q1
      have e3 : tail' = #[] := bInts_inj (e2.trans rfl)
      subst e3
      exact q2
    | r3 _ _ _ _ _ _ hr ht =>
      refine (reads_of (PV := fun _ => True) (by rw [ln, wire9_len]; omega) (good_wireR hv rfl (by decide)) fun k R D E hT => ⟨True.intro, ?_⟩).weak fun _ h => h
      obtain ⟨tail', q1, q2⟩ := tells_wire (E := E) (KindOf.r3 _ _ _ _ _ _ hr ht) okv (by decide) (by decide) (by decide) (by decide) hT
      have q1 : TailOf 2 (wire 9 2 (flR f0 f1 f2 f3 f4 f5 r) (vecO rp rm co np nm pp pn) [ag, 0, mx, 0, he, 0, de, 0] (0 :: (octs 2 ((KBw.bInts tail).length : Nat) ++ (KBw.bInts tail ++ [0, 0])))) k tail' := by
        rw [← wire_tail]; exact q1
      obtain ⟨_, e2⟩ := tail_of hv rfl (by omega) (by rw [List.length_append]; omega) rfl q1
      rw [List.take_left' rfl] at e2
      have e3 : tail' = tail := bInts_inj e2
      subst e3
      exact q2
  · intro c h0 hc
    rcases hcode with ⟨_, e⟩ | ⟨_, e⟩
    · subst e; exact bad_cut0 (by simp only [if_true] at hc; omega)
    · subst e; exact bad_cut2 (by rw [if_neg (by decide)] at hc; omega)
  · exact fun z h => bad_first h dl
  · intro z h
    rw [wire_kind]
    exact bad_kind (by omega) (by omega) (by omega)
end
section
theorem ap3 {s x dx : Addr} {l : List Addr} (h : Apart (s :: x :: dx :: l)) : Apart [s, x, dx] :=
  ⟨List.forall_mem_cons.mpr ⟨h.1 _ (.head _), List.forall_mem_cons.mpr ⟨h.1 _ (.tail _ (.head _)), List.forall_mem_nil _⟩⟩, List.forall_mem_cons.mpr ⟨h.2.1 _ (.head _), List.forall_mem_nil _⟩, List.forall_mem_nil _, True.intro⟩
theorem ap6 {s x dx a b c d e f : Addr} {o1 o2 o3 o4 o5 o6 : Obj} (h : Apart [s, x, dx, a, b, c, d, e, f]) : ∀ q ∈ [(a, o1), (b, o2), (c, o3), (d, o4), (e, o5), (f, o6)], @Ne Nat q.1 s := by
  have z : ∀ y, y ∈ [a, b, c, d, e, f] → @Ne Nat y s := fun y hy => Ne.symm (h.1 y (.tail _ (.tail _ hy)))
  intro q hq
  refine z q.1 ?_
  have := List.mem_map_of_mem (f := Prod.fst) hq
  exact this
inductive PDrawn (w : World) (mean : ExcName → Option Value) (mg mb : Str → Option Value) (src : Addr) : Value → Led → Prop
  | mk (x dx : Addr) (k1 k2 k3 k4 k5 k6 k7 k8 k9 k10 k11 k12 : Tok) (v1 v2 v3 v4 v5 v6 v7 v8 v9 v10 v11 v12 : Value) (T : Led) (ks : List Int) (ver : Int) (PD PR : List Value → Led → Prop) (o : Obj) : Apart [src, x, dx] → (∀ q ∈ T, @Ne Nat q.1 src) → Pkg w mean mg mb x dx (bpduO w k1 k2 k3 k4 k5 k6 k7 k8 k9 k10 k11 k12 v1 v2 v3 v4 v5 v6 v7 v8 v9 v10 v11 v12) T ks ver PD PR → SrcO o →
    PDrawn w mean mg mb src (.ref x) ((x, instObj 134 dx) :: (dx, bpduO w k1 k2 k3 k4 k5 k6 k7 k8 k9 k10 k11 k12 v1 v2 v3 v4 v5 v6 v7 v8 v9 v10 v11 v12) :: (T ++ [(src, o)]))
theorem drawnPkg {w : World} {mean : ExcName → Option Value} {mg mb : Str → Option Value} {src : Addr} {v : Value} {n : Led} (h : Drawn w src v n) : PDrawn w mean mg mb src v n := by
  cases h with
  | change o x dx k1 k2 k3 k4 k5 k6 k7 k8 k9 k10 k11 k12 tv tk tr tt ho hap => exact .mk x dx _ _ _ _ _ _ _ _ _ _ _ _ _ _ _ _ _ _ _ _ _ _ _ _ [] _ _ _ _ o hap.out (List.forall_mem_nil _) (pkgA ⟨hap.out.2⟩) ho
  | thing o x dx xv xr xn xp tm dt =>
    rename SrcO o => ho
    rename Keep9 _ => hap
    rename okVec _ _ _ _ _ _ _ => h1
    rename okT _ _ _ _ => h2
    rename KindOf _ _ _ _ _ _ _ _ _ _ => h3
    rename Array.size _ ≤ 9 => h4
    exact .mk x dx _ _ _ _ _ _ _ _ _ _ _ _ _ _ _ _ _ _ _ _ _ _ _ _ [_, _, _, _, _, _] _ _ _ _ o (ap3 hap.out) (ap6 hap.out) (pkgV ⟨hap.out.2⟩ h1 h2 h3 h4) ho
theorem turn_sep {a b s : Addr × Obj} {T rest : Led} (S : Sep (a :: b :: (T ++ [s])) rest) (hap : Apart [s.1, a.1, b.1]) (hT : ∀ q ∈ T, @Ne Nat q.1 s.1) : Sep (a :: b :: T) (s :: rest) := Sep.of fun p hp q hq => by
  rcases List.mem_cons.mp hq with rfl | hq
  · rcases List.mem_cons.mp hp with rfl | hp
    · exact Ne.symm (hap.1 _ (.head _))
    · rcases List.mem_cons.mp hp with rfl | hp
      · exact Ne.symm (hap.1 _ (.tail _ (.head _)))
      · exact hT p hp
  · refine S.mem p ?_ q hq
    rcases List.mem_cons.mp hp with rfl | hp
    · exact .head _
    · rcases List.mem_cons.mp hp with rfl | hp
      · exact .tail _ (.head _)
      · exact .tail _ (.tail _ (List.mem_append_left _ hp))
theorem turn_news {h₀ h : Heap} {L : Addr} {a b s : Addr × Obj} {T rest : Led} (N : News h₀ L h ((a :: b :: (T ++ [s])) ++ rest)) : News h₀ L h (a :: b :: s :: (rest ++ T)) := fun p hp => N p (by
  simp only [List.mem_cons, List.mem_append, List.not_mem_nil, or_false] at hp ⊢
  rcases hp with h | h | h | h | h
  · exact .inl (.inl h)
  · exact .inl (.inr (.inl h))
  · exact .inl (.inr (.inr (.inr h)))
  · exact .inr h
  · exact .inl (.inr (.inr (.inl h))))
theorem sep_turn {e : Addr × Obj} {F r : Led} (S : Sep (e :: F) r) (h : ∀ q ∈ F, @Ne Nat q.1 e.1) : Sep F (e :: r) := Sep.of fun p hp q hq => by
  rcases List.mem_cons.mp hq with rfl | hq
  · exact h p hp
  · exact S.mem p (.tail _ hp) q hq
theorem off_front {l : Addr} {a b : Addr × Obj} {T : Led} (hap : Apart [l, a.1, b.1]) (hT : ∀ q ∈ T, @Ne Nat q.1 l) : ∀ q ∈ a :: b :: T, @Ne Nat q.1 l := fun q hq => by
  rcases List.mem_cons.mp hq with rfl | hq
  · exact Ne.symm (hap.1 _ (.head _))
  · rcases List.mem_cons.mp hq with rfl | hq
    · exact Ne.symm (hap.1 _ (.tail _ (.head _)))
    · exact hT q hq
theorem news_back2 {h₀ h : Heap} {L : Addr} {a b : Addr × Obj} {T r : Led} (N : News h₀ L h ((a :: b :: T) ++ r)) : News h₀ L h (a :: b :: (r ++ T)) := fun p hp => N p (by
  simp only [List.mem_cons, List.mem_append] at hp ⊢
  rcases hp with h | h | h | h
  · exact .inl (.inl h)
  · exact .inl (.inr (.inl h))
  · exact .inr h
  · exact .inl (.inr (.inr h)))
theorem news_back3 {h₀ h : Heap} {L : Addr} {a b c : Addr × Obj} {T r : Led} (N : News h₀ L h ((a :: b :: c :: T) ++ r)) : News h₀ L h (a :: b :: c :: (r ++ T)) := fun p hp => N p (by
  simp only [List.mem_cons, List.mem_append] at hp ⊢
  rcases hp with h | h | h | h | h
  · exact .inl (.inl h)
  · exact .inl (.inr (.inl h))
  · exact .inl (.inr (.inr (.inl h)))
  · exact .inr h
  · exact .inl (.inr (.inr (.inr h))))
theorem sep_one {e a b : Addr × Obj} {T r : Led} (S : Sep (e :: a :: b :: T) r) (h : ∀ q ∈ a :: b :: T, @Ne Nat q.1 e.1) : Sep [e] (a :: b :: (r ++ T)) := Sep.of fun p hp q hq => by
  obtain rfl := List.mem_singleton.mp hp
  rcases List.mem_cons.mp hq with rfl | hq
  · exact Ne.symm (h _ (.head _))
  · rcases List.mem_cons.mp hq with rfl | hq
    · exact Ne.symm (h _ (.tail _ (.head _)))
    · rcases List.mem_append.mp hq with hq | hq
      · exact S.mem _ (.head _) _ hq
      · exact Ne.symm (h _ (.tail _ (.tail _ hq)))
theorem sep_both {F r y all : Led} (S1 : Sep F r) (S2 : Sep y all) (h : ∀ p ∈ F, p ∈ all) : Sep F (r ++ y) := Sep.of fun p hp q hq => by
  rcases List.mem_append.mp hq with hq | hq
  · exact S1.mem p hp q hq
  · exact Ne.symm (S2.mem q hq p (h p hp))
theorem news_row {h₀ h : Heap} {L : Addr} {l : Addr × Obj} {y r : Led} (N : News h₀ L h (y ++ r)) (hl : l ∈ y) : News h₀ L h (l :: (r ++ y)) := fun p hp => N p (by
  rcases List.mem_cons.mp hp with rfl | hp
  · exact List.mem_append_left _ hl
  · rcases List.mem_append.mp hp with hp | hp
    · exact List.mem_append_right _ hp
    · exact List.mem_append_left _ hp)
section
variable {kd : Nat} {w : World} {mean : ExcName → Option Value} {mg mb : Str → Option Value} {f : Addr} {vs : List Value} {front all rest : Led} {Post : Value → Led → Prop}
    {dp un : Nat} {gd : Option (List Code)} {cn : Str} {snm : List (Str × NameKind)} {sig sic : Bool} {smo : List (Str × Const)} {a : Addr} {ccd : Value} {cl : List (Str × Addr)} {A₀ : Around} {base h₀ : Heap} {L : Addr} {m : Str → Option Value} {s : Shared} {Q E : Value → Shared → Prop}
theorem CtrS.useM0 (C : CtrS kd w mean mg mb f vs front Post)
    (B : Below A₀ base [] h₀) (F : Fr h₀ L s.heap m) (X : (Mine.wr.heap_1 w.params).In h₀) (N : News h₀ L s.heap all) (P1 : ∀ p ∈ front, p ∈ all) (P2 : ∀ p ∈ rest, p ∈ all) (S : Sep front rest) (T : Tp mean mg mb h₀) (XB : (Mine.wr.heap_1 w.params).In base) (TB : Tp mean mg mb base)
    (hdp : dp + kd < recursionLimit) (hun : un + 10 * kd + 100 < cLine)
    (hret : ∀ h' tk', Fr h₀ L h' m → ∀ v news', Post v news' → News h₀ L h' (news' ++ rest) → Sep news' rest → Q v { s with heap := h', toks := tk' }) :
    wpAny (model PySem.Challenge.rw_pb0549_01.row.prog w) (ktrTop dp un gd cn (fscope snm sig sic smo) L a ccd cl []) (call (.ref f) vs) Q E s := by
  refine C _ _ _ _ _ _ _ _ _ _ _ _ _ _ _ _ _ _ _ _ _ B F X (fun p hp => N p (P1 p hp)) (fun p hp => N p (P2 p hp)) S T XB TB ktsDicts_nil hdp hun fun v n h₀' h' tk' K B' X' T' D' F' N' S' Po => ?_
  have st : h₀.StaysIn h₀' := fun b o e => K.other b o e (by simp [frs])
  refine hret h' tk' ⟨F'.ns, fun b o e => F'.keep b o (st b o e), by rw [← K.size]; exact F'.above⟩ v n Po (fun p hp => ⟨(N' p hp).1, (N' p hp).2.1, ?_⟩) S'
  cases q : h₀.get? p.1 with
  | none => rfl
  | some o => have := (N' p hp).2.2; rw [st _ _ q] at this; cases this
end
theorem apart_off {l x dx : Addr} {o1 o2 : Obj} {T : Led} (h : ∀ q ∈ (x, o1) :: (dx, o2) :: T, @Ne Nat l q.1) (hx : @Ne Nat x dx) : Apart [l, x, dx] :=
  ⟨List.forall_mem_cons.mpr ⟨h _ (.head _), List.forall_mem_cons.mpr ⟨h _ (.tail _ (.head _)), List.forall_mem_nil _⟩⟩, List.forall_mem_cons.mpr ⟨hx, List.forall_mem_nil _⟩, List.forall_mem_nil _, True.intro⟩
theorem sep_or {s s' l x dx : Addr × Obj} {T rest : Led} (SF : Sep (x :: dx :: T) (l :: s' :: rest)) (S8 : Sep (l :: x :: dx :: T) (s' :: rest)) (h : ∀ q ∈ rest, @Ne Nat s.1 q.1) : Sep (s :: l :: x :: dx :: T) rest := Sep.of fun p hp q hq => by
  rcases List.mem_cons.mp hp with rfl | hp
  · exact h q hq
  · exact S8.mem p hp q (.tail _ hq)
theorem apart_or {s l x dx : Addr} {ol os : Obj} {F rest : Led} (h1 : Apart [s, x, dx]) (h2 : Apart [l, x, dx]) (S : Sep ((l, ol) :: F) ((s, os) :: rest)) : Apart [s, x, dx, l] :=
  ⟨List.forall_mem_cons.mpr ⟨h1.1 _ (.head _), List.forall_mem_cons.mpr ⟨h1.1 _ (.tail _ (.head _)), List.forall_mem_cons.mpr ⟨Ne.symm (S.mem _ (.head _) _ (.head _)), List.forall_mem_nil _⟩⟩⟩,
    List.forall_mem_cons.mpr ⟨h1.2.1 _ (.head _), List.forall_mem_cons.mpr ⟨Ne.symm (h2.1 _ (.head _)), List.forall_mem_nil _⟩⟩, List.forall_mem_cons.mpr ⟨Ne.symm (h2.1 _ (.tail _ (.head _))), List.forall_mem_nil _⟩, List.forall_mem_nil _, True.intro⟩
theorem both_off {T : Led} {a b : Addr} (h1 : ∀ q ∈ T, @Ne Nat q.1 a) (h2 : ∀ q ∈ T, @Ne Nat q.1 b) : ∀ q ∈ T, @Ne Nat q.1 a ∧ @Ne Nat q.1 b := fun q hq => ⟨h1 q hq, h2 q hq⟩
theorem TurnOk.introM {h₀ : Heap} {L src I : Addr} {oI o o' : Obj} {pre all : Led} {m₀ m' : Str → Option Value} {s : Shared} {h' : Heap} {tk' : Nat} (F : Fr h₀ L h' m') (N : News h₀ L h' all) (S : ∀ p ∈ ((src, o') :: pre) ++ [(I, oI)], p ∈ all)
    (hne : ∀ p ∈ (src, o) :: pre, @Ne Nat p.1 I) (hm : ∀ y : Str, ¬ y = Str.ofString "told" → ¬ y = Str.ofString "row" → ¬ y = Str.ofString "turn" → m' y = m₀ y) (h0 : SrcO o') :
    TurnOk h₀ L (JL src pre m₀) I oI s .next { s with heap := h', toks := tk' } :=
  ⟨rfl, h', tk', m', _, rfl, F, fun p hp => N p (S p hp), fun p hp => by
    rcases List.mem_cons.mp hp with rfl | hp
    · exact hne (src, o) (.head _)
    · exact hne _ (.tail _ hp), _, _, _, _, over3 hm, rfl, h0⟩
section
variable {prog : Program} {w : World} {A : Around} {E : Value → Shared → Prop} {s : Shared} {h₀ : Heap} {L a b : Addr} {m : Str → Option Value} {news r1 r2 : Led} {xs ys zs : List Value} {Q : Value → Shared → Prop}
theorem genTok {M : Model} {α : Type} {A : Around} {t : Sem α} {s : Shared} {Q : α → Shared → Prop} {E : Value → Shared → Prop} {h : Heap} {T : Tok} (k : ∀ tk : Tok, wpAny M A t Q E { s with heap := h, toks := tk }) : wpAny M A t Q E { s with heap := h, toks := T + 1 + 1 + 1 + 1 + 1 + 1 } := k _
theorem letObj {G : Prop} {g : Heap} {L : Addr} {h : Heap} {p : Addr × Obj} {l : Led} (N : News g L h (p :: l)) (k : let e9 := p; News g L h (e9 :: l) → G) : G := k N
theorem letRot {G : Prop} {g : Heap} {L : Addr} {h : Heap} {p q : Addr × Obj} {l : Led} (N : News g L h (p :: q :: l)) (k : let e9 := q; News g L h (p :: (l ++ [e9])) → G) : G := k (fun x hx => N x (by
  rcases List.mem_cons.mp hx with h | h
  · exact h ▸ List.mem_cons_self
  · rcases List.mem_append.mp h with h | h
    · exact List.mem_cons_of_mem _ (List.mem_cons_of_mem _ h)
    · exact (List.mem_singleton.mp h) ▸ List.mem_cons_of_mem _ List.mem_cons_self))
theorem add_tupD (F : Fr h₀ L s.heap m) (N : News h₀ L s.heap news) (ha : Del (a, tupO xs) news r1) (hb : Del (b, tupO ys) r1 r2) (hv : xs ≠ []) (hw : ys ≠ []) (hz : xs.length + ys.length ≤ 16384) (e : xs ++ ys = zs)
    (h : ∀ D h', Fr h₀ L h' m → News h₀ L h' ((D, tupO zs) :: r2) → (∀ p ∈ r2, p.1 < D) → Q (.ref D) { s with heap := h' }) : wpAny (model prog w) A (binaryOp .Add (.ref a) (.ref b)) Q E s :=
  have sub : ∀ p ∈ r2, p ∈ news := fun p hp => ha.mem.2 p (hb.mem.2 p hp)
  kde_addT F N (N.isTup ha.mem.1) (N.isTup (ha.mem.2 _ hb.mem.1)) (by simpa using hv) (by simpa using hw) (by simpa using hz) (by simpa using e) fun D h' F' N' l => h D h' F' (fun p hp => N' p (by
    rcases List.mem_cons.mp hp with rfl | hp
    · exact .head _
    · exact .tail _ (sub p hp))) fun p hp => l p (sub p hp)
theorem add_listD {n k : Nat} (F : Fr h₀ L s.heap m) (N : News h₀ L s.heap news) (ha : Del (a, listOf xs.toArray n) news r1) (hb : Del (b, listOf ys.toArray k) r1 r2) (hz : xs.length + ys.length ≤ 16384) (e : xs ++ ys = zs)
    (h : ∀ D h', Fr h₀ L h' m → News h₀ L h' ((D, listOf zs.toArray 0) :: r2) → (∀ p ∈ r2, p.1 < D) → Q (.ref D) { s with heap := h' }) : wpAny (model prog w) A (binaryOp .Add (.ref a) (.ref b)) Q E s :=
  by
    subst e
    have sub : ∀ p ∈ r2, p ∈ news := fun p hp => ha.mem.2 p (hb.mem.2 p hp)
    exact add_arrays F N (News.isList N ha.mem.1) (News.isList N (ha.mem.2 _ hb.mem.1)) (fun h' F' N' => h _ h' F' (fun p hp => N' p (by
      rcases List.mem_cons.mp hp with rfl | hp
      · exact .head _
      · exact .tail _ (sub p hp))) fun p hp => Heap.lt_size (N p (sub p hp)).1)
      (by rw [List.size_toArray, List.size_toArray, sizeLine_eq]; omega)
end
def Too (w : World) (mean : ExcName → Option Value) (mg mb : Str → Option Value) (all : Led) (v : Value) : Prop :=
  ∃ (xv xr xn xp : Addr) (i1 i2 i3 i4 i5 i6 i7 : Tok) (rp rm co np nm pr pn : Int), v = .ref xv ∧ Apart [xv, xr, xn, xp] ∧
    ¬ okVecG rp rm co np nm pr pn ∧
    ∀ p ∈ [(xv, tupO [.ref xr, .int co i3, .ref xn, .ref xp]), (xr, tupO [.int rp i1, .int rm i2]), (xn, tupO [.int np i4, .int nm i5]), (xp, tupO [.int pr i6, .int pn i7])], p ∈ all
theorem use_too {w : World} {mean : ExcName → Option Value} {mg mb : Str → Option Value} {all : Led} {v : Value}
    {dp un : Nat} {gd : Option (List Code)} {cn : Str} {snm : List (Str × NameKind)} {sig sic : Bool} {smo : List (Str × Const)} {a : Addr} {ccd : Value} {cl : List (Str × Addr)} {A₀ : Around} {base h₀ : Heap} {L : Addr} {m : Str → Option Value} {s : Shared} {Q E : Value → Shared → Prop}
    (t : Too w mean mg mb all v) (B : Below A₀ base [] h₀) (F : Fr h₀ L s.heap m) (X : (Mine.wr.heap_1 w.params).In h₀) (N : News h₀ L s.heap all) (T : Tp mean mg mb h₀) (XB : (Mine.wr.heap_1 w.params).In base) (TB : Tp mean mg mb base)
    (hdp : dp + 18 < recursionLimit) (hun : un + 10 * 18 + 100 < cLine) (hret : ∀ h' tk', Fr h₀ L h' m → Q (.bool true) { s with heap := h', toks := tk' }) :
    wpAny (model PySem.Challenge.rw_pb0549_01.row.prog w) (ktrTop dp un gd cn (fscope snm sig sic smo) L a ccd cl []) (call (.ref 308) [v]) Q E s := by
  obtain ⟨xv, xr, xn, xp, _, _, _, _, _, _, _, _, _, _, _, _, _, _, rfl, ha, C, sub⟩ := t
  exact CtrS.useM0 (rest := []) (c_too ⟨ha⟩ C) B F X N sub (List.forall_mem_nil _) (Sep.of fun _ _ _ h => (nomatch h)) T XB TB hdp hun fun h' tk' F' v n P _ _ => by
    cases P
    exact hret h' tk' F'
end
section
theorem kw_49 : True := by
  k_with "X M letCons" => ((first | ((with_reducible rename Keep9 True => dn9); (with_reducible rename News _ _ _ _ => nw9); with_reducible refine letCons nw9 ?_; clear nw9; intro e9 n9 nw9) | skip))
  k_with "X M letCons2" => (skip)
  k_with "X M letApp" => (((with_reducible rename News _ _ _ _ => nw9); (try simp only [List.cons_append, List.nil_append, List.append_nil] at nw9)))
  k_with "X M sub4" => ((refine sub_cons ?sc1_q343 (sub_cons ?sc2_q343 (sub_cons ?sc3_q343 (sub_cons ?sc4_q343 (List.forall_mem_nil _)))); (case sc1_q343 => k_extra "X M mem"); (case sc2_q343 => k_extra "X M mem"); (case sc3_q343 => k_extra "X M mem"); (case sc4_q343 => k_extra "X M mem")))
  k_with "X binaryOp Add ref ref" => ((k_here; (with_reducible show wpAny _ _ (binaryOp Operator.Add (Value.ref _) (Value.ref _)) _ _ _); k_dflt (first | (refine' add_tupD ?aF_q344 ?aN_q344 ?aa_q344 ?ab_q344 ?av_q344 ?aw_q344 ?az_q344 ?ae_q344 ?_; (case aF_q344 => k_asm); (case aN_q344 => k_asm); (case aa_q344 => k_extra "X M del"); (case ab_q344 => k_extra "X M del"); (case av_q344 => exact List.cons_ne_nil _ _); (case aw_q344 => exact List.cons_ne_nil _ _); (case az_q344 => exact Nat.le_of_ble_eq_true rfl); (case ae_q344 => kl_lit)) | (refine' add_listD ?aF_q344 ?aN_q344 ?aa_q344 ?ab_q344 ?az_q344 ?ae_q344 ?_; (case aF_q344 => k_asm); (case aN_q344 => k_asm); (case aa_q344 => k_extra "X M del"); (case ab_q344 => k_extra "X M del"); (case az_q344 => exact Nat.le_of_ble_eq_true rfl); (case ae_q344 => kl_lit))); intro D' h' F' N' l1'; (try k_lt l1'); (try k_sweep); (try dsimp only)))
  trivial
theorem fixed_w : wire 2 2 (flR false false false false false false 3) (vecO 32768 7 0 32768 7 8 1) [0, 0, 20, 0, 2, 0, 15, 0] [0] = [0, 0, 2, 2, 12, 128, 0, 0, 0, 0, 0, 0, 7, 0, 0, 0, 0, 128, 0, 0, 0, 0, 0, 0, 7, 128, 1, 0, 0, 20, 0, 2, 0, 15, 0, 0] := by decide +kernel
theorem drawn_top {w : World} {mean : ExcName → Option Value} {mg mb : Str → Option Value} {h : Heap} {src : Addr} {v : Value} {n : Led} (_ : Tp mean mg mb h) (h : Drawn w src v n) : PDrawn w mean mg mb src v n := drawnPkg h
theorem law_split {M : Model} {A : Around} {t : Sem Flow} {s : Shared} {Q : Flow → Shared → Prop} {E : Value → Shared → Prop} {g : Heap} {L₀ : Addr} {m₀ : Str → Option Value} (_F : Fr g L₀ s.heap m₀)
    (walk : wpAny M A t (fun fl s' => fl = .ret (.bool true) ∧ ∃ L m h tk, s' = { s with heap := h, toks := tk } ∧ Fr g L h m) (fun _ _ => False) s)
    (fin : ∀ L m h tk, Fr g L h m → Q (.ret (.bool true)) { s with heap := h, toks := tk }) : wpAny M A t Q E s :=
  wpAny_mono walk (fun fl s' hq => by obtain ⟨rfl, L, m, h, tk, rfl, F⟩ := hq; exact fin L m h tk F) fun _ _ e => e.elim
set_option maxRecDepth 100000 in
set_option maxHeartbeats 8000000 in
theorem law_try : PySem.Challenge.rw_pb0549_01.Holds := by
  w_on
  refine holds_law said_ok fun said => ?_
  refine holds_open (q := vq) (loose := [Str.ofString "KINDS", Str.ofString "Bpdu"]) (Xt := fun s => xlAt vq [] s && recOk [] s) (XP := XL vq []) (Yf := hK.obs) (Ya := hK.val) (YP := hK.says) (N := 2240) leftK (Hook.of hK) (Hook.keeps hK) (fun s e => xl_of s (Bool.and_eq_true_iff.mp e).1) XL.keeps (by rfl) (by rfl) (by rfl) (fun s e => recFacts_of (Bool.and_eq_true_iff.mp e).2) (by rfl) (by assumption) (by decide +kernel) ⟨rfl, rfl, rfl, rfl, rfl, by decide +kernel⟩ ?hw ?hc
  (case hw => w_witness2)
  k_extra "X M fill"
  intro w s₀ s₁ mg mb G Y fa o pm cd doc dV kV ho hd hcd hD hmg hg args vals as hpre hlay hrd hwl hlo
  have KX := kIn_of Y
  have X := (Ground.X G).1
  have V := (Ground.X G).2
  refine Ground.open G ?_
  intro T B D TE TW
  (try (refine guard_noD D (by decide +kernel) ?_; clear D))
  obtain ⟨_, _, M⟩ := bmod_of_top T
  have TA := at_of_top T
  (try (obtain ⟨_, _, he, B0⟩ := based_of_top T rfl hmg ho hd; have he' : cd = _ := he; subst he'; clear he))
  clear hmg
  wrow_args hpre hlay hrd hwl hlo
  (all_goals (
    (first | refine callC_kw (enter_call ?_) | refine enter_call ?_ | refine callC_kw (enter_callW ?_) | refine enter_callW ?_)
    w_top on
    (try refine codeAny_mono ?_ (fun _ _ g => GoodW.toG g))
    have K0 := below_caller (Top.heap T)
    w_call any ho hd hcd hD T F
    clear hd TA
    k_drop))
  (with_reducible rename Fr _ _ _ _ => F0)
  refine' law_split F0 ?walk ?fin
  (case fin =>
    intro L1 m1 h1 tk1 F1
    (try dsimp only)
    k_steps)
  (with_reducible rename Frag.In _ _ => KX9)
  (with_reducible rename Top _ _ _ _ _ _ => T9)
  (with_reducible rename Below _ _ _ _ => K9)
  dsimp only [Top.heap] at K9
  (with_reducible rename Heap.IsList _ _ _ => hL9)
  (with_reducible rename IntsAre _ _ => hI9)
  (with_reducible rename ¬ (_ < _) => hc9)
  have hns9 := Int.ofNat_le.mp (Int.not_lt.mp hc9)
  clear hc9
  (try ((with_reducible rename Dflts _ _ _ => z9); clear z9))
  (try ((with_reducible rename ReadsAllW _ _ _ _ _ _ => z9); clear z9))
  (try ((with_reducible rename Reads _ _ _ _ => z9); clear z9))
  (try ((with_reducible rename Well _ _ _ _ => z9); clear z9))
  (try ((with_reducible rename ReadsAll _ _ _ _ => z9); clear z9))
  (try ((with_reducible rename Heap.CodeRec _ _ _ => z9); clear z9))
  (try ((with_reducible rename BMod _ _ _ _ _ => z9); clear z9))
  (try ((with_reducible rename TopW _ _ _ => z9); clear z9))
  (try ((with_reducible rename TopE _ _ _ _ => z9); clear z9))
  (try ((with_reducible rename Glob _ _ _ _ _ _ _ _ => z9); clear z9))
  (try ((with_reducible rename LooseAre _ _ _ => z9); clear z9))
  (try ((with_reducible rename Flt.MathXP _ _ _ => z9); clear z9))
  (try ((with_reducible rename Tables _ _ _ _ => z9); clear z9))
  (try ((with_reducible rename Shared.gens _ = _ => z9); clear z9))
  (try ((with_reducible rename Heap.get? _ _ = _ => z9); clear z9))
  (try ((with_reducible rename Ground _ _ _ _ _ _ _ _ _ => z9); clear z9))
  (try ((with_reducible rename Shape.has _ _ = true => z9); clear z9))
  (try ((with_reducible rename _ = true => z9); clear z9))
  (try ((with_reducible rename _ = true => z9); clear z9))
  (try ((with_reducible rename _ = true => z9); clear z9))
  (try ((with_reducible rename _ = true => z9); clear z9))
  (try ((with_reducible rename _ = true => z9); clear z9))
  (try ((with_reducible rename True => z9); clear z9))
  (try ((with_reducible rename True => z9); clear z9))
  (try dsimp only)
  (try k_fold)
  repeat' ((fail_if_success (with_reducible show wpAny _ _ (PySem.call (Value.ref 246) _) _ _ _)); (first | (k_unfold; (try dsimp only)) | walk1 | (dsimp only; walk1)); (all_goals (try k_fold)))
  k_dflt (refine' c_pool ?B ?F ?X ?N ?T ?hL ?hI ?hns ?hd ?hu ?_; (case B => k_asm); (case F => k_asm); (case X => k_asm); (case N => k_asm); (case T => k_asm); (case hL => exact hL9); (case hI => exact hI9); (case hns => exact hns9); (case hd => decide); (case hu => decide))
  intro src o0 h9 tk9 F9 N9 hso
  clear hL9 hI9 hns9
  (try k_sweep)
  (try dsimp only)
  (try k_fold)
  repeat' ((fail_if_success (with_reducible show wpAny _ _ (PySem.call (Value.ref 98) _ _) _ _ _)); (first | (with_reducible refine genTok ?_; intro tk9) | (k_unfold; (try dsimp only)) | walk1 | (dsimp only; walk1)); (all_goals (try k_fold)))
  k_dflt (refine' new_times ?B ?F ?X ?N ?T ?hd ?hu ?_; (case B => k_asm); (case F => k_asm); (case X => k_asm); (case N => k_asm); (case T => k_asm); (case hd => decide); (case hu => decide))
  intro x1 d1 t1 t2 t3 t4 h' tk' F' N' l1 l2
  have l3 := lt_all l1 l2
  k_lt l1
  k_lt l3
  replace l2 : Keep9 (@Ne Nat x1 d1) := Keep9.mk (Nat.ne_of_gt l2)
  (try k_sweep)
  (try dsimp only)
  (try k_fold)
  repeat' ((fail_if_success (with_reducible show wpAny _ _ (PySem.call (Value.ref 134) _ _) _ _ _)); (first | (k_unfold; (try dsimp only)) | walk1 | (dsimp only; walk1)); (all_goals (try k_fold)))
  k_dflt (refine' new_bpdu ?hb ?B ?F ?X ?N ?T ?hd ?hu ?_; (case hb => exact fun s x X => bind4r s x X); (case B => k_asm); (case F => k_asm); (case X => k_asm); (case N => k_asm); (case T => k_asm); (case hd => decide); (case hu => decide))
  intro x1 d1 t1 t2 t3 t4 t5 t6 t7 t8 t9 t10 t11 t12 h' tk' F' N' l1 l2
  have l3 := lt_all l1 l2
  k_lt l1
  k_lt l3
  replace l2 : Keep9 (@Ne Nat x1 d1) := Keep9.mk (Nat.ne_of_gt l2)
  (try k_sweep)
  (try dsimp only)
  (try k_fold)
  repeat' ((fail_if_success (with_reducible show wpAny _ _ (PySem.call (Value.ref 192) _) _ _ _)); (first | (k_unfold; (try dsimp only)) | walk1 | (dsimp only; walk1)); (all_goals (try k_fold)))
  k_dflt (refine' Ctr.useI0 (c_pack (pp := 8) (f0 := false) (f1 := false) ?s0 ?s1 ?s2 (KindOf.r2 false false false false 3 (by decide))) ?B ?F ?X ?N ?P ?S ?T ?hd ?hu ?_; (case B => k_asm); (case F => k_asm); (case X => k_asm); (case N => k_asm); (case P => k_extra "X M pick"); (case S => k_extra "X M sep"); (case T => k_asm); (case hd => decide); (case hu => decide); (case s0 => (refine Keep9.mk ?_; k_extra "X M sep")); (case s1 => exact ⟨⟨⟨by decide, by decide⟩, by decide, by decide⟩, ⟨by decide, by decide⟩, ⟨⟨by decide, by decide⟩, by decide, by decide⟩, ⟨by decide, by decide⟩, by decide, by decide⟩); (case s2 => exact ⟨⟨by decide, by decide⟩, ⟨by decide, by decide⟩, ⟨by decide, by decide⟩, by decide, by decide⟩))
  intro h9 tk9 F9 G9 v9 n9 P9
  refine P9.casesOn ?_
  clear P9
  intro b9 t9 hb9 N9
  show wpAny _ _ _ _ _ _
  (try simp only [List.cons_append, List.nil_append] at N9)
  (try k_sweep)
  (try dsimp only)
  (try k_fold)
  (with_reducible rename KBw.bInts _ = _ => hb9)
  replace hb9 := hb9.trans fixed_w
  repeat' ((fail_if_success (with_reducible show wpAny _ _ (subscriptTail _ _ _ _) _ _ _)); (first | (k_unfold; (try dsimp only)) | walk1 | (dsimp only; walk1)); (all_goals (try k_fold)))
  refine oct_at (ks := [0, 0, 2, 2, 12, 128, 0, 0, 0, 0, 0, 0, 7, 0, 0, 0, 0, 128, 0, 0, 0, 0, 0, 0, 7, 128, 1, 0, 0, 20, 0, 2, 0, 15, 0, 0]) (k := 36) hb9 (by decide) (by decide) (by decide) (by decide) ?_
  intro _ _ _ _
  (try dsimp only)
  (try k_fold)
  repeat' ((fail_if_success (with_reducible show wpAny _ _ (compareOp CmpOp.NotEq (Value.ref _) (Value.ref _)) _ _ _)); (first | (k_unfold; (try dsimp only)) | walk1 | (dsimp only; walk1)); (all_goals (try k_fold)))
  (with_reducible rename OctsAre _ _ => ho9)
  replace ho9 := ho9.cast (ls := [128, 1, 0, 0]) rfl
  k_dflt (refine' ne_octs ?nN ?na ?nb ?nx ?ny ?nu ?_; (case nN => k_asm); (case na => k_mem); (case nb => k_mem); (case nx => exact ho9); (case ny => k_extra "X M octs"); (case nu => exact of_decide_eq_true rfl))
  (try dsimp only)
  (try k_fold)
  repeat' ((fail_if_success (with_reducible show wpAny _ _ (exec (Stmt.For _ _ _ _ _) _) _ _ _)); (first | (k_unfold; (try dsimp only)) | walk1 | (dsimp only; walk1)); (all_goals (try k_fold)))
  (with_reducible rename News _ _ _ _ => cN)
  replace cN := News.cut 4 cN
  dsimp only [List.drop] at cN
  replace cN := News.rotl (p := (src, _)) cN (by k_mem)
  dsimp only [List.dropLast] at cN
  iterate 4 ((with_reducible refine letRot cN ?_); clear cN; intro e9 cN; (simp only [List.cons_append, List.nil_append] at cN))
  (with_reducible rename Fr _ _ _ _ => lF)
  with_unfolding_all refine' For_invVF lF ?k1 ?k2 ?_
  (case k1 => exact rfl)
  (case k2 => exact rfl)
  repeat' ((fail_if_success (with_reducible show wpAny _ _ (pyIter (Value.ref _)) _ _ _)); (first | (k_unfold; (try dsimp only)) | walk1 | (dsimp only; walk1)); (all_goals (try k_fold)))
  (with_reducible rename Fr _ _ _ _ => lF)
  (with_reducible rename News _ _ _ _ => lN)
  (with_reducible rename IsRange _ _ _ _ _ _ _ _ => rgX)
  with_unfolding_all refine' range_turns (JL src _ _) rfl rgX ?rS ?rN lF lN (JL.start hso) ?turn ?done
  (case rS => decide)
  (case rN => exact rfl)
  case done =>
    intro m1 nx h1 tk1 hJ F1 N1
    obtain ⟨o1, o2, o3, oS, rfl, rfl, ho⟩ := hJ
    clear lF lN
    have dn9 : Keep9 True := Keep9.mk True.intro
    (try dsimp only)
    (try k_fold)
    repeat' ((fail_if_success (with_reducible show wpAny _ _ (PySem.call (Value.ref 260) _) _ _ _)); (first | (with_reducible refine genTok ?_; intro tk9) | (k_unfold; (try dsimp only)) | walk1 | (dsimp only; walk1)); (all_goals (try k_fold)))
    k_dflt (refine' Ctr.useI0 (c_one ho ?oa ?ob ?oc) ?B ?F ?X ?N ?P ?S ?T ?hd ?hu ?_; (case B => k_asm); (case F => k_asm); (case X => k_asm); (case N => k_asm); (case P => k_extra "X M pick"); (case S => k_extra "X M sep"); (case T => k_asm); (case hd => decide); (case hu => decide); (case oa => exact Nat.le_of_ble_eq_true rfl); (case ob => exact Nat.le_of_ble_eq_true rfl); (case oc => (refine' ltSide (by with_reducible assumption) ?ma9; (case ma9 => k_extra "X M mem"))))
    intro h9 tk9 F9 G9 v9 n9 P9
    refine P9.casesOn ?_
    clear P9
    intro o8 v8 ho8 hx9 N9
    show wpAny _ _ _ _ _ _
    (try simp only [List.cons_append, List.nil_append] at N9)
    (try k_sweep)
    (try dsimp only)
    (try k_fold)
    repeat' ((fail_if_success (with_reducible show wpAny _ _ (PySem.call (Value.ref 308) _) _ _ _)); (first | (k_unfold; (try dsimp only)) | walk1 | (dsimp only; walk1)); (all_goals (try k_fold)))
    k_dflt (refine' use_too ?tT ?B ?F ?X ?N ?T ?XB ?TB ?hd ?hu ?_; (case B => k_asm); (case F => k_asm); (case X => k_asm); (case N => k_asm); (case T => k_asm); (case XB => k_asm); (case TB => k_asm); (case hd => decide); (case hu => decide); case' tT => skip)
    case tT =>
      simp only [List.mem_cons, List.not_mem_nil, or_false] at hx9
      rcases hx9 with rfl | rfl | rfl | rfl | rfl | rfl | rfl
      · refine' ⟨_, _, _, _, _, _, _, _, _, _, _, _, _, _, _, _, _, _, rfl, ?p0, ?n0, ?r0⟩
        (case r0 => k_extra "X M sub4")
        (case p0 => k_extra "X M sep")
        (case n0 => exact fun h => absurd h.2.1.2 (by decide))
      · refine' ⟨_, _, _, _, _, _, _, _, _, _, _, _, _, _, _, _, _, _, rfl, ?p1, ?n1, ?r1⟩
        (case r1 => k_extra "X M sub4")
        (case p1 => k_extra "X M sep")
        (case n1 => exact fun h => absurd h.1.1.2 (by decide))
      · refine' ⟨_, _, _, _, _, _, _, _, _, _, _, _, _, _, _, _, _, _, rfl, ?p2, ?n2, ?r2⟩
        (case r2 => k_extra "X M sub4")
        case p2 =>
          refine ⟨List.forall_mem_cons.mpr ⟨?a1, List.forall_mem_cons.mpr ⟨?a2, List.forall_mem_cons.mpr ⟨?a3, List.forall_mem_nil _⟩⟩⟩, List.forall_mem_cons.mpr ⟨?a4, List.forall_mem_cons.mpr ⟨?a5, List.forall_mem_nil _⟩⟩, List.forall_mem_cons.mpr ⟨?a6, List.forall_mem_nil _⟩, List.forall_mem_nil _, True.intro⟩
          (case a1 => k_extra "X M ne")
          (case a2 => k_extra "X M ne")
          (case a3 => k_extra "X M ne")
          (case a4 => k_extra "X M ne")
          (case a5 => k_extra "X M ne")
          (case a6 => (refine neN ?_; (try dsimp only); refine' ltK (by with_reducible assumption) ?zz2; (case zz2 => k_extra "X M mem")))
        (case n2 => exact fun h => absurd h.2.2.1.2.2 (by decide))
      · refine' ⟨_, _, _, _, _, _, _, _, _, _, _, _, _, _, _, _, _, _, rfl, ?p3, ?n3, ?r3⟩
        (case r3 => k_extra "X M sub4")
        (case p3 => k_extra "X M sep")
        (case n3 => exact fun h => absurd h.2.2.2.1.1 (by decide))
      · refine' ⟨_, _, _, _, _, _, _, _, _, _, _, _, _, _, _, _, _, _, rfl, ?p4, ?n4, ?r4⟩
        (case r4 => k_extra "X M sub4")
        (case p4 => k_extra "X M sep")
        (case n4 => exact fun h => absurd h.2.2.2.2.2 (by decide))
      · refine' ⟨_, _, _, _, _, _, _, _, _, _, _, _, _, _, _, _, _, _, rfl, ?p5, ?n5, ?r5⟩
        (case r5 => k_extra "X M sub4")
        (case p5 => k_extra "X M sep")
        (case n5 => exact fun h => absurd h.2.2.2.1.2.2 (by decide))
      · refine' ⟨_, _, _, _, _, _, _, _, _, _, _, _, _, _, _, _, _, _, rfl, ?p6, ?n6, ?r6⟩
        (case r6 => k_extra "X M sub4")
        (case p6 => k_extra "X M sep")
        (case n6 => exact fun h => absurd h.2.1.1 (by decide))
    intro h8 tk8 F8
    (try k_sweep)
    (try dsimp only)
    (try k_fold)
    (repeat (k_unfold; (try dsimp only)))
    exact ⟨rfl, _, _, _, _, rfl, F8⟩
  intro kk kt m1 nx h1 tk1 I oI hne hJ F1 N1
  obtain ⟨o1, o2, o3, oS, rfl, rfl, ho⟩ := hJ
  clear lF lN
  simp only [List.cons_append, List.nil_append] at N1
  have hne' := hne
  simp only [List.forall_mem_cons, List.not_mem_nil, false_implies, implies_true, and_true] at hne'
  (repeat ((have _ := Keep9.mk (And.left hne')); (replace hne' := And.right hne')))
  replace hne' := Keep9.mk hne'
  (try dsimp only)
  (try k_fold)
  repeat' ((fail_if_success (with_reducible show wpAny _ _ (PySem.call (Value.ref 289) _) _ _ _)); (first | (k_unfold; (try dsimp only)) | walk1 | (dsimp only; walk1)); (all_goals (try k_fold)))
  k_dflt (refine' Ctr.use (c_drawn ho) ?B ?F ?X ?N ?P ?S ?T ?hd ?hu ?_; (case B => k_asm); (case F => k_asm); (case X => k_asm); (case N => k_asm); (case P => k_extra "X M pick"); (case S => k_extra "X M sep"); (case T => k_asm); (case hd => decide); (case hu => decide))
  clear ho
  intro v9 n9 h9 tk9 F9 N9 S9 D9
  have D8 := drawn_top T9 D9
  revert N9 S9
  refine D8.casesOn ?_
  clear D8 D9
  intro x dx k1 k2 k3 k4 k5 k6 k7 kk8 k9 k10 k11 k12 v1 v2 v3 v4 v5 v6 v7 v8 v9 v10 v11 v12 T ks ver PD PR oD hap hT P ho N9 S9
  have S9 := turn_sep S9 hap hT
  replace N9 := turn_news N9
  simp only [List.cons_append, List.nil_append] at N9
  (try k_sweep)
  (try dsimp only)
  (try k_fold)
  repeat' ((fail_if_success (with_reducible show wpAny _ _ (PySem.call (Value.ref 284) _) _ _ _)); (first | (k_unfold; (try dsimp only)) | walk1 | (dsimp only; walk1)); (all_goals (try k_fold)))
  k_dflt (refine' Ctr.useMI (rest := _) (P.written) ?B ?F ?X ?N ?P1 ?P2 ?S ?T ?hd ?hu ?_; (case B => k_asm); (case F => k_asm); (case X => k_asm); (case N => k_asm); (case S => exact S9); (case P1 => k_extra "X M sub"); (case P2 => k_extra "X M sub"); (case T => k_asm); (case hd => decide); (case hu => decide))
  intro h8 tk8 F8 G8 v8 n8 P8
  refine P8.casesOn ?_
  clear P8
  intro l vals k8 hrow hoff N8 S8
  show wpAny _ _ _ _ _ _
  replace S8 := S8.out
  have hlx := apart_off hoff.out (hap.2.1 _ (.head _))
  have hlT : ∀ q ∈ T, @Ne Nat q.1 l := fun q hq => Ne.symm (hoff.out q (.tail _ (.tail _ hq)))
  replace N8 := news_back3 N8
  simp only [List.cons_append, List.nil_append] at N8
  have hl60 := P.len
  have SL := sep_one S8 (off_front (a := (x, instObj 134 dx)) (b := (dx, _)) hlx hlT)
  simp only [List.cons_append, List.nil_append] at SL
  have SF := sep_turn S8 (off_front (a := (x, instObj 134 dx)) (b := (dx, _)) hlx hlT)
  (try k_sweep)
  (try dsimp only)
  (try k_fold)
  repeat' ((fail_if_success (with_reducible show wpAny _ _ (PySem.call (Value.ref 192) _) _ _ _)); (first | (k_unfold; (try dsimp only)) | walk1 | (dsimp only; walk1)); (all_goals (try k_fold)))
  k_dflt (refine' Ctr.useMI (rest := _) (P.pack) ?B ?F ?X ?N ?P1 ?P2 ?S ?T ?hd ?hu ?_; (case B => k_asm); (case F => k_asm); (case X => k_asm); (case N => k_asm); (case S => exact SF); (case P1 => k_extra "X M sub"); (case P2 => k_extra "X M sub"); (case T => k_asm); (case hd => decide); (case hu => decide))
  intro h7 tk7 F7 G7 v7 n7 P7
  refine P7.casesOn ?_
  clear P7
  intro bb tb9 hbb N7 S7
  show wpAny _ _ _ _ _ _
  clear S7
  replace N7 := news_back2 N7
  simp only [List.cons_append, List.nil_append] at N7
  (try k_sweep)
  (try dsimp only)
  (try k_fold)
  repeat' ((fail_if_success (with_reducible show wpAny _ _ (compareOp CmpOp.NotEq (Value.ref _) (Value.ref _)) _ _ _)); (first | (k_unfold; (try dsimp only)) | walk1 | (dsimp only; walk1)); (all_goals (try k_fold)))
  k_dflt (refine' ne_octs ?nN ?na ?nb ?nx ?ny ?nu ?_; (case nN => k_asm); (case na => k_extra "X M mem"); (case nb => k_extra "X M mem"); (case nx => with_reducible assumption); (case ny => with_reducible assumption); (case nu => exact of_decide_eq_true rfl))
  (try dsimp only)
  (try k_fold)
  repeat' ((fail_if_success (with_reducible show wpAny _ _ (PySem.call (Value.ref 296) _) _ _ _)); (first | (k_unfold; (try dsimp only)) | walk1 | (dsimp only; walk1)); (all_goals (try k_fold)))
  k_dflt (refine' Ctr.useMI (rest := _) (P.reads l vals k8 hrow) ?B ?F ?X ?N ?P1 ?P2 ?S ?T ?hd ?hu ?_; (case B => k_asm); (case F => k_asm); (case X => k_asm); (case N => k_asm); (case S => exact SL); (case P1 => k_extra "X M sub"); (case P2 => k_extra "X M sub"); (case T => k_asm); (case hd => decide); (case hu => decide))
  intro h6 tk6 F6 G6 v6 n6 P6
  refine P6.casesOn ?_
  clear P6
  intro y1 D2 kv t9 R9 hkv hPR hlrow N6 S6
  show wpAny _ _ _ _ _ _
  replace S6 := S6.out
  have SX := sep_both SF S6 (by k_extra "X M sub")
  replace N6 := news_row N6 (List.mem_cons_of_mem _ hlrow)
  simp only [List.cons_append, List.nil_append] at N6 SX
  (try k_sweep)
  (try dsimp only)
  (try k_fold)
  repeat' ((fail_if_success (with_reducible show wpAny _ _ (PySem.call (Value.ref 131) _) _ _ _)); (first | (k_unfold; (try dsimp only)) | walk1 | (dsimp only; walk1)); (all_goals (try k_fold)))
  k_dflt (refine' Ctr.useMI (rest := _) (P.told) ?B ?F ?X ?N ?P1 ?P2 ?S ?T ?hd ?hu ?_; (case B => k_asm); (case F => k_asm); (case X => k_asm); (case N => k_asm); (case S => exact SX); (case P1 => k_extra "X M sub"); (case P2 => k_extra "X M sub"); (case T => k_asm); (case hd => decide); (case hu => decide))
  intro h5 tk5 F5 G5 v5 n5 P5
  refine P5.casesOn ?_
  clear P5
  intro y D t5 R hPD N5 S5
  show wpAny _ _ _ _ _ _
  obtain ⟨TT, hDD, hTD, hDT, N5⟩ := News.told N5
  clear S5 hDT
  simp only [List.cons_append, List.nil_append] at N5
  (try k_sweep)
  (try dsimp only)
  (try k_fold)
  repeat' ((fail_if_success (with_reducible show wpAny _ _ (compareOp CmpOp.NotEq (Value.ref _) (Value.ref _)) _ _ _)); (first | (k_unfold; (try dsimp only)) | walk1 | (dsimp only; walk1)); (all_goals (try k_fold)))
  subst hkv
  k_dflt (refine' ne_tups ?qN ?qa ?qb ?qu ?qh ?_; (case qN => k_asm); (case qa => k_extra "X M mem"); (case qb => k_extra "X M mem"); (case qu => (first | ((simp only [units_in1, units_deeper]); omega) | ((simp only [units_in1, units_deeper]); (dsimp only [ktrTop]); omega) | ktr_units)); (case qh => exact AllEq.cons (eqAt_int _ _ _) (P.eq _ _ _ _ hPD hPR _ _ _ _ _ (by k_asm) (by k_extra "X M sub") (by exact sub_more (by k_extra "X M sub") hDD) (by exact sub_more (by k_extra "X M sub") hTD) (by (first | ((simp only [units_in1, units_deeper]); omega) | ((simp only [units_in1, units_deeper]); (dsimp only [ktrTop]); omega) | ktr_units)))))
  (try dsimp only)
  (try k_fold)
  repeat' ((fail_if_success (with_reducible show wpAny _ _ (PySem.call (Value.ref 301) _) _ _ _)); (first | (k_unfold; (try dsimp only)) | walk1 | (dsimp only; walk1)); (all_goals (try k_fold)))
  k_dflt (refine' CtrS.useM0 (P.others _ _ vals k8 oD (apart_or hap hlx S8) (both_off hT hlT) hrow ho) ?B ?F ?X ?N ?P1 ?P2 ?S ?T ?XB ?TB ?hd ?hu ?_; (case B => k_asm); (case F => k_asm); (case X => k_asm); (case N => k_asm); (case S => exact sep_or SF S8 (by k_extra "X M sep")); (case P1 => k_extra "X M sub"); (case P2 => k_extra "X M sub"); (case T => k_asm); (case XB => k_asm); (case TB => k_asm); (case hd => decide); (case hu => decide))
  intro h4 tk4 F4 v4 n4 P4
  refine P4.casesOn ?_
  clear P4
  intro o4 ho4 N4 S4
  clear S4 S8 SF SX SL
  simp only [List.cons_append, List.nil_append] at N4
  (try k_sweep)
  (try dsimp only)
  (try k_fold)
  repeat' ((fail_if_success (with_reducible show wpAny _ _ (PySem.call (Value.ref 301) _) _ _ _)); (first | (k_unfold; (try dsimp only)) | walk1 | (dsimp only; walk1)); (all_goals (try k_fold)))
  (try k_unfold)
  (try dsimp only)
  refine' TurnOk.introM ?uF ?uN ?uS ?une ?um ?u0
  (case uF => k_asm)
  (case uN => k_asm)
  (case uS => ((try simp only [List.cons_append, List.nil_append]); k_extra "X M sub"))
  (case une => exact hne)
  (case um => (intro y e1 e2 e3; simp +zetaDelta only [over, e1, e2, e3, if_false]))
  all_goals (with_reducible assumption)
end
theorem kw_50 : True := by
  k_with "X binaryOp Add ref ref" => (((fail_if_success (fail_if_success (with_reducible show wpAny _ _ (binaryOp Operator.Add (Value.ref _) (Value.ref _)) _ _ _))); k_here; k_dflt (refine' add_octs ?oF_q345 ?oN_q345 ?oa_q345 ?ob_q345 ?ox_q345 ?oy_q345 ?oz_q345 ?_; (case oF_q345 => k_asm); (case oN_q345 => k_asm); (case oa_q345 => k_extra "X M del"); (case ob_q345 => k_extra "X M del"); (case ox_q345 => k_extra "X M octs"); (case oy_q345 => k_extra "X M octs"); (case oz_q345 => k_extra "X M osz")); intro D' zs' h' F' N' l1' o9'; (try k_lt l1'); (try k_sweep); (try dsimp only); (try k_fold)))
  k_with "X M letApp" => (((repeat ((with_reducible rename News _ _ _ _ => nw9); with_reducible refine letApp nw9 ?_; clear nw9; intro e9 nw9)); (try ((with_reducible rename News _ _ _ _ => nw9); with_reducible refine letNil nw9 ?_; clear nw9; intro n9 nw9))))
  k_with "X M letCons" => (((with_reducible rename News _ _ _ _ => nw9); with_reducible refine letCons nw9 ?_; clear nw9; intro e9 n9 nw9))
  k_with "X M letCons2" => (((with_reducible rename News _ _ _ _ => nw9); with_reducible refine letCons2 nw9 ?_; clear nw9; intro d9 e9 n9 nw9))
  trivial
end Mine
theorem PySem.Challenge.cw_pb0549_01_holds : PySem.Challenge.rw_pb0549_01.Holds := by
  exact Mine.law_try
